import PyProof.Rows.All
import Wide.All
import OpenK.AllK
import Wide.FinOn
import Lean
import PySem.Challenge.RW_nn0067_01
open PySem PySem.W PySem.Calls PyProof.Rows
set_option Elab.async false
set_option maxRecDepth 100000
set_option linter.all false
set_option compiler.extract_closed false
set_option backward.match.sparseCases false
namespace Mine.Tactic
open _root_.Nat renaming le_trans->M1,lt_of_le_of_lt->M9,le_refl->Nc,le_add_right->Nh,le_of_ble_eq_true->Ni,le_of_succ_le->Nl,lt_of_lt_of_le->No,le_add_left->Nr,succ_le_succ->Ny,le_of_eq->ND,add_le_add_right->NF,add_le_add_left->NG,le_of_succ_le_succ->NI,zero_le->NJ,le_of_lt->NQ,lt_succ_self->NR,ne_of_lt->NY,zero_add->N1,add_assoc->N7,add_le_add->N8,succ_pos->Ob,le_succ->Oc,add_comm->Of,mul_le_mul_left->Oj,lt_succ_of_le->Ot,le_succ_of_le->Ou,min_eq_left->OF,toDigits->OQ,sub_lt_left_of_lt_add->OT,succ_add->OX,lt_trans->O7,le_of_lt_succ->Pf,lt_succ_of_lt->Py,digitChar->P1,add_right_comm->P5,lt_add_of_pos_right->Qa,succ_lt_succ->Qr,le_of_not_le->Qs,pow_le_pow_right->Qv,not_succ_le_zero->Qw,two_pow_pos->QF,min_le_left->QG,le_antisymm->QH,add_lt_add_left->QO,sub_le->Q3,mul_add->Ra,lt_irrefl->Rh,min_le_right->Rm,min_eq_right->Rn,lt_of_not_le->Ro,ne_of_gt->Rv,lt_of_succ_lt_succ->Rw,not_lt_zero->RC,add_sub_cancel'->R1,mod_lt->R_,sub_self->Sm,mul_comm->Sn,succ_ne_zero->Sz,casesOn->SE,div_add_mod->SW,and_le_left->SX,mul_lt_mul_of_pos_right->S1,toDigits_of_lt_base->Ti,add_sub_cancel_left->Tj,pow_succ->TC,le_mul_of_pos_left->TD,lt_of_sub_eq_succ->TN,le_of_sub_eq_zero->TO,add_sub_add_right->TP,pow_lt_pow_right->TU,one_pos->TV,not_succ_le_self->TW,sub_le_sub_left->T7,sub_lt->Uh,eq_or_lt_of_le->Ui,ble->Uo,toList_repr->UJ,sub_add_eq->UV,mul_le_mul->UW,add_lt_add->UX,succ_sub->Vq,sub_zero->Vr,pow_add->VG,one_mul->VH,repr->Wn,pred->Wo
open _root_.PySem renaming wpAny_bind->M2,Value->M4,Shared->M7,wpAny_pure->Nf,wpAny_mono->Nj,Params->Nk,wpAny->Nm,Addr->Nw,Scope->NL,Around->NN,Arguments->NS,DictEntry->N0,model->N6,NameKind->Od,Heap->Og,nsFind->Ov,wpAny_holding->OA,SetTable->OC,wpAny_loadPart_at->OE,Stmt->OJ,World->OU,clipAt->OZ,wpAny_standAt->O0,codeAny_builtin->O6,OsState->O9,compareOp->Pa,builtinLookup_eq_fast->Pe,wpAny_newObj_type->Pi,rawInt->Pn,Program->Pr,wpAny_execs_cons->Ps,wpAny_Call_NameR->Pt,strKind_is->Pw,wpAny_execs_nil->PB,wpAny_setState_of->PJ,foldedSetIterable->PL,wpAny_field->PQ,sizeLine->PT,excClassObj->PU,codeAny->PY,call->PZ,wpAny_isSubtype_exc->P4,FuncData->Qb,typeLookup_type->Qc,swapsWith->Qi,wpAny_truthy_bool->Qm,wpAny_setField->Qn,starEach->Qo,isSubtype_type->Qp,getMethod_builtin->Qq,plainObj_wpAny_Assign_Attribute->Qu,wpAny_call_entry->QC,scanBound->QD,plainId_quiet->QN,Builtin->QR,wpAny_of_eq->QT,eval->QU,letOwnedTupleGo->Q2,callEnv->Q7,getMethod->Q9,typeLookup->Rg,wpAny_Assign_Name->Rp,interactive->Rq,behindInMarks->Ru,wpAny_askSetting->RF,treeTable->RG,setField->RH,checkBuiltinCall->RJ,cellsFrom->RK,wpAny_typeOf->RW,call_meets->RX,importedModules->RZ,pyIter->R7,codeAny_call_builtin->R8,Result->R9,setNext->Sb,noteFrame->Sd,methodCallPos->Sq,attributeBase->Sr,wpAny_call->Sx,pyNext->Sy,wpAny_assign_Name->SH,wpAny_Return_some->SJ,relayAll->SL,notedBy->SM,codeAny_mono->SO,binaryOp->SQ,GenState->SZ,wpAny_isInstance->S4,setFlight->S5,wpAny_specialOf->Tf,codeAny_of_tree->Tg,holding->Th,wpAny_seqItems->Tp,wpAny_runValue->Tq,wpAny_rule->Ts,recursionLimit->Tt,methodCallForm->Tu,letTemporaryGo->Tv,evalEach->Tw,cLine->Tx,assignEach->Tz,Operator->TB,wpAny_excMatches_sub_self->TL,wpAny_callSpecial?_slot->T4,seqItems?->T5,pickOrder->T6,truthy->Uc,boolOp->Ud,backTo->Ue,argsOk->Uf,BindsTo->Un,wpAny_loadName_local->Uu,wpAny_letTemporaryGo->Uv,subscripted->Uw,raiseNew->Ux,entryFor->Uz,bindArgs->UB,CmpOp->UF,wpAny_setEntries_of->UG,wpAny_pyIter_tuple->UM,wpAny_Constant_str->UN,sysModules->UP,getattributeRaised->US,cameBackBy->UT,wpAny_setEpoch_of->U1,wpAny_pyIter_slot->U2,wpAny_pyIter_list->U3,standAt->U4,slot_list_setitem->U5,setItem->U6,setAttr->U7,getItem->U9,collect->U_,Keyword->Vb,Drawn->Vd,wpAny_madeBy_exc->Ve,wpAny_lookBehind->Vf,wpAny_Try_except->Vg,pastItsLine_dict->Vi,opaqueClassAbove->Vj,isSubtype->Vk,entryFor_of_tree->Vl,dropValue->Vm,codeAny_call_def->Vn,wpAny_updateSeq->Vy,wpAny_loadPart->VP,storeSet->VQ,refuseLoop_ref->VS,newExc->VV,firstArgMember->VY,entryFor_alias->VZ,compPost->V0,cellOf->V1,assign->V2,Walks->V4,PyData->V6,Flow->V8,wpAny_UnaryOp->V_,swappedStores->Wa,comprehension->Wb,arm_eval_Call->Wc,Comprehension->Wf,setNextDrawn->Wg,setAddHashed->Wh,newList->Wj,leaving->Wk,instanceDict->Wl,getAttr->Wm,ItemsOf->Wp
open _root_.List renaming length_append->M3,length_map->M6,mem_cons_self->M_,mem_cons_of_mem->Nb,append_assoc->Nd,not_mem_nil->Nq,length_cons->Nt,getElem?_eq_getElem->Nu,append_nil->Nv,replicate->Nz,map_append->NA,map_cons->NO,cons_ne_nil->NP,find?_cons_of_neg->N2,countP_append->N4,length_nil->N5,length_drop->N9,filter_cons_of_pos->N_,find?_cons_of_pos->Oa,mem_append_right->Oh,mem_of_getElem?->Ok,mem_append_left->Ol,findIdx?_eq_some_iff_getElem->Oo,map_map->Oq,getElem?_map->Os,getD_eq_getElem?_getD->Oy,range->OG,lookup_cons->OH,getElem_mem->OI,take_of_length_le->ON,drop_drop->OO,map_congr_left->OR,drop_eq_getElem_cons->OS,length_take->OV,nil_append->O1,filterMap_cons->O5,any_cons->O8,length_replicate->O_,nodup_cons->Pd,filter_cons_of_neg->Pk,cons_append->Pl,sum_cons->Pv,drop_left->PE,pairwise_singleton->P6,countP_cons_of_pos->P7,countP_cons_of_neg->P8,reverse_cons->Qd,length_range->Qe,getElem?_set_self->Qg,of_mem_zip->Qz,find?_cons->QA,filter_nil->QB,length_reverse->QI,filter_sublist->QJ,nodup_nil->Q0,getElem?_append_right->Q1,range'->Q8,mem_cons->Rb,take_length->Rj,drop_length->Rk,all_eq_true->Rl,map_nil->Rr,foldl_cons->Rx,getElem?_eq_none->RD,range_eq_range'->RM,map_id->RN,length_take_le'->RO,length->RP,getLastD_concat->RR,getElem?_set_ne->RS,drop_zero->RT,dropLast_concat->RU,map_drop->R2,foldl->R5,take_sublist->Sg,drop_sublist->Sh,getElem_map->Su,append_inj'->Sv,take_append_of_le_length->SA,mem_append->SF,forIn_cons->SG,length_eraseIdx_of_lt->S2,mem_of_find?_eq_some->S6,findIdx?_eq_none_iff->S7,map_take->Tc,length_pos_of_mem->Tl,drop_of_length_le->Tm,take_append_drop->TE,mem_of_mem_erase->TF,length_filter_le->TG,findIdx?_toArray->TH,dropLast_eq_take->TI,length_dropLast->TQ,getLast?_concat->TS,toList_toArray->TX,replicate_succ->TY,append_toArray->TZ,findIdx?_cons->T8,find?->T9,filter_append->T_,contains_cons->Ua,take_add_one->Uj,size_toArray->Uk,countP_congr->Ul,toArray_inj->Up,isEmpty_iff->Uq,idxOf?_cons->Ur,append_cons->Us,any_toArray->Ut,mem_filter->UC,find?_some->UD,countP_map->UE,lookup->Vs,idxOf?->Vt,map->Wd
open _root_ renaming if_neg->M5,if_pos->M8,congrFun->Nn,congrArg->Np,beq_self_eq_true->Nx,decide_eq_true->NH,decide_eq_false->NK,of_decide_eq_true->NW,decide_eq_true_eq->Ox,beq_iff_eq->Qh,Decidable->Re,if_false->RI,beq_false_of_ne->R0,eq_false_of_ne_true->UI,or_false->VT,or_congr->VU
open _root_.Option.some renaming inj->Na
open _root_.PySem.Heap renaming get?_push_of_some->Ng,get?_push_size->NC,get?_update_self->NU,get?_update_other->NX,lt_size->Oi,size_push->PG,SameBut->QQ,get?_none_of_le->RV,get?_update_ne->T3
open _root_.PySem.Str renaming ofString->NB,ofString_eq_toList->TA,length->V5
open _root_.Int renaming natCast_nonneg->NE,toNat_of_nonneg->Op,neg_lt_of_neg_lt->OK,le_trans->OY,eq_ofNat_of_zero_le->Po,natAbs_add_le->PA,sub_zero->PO,le_of_lt->PP,neg_nonneg_of_nonpos->P2,add_sub_cancel->P9,natAbs_of_nonneg->Qx,zero_add->QZ,neg_lt_neg->Q4,natAbs_neg->Q5,add_zero->Ry,lt_of_le_of_lt->Sa,max_eq_right->SC,ofNat_natAbs_of_nonpos->S8,natAbs_mul->S9,fmod_eq_emod_of_nonneg->S_,fdiv_eq_ediv_of_nonneg->Ta,fdiv->Tb,natAbs_tdiv_le_natAbs->Td,natAbs_fdiv_le_natAbs->Te,neg_add_cancel_left->Tn,ne_of_gt->TJ,lt_trans->TK,sub_sub->T0,negSucc->T2,sub_add_cancel->Um,min_eq_left->UK,le_antisymm->UL,natAbs_pow->UY,fmod->UZ,le_natAbs->Vc,mul_zero->Vw,two_mul->VI,neg_neg->VJ,neg_add->VK,ofNat->We
open _root_.Classical renaming byContradiction->NM
open _root_.Ne renaming symm->NT
open _root_.Bool renaming and_eq_true->NV,false_ne_true->NZ,noConfusion->Pm,not_eq_true->PN,or_false->Rf,not_eq_true'->Sk,and_false->S3,or_true->To,and_true->U0
open _root_.LawfulBEq renaming eq_of_beq->N3
open _root_.PyProof.Rows renaming StrsAre->Oe,subscriptTail->Rt,markedEach_of_false->UH,seqObj->UQ,bitOr_and->Vp,notIn_str->Vz,len_tuple->VA,len_list->VB,in_str->VC,getItem_tuple->VD,getItem_str->VE,add_str->VF,risingS->Wi
open _root_.PySem.Value renaming none->Om,ref->Oz,isStrOf_shape->RY,str->Sl,type->SR
open _root_.PySem.Obj renaming data_mapFields->On,mapFields->OM,mapSeq->O4,isFreed_of_fields->Px,cls_mapFields->Q_,putName->SD,putSet->V7
open _root_.PySem.NameKind renaming cell->Ow,free->PM,globalImplicit->SY
open _root_.PySem.Builtin renaming bitAnd->OB,bitXor->QK,bitNot->QM,bitOr->S0
open _root_.Pure renaming pure->OD
open _root_.ForInStep renaming yield->OL
open _root_.Array renaming length_toList->OP,getElem?_toList->RA,toList_push->Ub
open _root_.PySem.Around renaming under_plainId->OW,frames_deeper->RE
open _root_.List.cons renaming inj->O2
open _root_.Char renaming toNat->O3
open _root_.PySem.Builtin.Int renaming intBits->Pb
open _root_.PySem.W.Looks renaming of_pure->Pg
open _root_.PySem.PyData renaming keyHash->Ph,depthAll->Ss,eqv->TM
open _root_.Nat.succ renaming inj->Pj
open _root_.Int.ofNat renaming inj->Pp
open _root_.PySem.Calls renaming spliced_cons->Pq,evalArgs_plain->PC,Name_function_global->QY,spliced_nil->Q6,loadGlobal_builtin->UR,loadGlobal_global->U8
open _root_.PySem.Env renaming kindOf->Pu
open _root_.Option renaming bind_some->PD,isNone_iff_eq_none->PH,map_eq_some_iff->P_,map->Ri,getD_some->Sf,map_some->Ug
open _root_.PySem.W renaming emptyDict->PW,boot_heap->Qj,findIn->QE,callWith_of->QW,behindTheImports->RL,takerIn->SK,looks_findIn->SN,looks_clsIn->Uy,clsIn->UA,typeIn->UO,boot_drawn->UU,Looks->Va,plainOver->Vh,boot_toks->Vo,keepIn->VW,handedIn->VX,any_some->V3
open _root_.PySem.SetTable renaming below->P3,grown->Qy
open _root_.PySem.Builtin.Str renaming strSliceIndices->Qk,occurrences->V9
open _root_.PySem.Data renaming noConfusion->Ql
open _root_.List.Pairwise renaming map->Qt,of_map->Vu,nil->Vv
open _root_.List.Sublist renaming map->QP
open _root_.PyProof.Rows.F renaming plain_set_update_loop->Rz,entry_set_update_loop->TT
open _root_.PySem.Builtin.List renaming listLengthHint->R3,listExtendWith->R4,listSameRef->Sj,listTouch->VL,listSubscript?->VM
open _root_.PySem.Code renaming quiet_builtin->R6,builtin->Si,weight->Vx
open _root_.Prod.mk renaming inj->Se,injEq->SU
open _root_.PySem.Builtin.Dict renaming updateFrom->So,pairItems->Sw,selfAndRest->VN,addKeywords->VO
noncomputable abbrev N:M4:= .none
noncomputable abbrev B(b:Bool):M4:= .bool b
noncomputable abbrev I(i:Int)(t:Nat):M4:= .int i t
noncomputable abbrev J(i:Nat):M4:= .int i 0
noncomputable abbrev S(s:String)(t:Nat):M4:= .str (NB s) t
noncomputable abbrev G(t:Nat):M4:=S "/claim/cut.py" t
noncomputable abbrev T(s:String):M4:= .type s
noncomputable abbrev U(s:String):M4:= .builtin s
noncomputable abbrev R(a:Nat):M4:= .ref a
noncomputable abbrev nd:=BT.node
noncomputable abbrev nl:=BT.nil
noncomputable abbrev pw:Pr:=PySem.Challenge.pw_nn0067_01
noncomputable def i7:Option OJ->NS×List OJ×NL
 |some (.FunctionDef _ a b _ _ _ sc _ _ _)=>(a,b,sc)
 |_=>(⟨[],[],none,[],[],none,[]⟩,[],default)
noncomputable def aB(i:Nat):NS×List OJ×NL:=i7 pw.main.body[i]?
noncomputable def ay(i j:Nat):NS×List OJ×NL:=match pw.main.body[i]? with
 |some (.ClassDef _ _ _ b _ _ _ _ _ _ _)=>i7 b[j]?
 |_=>i7 none
noncomputable abbrev xh(x:NS×List OJ×NL)(name qual:Str)(gl:Nw)(cl:List (Str×Nw))(dV kV doc pm:M4)(an:Option Nw)(cd ct:M4)(b:Nw):Qb:=
 {name,qualname:=qual,params:=x.1,body:= .stmts x.2.1,scope:=x.2.2,globals:=gl,closure:=cl,defaults:=dV,kwdefaults:=kV,doc,pyModule:=pm,annotations:=an,code:=cd,closureTuple:=ct,builtins:=b}
noncomputable abbrev ob(c:M4)(d:Data):Obj:=⟨c,none,d,#[]⟩
noncomputable abbrev tu(l:List M4):Obj:=ob (T "tuple") (.seq l.toArray 0)
noncomputable abbrev zt:Obj:=tu []
noncomputable abbrev fd(c:M4)(l:List M4):Obj:=ob c (.fields l.toArray)
noncomputable abbrev ze:Obj:=fd N []
noncomputable abbrev co(n q:String)(t l k r x:Nat):Obj:=fd (T "code") [S n t,S q (t+1),G (t+2),J l,J k,J 0,J 0,J 3,R r,B true,J 181,R (r+1),N,R (r+2),R (r+3),R (r+4),J x,J l,G (x+1)]
noncomputable abbrev cm(n q:String)(t l r y x:Nat):Obj:=fd (T "code") [S n t,S q (t+1),G (t+2),J l,J 0,J 0,J 0,J 0,R r,B false,J y,R (r+1),N,N,N,N,J x,J l,G (x+1)]
noncomputable abbrev fp(x:NS×List OJ×NL)(n q:String):Obj:=ob N (.func (xh x (NB n) (NB q) 0 [] N N N N none N N 0))
noncomputable abbrev fq(x:NS×List OJ×NL)(n q:String)(d m:M4)(c:Nat):Obj:=ob (T "function") (.func (xh x (NB n) (NB q) 3 [] d N N m none (R c) N 0))
noncomputable def GZ(P:Nk):List (String×Nat×M4)->List N0
 |[]=>[]
 |(s,t,v)::r=>⟨Ph P (NB s),.str (NB s) t,v⟩::GZ P r
noncomputable abbrev di(P:Nk)(c:M4)(l:List (String×Nat×M4))(n:Nat):Obj:=ob c (.dict (GZ P l).toArray n)
noncomputable abbrev fr(a b c:Nat)(m:M4):Obj:=⟨T "frame",none,.plain,#[some (R a),some (R b),some (R c),none,some m,none,some (R 0)]⟩
noncomputable abbrev s1(v:M4):Option M4:=some v
noncomputable abbrev na:Option M4:=none
noncomputable abbrev ty(n:String)(b m:List M4)(ns:Nat)(su:List M4)(sl:List (Option M4)):Obj:=⟨T "type",none,.cls {name:=NB n,bases:=b,mro:=m,ns:=ns,qualname:=NB n,hasDict:=true,slotNames:=[],subclasses:=su,abstract:=false,collection:=none,hasDel:=false},sl.toArray⟩
noncomputable abbrev m0:=S "__main__" 164
noncomputable abbrev m1:=S "law_nn0067_01" 1228
noncomputable abbrev m2:=S "octetmint.basics" 194
noncomputable abbrev m3:=S "octetmint.tokens" 304
noncomputable abbrev m4:=S "octetmint.expressions" 696
noncomputable def G0:Nat->List String->List (String×Nat×M4)
 |_,[]=>[]
 |i,s::r=>(s,i,T s)::G0 (i+1) r
noncomputable def G1:Nat->List String->List (String×Nat×M4)
 |_,[]=>[]
 |i,s::r=>(s,i,U s)::G1 (i+1) r
noncomputable abbrev bp:Obj:=fd (T "builtin_function_or_method") [U "type.__prepare__",T "type"]
noncomputable def dB(P:Nk):Obj:=di P (T "dict") ([("__name__",1,S "builtins" 160),("__doc__",2,U "builtins.__doc__:str#opaque"),("__package__",3,U "builtins.__package__:str#opaque"),("__loader__",4,U "builtins.__loader__:shared#opaque"),("__spec__",5,U "builtins.__spec__#opaque")]++(G1 6 ["__build_class__","__import__","abs","all","any","ascii","bin","breakpoint","callable","chr","compile","delattr","dir","divmod","eval","exec","format","getattr","globals","hasattr","hash","hex","id","input","isinstance","issubclass","iter","aiter","len","locals","max","min","next","anext","oct","ord","pow","print","repr","round","setattr","sorted","sum","vars"]++([("None",50,N),("Ellipsis",51,Value.ellipsis),("NotImplemented",52,Value.notImplemented),("False",53,B false),("True",54,B true)]++(G0 55 ["bool","memoryview","bytearray","bytes","classmethod","complex","dict","enumerate","filter","float","frozenset","property","int","list","map","object","range","reversed","set","slice","staticmethod","str","super","tuple","type","zip"]++([("__debug__",81,B true)]++(G0 82 ["BaseException","BaseExceptionGroup","Exception","GeneratorExit","KeyboardInterrupt","SystemExit","ArithmeticError","AssertionError","AttributeError","BufferError","EOFError","ImportError","LookupError","MemoryError","NameError","OSError","ReferenceError","RuntimeError","StopAsyncIteration","StopIteration","SyntaxError","SystemError","TypeError","ValueError","Warning","FloatingPointError","OverflowError","ZeroDivisionError","BytesWarning","DeprecationWarning","EncodingWarning","FutureWarning","ImportWarning","PendingDeprecationWarning","ResourceWarning","RuntimeWarning","SyntaxWarning","UnicodeWarning","UserWarning","BlockingIOError","ChildProcessError","ConnectionError","FileExistsError","FileNotFoundError","InterruptedError","IsADirectoryError","NotADirectoryError","PermissionError","ProcessLookupError","TimeoutError","IndentationError","_IncompleteInputError","IndexError","KeyError","ModuleNotFoundError","NotImplementedError","PythonFinalizationError","RecursionError","UnboundLocalError","UnicodeError","BrokenPipeError","ConnectionAbortedError","ConnectionRefusedError","ConnectionResetError","TabError","UnicodeDecodeError","UnicodeEncodeError","UnicodeTranslateError","ExceptionGroup"]++([("EnvironmentError",151,T "OSError"),("IOError",152,T "OSError")]++(G1 153 ["open"]++([("quit",154,U "builtins.quit#opaque"),("exit",155,U "builtins.exit#opaque"),("copyright",156,U "builtins.copyright#opaque"),("credits",157,U "builtins.credits#opaque"),("license",158,U "builtins.license#opaque"),("help",159,U "builtins.help#opaque")]))))))))) 159
noncomputable def L0(P:Nk):List Obj:=[dB P,di P (T "dict") [("builtins",162,R 4),("__main__",163,R 5)] 2,di P N [] 0,di P (T "dict") [("__name__",165,m0),("__doc__",166,N),("__package__",167,N),("__loader__",168,U "__main__.__loader__#opaque"),("__spec__",169,N),("__annotations__",170,R 6),("__builtins__",171,R 4),("__file__",173,G 172),("__cached__",174,N)] 9,⟨(T "module"),(some 0),.plain,[].toArray⟩,⟨(T "module"),(some 3),.plain,[].toArray⟩,di P (T "dict") [] 0,zt,ze,cm "<module>" "<module>" 176 1 7 175 179,fr 9 3 3 m0,zt,ze,cm "<module>" "<module>" 182 1 11 181 185,fr 13 3 3 m0]
noncomputable def K0(P:Nk):List Obj:=[dB P,di P (T "dict") [("builtins",162,R 4),("__main__",163,R 5)] 2,di P N [("type.__subclasses__.Exception.0",268,J 74),("type.__subclasses__.Exception.n",269,J 1)] 2,di P (T "dict") [("__name__",165,m1),("__doc__",166,N),("__package__",167,N),("__loader__",168,U "__main__.__loader__#opaque"),("__spec__",169,N),("__annotations__",170,R 6),("__builtins__",171,R 4),("__file__",173,G 172),("__cached__",174,N),("_wall",193,R 21),("Place",233,R 45),("MintError",271,R 74),("ReadError",287,R 87),("SymbolError",303,R 99),("SIGNS",307,(S "+-*/%&|^~!()[],:$=<>" 306)),("ESCAPE_SIGNS",309,S "btnfr\"'\\" 308),("ESCAPE_CODES",311,S "\x08\t\n\x0c\x0d\"'\\" 310),("TOP",313,I 18446744073709551615 312),("digit_of",321,R 108),("is_letter",329,R 115),("begins_name",336,R 122),("is_name_sign",344,R 129),("read_escape",356,R 136),("read_char",366,R 143),("number_worth",378,R 150),("local_worth",387,R 157),("Token",444,R 195),("LineReader",571,R 286),("line_tokens",581,R 297),("Cursor",695,R 391),("MOST_DEPTH",699,I 10 698),("MOST_SHIFT",701,I 63 700),("Expr",737,R 419),("Number",770,R 447),("Symbol",803,R 473),("Here",827,R 492),("Unary",862,R 518),("Binary",903,R 544),("left_spine",912,R 553),("level_of",919,R 560),("binary_level",926,R 567),("read_part",936,R 574),("read_level",948,R 581),("read_expr",955,R 588),("expr_of",964,R 595),("Affine",1043,R 655),("affine_of",1049,R 664),("Scope",1105,R 703),("quotient",1113,R 714),("shifted",1122,R 721),("reckoned",1131,R 728),("combined",1140,R 735),("turned",1148,R 742),("evaluate",1162,R 750),("number_of",1171,R 757),("bracketed",1179,R 764),("show_leaf",1186,R 771),("show_expr",1199,R 778),("show_affine",1207,R 785),("names_in",1217,R 792),("has_here",1227,R 799),("_law_NAMES",1236,R 800),("_law_BINARY",1247,R 801),("_law_LEVELS",1253,R 808),("_law_UNARY",1257,R 809),("_law_draw",1267,R 816),("_law_leaf",1275,R 823),("_law_part",1283,R 830),("_law_row",1294,R 837),("_law_digits",1304,R 844),("_law_word",1315,R 851),("_law_text",1327,R 858),("_law_is_deep",1337,R 865),("_law_tree",1353,R 872),("_law_sum",1359,R 877),("_law_two",1370,R 884),("_law_worth",1383,R 891),("_law_read",1390,R 898),("_law_single",1398,R 905),("_law_leaves",1405,R 912),("_law_is_spare",1417,R 919),("law",1423,R 924)] 82,⟨(T "module"),(some 0),.plain,[].toArray⟩,⟨(T "module"),(some 3),.plain,[].toArray⟩,di P (T "dict") [] 0,zt,ze,cm "<module>" "<module>" 176 1 7 175 179,fr 9 3 3 m0,zt,fd N [J 1,J 0,R 20,J 5,J 0,R 27,J 13,J 0,R 55,J 24,J 0,R 83,J 26,J 0,R 95,J 33,J 0,R 107,J 42,J 0,R 114,J 45,J 0,R 121,J 47,J 0,R 128,J 50,J 0,R 135,J 73,J 0,R 142,J 85,J 0,R 149,J 106,J 0,R 156,J 115,J 0,R 163,J 131,J 0,R 205,J 227,J 0,R 296,J 234,J 0,R 303,J 289,J 0,R 401,J 296,J 0,R 429,J 304,J 0,R 455,J 312,J 0,R 481,J 316,J 0,R 500,J 325,J 0,R 526,J 339,J 0,R 552,J 347,J 0,R 559,J 355,J 0,R 566,J 359,J 0,R 573,J 380,J 0,R 580,J 388,J 0,R 587,J 390,J 0,R 594,J 395,J 0,R 601,J 419,J 0,R 663,J 430,J 0,R 670,J 453,J 0,R 713,J 459,J 0,R 720,J 465,J 0,R 727,J 479,J 0,R 734,J 487,J 0,R 741,J 495,J 0,R 749,J 510,J 0,R 756,J 515,J 0,R 763,J 519,J 0,R 770,J 527,J 0,R 777,J 538,J 0,R 784,J 550,J 0,R 791,J 563,J 0,R 798,J 574,J 0,R 807,J 577,J 0,R 815,J 582,J 0,R 822,J 591,J 0,R 829,J 595,J 0,R 836,J 607,J 0,R 843,J 614,J 0,R 850,J 635,J 0,R 857,J 645,J 0,R 864,J 664,J 0,R 871,J 706,J 0,R 876,J 714,J 0,R 883,J 733,J 0,R 890,J 761,J 0,R 897,J 766,J 0,R 904,J 771,J 0,R 911,J 777,J 0,R 918,J 785,J 0,R 923],cm "<module>" "<module>" 182 1 11 181 185,fr 13 3 3 m0,zt,ze,tu [S "k" 190],zt,fp (aB 0) "_wall" "_wall",co "_wall" "_wall" 187 1 1 15 191,fq (aB 0) "_wall" "_wall" N m0 20,zt,bp,di P (T "dict") [("__module__",203,m2),("__qualname__",205,S "Place" 204),("__firstlineno__",207,I 5 206),("__init__",216,R 35),("told",223,R 42),("__static_attributes__",226,R 43)] 6,zt,fd N [J 7,J 4,R 34,J 11,J 4,R 41],cm "Place" "Place" 198 5 25 181 201,fr 27 3 24 m2,zt,ze,tu [S "self" 211,S "line" 212,S "column" 213],zt,fp (ay 2 0) "__init__" "Place.__init__",co "__init__" "Place.__init__" 208 7 3 29 214,fq (ay 2 0) "__init__" "Place.__init__" N m2 34,zt,ze,tu [S "self" 220],zt,fp (ay 2 1) "told" "Place.told",co "told" "Place.told" 217 11 1 36 221,fq (ay 2 1) "told" "Place.told" N m2 41,tu [S "column" 224,S "line" 225],di P (T "dict") [("__module__",203,m2),("__firstlineno__",207,I 5 206),("__init__",216,R 35),("told",223,R 42),("__static_attributes__",226,R 43),("__dict__",228,R 46),("__weakref__",230,R 47),("__doc__",231,N)] 4,ty "Place" [T "object"] [R 45,T "object"] 44 [] [na,na,s1 (S "Place" 196),s1 (S "Place" 204),s1 (U "object.__new__"),s1 (B true)],fd (T "getset_descriptor") [S "__dict__" 227,R 45,U "function.__dict__",U "function.__dict__#set"],fd (T "getset_descriptor") [S "__weakref__" 229,R 45,U "ExceptionGroup.__weakref__",N],fd (T "super") [R 45,R 45,R 45],fd (T "builtin_function_or_method") [U "object.__init_subclass__",R 45],tu [T "Exception"],bp,di P (T "dict") [("__module__",241,m2),("__qualname__",243,S "MintError" 242),("__firstlineno__",245,I 13 244),("__init__",254,R 64),("told",261,R 71),("__static_attributes__",264,R 72)] 6,zt,fd N [J 15,J 4,R 63,J 20,J 4,R 70],cm "MintError" "MintError" 236 13 53 181 239,fr 55 3 52 m2,tu [N],zt,ze]
noncomputable def K1(P:Nk):List Obj:=[tu [S "self" 249,S "what" 250,S "at" 251],zt,fp (ay 3 0) "__init__" "MintError.__init__",co "__init__" "MintError.__init__" 246 15 3 58 252,fq (ay 3 0) "__init__" "MintError.__init__" (R 57) m2 63,zt,ze,tu [S "self" 258],zt,fp (ay 3 1) "told" "MintError.told",co "told" "MintError.told" 255 20 1 65 259,fq (ay 3 1) "told" "MintError.told" N m2 70,tu [S "at" 262,S "what" 263],di P (T "dict") [("__module__",241,m2),("__firstlineno__",245,I 13 244),("__init__",254,R 64),("told",261,R 71),("__static_attributes__",264,R 72),("__weakref__",266,R 75),("__doc__",267,N)] 3,ty "MintError" [T "Exception"] [R 74,T "Exception",T "BaseException",T "object"] 73 [R 87,R 99] [s1 (R 50),na,s1 (S "MintError" 234),s1 (S "MintError" 242),s1 (U "Exception.__new__"),s1 (B true)],fd (T "getset_descriptor") [S "__weakref__" 265,R 74,U "ExceptionGroup.__weakref__",N],fd (T "super") [R 74,R 74,R 74],fd (T "builtin_function_or_method") [U "object.__init_subclass__",R 74],tu [R 74],bp,di P (T "dict") [("__module__",279,m2),("__qualname__",281,S "ReadError" 280),("__firstlineno__",283,I 24 282),("__static_attributes__",284,R 85)] 4,zt,ze,cm "ReadError" "ReadError" 274 24 81 181 277,fr 83 3 80 m2,zt,di P (T "dict") [("__module__",279,m2),("__firstlineno__",283,I 24 282),("__static_attributes__",284,R 85),("__doc__",285,N)] 2,ty "ReadError" [R 74] [R 87,R 74,T "Exception",T "BaseException",T "object"] 86 [] [s1 (R 78),na,s1 (S "ReadError" 272),s1 (S "ReadError" 280),s1 (U "Exception.__new__"),s1 (B true)],fd (T "super") [R 87,R 87,R 87],fd (T "builtin_function_or_method") [U "object.__init_subclass__",R 87],tu [R 74],bp,di P (T "dict") [("__module__",295,m2),("__qualname__",297,S "SymbolError" 296),("__firstlineno__",299,I 26 298),("__static_attributes__",300,R 97)] 4,zt,ze,cm "SymbolError" "SymbolError" 290 26 93 181 293,fr 95 3 92 m2,zt,di P (T "dict") [("__module__",295,m2),("__firstlineno__",299,I 26 298),("__static_attributes__",300,R 97),("__doc__",301,N)] 2,ty "SymbolError" [R 74] [R 99,R 74,T "Exception",T "BaseException",T "object"] 98 [] [s1 (R 90),na,s1 (S "SymbolError" 288),s1 (S "SymbolError" 296),s1 (U "Exception.__new__"),s1 (B true)],fd (T "super") [R 99,R 99,R 99],fd (T "builtin_function_or_method") [U "object.__init_subclass__",R 99],zt,ze,tu [S "sign" 317,S "code" 318],zt,fp (aB 11) "digit_of" "digit_of",co "digit_of" "digit_of" 314 33 1 102 319,fq (aB 11) "digit_of" "digit_of" N m3 107,zt,ze,tu [S "sign" 325,S "code" 326],zt,fp (aB 12) "is_letter" "is_letter",co "is_letter" "is_letter" 322 42 1 109 327,fq (aB 12) "is_letter" "is_letter" N m3 114,zt,ze,tu [S "sign" 333],zt]
noncomputable def K2(P:Nk):List Obj:=[fp (aB 13) "begins_name" "begins_name",co "begins_name" "begins_name" 330 45 1 116 334,fq (aB 13) "begins_name" "begins_name" N m3 121,zt,ze,tu [S "sign" 340,S "code" 341],zt,fp (aB 14) "is_name_sign" "is_name_sign",co "is_name_sign" "is_name_sign" 337 47 1 123 342,fq (aB 14) "is_name_sign" "is_name_sign" N m3 128,zt,ze,tu [S "text" 348,S "at" 349,S "sign" 350,S "worth" 351,S "here" 352,S "number" 353],zt,fp (aB 15) "read_escape" "read_escape",co "read_escape" "read_escape" 345 50 2 130 354,fq (aB 15) "read_escape" "read_escape" N m3 135,zt,ze,tu [S "text" 360,S "at" 361,S "code" 362,S "end" 363],zt,fp (aB 16) "read_char" "read_char",co "read_char" "read_char" 357 73 2 137 364,fq (aB 16) "read_char" "read_char" N m3 142,zt,ze,tu [S "word" 370,S "base" 371,S "begin" 372,S "worth" 373,S "sign" 374,S "figure" 375],zt,fp (aB 17) "number_worth" "number_worth",co "number_worth" "number_worth" 367 85 1 144 376,fq (aB 17) "number_worth" "number_worth" N m3 149,zt,ze,tu [S "word" 382,S "worth" 383,S "sign" 384],zt,fp (aB 18) "local_worth" "local_worth",co "local_worth" "local_worth" 379 106 1 151 385,fq (aB 18) "local_worth" "local_worth" N m3 156,zt,bp,di P (T "dict") [("__module__",395,m3),("__qualname__",397,S "Token" 396),("__firstlineno__",399,I 115 398),("__init__",410,R 171),("is_sign",418,R 178),("is_backward",425,R 185),("told",432,R 192),("__static_attributes__",437,R 193)] 8,zt,fd N [J 117,J 4,R 170,J 123,J 4,R 177,J 126,J 4,R 184,J 129,J 4,R 191],cm "Token" "Token" 390 115 161 181 393,fr 163 3 160 m3,zt,ze,tu [S "self" 403,S "kind" 404,S "text" 405,S "worth" 406,S "at" 407],zt,fp (ay 19 0) "__init__" "Token.__init__",co "__init__" "Token.__init__" 400 117 5 165 408,fq (ay 19 0) "__init__" "Token.__init__" N m3 170,zt,ze,tu [S "self" 414,S "text" 415],zt,fp (ay 19 1) "is_sign" "Token.is_sign",co "is_sign" "Token.is_sign" 411 123 2 172 416,fq (ay 19 1) "is_sign" "Token.is_sign" N m3 177,zt]
noncomputable def K3(P:Nk):List Obj:=[ze,tu [S "self" 422],zt,fp (ay 19 2) "is_backward" "Token.is_backward",co "is_backward" "Token.is_backward" 419 126 1 179 423,fq (ay 19 2) "is_backward" "Token.is_backward" N m3 184,zt,ze,tu [S "self" 429],zt,fp (ay 19 3) "told" "Token.told",co "told" "Token.told" 426 129 1 186 430,fq (ay 19 3) "told" "Token.told" N m3 191,tu [S "at" 433,S "kind" 434,S "text" 435,S "worth" 436],di P (T "dict") [("__module__",395,m3),("__firstlineno__",399,I 115 398),("__init__",410,R 171),("is_sign",418,R 178),("is_backward",425,R 185),("told",432,R 192),("__static_attributes__",437,R 193),("__dict__",439,R 196),("__weakref__",441,R 197),("__doc__",442,N)] 4,ty "Token" [T "object"] [R 195,T "object"] 194 [] [na,na,s1 (S "Token" 388),s1 (S "Token" 396),s1 (U "object.__new__"),s1 (B true)],fd (T "getset_descriptor") [S "__dict__" 438,R 195,U "function.__dict__",U "function.__dict__#set"],fd (T "getset_descriptor") [S "__weakref__" 440,R 195,U "ExceptionGroup.__weakref__",N],fd (T "super") [R 195,R 195,R 195],fd (T "builtin_function_or_method") [U "object.__init_subclass__",R 195],zt,bp,di P (T "dict") [("__module__",452,m3),("__qualname__",454,S "LineReader" 453),("__firstlineno__",456,I 131 455),("__init__",465,R 213),("place",473,R 220),("is_done",480,R 227),("passed",489,R 234),("name_end",498,R 241),("number",508,R 248),("constant",518,R 255),("quote",530,R 262),("register",540,R 269),("mark",550,R 276),("token",560,R 283),("__static_attributes__",564,R 284)] 15,zt,fd N [J 133,J 4,R 212,J 138,J 4,R 219,J 141,J 4,R 226,J 146,J 4,R 233,J 151,J 4,R 240,J 157,J 4,R 247,J 170,J 4,R 254,J 177,J 4,R 261,J 196,J 4,R 268,J 204,J 4,R 275,J 212,J 4,R 282],cm "LineReader" "LineReader" 447 131 203 181 450,fr 205 3 202 m3,zt,ze,tu [S "self" 460,S "text" 461,S "line" 462],zt,fp (ay 20 0) "__init__" "LineReader.__init__",co "__init__" "LineReader.__init__" 457 133 3 207 463,fq (ay 20 0) "__init__" "LineReader.__init__" N m3 212,zt,ze,tu [S "self" 469,S "at" 470],zt,fp (ay 20 1) "place" "LineReader.place",co "place" "LineReader.place" 466 138 2 214 471,fq (ay 20 1) "place" "LineReader.place" N m3 219,zt,ze,tu [S "self" 477],zt,fp (ay 20 2) "is_done" "LineReader.is_done",co "is_done" "LineReader.is_done" 474 141 1 221 478,fq (ay 20 2) "is_done" "LineReader.is_done" N m3 226,zt,ze,tu [S "self" 484,S "end" 485,S "begin" 486],zt,fp (ay 20 3) "passed" "LineReader.passed",co "passed" "LineReader.passed" 481 146 2 228 487,fq (ay 20 3) "passed" "LineReader.passed" N m3 233,zt,ze,tu [S "self" 493,S "at" 494,S "here" 495],zt,fp (ay 20 4) "name_end" "LineReader.name_end"]
noncomputable def K4(P:Nk):List Obj:=[co "name_end" "LineReader.name_end" 490 151 2 235 496,fq (ay 20 4) "name_end" "LineReader.name_end" N m3 240,zt,ze,tu [S "self" 502,S "at" 503,S "word" 504,S "worth" 505],zt,fp (ay 20 5) "number" "LineReader.number",co "number" "LineReader.number" 499 157 1 242 506,fq (ay 20 5) "number" "LineReader.number" N m3 247,zt,ze,tu [S "self" 512,S "at" 513,S "code" 514,S "end" 515],zt,fp (ay 20 6) "constant" "LineReader.constant",co "constant" "LineReader.constant" 509 170 1 249 516,fq (ay 20 6) "constant" "LineReader.constant" N m3 254,zt,ze,tu [S "self" 522,S "at" 523,S "worth" 524,S "here" 525,S "code" 526,S "end" 527],zt,fp (ay 20 7) "quote" "LineReader.quote",co "quote" "LineReader.quote" 519 177 1 256 528,fq (ay 20 7) "quote" "LineReader.quote" N m3 261,zt,ze,tu [S "self" 534,S "at" 535,S "here" 536,S "word" 537],zt,fp (ay 20 8) "register" "LineReader.register",co "register" "LineReader.register" 531 196 1 263 538,fq (ay 20 8) "register" "LineReader.register" N m3 268,zt,ze,tu [S "self" 544,S "at" 545,S "pair" 546,S "word" 547],zt,fp (ay 20 9) "mark" "LineReader.mark",co "mark" "LineReader.mark" 541 204 1 270 548,fq (ay 20 9) "mark" "LineReader.mark" N m3 275,zt,ze,tu [S "self" 554,S "sign" 555,S "at" 556,S "word" 557],zt,fp (ay 20 10) "token" "LineReader.token",co "token" "LineReader.token" 551 212 1 277 558,fq (ay 20 10) "token" "LineReader.token" N m3 282,tu [S "at" 561,S "line" 562,S "text" 563],di P (T "dict") [("__module__",452,m3),("__firstlineno__",456,I 131 455),("__init__",465,R 213),("place",473,R 220),("is_done",480,R 227),("passed",489,R 234),("name_end",498,R 241),("number",508,R 248),("constant",518,R 255),("quote",530,R 262),("register",540,R 269),("mark",550,R 276),("token",560,R 283),("__static_attributes__",564,R 284),("__dict__",566,R 287),("__weakref__",568,R 288),("__doc__",569,N)] 4,ty "LineReader" [T "object"] [R 286,T "object"] 285 [] [na,na,s1 (S "LineReader" 445),s1 (S "LineReader" 453),s1 (U "object.__new__"),s1 (B true)],fd (T "getset_descriptor") [S "__dict__" 565,R 286,U "function.__dict__",U "function.__dict__#set"],fd (T "getset_descriptor") [S "__weakref__" 567,R 286,U "ExceptionGroup.__weakref__",N],fd (T "super") [R 286,R 286,R 286],fd (T "builtin_function_or_method") [U "object.__init_subclass__",R 286],zt,ze,tu [S "text" 575,S "line" 576,S "reader" 577,S "found" 578],zt,fp (aB 21) "line_tokens" "line_tokens",co "line_tokens" "line_tokens" 572 227 2 291 579,fq (aB 21) "line_tokens" "line_tokens" N m3 296,zt,bp]
noncomputable def K5(P:Nk):List Obj:=[di P (T "dict") [("__module__",589,m3),("__qualname__",591,S "Cursor" 590),("__firstlineno__",593,I 234 592),("__init__",601,R 311),("peek",608,R 318),("ahead",616,R 325),("take",624,R 332),("is_sign",632,R 339),("is_end",639,R 346),("skip",647,R 353),("skip_name",655,R 360),("need",663,R 367),("need_end",670,R 374),("name",678,R 381),("rest_place",685,R 388),("__static_attributes__",688,R 389)] 16,zt,fd N [J 236,J 4,R 310,J 240,J 4,R 317,J 243,J 4,R 324,J 248,J 4,R 331,J 254,J 4,R 338,J 257,J 4,R 345,J 260,J 4,R 352,J 266,J 4,R 359,J 269,J 4,R 366,J 273,J 4,R 373,J 277,J 4,R 380,J 284,J 4,R 387],cm "Cursor" "Cursor" 584 234 301 181 587,fr 303 3 300 m3,zt,ze,tu [S "self" 597,S "tokens" 598],zt,fp (ay 22 0) "__init__" "Cursor.__init__",co "__init__" "Cursor.__init__" 594 236 2 305 599,fq (ay 22 0) "__init__" "Cursor.__init__" N m3 310,zt,ze,tu [S "self" 605],zt,fp (ay 22 1) "peek" "Cursor.peek",co "peek" "Cursor.peek" 602 240 1 312 606,fq (ay 22 1) "peek" "Cursor.peek" N m3 317,zt,ze,tu [S "self" 612,S "count" 613],zt,fp (ay 22 2) "ahead" "Cursor.ahead",co "ahead" "Cursor.ahead" 609 243 2 319 614,fq (ay 22 2) "ahead" "Cursor.ahead" N m3 324,zt,ze,tu [S "self" 620,S "token" 621],zt,fp (ay 22 3) "take" "Cursor.take",co "take" "Cursor.take" 617 248 1 326 622,fq (ay 22 3) "take" "Cursor.take" N m3 331,zt,ze,tu [S "self" 628,S "text" 629],zt,fp (ay 22 4) "is_sign" "Cursor.is_sign",co "is_sign" "Cursor.is_sign" 625 254 2 333 630,fq (ay 22 4) "is_sign" "Cursor.is_sign" N m3 338,zt,ze,tu [S "self" 636],zt,fp (ay 22 5) "is_end" "Cursor.is_end",co "is_end" "Cursor.is_end" 633 257 1 340 637,fq (ay 22 5) "is_end" "Cursor.is_end" N m3 345,zt,ze,tu [S "self" 643,S "text" 644],zt,fp (ay 22 6) "skip" "Cursor.skip",co "skip" "Cursor.skip" 640 260 2 347 645,fq (ay 22 6) "skip" "Cursor.skip" N m3 352,zt,ze,tu [S "self" 651,S "text" 652],zt,fp (ay 22 7) "skip_name" "Cursor.skip_name",co "skip_name" "Cursor.skip_name" 648 266 2 354 653]
noncomputable def K6(P:Nk):List Obj:=[fq (ay 22 7) "skip_name" "Cursor.skip_name" N m3 359,zt,ze,tu [S "self" 659,S "text" 660],zt,fp (ay 22 8) "need" "Cursor.need",co "need" "Cursor.need" 656 269 2 361 661,fq (ay 22 8) "need" "Cursor.need" N m3 366,zt,ze,tu [S "self" 667],zt,fp (ay 22 9) "need_end" "Cursor.need_end",co "need_end" "Cursor.need_end" 664 273 1 368 668,fq (ay 22 9) "need_end" "Cursor.need_end" N m3 373,zt,ze,tu [S "self" 674,S "token" 675],zt,fp (ay 22 10) "name" "Cursor.name",co "name" "Cursor.name" 671 277 1 375 676,fq (ay 22 10) "name" "Cursor.name" N m3 380,zt,ze,tu [S "self" 682],zt,fp (ay 22 11) "rest_place" "Cursor.rest_place",co "rest_place" "Cursor.rest_place" 679 284 1 382 683,fq (ay 22 11) "rest_place" "Cursor.rest_place" N m3 387,tu [S "at" 686,S "tokens" 687],di P (T "dict") [("__module__",589,m3),("__firstlineno__",593,I 234 592),("__init__",601,R 311),("peek",608,R 318),("ahead",616,R 325),("take",624,R 332),("is_sign",632,R 339),("is_end",639,R 346),("skip",647,R 353),("skip_name",655,R 360),("need",663,R 367),("need_end",670,R 374),("name",678,R 381),("rest_place",685,R 388),("__static_attributes__",688,R 389),("__dict__",690,R 392),("__weakref__",692,R 393),("__doc__",693,N)] 4,ty "Cursor" [T "object"] [R 391,T "object"] 390 [] [na,na,s1 (S "Cursor" 582),s1 (S "Cursor" 590),s1 (U "object.__new__"),s1 (B true)],fd (T "getset_descriptor") [S "__dict__" 689,R 391,U "function.__dict__",U "function.__dict__#set"],fd (T "getset_descriptor") [S "__weakref__" 691,R 391,U "ExceptionGroup.__weakref__",N],fd (T "super") [R 391,R 391,R 391],fd (T "builtin_function_or_method") [U "object.__init_subclass__",R 391],zt,bp,di P (T "dict") [("__module__",709,m4),("__qualname__",711,S "Expr" 710),("__firstlineno__",713,I 289 712),("__init__",721,R 409),("told",728,R 416),("__static_attributes__",730,R 417)] 6,zt,fd N [J 291,J 4,R 408,J 294,J 4,R 415],cm "Expr" "Expr" 704 289 399 181 707,fr 401 3 398 m4,zt,ze,tu [S "self" 717,S "kind" 718],zt,fp (ay 26 0) "__init__" "Expr.__init__",co "__init__" "Expr.__init__" 714 291 2 403 719,fq (ay 26 0) "__init__" "Expr.__init__" N m4 408,zt,ze,tu [S "self" 725],zt,fp (ay 26 1) "told" "Expr.told",co "told" "Expr.told" 722 294 1 410 726,fq (ay 26 1) "told" "Expr.told" N m4 415,tu [S "kind" 729],di P (T "dict") [("__module__",709,m4),("__firstlineno__",713,I 289 712),("__init__",721,R 409),("told",728,R 416),("__static_attributes__",730,R 417),("__dict__",732,R 420),("__weakref__",734,R 421),("__doc__",735,N)] 4,ty "Expr" [T "object"] [R 419,T "object"] 418 [R 447,R 473,R 492,R 518,R 544] [na,na,s1 (S "Expr" 702),s1 (S "Expr" 710),s1 (U "object.__new__"),s1 (B true)]]
noncomputable def K7(P:Nk):List Obj:=[fd (T "getset_descriptor") [S "__dict__" 731,R 419,U "function.__dict__",U "function.__dict__#set"],fd (T "getset_descriptor") [S "__weakref__" 733,R 419,U "ExceptionGroup.__weakref__",N],fd (T "super") [R 419,R 419,R 419],fd (T "builtin_function_or_method") [U "object.__init_subclass__",R 419],tu [R 419],bp,di P (T "dict") [("__module__",745,m4),("__qualname__",747,S "Number" 746),("__firstlineno__",749,I 296 748),("__init__",757,R 437),("told",764,R 444),("__static_attributes__",767,R 445)] 6,zt,fd N [J 298,J 4,R 436,J 302,J 4,R 443],cm "Number" "Number" 740 296 427 181 743,fr 429 3 426 m4,zt,ze,tu [S "self" 753,S "worth" 754],zt,fp (ay 27 0) "__init__" "Number.__init__",co "__init__" "Number.__init__" 750 298 2 431 755,fq (ay 27 0) "__init__" "Number.__init__" N m4 436,zt,ze,tu [S "self" 761],zt,fp (ay 27 1) "told" "Number.told",co "told" "Number.told" 758 302 1 438 762,fq (ay 27 1) "told" "Number.told" N m4 443,tu [S "kind" 765,S "worth" 766],di P (T "dict") [("__module__",745,m4),("__firstlineno__",749,I 296 748),("__init__",757,R 437),("told",764,R 444),("__static_attributes__",767,R 445),("__doc__",768,N)] 2,ty "Number" [R 419] [R 447,R 419,T "object"] 446 [] [s1 (R 424),na,s1 (S "Number" 738),s1 (S "Number" 746),s1 (U "object.__new__"),s1 (B true)],fd (T "super") [R 447,R 447,R 447],fd (T "builtin_function_or_method") [U "object.__init_subclass__",R 447],tu [R 419],bp,di P (T "dict") [("__module__",778,m4),("__qualname__",780,S "Symbol" 779),("__firstlineno__",782,I 304 781),("__init__",790,R 463),("told",797,R 470),("__static_attributes__",800,R 471)] 6,zt,fd N [J 306,J 4,R 462,J 310,J 4,R 469],cm "Symbol" "Symbol" 773 304 453 181 776,fr 455 3 452 m4,zt,ze,tu [S "self" 786,S "name" 787],zt,fp (ay 28 0) "__init__" "Symbol.__init__",co "__init__" "Symbol.__init__" 783 306 2 457 788,fq (ay 28 0) "__init__" "Symbol.__init__" N m4 462,zt,ze,tu [S "self" 794],zt,fp (ay 28 1) "told" "Symbol.told",co "told" "Symbol.told" 791 310 1 464 795,fq (ay 28 1) "told" "Symbol.told" N m4 469,tu [S "kind" 798,S "name" 799],di P (T "dict") [("__module__",778,m4),("__firstlineno__",782,I 304 781),("__init__",790,R 463),("told",797,R 470),("__static_attributes__",800,R 471),("__doc__",801,N)] 2,ty "Symbol" [R 419] [R 473,R 419,T "object"] 472 [] [s1 (R 450),na,s1 (S "Symbol" 771),s1 (S "Symbol" 779),s1 (U "object.__new__"),s1 (B true)],fd (T "super") [R 473,R 473,R 473],fd (T "builtin_function_or_method") [U "object.__init_subclass__",R 473],tu [R 419],bp,di P (T "dict") [("__module__",811,m4),("__qualname__",813,S "Here" 812),("__firstlineno__",815,I 312 814),("__init__",822,R 489),("__static_attributes__",824,R 490)] 5,zt]
noncomputable def K8(P:Nk):List Obj:=[fd N [J 314,J 4,R 488],cm "Here" "Here" 806 312 479 181 809,fr 481 3 478 m4,zt,ze,tu [S "self" 819],zt,fp (ay 29 0) "__init__" "Here.__init__",co "__init__" "Here.__init__" 816 314 1 483 820,fq (ay 29 0) "__init__" "Here.__init__" N m4 488,tu [S "kind" 823],di P (T "dict") [("__module__",811,m4),("__firstlineno__",815,I 312 814),("__init__",822,R 489),("__static_attributes__",824,R 490),("__doc__",825,N)] 2,ty "Here" [R 419] [R 492,R 419,T "object"] 491 [] [s1 (R 476),na,s1 (S "Here" 804),s1 (S "Here" 812),s1 (U "object.__new__"),s1 (B true)],fd (T "super") [R 492,R 492,R 492],fd (T "builtin_function_or_method") [U "object.__init_subclass__",R 492],tu [R 419],bp,di P (T "dict") [("__module__",835,m4),("__qualname__",837,S "Unary" 836),("__firstlineno__",839,I 316 838),("__init__",848,R 508),("told",855,R 515),("__static_attributes__",859,R 516)] 6,zt,fd N [J 318,J 4,R 507,J 323,J 4,R 514],cm "Unary" "Unary" 830 316 498 181 833,fr 500 3 497 m4,zt,ze,tu [S "self" 843,S "sign" 844,S "body" 845],zt,fp (ay 30 0) "__init__" "Unary.__init__",co "__init__" "Unary.__init__" 840 318 3 502 846,fq (ay 30 0) "__init__" "Unary.__init__" N m4 507,zt,ze,tu [S "self" 852],zt,fp (ay 30 1) "told" "Unary.told",co "told" "Unary.told" 849 323 1 509 853,fq (ay 30 1) "told" "Unary.told" N m4 514,tu [S "body" 856,S "kind" 857,S "sign" 858],di P (T "dict") [("__module__",835,m4),("__firstlineno__",839,I 316 838),("__init__",848,R 508),("told",855,R 515),("__static_attributes__",859,R 516),("__doc__",860,N)] 2,ty "Unary" [R 419] [R 518,R 419,T "object"] 517 [] [s1 (R 495),na,s1 (S "Unary" 828),s1 (S "Unary" 836),s1 (U "object.__new__"),s1 (B true)],fd (T "super") [R 518,R 518,R 518],fd (T "builtin_function_or_method") [U "object.__init_subclass__",R 518],tu [R 419],bp,di P (T "dict") [("__module__",870,m4),("__qualname__",872,S "Binary" 871),("__firstlineno__",874,I 325 873),("__init__",884,R 534),("told",895,R 541),("__static_attributes__",900,R 542)] 6,zt,fd N [J 327,J 4,R 533,J 333,J 4,R 540],cm "Binary" "Binary" 865 325 524 181 868,fr 526 3 523 m4,zt,ze,tu [S "self" 878,S "sign" 879,S "left" 880,S "right" 881],zt,fp (ay 31 0) "__init__" "Binary.__init__",co "__init__" "Binary.__init__" 875 327 4 528 882,fq (ay 31 0) "__init__" "Binary.__init__" N m4 533,zt,ze,tu [S "self" 888,S "inner" 889,S "spine" 890,S "worth" 891,S "part" 892],zt,fp (ay 31 1) "told" "Binary.told"]
noncomputable def K9(P:Nk):List Obj:=[co "told" "Binary.told" 885 333 1 535 893,fq (ay 31 1) "told" "Binary.told" N m4 540,tu [S "kind" 896,S "left" 897,S "right" 898,S "sign" 899],di P (T "dict") [("__module__",870,m4),("__firstlineno__",874,I 325 873),("__init__",884,R 534),("told",895,R 541),("__static_attributes__",900,R 542),("__doc__",901,N)] 2,ty "Binary" [R 419] [R 544,R 419,T "object"] 543 [] [s1 (R 521),na,s1 (S "Binary" 863),s1 (S "Binary" 871),s1 (U "object.__new__"),s1 (B true)],fd (T "super") [R 544,R 544,R 544],fd (T "builtin_function_or_method") [U "object.__init_subclass__",R 544],zt,ze,tu [S "node" 907,S "spine" 908,S "inner" 909],zt,fp (aB 32) "left_spine" "left_spine",co "left_spine" "left_spine" 904 339 1 547 910,fq (aB 32) "left_spine" "left_spine" N m4 552,zt,ze,tu [S "sign" 916],zt,fp (aB 33) "level_of" "level_of",co "level_of" "level_of" 913 347 1 554 917,fq (aB 33) "level_of" "level_of" N m4 559,zt,ze,tu [S "token" 923],zt,fp (aB 34) "binary_level" "binary_level",co "binary_level" "binary_level" 920 355 1 561 924,fq (aB 34) "binary_level" "binary_level" N m4 566,zt,ze,tu [S "cursor" 930,S "depth" 931,S "token" 932,S "inner" 933],zt,fp (aB 35) "read_part" "read_part",co "read_part" "read_part" 927 359 2 568 934,fq (aB 35) "read_part" "read_part" N m4 573,zt,ze,tu [S "cursor" 940,S "least" 941,S "depth" 942,S "left" 943,S "level" 944,S "sign" 945],zt,fp (aB 36) "read_level" "read_level",co "read_level" "read_level" 937 380 3 575 946,fq (aB 36) "read_level" "read_level" N m4 580,zt,ze,tu [S "cursor" 952],zt,fp (aB 37) "read_expr" "read_expr",co "read_expr" "read_expr" 949 388 1 582 953,fq (aB 37) "read_expr" "read_expr" N m4 587,zt,ze,tu [S "text" 959,S "cursor" 960,S "node" 961],zt,fp (aB 38) "expr_of" "expr_of",co "expr_of" "expr_of" 956 390 1 589 962,fq (aB 38) "expr_of" "expr_of" N m4 594,zt,bp,di P (T "dict") [("__module__",972,m4),("__qualname__",974,S "Affine" 973),("__firstlineno__",976,I 395 975),("__init__",988,R 610),("told",995,R 617),("is_number",1002,R 624),("is_symbol",1009,R 631),("negate",1016,R 638),("add",1024,R 645),("places",1032,R 652),("__static_attributes__",1036,R 653)] 11,zt]
noncomputable def Mi(P:Nk):List Obj:=[fd N [J 397,J 4,R 609,J 402,J 4,R 616,J 405,J 4,R 623,J 408,J 4,R 630,J 411,J 4,R 637,J 414,J 4,R 644,J 417,J 4,R 651],cm "Affine" "Affine" 967 395 599 181 970,fr 601 3 598 m4,tu [S "" 977,S "" 978],zt,ze,tu [S "self" 982,S "worth" 983,S "plus" 984,S "minus" 985],zt,fp (ay 39 0) "__init__" "Affine.__init__",co "__init__" "Affine.__init__" 979 397 4 604 986,fq (ay 39 0) "__init__" "Affine.__init__" (R 603) m4 609,zt,ze,tu [S "self" 992],zt,fp (ay 39 1) "told" "Affine.told",co "told" "Affine.told" 989 402 1 611 993,fq (ay 39 1) "told" "Affine.told" N m4 616,zt,ze,tu [S "self" 999],zt,fp (ay 39 2) "is_number" "Affine.is_number",co "is_number" "Affine.is_number" 996 405 1 618 1000,fq (ay 39 2) "is_number" "Affine.is_number" N m4 623,zt,ze,tu [S "self" 1006],zt,fp (ay 39 3) "is_symbol" "Affine.is_symbol",co "is_symbol" "Affine.is_symbol" 1003 408 1 625 1007,fq (ay 39 3) "is_symbol" "Affine.is_symbol" N m4 630,zt,ze,tu [S "self" 1013],zt,fp (ay 39 4) "negate" "Affine.negate",co "negate" "Affine.negate" 1010 411 1 632 1014,fq (ay 39 4) "negate" "Affine.negate" N m4 637,zt,ze,tu [S "self" 1020,S "other" 1021],zt,fp (ay 39 5) "add" "Affine.add",co "add" "Affine.add" 1017 414 2 639 1022,fq (ay 39 5) "add" "Affine.add" N m4 644,zt,ze,tu [S "self" 1028,S "known" 1029],zt,fp (ay 39 6) "places" "Affine.places",co "places" "Affine.places" 1025 417 2 646 1030,fq (ay 39 6) "places" "Affine.places" N m4 651,tu [S "minus" 1033,S "plus" 1034,S "worth" 1035],di P (T "dict") [("__module__",972,m4),("__firstlineno__",976,I 395 975),("__init__",988,R 610),("told",995,R 617),("is_number",1002,R 624),("is_symbol",1009,R 631),("negate",1016,R 638),("add",1024,R 645),("places",1032,R 652),("__static_attributes__",1036,R 653),("__dict__",1038,R 656),("__weakref__",1040,R 657),("__doc__",1041,N)] 4,ty "Affine" [T "object"] [R 655,T "object"] 654 [] [na,na,s1 (S "Affine" 965),s1 (S "Affine" 973),s1 (U "object.__new__"),s1 (B true)],fd (T "getset_descriptor") [S "__dict__" 1037,R 655,U "function.__dict__",U "function.__dict__#set"],fd (T "getset_descriptor") [S "__weakref__" 1039,R 655,U "ExceptionGroup.__weakref__",N],fd (T "super") [R 655,R 655,R 655],fd (T "builtin_function_or_method") [U "object.__init_subclass__",R 655]]
noncomputable def Mj(P:Nk):List Obj:=[zt,ze,fp (aB 40) "affine_of" "affine_of",fd (T "code") [S "affine_of" 1044,S "affine_of" 1045,G 1046,J 419,J 3,J 0,J 0,J 3,R 660,B true,J 181,R 661,N,N,N,R 662,J 1047,J 419,G 1048],fq (aB 40) "affine_of" "affine_of" N m4 663,zt,bp,di P (T "dict") [("__module__",1057,m4),("__qualname__",1059,S "Scope" 1058),("__firstlineno__",1061,I 430 1060),("__init__",1069,R 679),("put",1078,R 686),("find",1086,R 693),("settled",1096,R 700),("__static_attributes__",1098,R 701)] 8,zt,fd N [J 432,J 4,R 678,J 435,J 4,R 685,J 438,J 4,R 692,J 441,J 4,R 699],cm "Scope" "Scope" 1052 430 668 181 1055,fr 670 3 667 m4,tu [N],zt,ze,tu [S "self" 1065,S "equates" 1066],zt,fp (ay 41 0) "__init__" "Scope.__init__",co "__init__" "Scope.__init__" 1062 432 2 673 1067,fq (ay 41 0) "__init__" "Scope.__init__" (R 672) m4 678,zt,ze,tu [S "self" 1073,S "name" 1074,S "affine" 1075],zt,fp (ay 41 1) "put" "Scope.put",co "put" "Scope.put" 1070 435 3 680 1076,fq (ay 41 1) "put" "Scope.put" N m4 685,zt,ze,tu [S "self" 1082,S "name" 1083],zt,fp (ay 41 2) "find" "Scope.find",co "find" "Scope.find" 1079 438 2 687 1084,fq (ay 41 2) "find" "Scope.find" N m4 692,zt,ze,tu [S "self" 1090,S "affine" 1091,S "left" 1092,S "found" 1093],zt,fp (ay 41 3) "settled" "Scope.settled",co "settled" "Scope.settled" 1087 441 2 694 1094,fq (ay 41 3) "settled" "Scope.settled" N m4 699,tu [S "equates" 1097],di P (T "dict") [("__module__",1057,m4),("__firstlineno__",1061,I 430 1060),("__init__",1069,R 679),("put",1078,R 686),("find",1086,R 693),("settled",1096,R 700),("__static_attributes__",1098,R 701),("__dict__",1100,R 704),("__weakref__",1102,R 705),("__doc__",1103,N)] 4,ty "Scope" [T "object"] [R 703,T "object"] 702 [] [na,na,s1 (S "Scope" 1050),s1 (S "Scope" 1058),s1 (U "object.__new__"),s1 (B true)],fd (T "getset_descriptor") [S "__dict__" 1099,R 703,U "function.__dict__",U "function.__dict__#set"],fd (T "getset_descriptor") [S "__weakref__" 1101,R 703,U "ExceptionGroup.__weakref__",N],fd (T "super") [R 703,R 703,R 703],fd (T "builtin_function_or_method") [U "object.__init_subclass__",R 703],zt,ze,tu [S "one" 1109,S "other" 1110],zt,fp (aB 42) "quotient" "quotient",co "quotient" "quotient" 1106 453 2 708 1111,fq (aB 42) "quotient" "quotient" N m4 713,zt,ze,tu [S "sign" 1117,S "one" 1118,S "count" 1119],zt,fp (aB 43) "shifted" "shifted"]
noncomputable def Mk(P:Nk):List Obj:=[co "shifted" "shifted" 1114 459 3 715 1120,fq (aB 43) "shifted" "shifted" N m4 720,zt,ze,tu [S "sign" 1126,S "one" 1127,S "other" 1128],zt,fp (aB 44) "reckoned" "reckoned",co "reckoned" "reckoned" 1123 465 3 722 1129,fq (aB 44) "reckoned" "reckoned" N m4 727,zt,ze,tu [S "sign" 1135,S "left" 1136,S "right" 1137],zt,fp (aB 45) "combined" "combined",co "combined" "combined" 1132 479 3 729 1138,fq (aB 45) "combined" "combined" N m4 734,zt,ze,tu [S "sign" 1144,S "affine" 1145],zt,fp (aB 46) "turned" "turned",co "turned" "turned" 1141 487 2 736 1146,fq (aB 46) "turned" "turned" N m4 741,tu [S "" 1149],zt,ze,tu [S "node" 1153,S "scope" 1154,S "here" 1155,S "inner" 1156,S "spine" 1157,S "worth" 1158,S "part" 1159],zt,fp (aB 47) "evaluate" "evaluate",co "evaluate" "evaluate" 1150 495 3 744 1160,fq (aB 47) "evaluate" "evaluate" (R 743) m4 749,zt,ze,tu [S "node" 1166,S "scope" 1167,S "worth" 1168],zt,fp (aB 48) "number_of" "number_of",co "number_of" "number_of" 1163 510 2 751 1169,fq (aB 48) "number_of" "number_of" N m4 756,zt,ze,tu [S "node" 1175,S "least" 1176],zt,fp (aB 49) "bracketed" "bracketed",co "bracketed" "bracketed" 1172 515 2 758 1177,fq (aB 49) "bracketed" "bracketed" N m4 763,zt,ze,tu [S "node" 1183],zt,fp (aB 50) "show_leaf" "show_leaf",co "show_leaf" "show_leaf" 1180 519 1 765 1184,fq (aB 50) "show_leaf" "show_leaf" N m4 770,zt,ze,tu [S "node" 1190,S "inner" 1191,S "spine" 1192,S "text" 1193,S "level" 1194,S "part" 1195,S "own" 1196],zt,fp (aB 51) "show_expr" "show_expr",co "show_expr" "show_expr" 1187 527 1 772 1197,fq (aB 51) "show_expr" "show_expr" N m4 777,zt]
noncomputable def Ml(P:Nk):List Obj:=[ze,tu [S "affine" 1203,S "text" 1204],zt,fp (aB 52) "show_affine" "show_affine",co "show_affine" "show_affine" 1200 538 1 779 1205,fq (aB 52) "show_affine" "show_affine" N m4 784,zt,ze,tu [S "node" 1211,S "found" 1212,S "todo" 1213,S "part" 1214],zt,fp (aB 53) "names_in" "names_in",co "names_in" "names_in" 1208 550 1 786 1215,fq (aB 53) "names_in" "names_in" N m4 791,zt,ze,tu [S "node" 1221,S "inner" 1222,S "spine" 1223,S "part" 1224],zt,fp (aB 54) "has_here" "has_here",co "has_here" "has_here" 1218 563 1 793 1225,fq (aB 54) "has_here" "has_here" N m4 798,tu [S "a" 1230,S "b" 1231,S "c" 1232,S "d" 1233,S "e" 1234,S "_n.1$" 1235],tu [S "*" 1237,S "/" 1238,S "%" 1239,S "<<" 1240,S ">>" 1241,S "|" 1242,S "&" 1243,S "^" 1244,S "+" 1245,S "-" 1246],zt,ze,zt,zt,fp (aB 58) "_law_LEVELS" "_law_LEVELS",co "_law_LEVELS" "_law_LEVELS" 1248 574 0 802 1251,fq (aB 58) "_law_LEVELS" "_law_LEVELS" N m1 807,tu [S "-" 1254,S "~" 1255,S "!" 1256],zt,ze,tu [S "source" 1261,S "limit" 1262,S "cells" 1263,S "at" 1264],zt,fp (aB 60) "_law_draw" "_law_draw",co "_law_draw" "_law_draw" 1258 577 2 810 1265,fq (aB 60) "_law_draw" "_law_draw" N m1 815,zt,ze,tu [S "source" 1271,S "way" 1272],zt,fp (aB 61) "_law_leaf" "_law_leaf",co "_law_leaf" "_law_leaf" 1268 582 1 817 1273,fq (aB 61) "_law_leaf" "_law_leaf" N m1 822,zt,ze,tu [S "source" 1279,S "depth" 1280],zt,fp (aB 62) "_law_part" "_law_part",co "_law_part" "_law_part" 1276 591 2 824 1281,fq (aB 62) "_law_part" "_law_part" N m1 829,zt,ze,tu [S "source" 1287,S "depth" 1288,S "way" 1289,S "sign" 1290,S "left" 1291],zt,fp (aB 63) "_law_row" "_law_row",co "_law_row" "_law_row" 1284 595 2 831 1292,fq (aB 63) "_law_row" "_law_row" N m1 836,zt,ze]
noncomputable def Mm(P:Nk):List Obj:=[tu [S "worth" 1298,S "base" 1299,S "found" 1300,S "rest" 1301],zt,fp (aB 64) "_law_digits" "_law_digits",co "_law_digits" "_law_digits" 1295 607 2 838 1302,fq (aB 64) "_law_digits" "_law_digits" N m1 843,zt,ze,tu [S "source" 1308,S "token" 1309,S "worth" 1310,S "way" 1311,S "escape" 1312],zt,fp (aB 65) "_law_word" "_law_word",co "_law_word" "_law_word" 1305 614 2 845 1313,fq (aB 65) "_law_word" "_law_word" N m1 850,zt,ze,tu [S "source" 1319,S "row" 1320,S "text" 1321,S "spot" 1322,S "gap" 1323,S "both" 1324],zt,fp (aB 66) "_law_text" "_law_text",co "_law_text" "_law_text" 1316 635 2 852 1325,fq (aB 66) "_law_text" "_law_text" N m1 857,zt,ze,tu [S "row" 1331,S "open_ones" 1332,S "ended" 1333,S "token" 1334],zt,fp (aB 67) "_law_is_deep" "_law_is_deep",co "_law_is_deep" "_law_is_deep" 1328 645 1 859 1335,fq (aB 67) "_law_is_deep" "_law_is_deep" N m1 864,zt,ze,tu [S "row" 1341,S "depth" 1342,S "ended" 1343,S "best" 1344,S "level" 1345,S "spot" 1346,S "token" 1347,S "left" 1348,S "right" 1349,S "body" 1350],zt,fp (aB 68) "_law_tree" "_law_tree",co "_law_tree" "_law_tree" 1338 664 1 866 1351,fq (aB 68) "_law_tree" "_law_tree" N m1 871,zt,ze,fp (aB 69) "_law_sum" "_law_sum",fd (T "code") [S "_law_sum" 1354,S "_law_sum" 1355,G 1356,J 706,J 3,J 0,J 0,J 3,R 873,B true,J 181,R 874,N,N,N,R 875,J 1357,J 706,G 1358],fq (aB 69) "_law_sum" "_law_sum" N m1 876,zt,ze,tu [S "sign" 1363,S "one" 1364,S "other" 1365,S "cut" 1366,S "rest" 1367],zt,fp (aB 70) "_law_two" "_law_two",co "_law_two" "_law_two" 1360 714 3 878 1368,fq (aB 70) "_law_two" "_law_two" N m1 883,zt,ze,tu [S "tree" 1374,S "known" 1375,S "here" 1376,S "body" 1377,S "left" 1378,S "right" 1379,S "worth" 1380],zt,fp (aB 71) "_law_worth" "_law_worth",co "_law_worth" "_law_worth" 1371 733 3 885 1381,fq (aB 71) "_law_worth" "_law_worth" N m1 890,zt,ze,tu [S "text" 1387],zt,fp (aB 72) "_law_read" "_law_read",co "_law_read" "_law_read" 1384 761 1 892 1388,fq (aB 72) "_law_read" "_law_read" N m1 897,zt]
noncomputable def Mn(P:Nk):List Obj:=[ze,tu [S "node" 1394,S "scope" 1395],zt,fp (aB 73) "_law_single" "_law_single",co "_law_single" "_law_single" 1391 766 2 899 1396,fq (aB 73) "_law_single" "_law_single" N m1 904,zt,ze,tu [S "tree" 1402],zt,fp (aB 74) "_law_leaves" "_law_leaves",co "_law_leaves" "_law_leaves" 1399 771 1 906 1403,fq (aB 74) "_law_leaves" "_law_leaves" N m1 911,zt,ze,tu [S "text" 1409,S "at" 1410,S "tree" 1411,S "depth" 1412,S "end" 1413,S "node" 1414],zt,fp (aB 75) "_law_is_spare" "_law_is_spare",co "_law_is_spare" "_law_is_spare" 1406 777 3 913 1415,fq (aB 75) "_law_is_spare" "_law_is_spare" N m1 918,zt,ze,fp (aB 76) "law" "law",fd (T "code") [S "law" 1418,S "law" 1419,G 1420,J 785,J 1,J 0,J 0,J 3,R 920,B true,J 181,R 921,N,N,N,R 922,J 1421,J 785,G 1422],fq (aB 76) "law" "law" N m1 923]
noncomputable def Lf(P:Nk):List Obj:=K0 P++(K1 P++(K2 P++(K3 P++(K4 P++(K5 P++(K6 P++(K7 P++(K8 P++(K9 P++(Mi P++(Mj P++(Mk P++(Ml P++(Mm P++(Mn P)))))))))))))))
noncomputable def H1(P:Nk):Og:=⟨⟨Lf P⟩,{}⟩
noncomputable def ev:List Obj->List Obj
 |[]=>[]
 |[x]=>[x]
 |x::_::r=>x::ev r
noncomputable def GB:Nat->List Obj->BT
 |n+1,x::r=>nd x (GB n (ev r)) (GB n (ev (r.drop 1)))
 |_,_=>nl
noncomputable def oH:Env:={scope:=pw.main.scope,locals:=mainNs,globals:=mainNs,cells:=[],code:= .ref 13,frame:=some 14}
noncomputable def cE:Code:= .body (RL pw) oH
noncomputable def rT(a n:Nat):List OJ:=(pw.main.body.drop a).take n
noncomputable def st(t:BT)(n toks:Nat)(os:O9):SharedT:=⟨t,n,{},#[],{},toks,os⟩
noncomputable abbrev tf:Frame:=topFrame ⟨0,0,0,0⟩
noncomputable abbrev jY:Option M4:=some (.ref 6)
noncomputable abbrev t0(P:Nk):BT:=GB 12 (L0 P)
noncomputable abbrev t1(P:Nk):BT:=GB 12 (Lf P)
theorem bu(w:OU)(os:O9):topGo RG pw w 11 jY 12 ⟨Qj w.params,#[],UU,Vo,os⟩ (topStub pw)=
  some ((st (t0 w.params) 15 187 os).abs,⟨denote RG cE,cE,⟨0,0,0,0⟩,[tf]⟩):=by kernel_rfl
theorem D2(w:OU)(os:O9):segRun RG pw w 11 jY 1 1 (st (t0 w.params) 15 187 os).abs (blockOf (RL pw) oH cE ⟨0,0,0,0⟩ [tf])=
  some (.next,(st (t0 w.params) 15 187 os).abs,cE,⟨0,0,0,0⟩):=by kernel_rfl
theorem Mo(w:OU)(os:O9):PySem.W.Fast.tw10110043849684766642 PySem.W.Fast.tw14364793385576792824 pw w 11 jY 1 6415 (st (t0 w.params) 15 187 os) (piecesOf (rT 0 77) oH cE ⟨0,0,0,0⟩ [tf])=
  some (.next,st (t1 w.params) 925 1424 os,cE,⟨785,0,854,77⟩):=by kernel_rfl
theorem p0(w:OU)(os:O9):segRun RG pw w 11 jY 1 6415 (st (t0 w.params) 15 187 os).abs (piecesOf (rT 0 77) oH cE ⟨0,0,0,0⟩ [tf])=
  some (.next,(st (t1 w.params) 925 1424 os).abs,cE,⟨785,0,854,77⟩):=by
 have h:=Mo w os;rw[←PySem.W.Fast.te10110043849684766642,←PySem.W.Fast.te14364793385576792824]at h;exact segRun_of h
theorem G2(w:OU)(os:O9):PySem.W.Fast.tw14082659384304107361 PySem.W.Fast.tw14364793385576792824 pw w 11 jY 2 (st (t1 w.params) 925 1424 os).abs (restOf [] oH cE ⟨785,0,854,77⟩ [tf])=
  some ⟨H1 w.params,#[],{},1424,os⟩:=by kernel_rfl
theorem fin(w:OU)(os:O9):topRun RG pw w 11 jY 2 (st (t1 w.params) 925 1424 os).abs (restOf [] oH cE ⟨785,0,854,77⟩ [tf])=
  some ⟨H1 w.params,#[],{},1424,os⟩:=by
 have h:=G2 w os;rw[←PySem.W.Fast.te14082659384304107361,←PySem.W.Fast.te14364793385576792824]at h;exact h
theorem A6:RL pw=rT 0 77++[]:=by kernel_rfl
theorem D3(w:OU)(os:O9):topRun RG pw w 11 jY 6417 (st (t0 w.params) 15 187 os).abs (restOf (RL pw) oH cE ⟨0,0,0,0⟩ [tf])=some ⟨H1 w.params,#[],{},1424,os⟩:=by rw[A6];exact piece_app (p0 w os) (fin w os)
theorem A7(w:OU)(os:O9):topRun RG pw w 11 jY 6430 ⟨Qj w.params,#[],UU,Vo,os⟩ (topStub pw)=some ⟨H1 w.params,#[],{},1424,os⟩:=
 go_top (n:=12) (N:=6418) (bu w os) (piece_block (n:=1) (N:=6417) (D2 w os) (D3 w os))
set_option backward.match.sparseCases true
noncomputable def qw:Pr:={pw with main:={pw.main with body:=pw.main.body.drop 76}}
noncomputable def eE:List Str:=(pw.main.scope.names.map (·.1)).filter (fun n=>n != "law")
theorem D4:opening pw=plainProg pw.main.scope.names:=by kernel_rfl
theorem A8(s:M7):fenceModules? pw s=some s:=by kernel_rfl
theorem D5(w:OU):((Qj w.params).isNs mainGlobals&&(#[]:Array SZ).size==0,(Qj w.params).objs.size,(Qj w.params).nsMap mainGlobals (NB "__annotations__"))=(true,11,jY):=by kernel_rfl
noncomputable abbrev sF(w:OU)(os:O9):M7:=⟨H1 w.params,#[],{},1424,os⟩
noncomputable abbrev GC:M7->Bool:=fun _=>true
theorem D6(w:OU)(os:O9):staticsOk (RZ pw.main.body) (Qj w.params) (H1 w.params)=true:=by kernel_rfl
theorem D7(w:OU)(os:O9):namesBound pw (H1 w.params)=true:=by kernel_rfl
theorem D8(w:OU)(os:O9):gensDone (sF w os)=true:=by kernel_rfl
theorem D9(w:OU)(os:O9):laidKept (Qj w.params) (H1 w.params)=true:=by kernel_rfl
theorem A9(w:OU)(os:O9):PySem.W.Fast.tw4187177175401517315 qw eE (RZ pw.main.body) GC true (sF w os)=openGood qw eE:=by kernel_rfl
theorem D_:PySem.W.Fast.tw9446332074065402090 PySem.Challenge.rw_nn0067_01=true:=by kernel_rfl
abbrev rl:OpenLaw:=PySem.Challenge.rw_nn0067_01
noncomputable abbrev GD:M7->Og×Nat:=fun s=>(s.heap,s.toks)
noncomputable abbrev GE:OU->Og×Nat:=fun w=>(H1 w.params,1424)
theorem D'(w:OU)(os:O9):openSeen qw eE (RZ pw.main.body) GC true (sF w os)=openGood qw eE:=by have h:=A9 w os;rw[←PySem.W.Fast.te4187177175401517315]at h;exact h
theorem xp:LeftO pw qw eE GC GD GE 20000:=
 LeftO.of_pieces (H₀:=Qj) (H₁:=H1) (gs₀:=#[]) (gs₁:=#[]) (d₀:=UU) (d₁:={}) (k₀:=Vo) (k₁:=1424) (m₀:=11) (ann:=jY)
  (boot_open D4 (by decide) A8) D5 A7 (by decide) (fun w=>by
   funext os
   refine Prod.ext ?_ (Prod.ext ?_ rfl)
   .show(staticsOk (RZ pw.main.body) (Qj w.params) (H1 w.params)&&namesBound pw (H1 w.params)&&gensDone (sF w os)&&laidKept (Qj w.params) (H1 w.params))=true;rw[D6 w os,D7 w os,D8 w os,D9 w os];rfl
   .exact D' w os)
theorem G3:rl.wellSaid=true:=by have h:=D_;rw[←PySem.W.Fast.te9446332074065402090]at h;exact h
noncomputable def bZ:DefRec×List (Str×PySem.Expr):=(defOf qw "law").getD (⟨"law",⟨[],[],none,[],[],none,[]⟩,[],default,default⟩,[])
theorem Ea:defOf qw rl.row.name=some (bZ.1,bZ.2):=by kernel_rfl
theorem ua:rl.row.prog.theDef rl.row.name=some (bZ.1.params,bZ.1.body,bZ.1.scope):=by kernel_rfl
theorem G4:kwWritten? bZ.1.params.kwonlyargs bZ.1.params.kw_defaults=some bZ.2:=by kernel_rfl
theorem G5:(chainsOk qw&&opensWell rl.row.prog&&(frees rl.row.toRowW&&rl.row.within.isEmpty))=true:=by kernel_rfl
theorem A_:rl.row.prog.bare:=⟨rfl,rfl,rfl,rfl,rfl,by decide+kernel⟩
theorem oJ:rl.row.toRowW.promised:=by w_witness2
theorem xq(PZ:WalkX qw eE (fun _ _=>True) GD GE rl.row.toRowW bZ.1 bZ.2 fun f vs=>PySem.call f vs):rl.Holds:=
 holds_law G3 fun hs=>holds_openX (r:=rl.row) (q:=qw) (loose:=eE) (Xt:=GC) (XP:=fun _ _=>True) (Yf:=GD) (Ya:=GE) (N:=20000) xp
  (fun _ _=>trivial) (fun _ _ _ _ _=>trivial) Ea ua G4 (fun s _=>recFacts_of (by rfl)) (by rfl) hs G5 A_ oJ PZ
set_option bootstrap.genMatcherCode false
set_option maxHeartbeats 1000000
set_option genSizeOf false
set_option genInjectivity false
theorem aj{α:Type}{p:Prop}{a:α}(h:none=some a):p:=nomatch h
theorem ba{α:Type}{p:Prop}{a:α}(h:some a=none):p:=nomatch h
theorem A'{α:Type}{p:Prop}{a:α}{l:List α}(h:[]=a::l):p:=nomatch h
theorem kT{α:Type}{p:Prop}{a:α}{l:List α}(h:a::l=[]):p:=nomatch h
theorem aK{p:Prop}(h:false=true):p:=nomatch h
theorem df{p:Prop}(h:true=false):p:=nomatch h
theorem bc{p:Prop}(h:(p->False)->False):p:=NM h
theorem bE{α β:Type}{a:Option α}{f:α->Option β}{b:β}{p:Prop}(h:a.bind f=some b)(k:∀x,a=some x->f x=some b->p):p:=(Option.bind_eq_some_iff.mp h).elim fun x e=>k x e.1 e.2
theorem cn{α β:Type}{a:Option α}{f:α->β}{b:β}{p:Prop}(h:a.map f=some b)(k:∀x,a=some x->f x=b->p):p:=(Option.map_eq_some_iff.mp h).elim fun x e=>k x e.1 e.2
theorem i8{α β:Type}{l:List α}{f:α->β}{b:β}{p:Prop}(h:b∈l.map f)(k:∀x,x∈l->f x=b->p):p:=(List.mem_map.mp h).elim fun x e=>k x e.1 e.2
theorem fB{α:Type}{c p:Prop}{i:Re c}{a:Option α}{b:α}(h:(if c then a else none)=some b)(k:c->a=some b->p):p:=(Decidable.em c).elim (fun c=>k c ((M8 c).symm.trans h)) fun c=>aj ((M5 c).symm.trans h)
theorem qm{a b:Bool}{p:Prop}(h:(a&&b)=true)(k:a=true->b=true->p):p:=k ((NV a b).mp h).1 ((NV a b).mp h).2
theorem MY{α:Type}{q:α->Prop}{p:Prop}(h:∃x,q x)(k:∀x,q x->p):p:=h.elim k
theorem DL{α:Type}{a:Option α}{p:Prop}(h:a.isSome=true)(k:∀x,a=some x->p):p:=(Option.isSome_iff_exists.mp h).elim k
set_option backward.match.sparseCases false
set_option genCtorIdx false
theorem cD(h:(a&&b)=true):a=true/\b=true:=(NV a b).mp h
theorem Aw(h:a=true)(c:b=true):(a&&b)=true:=(NV a b).mpr ⟨h,c⟩
theorem ce{d:Type}{c:Prop}{i:Re c}{a b r:d}(h:c)(e:ite c a b=r):a=r:=(M8 h).symm.trans e
theorem bU{d:Type}{c:Prop}{i:Re c}{a b r:d}(h:¬c)(e:ite c a b=r):b=r:=(M5 h).symm.trans e
theorem dt{a:Type}{p:a->Prop}{c:Prop}{i:Re c}{x y:a}(b:c->p x)(d:¬c->p y):p (if c then x else y):=by
 by_cases h:c
 .rw[M8 h];exact b h
 .rw[M5 h];exact d h
structure Cx where
 w:OU
 B0:Og
 base:∀a o,(H1 w.params).get? a=some o->B0.get? a=some o
noncomputable abbrev Cx.M(C:Cx):Model:=N6 pw C.w
noncomputable abbrev Cx.P(C:Cx):Nk:=C.w.params
set_option genCtorIdx true in
inductive PV where
 |none
 |bool (b:Bool)
 |int (i:Int)
 |str (s:List Nat)
 |tup (vs:List PV)
 |lst (vs:List PV)
 |obj (c:Nat) (fs:List PV)
 |ref (a:Nw)
 |iref (c:Nat) (d:Nw)
 deriving Inhabited
noncomputable abbrev Fz:=Nw->Option Obj
noncomputable abbrev fK(c d:Nw):Obj:={cls:= .ref c,dict:=some d,data:= .plain}
noncomputable abbrev bG(t:String)(vs:Array M4)(n:Nat):Obj:={cls:= .type t,data:= .seq vs n}
noncomputable abbrev ez(es:Array N0)(n:Nat):Obj:={cls:= .type "dict",data:= .dict es n}
noncomputable def f_:List Str:=["line","column","kind","text","worth","at","tokens","name","sign","body","left","right","plus","minus","equates","what"]
noncomputable def aC(i:Nat):Str:=f_.getD i "other"
noncomputable def oK:List (Nat×List Nat):=[(45,[0,1]),(195,[2,3,4,5]),(286,[3,0,5]),(391,[6,5]),(447,[2,4]),(473,[2,7]),(492,[2]),(518,[2,8,9]),(544,[2,8,10,11]),(655,[4,12,13]),(703,[14])]
noncomputable def aO(c:Nat):List Nat:=(oK.lookup c).getD []
noncomputable def fa(s:List Nat):Prop:=s.length<=1048576/\∀c∈s,c<1114112
noncomputable def fb{a:Type}(s:List a):Prop:=s.length<=1048576
noncomputable def mC(P:Nk)(n:Str)(e:N0):Prop:=e.hash=Ph P n/\∃t,e.key= .str n t
mutual
inductive VR(P:Nk)(fz:Fz):PV->M4->Prop
 |none:VR P fz .none .none
 |bool (b:Bool):VR P fz (.bool b) (.bool b)
 |int (i:Int) (t:Tok):VR P fz (.int i) (.int i t)
 |str (s:List Nat) (t:Tok) (hs:fa s):VR P fz (.str s) (.str ⟨s.toArray⟩ t)
 |tup {vs:List PV} {a:Nw} {ws:List M4} {n:Nat} (ha:fz a=some (bG "tuple" ws.toArray n)) (hl:fb vs) (h:aL P fz vs ws):VR P fz (.tup vs) (.ref a)
 |lst {vs:List PV} {a:Nw} {ws:List M4} {n:Nat} (ha:fz a=some (bG "list" ws.toArray n)) (hl:fb vs) (h:aL P fz vs ws):VR P fz (.lst vs) (.ref a)
 |obj {c:Nat} {fs:List PV} {a dx:Nw} {es:List N0} {n:Nat} (ha:fz a=some (fK c dx)) (hd:fz dx=some (ez es.toArray n))
   (h:dI P fz ((aO c).map aC) fs es):VR P fz (.obj c fs) (.ref a)
 |ref (a:Nw):VR P fz (.ref a) (.ref a)
 |iref {c:Nat} {a dx:Nw} (ha:fz a=some (fK c dx)):VR P fz (.iref c dx) (.ref a)
inductive aL(P:Nk)(fz:Fz):List PV->List M4->Prop
 |nil:aL P fz [] []
 |cons {v:PV} {vs:List PV} {x:M4} {xs:List M4} (h:VR P fz v x) (hs:aL P fz vs xs):aL P fz (v::vs) (x::xs)
inductive dI(P:Nk)(fz:Fz):List Str->List PV->List N0->Prop
 |nil:dI P fz [] [] []
 |cons {n:Str} {ns:List Str} {v:PV} {vs:List PV} {e:N0} {es:List N0} (hk:mC P n e) (h:VR P fz v e.val) (hs:dI P fz ns vs es):dI P fz (n::ns) (v::vs) (e::es)
end
theorem aL.ind{P:Nk}{fz:Fz}{m:List PV->List M4->Prop}(h:aL P fz v x)(n:m [] [])(c:∀{v vs x xs},VR P fz v x->aL P fz vs xs->m vs xs->m (v::vs) (x::xs)):m v x:=
 aL.rec (motive_1:=fun _ _ _=>True) (motive_2:=fun a b _=>m a b) (motive_3:=fun _ _ _ _=>True) trivial (fun _=>trivial) (fun _ _=>trivial) (fun _ _ _=>trivial) (fun _ _ _ _=>trivial) (fun _ _ _ _=>trivial) (fun _ _ _ _=>trivial) (fun _=>trivial) (fun _=>trivial) n (fun h hs _ d=>c h hs d) trivial (fun _ _ _ _ _=>trivial) h
theorem dI.ind{P:Nk}{fz:Fz}{m:List Str->List PV->List N0->Prop}(h:dI P fz n v x)(z:m [] [] [])(c:∀{n ns v vs e es},mC P n e->VR P fz v e.val->dI P fz ns vs es->m ns vs es->m (n::ns) (v::vs) (e::es)):m n v x:=
 dI.rec (motive_1:=fun _ _ _=>True) (motive_2:=fun _ _ _=>True) (motive_3:=fun a b c _=>m a b c) trivial (fun _=>trivial) (fun _ _=>trivial) (fun _ _ _=>trivial) (fun _ _ _ _=>trivial) (fun _ _ _ _=>trivial) (fun _ _ _ _=>trivial) (fun _=>trivial) (fun _=>trivial) trivial (fun _ _ _ _=>trivial) z (fun k h hs _ d=>c k h hs d) h
theorem VR.mono{P:Nk}{fz fz':Fz}(k:∀a o,fz a=some o->fz' a=some o)(h:VR P fz v x):VR P fz' v x:=
 VR.rec (motive_1:=fun a b _=>VR P fz' a b) (motive_2:=fun a b _=>aL P fz' a b) (motive_3:=fun a b c _=>dI P fz' a b c) .none .bool .int .str (fun d e _ h=> .tup (k _ _ d) e h) (fun d e _ h=> .lst (k _ _ d) e h) (fun d f _ h=> .obj (k _ _ d) (k _ _ f) h) .ref (fun d=> .iref (k _ _ d)) .nil (fun _ _ h hs=> .cons h hs) .nil (fun g _ _ h hs=> .cons g h hs) h
theorem aL.mono{P:Nk}{fz fz':Fz}(k:∀a o,fz a=some o->fz' a=some o)(h:aL P fz v x):aL P fz' v x:=h.ind .nil fun a _ b=> .cons (a.mono k) b
theorem dI.mono{P:Nk}{fz fz':Fz}(k:∀a o,fz a=some o->fz' a=some o)(h:dI P fz n v x):dI P fz' n v x:=h.ind .nil fun b a _ c=> .cons b (a.mono k) c
theorem aL.append{P:Nk}{fz:Fz}(h:aL P fz v x)(h':aL P fz b c):aL P fz (v++b) (x++c):=h.ind (m:=fun v x=>aL P fz (v++b) (x++c)) h' fun a _ d=> .cons a d
theorem aL.length{P:Nk}{fz:Fz}{v:List PV}{x:List M4}(h:aL P fz v x):x.length=v.length:=h.ind (m:=fun v x=>x.length=v.length) rfl fun _ _ a=>Np (·+1) a
inductive G6(P:Nk)(fz:Fz)(v:PV)(vs:List PV)(x:List M4):Prop
 |mk (y:M4) (ys:List M4) (e:x=y::ys) (h:VR P fz v y) (t:aL P fz vs ys)
noncomputable def G7(P:Nk)(fz:Fz)(v:List PV)(x:List M4):Prop:=match v with
 |[]=>x=[]
 |v::vs=>G6 P fz v vs x
theorem aL.inv{P:Nk}{fz:Fz}(h:aL P fz v x):G7 P fz v x:=h.ind rfl fun a b _=>⟨_,_,rfl,a,b⟩
theorem aL.get{P:Nk}{fz:Fz}{v:List PV}{x:List M4}{i:Nat}{p:PV}(h:aL P fz v x):v[i]? =some p->∃q,x[i]? =some q/\VR P fz p q:=
 h.ind (m:=fun v x=>∀i,v[i]? =some p->∃q,x[i]? =some q/\VR P fz p q) (fun _ h=>by exact aj h) (fun a _ b i h=>by
  cases i with
  |zero=>exact⟨_,rfl,Na h▸a⟩
  |succ i=>exact b i h) i
theorem aL.take{P:Nk}{fz:Fz}{v:List PV}{x:List M4}(i:Nat)(h:aL P fz v x):aL P fz (v.take i) (x.take i):=
 h.ind (m:=fun v x=>∀i,aL P fz (v.take i) (x.take i)) (fun i=>SE i .nil fun _=> .nil) (fun a _ b i=>SE i .nil fun i=> .cons a (b i)) i
theorem aL.drop{P:Nk}{fz:Fz}{v:List PV}{x:List M4}(i:Nat)(h:aL P fz v x):aL P fz (v.drop i) (x.drop i):=
 h.ind (m:=fun v x=>∀i,aL P fz (v.drop i) (x.drop i)) (fun i=>SE i .nil fun _=> .nil) (fun a b c i=>SE i (.cons a b) c) i
theorem aL.reverse{P:Nk}{fz:Fz}{v:List PV}{x:List M4}(h:aL P fz v x):aL P fz v.reverse x.reverse:=
 h.ind (m:=fun v x=>aL P fz v.reverse x.reverse) .nil fun a _ b=>by rw[Qd,Qd];exact b.append (.cons a .nil)
inductive G8(P:Nk)(fz:Fz)(n:Str)(ns:List Str)(v:List PV)(x:List N0):Prop
 |mk (w:PV) (vs:List PV) (e:N0) (es:List N0) (ev:v=w::vs) (ex:x=e::es) (k:mC P n e) (h:VR P fz w e.val) (t:dI P fz ns vs es)
noncomputable def G9(P:Nk)(fz:Fz)(n:List Str)(v:List PV)(x:List N0):Prop:=match n with
 |[]=>v=[]/\x=[]
 |n::ns=>G8 P fz n ns v x
theorem dI.inv{P:Nk}{fz:Fz}(h:dI P fz n v x):G9 P fz n v x:=h.ind ⟨rfl,rfl⟩ fun k a b _=>⟨_,_,_,_,rfl,rfl,k,a,b⟩
inductive Eb(P:Nk)(fz:Fz)(k:String)(vs:List PV)(x:M4):Prop
 |mk (a:Nw) (ws:List M4) (n:Nat) (e:x= .ref a) (ha:fz a=some (bG k ws.toArray n)) (hl:fb vs) (h:aL P fz vs ws)
inductive G_(P:Nk)(fz:Fz)(c:Nat)(fs:List PV)(x:M4):Prop
 |mk (a dx:Nw) (es:List N0) (n:Nat) (e:x= .ref a) (ha:fz a=some (fK c dx)) (hd:fz dx=some (ez es.toArray n)) (h:dI P fz ((aO c).map aC) fs es)
noncomputable def LJ(P:Nk)(fz:Fz)(v:PV)(x:M4):Prop:=match v with
 |.none=>x= .none
 |.bool b=>x= .bool b
 |.int i=>∃t,x= .int i t
 |.str s=>∃t,x= .str ⟨s.toArray⟩ t/\fa s
 |.tup vs=>Eb P fz "tuple" vs x
 |.lst vs=>Eb P fz "list" vs x
 |.obj c d=>G_ P fz c d x
 |.ref a=>x= .ref a
 |.iref c e=>∃a,x= .ref a/\fz a=some (fK c e)
theorem VR.inv{P:Nk}{fz:Fz}(h:VR P fz v x):LJ P fz v x:=
 VR.rec (motive_1:=fun v x _=>LJ P fz v x) (motive_2:=fun _ _ _=>True) (motive_3:=fun _ _ _ _=>True) rfl (fun _=>rfl) (fun _ t=>⟨t,rfl⟩) (fun _ t h=>⟨t,rfl,h⟩) (fun a b h _=>⟨_,_,_,rfl,a,b,h⟩) (fun a b h _=>⟨_,_,_,rfl,a,b,h⟩) (fun a c h _=>⟨_,_,_,_,rfl,a,c,h⟩) (fun _=>rfl) (fun a=>⟨_,rfl,a⟩) trivial (fun _ _ _ _=>trivial) trivial (fun _ _ _ _ _=>trivial) h
set_option genCtorIdx true in
inductive MO where
 |lst (vs:List PV)
 |dct (kvs:List (List Nat×PV))
 |ins (c:Nat) (as:List Nat) (vs:List PV)
noncomputable abbrev aa:=Nw->Option MO
noncomputable def aa.upd(σ:aa)(a:Nw)(m:MO):aa:=fun b=>if b=a then some m else σ b
theorem aa.uS(σ:aa)(a:Nw)(m:MO):σ.upd a m a=some m:=by simp[aa.upd]
theorem aa.uN(σ:aa)(m:MO)(h:b≠a):σ.upd a m b=σ b:=by simp[aa.upd,h]
noncomputable def aa.nil:aa:=fun _=>none
noncomputable def aq(s:List Nat):Str:=⟨s.toArray⟩
inductive MR(P:Nk)(fz:Fz):MO->Obj->Prop
 |lst {vs:List PV} {ws:List M4} {n:Nat} (hl:fb vs) (h:aL P fz vs ws):MR P fz (.lst vs) (bG "list" ws.toArray n)
 |dct {kvs:List (List Nat×PV)} {es:List N0} {n:Nat} (hl:fb kvs) (hk:∀k∈kvs,fa k.1) (hd:(kvs.map (·.1)).Nodup)
   (h:dI P fz (kvs.map fun k=>aq k.1) (kvs.map (·.2)) es):MR P fz (.dct kvs) (ez es.toArray n)
 |ins {c:Nat} {as:List Nat} {vs:List PV} {es:List N0} {n:Nat} (hb:∀a∈as,a<16) (h:dI P fz (as.map aC) vs es):MR P fz (.ins c as vs) (ez es.toArray n)
theorem MR.mono{P:Nk}{fz fz':Fz}(k:∀a o,fz a=some o->fz' a=some o){o:Obj}(h:MR P fz m o):MR P fz' m o:=by
 cases h with
 |lst b h=>exact .lst b (h.mono k)
 |dct b c d h=>exact .dct b c d (h.mono k)
 |ins e h=>exact .ins e (h.mono k)
noncomputable def Mp(P:Nk)(fz:Fz)(m:MO)(o:Obj):Prop:=match m with
 |.lst vs=>∃ws n,o=bG "list" ws.toArray n/\fb vs/\aL P fz vs ws
 |.dct kvs=>∃es n,o=ez es.toArray n/\fb kvs/\(∀k∈kvs,fa k.1)/\(kvs.map (·.1)).Nodup/\dI P fz (kvs.map fun k=>aq k.1) (kvs.map (·.2)) es
 |.ins _ as vs=>∃es n,o=ez es.toArray n/\(∀a∈as,a<16)/\dI P fz (as.map aC) vs es
theorem MR.inv{P:Nk}{fz:Fz}{o:Obj}(h:MR P fz m o):Mp P fz m o:=by
 cases h with
 |lst a h=>exact⟨_,_,rfl,a,h⟩
 |dct a b c h=>exact⟨_,_,rfl,a,b,c,h⟩
 |ins d h=>exact⟨_,_,rfl,d,h⟩
inductive Ha(h:Og)(a:Nw):Prop
 |mk (o:Obj) (es:Array N0) (n:Nat) (e:h.get? a=some o) (d:o.data= .dict es n)
structure GF(fz:Fz)(σ:aa)(h:Og)(a:Nw):Prop where
 f:fz a=none
 l:σ a=none
 d:Ha h a
inductive Hb(P:Nk)(fz:Fz)(h:Og)(a:Nw)(m:MO):Prop
 |mk (o:Obj) (e:h.get? a=some o) (r:MR P fz m o)
structure Hc(P:Nk)(fz:Fz)(h:Og)(a:Nw)(m:MO):Prop where
 f:fz a=none
 d:Hb P fz h a m
structure aw(C:Cx)(σ:aa)(fz:Fz)(FR:List Nw)(h:Og):Prop where
 base:∀a o,C.B0.get? a=some o->fz a=some o
 sub:∀a o,fz a=some o->h.get? a=some o
 fr:∀a∈FR,GF fz σ h a
 led:∀a m,σ a=some m->Hc C.P fz h a m
structure oM(FR:List Nw)(σ:aa)(fz:Fz)(s:M7)(Z6:aa)(fz':Fz)(s':M7):Prop where
 fzk:∀a o,fz a=some o->fz' a=some o
 keep:∀a o,s.heap.get? a=some o->σ a=none->a∉FR->s'.heap.get? a=some o
 frk:∀a∈FR,∀o,s.heap.get? a=some o->∃sl,s'.heap.get? a=some {o with slots:=sl}
 lk:∀a,σ a≠none->∃o,s'.heap.get? a=some o
 ledn:∀a,Z6 a≠none->σ a≠none\/s.heap.get? a=none
 fzn:∀a,fz' a≠none->fz a≠none\/σ a≠none\/s.heap.get? a=none
 gens:s'.gens=s.gens
 os:s'.os=s.os
theorem oM.refl{C:Cx}{σ:aa}{fz:Fz}{s:M7}(G:aw C σ fz b s.heap):oM b σ fz s σ fz s:=
 ⟨fun _ _ h=>h,fun _ _ h _ _=>h,fun a _ o h=>⟨o.slots,h⟩,fun a h=>by
  cases q:σ a with
  |none=>exact absurd q h
  |some m=>obtain⟨_,o,c,_⟩:=G.led a m q;exact⟨o,c⟩,fun _ h=> .inl h,fun _ h=> .inl h,rfl,rfl⟩
theorem oM.there{σ b:aa}{fz fz':Fz}{s s':M7}(x:oM c σ fz s b fz' s'){o:Obj}(h:s.heap.get? a=some o):∃o',s'.heap.get? a=some o':=by
 by_cases q:σ a=none
 .by_cases r:a∈c
  .obtain⟨d,e⟩:=x.frk a r o h;exact⟨_,e⟩
  .exact⟨_,x.keep a o h q r⟩
 .exact x.lk a q
theorem oM.gone{σ b:aa}{fz fz':Fz}{s s':M7}(x:oM c σ fz s b fz' s')(h:s'.heap.get? a=none):s.heap.get? a=none:=by
 cases q:s.heap.get? a with
 |none=>rfl
 |some o=>obtain⟨o',e⟩:=x.there q;rw[e]at h;exact ba h
theorem oM.trans{σ d b:aa}{fz fz' c:Fz}{s s' f:M7}(x:oM g σ fz s d fz' s')(y:oM g d fz' s' b c f):oM g σ fz s b c f:=by
 refine⟨fun a o h=>y.fzk a o (x.fzk a o h),fun a o h q r=>?_,fun a r o h=>?_,fun a q=>?_,fun a q=>?_,fun a q=>?_,y.gens.trans x.gens,y.os.trans x.os⟩
 .have h':=x.keep a o h q r;refine y.keep a o h' ?_ r;cases z:d a with
  |none=>rfl
  |some m=>
   rcases x.ledn a (by rw[z];simp)with u|u
   .exact absurd q u
   .rw[u]at h;exact aj h
 .obtain⟨k,e⟩:=x.frk a r o h;obtain⟨i,j⟩:=y.frk a r _ e;exact⟨i,j⟩
 .obtain⟨o,e⟩:=x.lk a q;exact y.there e
 .rcases y.ledn a q with u|u
  .exact x.ledn a u
  .exact .inr (x.gone u)
 .rcases y.fzn a q with u|u|u
  .exact x.fzn a u
  .exact(x.ledn a u).elim (fun z=> .inr (.inl z)) fun z=> .inr (.inr z)
  .exact .inr (.inr (x.gone u))
theorem oM.via_keep{σ:aa}{fz:Fz}{s s':M7}(c:∀b o,s.heap.get? b=some o->s'.heap.get? b=some o)
 (f:∀a,σ a≠none->∃o,s.heap.get? a=some o) (g:s'.gens=s.gens) (i:s'.os=s.os):oM d σ fz s σ fz s':=
 ⟨fun _ _ h=>h,fun a o h _ _=>c a o h,fun a _ o h=>⟨o.slots,c a o h⟩,fun a h=>let ⟨o,e⟩:=f a h;⟨o,c a o e⟩,fun _ h=> .inl h,fun _ h=> .inl h,g,i⟩
noncomputable def Fz.ext(fz:Fz)(a:Nw)(o:Obj):Fz:=fun b=>if b=a then some o else fz b
structure GS(C:Cx)(FR:List Nw)(σ:aa)(fz:Fz)(s:M7)(Z6:aa)(fz':Fz)(s':M7):Prop where
 stp:oM FR σ fz s Z6 fz' s'
 good:aw C Z6 fz' FR s'.heap
section
variable{C:Cx}{FR:List Nw}{σ:aa}{fz:Fz}{s s':M7}
theorem aw.there(G:aw C σ fz FR s.heap)(a:Nw)(h:σ a≠none):∃o,s.heap.get? a=some o:=by
 cases q:σ a with
 |none=>exact absurd q h
 |some m=>obtain⟨_,o,b,_⟩:=G.led a m q;exact⟨o,b⟩
theorem aw.free(G:aw C σ fz FR s.heap)(h:s.heap.get? a=none):fz a=none/\σ a=none/\a∉FR:=by
 refine⟨?_,?_,fun q=>?_⟩
 .cases q:fz a with
  |none=>rfl
  |some o=>have:=G.sub a o q;rw[h]at this;exact aj this
 .cases q:σ a with
  |none=>rfl
  |some m=>obtain⟨o,b⟩:=G.there a (by rw[q];simp);rw[h]at b;exact aj b
 .obtain⟨_,_,o,_,_,e,_⟩:=G.fr a q;rw[h]at e;exact aj e
theorem GS.keep(G:aw C σ fz FR s.heap)(c:∀b o,s.heap.get? b=some o->s'.heap.get? b=some o)(f:s'.gens=s.gens:=by rfl)(g:s'.os=s.os:=by rfl):GS C FR σ fz s σ fz s':=by
 refine⟨.via_keep c G.there f g,G.base,fun a o h=>c a o (G.sub a o h),fun a h=>?_,fun a m h=>?_⟩
 .obtain⟨x,y,o,es,n,e,d⟩:=G.fr a h;exact⟨x,y,o,es,n,c a o e,d⟩
 .obtain⟨x,o,e,r⟩:=G.led a m h;exact⟨x,o,c a o e,r⟩
theorem GS.fzNew(G:aw C σ fz FR s.heap){o:Obj}(f:s.heap.get? a=none)(c:∀b o,s.heap.get? b=some o->s'.heap.get? b=some o)(g:s'.heap.get? a=some o)
 (i:s'.gens=s.gens:=by rfl) (j:s'.os=s.os:=by rfl):GS C FR σ fz s σ (fz.ext a o) s':=by
 obtain⟨k,l,p⟩:=G.free f;have ex:∀b o',fz b=some o'->fz.ext a o b=some o':=fun b o' h=>by
  have:b≠a:=fun e=>by rw[e,k]at h;exact aj h
  simp[Fz.ext,this,h]
 refine⟨⟨ex,fun b o h _ _=>c b o h,fun a _ o h=>⟨o.slots,c a o h⟩,fun a h=>let ⟨o,e⟩:=G.there a h;⟨o,c a o e⟩,fun _ h=> .inl h,fun b h=>?_,i,j⟩,
  fun b o' h=>ex b o' (G.base b o' h),fun b o' h=>?_,fun b h=>?_,fun b m h=>?_⟩
 .by_cases e:b=a
  .exact .inr (.inr (e▸f))
  .simp only[Fz.ext,e,RI]at h;exact .inl h
 .by_cases e:b=a
  .subst e;simp[Fz.ext]at h;subst h;exact g
  .simp only[Fz.ext,e,RI]at h;exact c b o' (G.sub b o' h)
 .obtain⟨x,y,o',es,n,e,d⟩:=G.fr b h;have:b≠a:=fun q=>aj (f.symm.trans (q▸e));exact⟨by simp[Fz.ext,this,x],y,o',es,n,c b o' e,d⟩
 .obtain⟨x,o',e,r⟩:=G.led b m h;have:b≠a:=fun q=>aj (f.symm.trans (q▸e));exact⟨by simp[Fz.ext,this,x],o',c b o' e,r.mono ex⟩
theorem GS.ledNew(G:aw C σ fz FR s.heap){o:Obj}(f:s.heap.get? a=none)(c:∀b o,s.heap.get? b=some o->s'.heap.get? b=some o)(g:s'.heap.get? a=some o)
 (i:MR C.P fz m o) (j:s'.gens=s.gens:=by rfl) (k:s'.os=s.os:=by rfl):GS C FR σ fz s (σ.upd a m) fz s':=by
 obtain⟨l,u,v⟩:=G.free f;refine⟨⟨fun _ _ h=>h,fun b o h _ _=>c b o h,fun a _ o h=>⟨o.slots,c a o h⟩,fun a h=>let ⟨o,e⟩:=G.there a h;⟨o,c a o e⟩,fun b h=>?_,fun b h=> .inl h,j,k⟩,
  G.base,fun b o' h=>c b o' (G.sub b o' h),fun b h=>?_,fun b p h=>?_⟩
 .by_cases e:b=a
  .exact .inr (e▸f)
  .rw[aa.uN _ _ e]at h;exact .inl h
 .obtain⟨x,y,o',es,n,e,d⟩:=G.fr b h;have:b≠a:=fun q=>by rw[q,f]at e;exact aj e
  exact⟨x,by rw[aa.uN _ _ this];exact y,o',es,n,c b o' e,d⟩
 .by_cases e:b=a
  .subst e;rw[aa.uS]at h;injection h with z0;subst z0;exact⟨l,o,g,i⟩
  .rw[aa.uN _ _ e]at h;obtain⟨x,o',t,r⟩:=G.led b p h;exact⟨x,o',c b o' t,r⟩
theorem GS.ledUpd(G:aw C σ fz FR s.heap){o:Obj}(g:σ a≠none)(f:∀b o,b≠a->s.heap.get? b=some o->s'.heap.get? b=some o)(j:s'.heap.get? a=some o)
 (l:MR C.P fz m o) (p:s'.gens=s.gens:=by rfl) (t:s'.os=s.os:=by rfl):GS C FR σ fz s (σ.upd a m) fz s':=by
 obtain⟨m0,i⟩:∃m,σ a=some m:=by
  cases q:σ a with
  |none=>exact absurd q g
  |some m=>exact⟨m,rfl⟩
 obtain⟨k,w,h0,_⟩:=G.led a m0 i;have c:∀b∈FR,b≠a:=fun b h e=>by obtain⟨_,y,_⟩:=G.fr b h;rw[e]at y;exact g y
 refine⟨⟨fun _ _ h=>h,fun b o h q _=>f b o (fun e=>g (e▸q)) h,fun b h o e=>⟨o.slots,f b o (c b h) e⟩,fun b h=>?_,fun b h=>?_,fun b h=> .inl h,p,t⟩,
  G.base,fun b o' h=>f b o' (fun e=>by rw[e,k]at h;exact aj h) (G.sub b o' h),fun b h=>?_,fun b u h=>?_⟩
 .by_cases e:b=a
  .exact⟨o,e▸j⟩
  .obtain⟨o',h'⟩:=G.there b h;exact⟨o',f b o' e h'⟩
 .by_cases e:b=a
  .exact .inl (e▸g)
  .rw[aa.uN _ _ e]at h;exact .inl h
 .obtain⟨x,y,o',es,n,e,d⟩:=G.fr b h;exact⟨x,by rw[aa.uN _ _ (c b h)];exact y,o',es,n,f b o' (c b h) e,d⟩
 .by_cases e:b=a
  .subst e;rw[aa.uS]at h;injection h with z0;subst z0;exact⟨k,o,j,l⟩
  .rw[aa.uN _ _ e]at h;obtain⟨x,o',v,r⟩:=G.led b u h;exact⟨x,o',f b o' e v,r⟩
theorem GS.refl(G:aw C σ fz FR s.heap):GS C FR σ fz s σ fz s:=⟨.refl G,G⟩
theorem GS.trans{a b:aa}{c d:Fz}{s₁ e:M7}(x:GS C FR σ fz s a c s₁)(y:GS C FR a c s₁ b d e):GS C FR σ fz s b d e:=⟨x.1.trans y.1,y.2⟩
end
structure rU(A:NN)(FR:List Nw)(d:Nat):Prop where
 hand:A.handled=none
 frames:∃envs,A.frames=some envs/\envs.filterMap (·.frame)=FR/\∀env∈envs,env.scope.kind= .function/\env.frame.isSome=true
 depth:A.depth+2*d+4<=Tt
 units:A.units+12*d+200<=Tx
noncomputable def rV(c:Nat):Nw:=match c with|0=>87|_=>99
inductive Mq(s:M7)(FR:List Nw)(σ:aa)(fz:Fz)(h:Og)(ea:Nw)(vs:Array M4):Prop
 |mk (T:Nw) (oT:Obj) (ts:Array M4) (r1:vs[1]? =some (.ref T)) (r2:T≠ea) (r3:s.heap.get? T=none) (r4:h.get? T=some oT) (r5:oT.data= .fields ts) (r6:4<=ts.size) (r7:σ T=none) (r8:fz T=none) (r9:T∉FR)
inductive jZ(s:M7)(FR:List Nw)(σ:aa)(fz:Fz)(h:Og)(c:Nat)(e:M4):Prop
 |mk (ea:Nw) (oe:Obj) (vs:Array M4) (q1:e= .ref ea) (q2:s.heap.get? ea=none) (q3:h.get? ea=some oe) (q4:oe.cls= .ref (rV c)) (q5:oe.data= .fields vs) (q6:2<=vs.size) (q7:σ ea=none) (q8:fz ea=none) (q9:ea∉FR)
  (q10:vs[1]? =some .none\/Mq s FR σ fz h ea vs)
inductive PK{α β:Type}(C:Cx)(FR:List Nw)(σ:aa)(fz:Fz)(s:M7)(R:Fz->β->α->Prop)(Q:β->aa->Prop)(v:α)(s':M7):Prop
 |mk (b:β) (Z6:aa) (fz':Fz) (g:GS C FR σ fz s Z6 fz' s') (r:R fz' b v) (q:Q b Z6)
inductive PX(C:Cx)(FR:List Nw)(σ:aa)(fz:Fz)(s:M7)(X:Nat->aa->Prop)(e:M4)(s':M7):Prop
 |mk (c:Nat) (Z6:aa) (fz':Fz) (g:GS C FR σ fz s Z6 fz' s') (x:jZ s FR Z6 fz' s'.heap c e) (q:X c Z6)
theorem PK.via{f i:Type}{C:Cx}{d:List Nw}{σ a:aa}{fz c:Fz}{s s₁ s':M7}{R:Fz->i->f->Prop}{Q:i->aa->Prop}{v:f}(x:GS C d σ fz s a c s₁)
  (h:PK C d a c s₁ R Q v s'):PK C d σ fz s R Q v s':=let ⟨b,e,fz',g,r,q⟩:=h;⟨b,e,fz',x.trans g,r,q⟩
theorem PX.via{C:Cx}{σ a:aa}{fz b:Fz}{s s₁ s':M7}{X:Nat->aa->Prop}(x:GS C d σ fz s a b s₁)
 (h:PX C d a b s₁ X e s'):PX C d σ fz s X e s':=by obtain⟨c,f,fz',g,⟨j,k,vs,l,m,n,o,p,r,t,u,v,i⟩,q⟩:=h;refine⟨c,f,fz',x.trans g,⟨j,k,vs,l,x.1.gone m,n,o,p,r,t,u,v,i.imp id ?_⟩,q⟩;rintro⟨T,w,y,z,A,D,E,F,H,K,L,M⟩;exact⟨T,w,y,z,A,x.1.gone D,E,F,H,K,L,M⟩
noncomputable def rW(C:Cx)(a:List Nw)(σ:aa)(fz:Fz)(s:M7)(Q:PV->aa->Prop)(X:Nat->aa->Prop)(r:R9)(s':M7):Prop:=match r with
 |.ok (.ret v)=>PK C a σ fz s (VR C.P) Q v s'
 |.ok _=>False
 |.error e=>PX C a σ fz s X e s'
noncomputable def af(d:Nat)(c:M4)(a:List PV)(σ:aa)(Q:PV->aa->Prop)(X:Nat->aa->Prop):Prop:=
 ∀(C:Cx)(A:NN)(b:List Nw)(fz:Fz)(s:M7)(vals:List M4),rU A b d->aw C σ fz b s.heap->aL C.P fz a vals->
  PY C.M A (.call c ⟨vals,[]⟩) (rW C b σ fz s Q X) s
set_option tactic.hygienic false
set_option genCtorIdx true in
inductive BI where
 |len|ord|chr|abs|int|str|sum|tuple|divmod|sorted|sortset|dict
 deriving DecidableEq
inductive ME where
 |lit (v:PV)
 |loc (i:Nat)
 |glb (n:Nat)
 |tup (es:List ME)
 |lst (fr:Bool) (es:List ME)
 |dct (ks:List (List Nat)) (vs:List ME)
 |bin (op:TB) (l r:ME)
 |neg (e:ME)
 |nt (e:ME)
 |bop (all:Bool) (es:List ME)
 |cmp (op:UF) (l r:ME)
 |cmp2 (l m r:ME)
 |ite (c t e:ME)
 |att (o:ME) (a:Nat)
 |idx (o i:ME)
 |sli (o lo hi:ME)
 |calF (f:Nat) (args:List ME)
 |calB (b:BI) (args:List ME)
 |calM (o:ME) (m:Nat) (args:List ME)
 |isin (e:ME) (isStr:Bool)
 |comp (fr:Bool) (Zp:List (Option Nat)) (ZK:List Nat) (Zm iter:ME) (ifs:List ME)
 |rng (e:ME)
 |tru (e:ME)
 |itm (e:ME)
inductive MS where
 |asg (i:Nat) (e:ME)
 |asgT (is:List Nat) (e:ME)
 |asgA (o:ME) (a:Nat) (e:ME)
 |asgS (o i e:ME)
 |expr (e:ME)
 |ite (c:ME) (t e:List MS)
 |whl (c:ME) (b:List MS)
 |forl (ZK:List Nat) (it:ME) (b:List MS)
 |ret (e:ME)
 |rai (f:Nat) (args:List ME)
 |asgc (i:Nat) (e:ME)
 |tryR (e:ME) (cls:Nat)
 |tryA (i:Nat) (e:ME) (cls:Nat)
noncomputable abbrev ar:=List (Option PV)
noncomputable abbrev QV:=PV->aa->Prop
noncomputable abbrev QX:=Nat->aa->Prop
mutual
noncomputable def fC:PV->PV->Bool
 |.none,b=>match b with|.none=>true|_=>false
 |.bool a,b=>match b with|.bool b=>a==b|_=>false
 |.int a,b=>match b with|.int b=>a==b|_=>false
 |.str a,b=>match b with|.str b=>a==b|_=>false
 |.tup a,b=>match b with|.tup b=>dX a b|_=>false
 |.lst a,b=>match b with|.lst b=>dX a b|_=>false
 |_,_=>false
noncomputable def dX:List PV->List PV->Bool
 |[],b=>b.isEmpty
 |a::as,b=>match b with
  |[]=>false
  |b::bs=>fC a b&&dX as bs
end
mutual
noncomputable def b_:PV->Nat->Bool
 |.none,_=>true
 |.int _,_=>true
 |.str _,_=>true
 |.tup a,n=>match n with
  |0=>false
  |n+1=>bb a n
 |.lst a,n=>match n with
  |0=>false
  |n+1=>bb a n
 |_,_=>false
noncomputable def bb:List PV->Nat->Bool
 |[],_=>true
 |a::as,n=>b_ a n&&bb as n
end
noncomputable abbrev xr(v:PV):Bool:=b_ v 60
noncomputable abbrev gQ(v:List PV):Bool:=bb v 60
noncomputable def i9(kvs:List (List Nat×PV))(k:List Nat):Option PV:=(kvs.find? fun kv=>kv.1=k).map (·.2)
noncomputable def rX(kvs:List (List Nat×PV))(k:List Nat)(v:PV):List (List Nat×PV):=
 if kvs.any (fun kv=>kv.1=k)then kvs.map (fun kv=>if kv.1=k then(kv.1,v)else kv)else kvs++[(k,v)]
noncomputable def PV.seen(σ:aa):PV->PV
 |.ref a=>match σ a with
  |some (.lst vs)=> .lst vs
  |_=> .ref a
 |v=>v
noncomputable def i_:PV->Option Bool
 |.bool b=>some b
 |_=>none
noncomputable def dD:PV->Option Int
 |.int i=>some i
 |_=>none
noncomputable def dq:PV->Option (List Nat)
 |.str i=>some i
 |_=>none
noncomputable def iu:PV->Option (List PV)
 |.lst i=>some i
 |_=>none
noncomputable def mD:PV->Option (List PV)
 |.lst i=>some i
 |.tup i=>some i
 |_=>none
noncomputable def isNone:PV->Bool
 |.none=>true
 |_=>false
noncomputable def fQ(σ:aa):PV->Option (Nw×List (List Nat×PV))
 |.ref a=>match σ a with
  |some (.dct kvs)=>some (a,kvs)
  |_=>none
 |_=>none
noncomputable def rY(σ:aa):PV->Option (Nw×List PV)
 |.ref a=>match σ a with
  |some (.lst kvs)=>some (a,kvs)
  |_=>none
 |_=>none
noncomputable def cF{b:Type}:List b->Option b
 |[]=>none
 |a::r=>match r with
  |[]=>some a
  |_=>none
noncomputable def ub{c:Type}:List c->Option (c×c)
 |[]=>none
 |a::r=>(cF r).map fun b=>(a,b)
noncomputable def mE:PV->Bool
 |.lst []=>true
 |_=>false
noncomputable def fM(a b:PV)(σ:aa):Option Bool:=match i_ (a.seen σ)with
 |some x=>(i_ (b.seen σ)).map fun y=>x==y
 |none=>if xr (a.seen σ)&&xr (b.seen σ)then some (fC (a.seen σ) (b.seen σ))else if mE (b.seen σ)then(iu (a.seen σ)).map (·.isEmpty)else none
noncomputable def Ec(v:PV):Option Bool:=match v with
 |.none=>some false
 |.bool b=>some b
 |.int i=>some (i != 0)
 |.str s=>some (!s.isEmpty)
 |.tup vs=>some (!vs.isEmpty)
 |.lst vs=>some (!vs.isEmpty)
 |_=>none
noncomputable def eH(v:PV)(σ:aa):Option Bool:=Ec (v.seen σ)
noncomputable def kU(a b:PV)(σ:aa):Option Bool:=match mD (b.seen σ)with
 |some vs=>if xr a&&gQ vs then some (vs.any fun v=>fC v a)else none
 |none=>(dq a).bind fun x=>match dq b with
  |some y=>(cF x).map y.contains
  |none=>(fQ σ b).map fun kvs=>(i9 kvs.2 x).isSome
noncomputable def oN(a b:PV):Option (Int×Int):=(dD a).bind fun x=>(dD b).map fun y=>(x,y)
noncomputable def uc(a b:PV)(f:Int->Int->Bool):Option Bool:=(oN a b).map fun p=>f p.1 p.2
noncomputable def eJ(c:UF)(a b:PV)(σ:aa):Option Bool:=match c with
 |.Eq=>fM a b σ
 |.NotEq=>(fM a b σ).map (!·)
 |.Lt=>uc a b fun x y=>decide (x<y)
 |.LtE=>uc a b fun x y=>decide (x<=y)
 |.Gt=>uc a b fun x y=>decide (y<x)
 |.GtE=>uc a b fun x y=>decide (y<=x)
 |.Is=>if isNone b then some (isNone a)else none
 |.IsNot=>if isNone b then some (!isNone a)else none
 |.In=>kU a b σ
 |.NotIn=>(kU a b σ).map (!·)
noncomputable def aU:Nat:=1048576
noncomputable def small(i:Int):Prop:=Pb i<=8000
noncomputable def dJ{b:Type}(o:Option b)(K:b->Prop):Prop:=match o with
 |some a=>K a
 |none=>False
theorem ud{b:Type}{o:Option b}{K:b->Prop}(h:dJ o K):∃a,o=some a/\K a:=by
 cases o with
 |none=>exact h.elim
 |some a=>exact⟨a,rfl,h⟩
theorem fe{b:Type}{o:Option b}{K:b->Prop}{p:Prop}(h:dJ o K)(k:∀a,o=some a->K a->p):p:=(ud h).elim fun x e=>k x e.1 e.2
theorem kW{v:PV}{i:Int}:dD v=some i->v= .int i:=
 PV.casesOn (motive_1:=fun v=>dD v=some i->v= .int i) v aj (fun _=>aj) (fun _ h=>Np PV.int (Na h)) (fun _=>aj) (fun _=>aj) (fun _=>aj) (fun _ _=>aj) (fun _=>aj) (fun _ _=>aj)
theorem xt{v:PV}{i:List Nat}:dq v=some i->v= .str i:=
 PV.casesOn (motive_1:=fun v=>dq v=some i->v= .str i) v aj (fun _=>aj) (fun _=>aj) (fun _ h=>Np PV.str (Na h)) (fun _=>aj) (fun _=>aj) (fun _ _=>aj) (fun _=>aj) (fun _ _=>aj)
theorem i'{v:PV}{i:Bool}:i_ v=some i->v= .bool i:=
 PV.casesOn (motive_1:=fun v=>i_ v=some i->v= .bool i) v aj (fun _ h=>Np PV.bool (Na h)) (fun _=>aj) (fun _=>aj) (fun _=>aj) (fun _=>aj) (fun _ _=>aj) (fun _=>aj) (fun _ _=>aj)
theorem du{v:PV}{i:List PV}:iu v=some i->v= .lst i:=
 PV.casesOn (motive_1:=fun v=>iu v=some i->v= .lst i) v aj (fun _=>aj) (fun _=>aj) (fun _=>aj) (fun _=>aj) (fun _ h=>Np PV.lst (Na h)) (fun _ _=>aj) (fun _=>aj) (fun _ _=>aj)
theorem kX{v:PV}{i:List PV}:mD v=some i->v= .lst i\/v= .tup i:=
 PV.casesOn (motive_1:=fun v=>mD v=some i->v= .lst i\/v= .tup i) v aj (fun _=>aj) (fun _=>aj) (fun _=>aj) (fun _ h=> .inr (Np PV.tup (Na h))) (fun _ h=> .inl (Np PV.lst (Na h))) (fun _ _=>aj) (fun _=>aj) (fun _ _=>aj)
theorem rZ{v:PV}:isNone v=true->v= .none:=
 PV.casesOn (motive_1:=fun v=>isNone v=true->v= .none) v (fun _=>rfl) (fun _=>aK) (fun _=>aK) (fun _=>aK) (fun _=>aK) (fun _=>aK) (fun _ _=>aK) (fun _=>aK) (fun _ _=>aK)
theorem xu{a b:PV}{p:Int×Int}(h:oN a b=some p):a= .int p.1/\b= .int p.2:=by unfold oN at h;rw[Option.bind_eq_some_iff]at h;obtain⟨x,c,h⟩:=h;rw[P_]at h;obtain⟨y,d,rfl⟩:=h;exact⟨kW c,kW d⟩
theorem gb{σ:aa}{v:PV}{p:Nw×List (List Nat×PV)}:fQ σ v=some p->v= .ref p.1/\σ p.1=some (.dct p.2):=
 PV.casesOn (motive_1:=fun v=>fQ σ v=some p->v= .ref p.1/\σ p.1=some (.dct p.2)) v aj (fun _=>aj) (fun _=>aj) (fun _=>aj) (fun _=>aj) (fun _=>aj) (fun _ _=>aj) (fun a h=>by
  have h:(match σ a with|some (.dct kvs)=>some (a,kvs)|_=>none)=some p:=h;cases q:σ a with
  |none=>rw[q]at h;exact aj h
  |some m=>
   rw[q]at h;cases m<;>first|exact aj h|(injection h with z0;subst z0;exact⟨rfl,q⟩)) (fun _ _=>aj)
theorem xv{σ:aa}{v:PV}{p:Nw×List PV}:rY σ v=some p->v= .ref p.1/\σ p.1=some (.lst p.2):=
 PV.casesOn (motive_1:=fun v=>rY σ v=some p->v= .ref p.1/\σ p.1=some (.lst p.2)) v aj (fun _=>aj) (fun _=>aj) (fun _=>aj) (fun _=>aj) (fun _=>aj) (fun _ _=>aj) (fun a h=>by
  have h:(match σ a with|some (.lst kvs)=>some (a,kvs)|_=>none)=some p:=h;cases q:σ a with
  |none=>rw[q]at h;exact aj h
  |some m=>
   rw[q]at h;cases m<;>first|exact aj h|(injection h with z0;subst z0;exact⟨rfl,q⟩)) (fun _ _=>aj)
theorem aR{c:Type}{l:List c}{a:c}(h:cF l=some a):l=[a]:=by
 cases l with
 |nil=>exact aj h
 |cons b r=>cases r<;>first|(injection h with z0;subst z0;rfl)|exact aj h
theorem iF{d:Type}{l:List d}{a:d×d}(h:ub l=some a):l=[a.1,a.2]:=by
 cases l with
 |nil=>exact aj h
 |cons b r=>have h:(cF r).map (fun c=>(b,c))=some a:=h;rw[P_]at h;obtain⟨c,e,rfl⟩:=h;rw[aR e]
noncomputable def Ba(a b:PV)(σ:aa)(Q:QV):Prop:=match dD a with
 |some x=>dJ (dD b) fun y=>small x/\small y/\Q (.int (x*y)) σ
 |none=>dJ (dq a) fun s=>dJ (cF s) fun c=>dJ (dD b) fun y=>0<=y/\y<=64/\Q (.str (Nz y.toNat c)) σ
noncomputable def oO(a b:PV)(σ:aa)(Q:QV):Prop:=match dD a with
 |some x=>dJ (dD b) fun y=>Q (.int (x+y)) σ
 |none=>match dq a with
  |some x=>dJ (dq b) fun y=>x.length+y.length<=aU/\Q (.str (x++y)) σ
  |none=>dJ (iu (a.seen σ)) fun vs=>dJ (iu (b.seen σ)) fun ws=>vs.length+ws.length<=aU/\Q (.lst (vs++ws)) σ
noncomputable def Bb(a:TB)(x y:Int)(σ:aa)(Q:QV):Prop:=match a with
 |.Sub=>Q (.int (x-y)) σ
 |.FloorDiv=>y≠0/\small y/\Q (.int (x.fdiv y)) σ
 |.Mod=>y≠0/\Q (.int (x.fmod y)) σ
 |.BitAnd=>Q (.int (OB x y)) σ
 |.BitOr=>Q (.int (S0 x y)) σ
 |.BitXor=>Q (.int (QK x y)) σ
 |.LShift=>0<=y/\y<=64/\small x/\Q (.int (x*2^y.toNat)) σ
 |.RShift=>0<=y/\Q (.int (x.fdiv (2^y.toNat))) σ
 |.Pow=>x=2/\0<=y/\y<=64/\Q (.int (2^y.toNat)) σ
 |_=>False
noncomputable def Ed(c:TB)(a b:PV)(σ:aa)(Q:QV):Prop:=match c with
 |.Add=>oO a b σ Q
 |.Mult=>Ba a b σ Q
 |c=>dJ (oN a b) fun p=>Bb c p.1 p.2 σ Q
noncomputable def Ee(a:PV)(σ:aa)(Q:QV):Prop:=dJ (dD a) fun x=>Q (.int (-x)) σ
noncomputable def kY(i:Int)(n:Nat):Option Nat:=if -1000000000<=i/\i<=1000000000 then seqIndex? i n else none
noncomputable def bk(o i:PV)(σ:aa):Option PV:=match mD (o.seen σ)with
 |some vs=>(dD i).bind fun k=>(kY k vs.length).bind fun j=>vs[j]?
 |none=>match dq o with
  |some s=>(dD i).bind fun k=>(kY k s.length).bind fun j=>(s[j]?).map fun c=> .str [c]
  |none=>(fQ σ o).bind fun kvs=>(dq i).bind (i9 kvs.2)
noncomputable def r_(v:PV)(n a:Nat):Option Nat:=match v with
 |.none=>some a
 |.int i=>some (OZ n i)
 |_=>none
noncomputable def fE(o lo hi:PV)(σ:aa):Option PV:=match dq o with
 |some s=>(r_ lo s.length 0).bind fun l=>(r_ hi s.length s.length).map fun h=> .str ((s.drop l).take (h-l))
 |none=>(iu (o.seen σ)).bind fun s=>(r_ lo s.length 0).bind fun l=>(r_ hi s.length s.length).map fun h=> .lst ((s.drop l).take (h-l))
noncomputable def xw(o:PV)(a:Nat)(σ:aa):Option PV:=match o with
 |.obj c b=>((aO c).idxOf? a).bind fun j=>b[j]?
 |.iref c d=>match σ d with
  |some (.ins e as vs)=>if e=c/\(aO c).contains a=true then(as.idxOf? a).bind fun j=>vs[j]? else none
  |_=>none
 |_=>none
noncomputable def aE(i:Int):List Nat:=(NB (toString i)).cps.toList
noncomputable def cx:List PV->Option (List Int)
 |[]=>some []
 |.int i::r=>(cx r).map (i::·)
 |_=>Option.none
noncomputable def bm:List PV->Option (List (List Nat))
 |[]=>some []
 |.str i::r=>(bm r).map (i::·)
 |_=>Option.none
noncomputable def gT(v:PV)(σ:aa):Option Nat:=match mD (v.seen σ)with
 |some s=>some s.length
 |none=>match dq v with
  |some s=>some s.length
  |none=>(fQ σ v).map (·.2.length)
noncomputable def ue(v:PV)(σ:aa)(Q:QV):Prop:=match dD v with
 |some i=>Q (.int i) σ
 |none=>dJ (i_ v) fun b=>Q (.int (if b then 1 else 0)) σ
noncomputable def mF(ss:List (List Nat))(σ:aa)(Q:QV):Prop:=ss.length<64/\∀c:List (List Nat),c.Perm ss->c.Pairwise (fun a b=>¬b<a)->Q (.lst (c.map .str)) σ
noncomputable def dY(v:PV)(σ:aa)(Q:QV):Prop:=match iu (v.seen σ)with
 |some vs=>dJ (bm vs) fun ss=>mF ss σ Q
 |none=>dJ (fQ σ v) fun kvs=>mF (kvs.2.map (·.1)) σ Q
noncomputable def Bc:PV->Option (List PV)
 |.tup i=>some i
 |_=>none
theorem xx{v:PV}{i:List PV}:Bc v=some i->v= .tup i:=
 PV.casesOn (motive_1:=fun v=>Bc v=some i->v= .tup i) v aj (fun _=>aj) (fun _=>aj) (fun _=>aj) (fun _ h=>Np PV.tup (Na h)) (fun _=>aj) (fun _ _=>aj) (fun _=>aj) (fun _ _=>aj)
noncomputable def Be(b:BI)(v:PV)(σ:aa)(Q:QV):Prop:=match b with
 |.len=>dJ (gT v σ) fun n=>Q (.int n) σ
 |.ord=>dJ (dq v) fun s=>dJ (cF s) fun c=>Q (.int c) σ
 |.chr=>dJ (dD v) fun i=>0<=i/\i<55296/\Q (.str [i.toNat]) σ
 |.abs=>dJ (dD v) fun i=>Q (.int i.natAbs) σ
 |.int=>ue v σ Q
 |.str=>dJ (dD v) fun i=> -(2^64)<i/\i<2^64/\fa (aE i)/\Q (.str (aE i)) σ
 |.sum=>dJ (iu v) fun vs=>dJ (cx vs) fun e=>Q (.int e.sum) σ
 |.tuple=>dJ (iu v) fun vs=>Q (.tup vs) σ
 |.sorted=>dY v σ Q
 |.sortset=>dJ (iu v) fun vs=>dJ (bm vs) fun ss=>ss.length<64/\∀d:List (List Nat),(∀x,x∈d↔x∈ss)->d.Nodup->d.Pairwise (fun a b=>¬b<a)->Q (.lst (d.map .str)) σ
 |.dict=>dJ (Bc v) fun vs=>∃kvs:List (List Nat×PV),vs=kvs.map (fun p=>PV.tup [.str p.1,p.2])/\(kvs.map (·.1)).Nodup/\∀a,σ a=none->Q (.ref a) (σ.upd a (.dct kvs))
 |.divmod=>False
noncomputable def GG(b:BI)(as:List PV)(σ:aa)(Q:QV):Prop:=match cF as with
 |some v=>Be b v σ Q
 |none=>b= .divmod/\dJ (ub as) fun p=>dJ (oN p.1 p.2) fun q=>q.2≠0/\small q.2/\Q (.tup [.int (q.1.fdiv q.2),.int (q.1.fmod q.2)]) σ
noncomputable def iG:List (Nat×Nat×Nat):=[(195,7,178),(195,6,192),(286,8,220),(286,9,227),(286,10,234),(286,11,241),(286,12,248),(286,13,255),(286,14,262),(286,15,269),(286,16,276),(286,17,283),
 (391,18,318),(391,19,332),(391,7,339),(391,20,346),(391,21,353),(391,22,367),(391,23,374),(391,24,388),(447,6,444),(473,6,470),(492,6,416),(518,6,515),(544,6,541),
 (655,6,617),(655,25,624),(655,26,631),(655,27,638),(655,28,645),(703,29,686),(703,30,693),(703,31,700)]
noncomputable def dg(c m:Nat):Option Nat:=(iG.find? fun x=>x.1==c&&x.2.1==m).map (·.2.2)
noncomputable def xy(a:Nw)(vs:List PV)(m:Nat)(as:List PV)(σ:aa)(Q:QV):Prop:=
 if m=0 then dJ (cF as) fun v=>vs.length<aU/\Q .none (σ.upd a (.lst (vs++[v])))
 else if m=1 then as=[]/\∃ws w,vs=ws++[w]/\Q w (σ.upd a (.lst ws))
 else if m=2 then dJ (cF as) fun v=>dJ (dq v) fun x=>dJ (bm vs) fun ss=>ss.contains x=true/\Q .none (σ.upd a (.lst ((ss.erase x).map .str)))
 else if m=3 then as=[]/\Q .none (σ.upd a (.lst vs.reverse))
 else False
noncomputable def xi(o:PV)(m:Nat)(as:List PV)(σ:aa)(Q:QV):Prop:=match rY σ o with
 |some p=>xy p.1 p.2 m as σ Q
 |none=>match fQ σ o with
  |some p=>m=4/\dJ (ub as) fun q=>dJ (dq q.1) fun k=>Q ((i9 p.2 k).getD q.2) σ
  |none=>dJ (dq o) fun s=>m=5/\as=[]/\(∀c∈s,c<128)/\Q (.str (s.map fun c=>if 97<=c&&c<=122 then c-32 else c)) σ
noncomputable def xj(o:PV)(m:Nat)(σ:aa):Prop:=match o with
 |.ref a=>match σ a with
  |some (.lst _)=>m<4
  |some (.dct _)=>m=4
  |_=>False
 |.str _=>m=5
 |.obj c _=>(dg c m).isSome=true
 |.iref c d=>(dg c m).isSome=true/\match σ d with
  |some (.ins b _ _)=>b=c
  |_=>False
 |_=>False
noncomputable def Mr{b:Type}(l:List b)(i:Nat)(a:b):List b:=l.set i a
noncomputable def xz(a:ar):List Nat->List PV->Option ar
 |[],[]=>some a
 |i::b,v::vs=>xz (a.set i (some v)) b vs
 |_,_=>Option.none
noncomputable def oP(b:ar)(a:List Nat)(v:PV):Option ar:=match a,v with
 |[i],v=>some (b.set i (some v))
 |c,.tup vs=>xz b c vs
 |_,_=>Option.none
noncomputable def uf(v:PV):Option (List PV):=match v with
 |.str s=>some (s.map fun c=> .str [c])
 |.tup vs=>some vs
 |.lst vs=>some vs
 |_=>Option.none
noncomputable def sd(v:PV):Option (List PV):=match v with
 |.int n=>if -(2^62)<=n/\n<=1048576 then some ((OG n.toNat).map fun(i:Nat)=>PV.int i)else Option.none
 |_=>Option.none
noncomputable def Hd{a:Type}(l:List (String×a)):List (Str×a):=l.map fun p=>(NB p.1,p.2)
noncomputable def Ax:List (Str×PV):=Hd [("SIGNS",.str (NB "+-*/%&|^~!()[],:$=<>").cps.toList),("ESCAPE_SIGNS",.str (NB "btnfr\"'\\").cps.toList),
 ("ESCAPE_CODES",.str [8,9,10,12,13,34,39,92]),("TOP",.int 18446744073709551615),("MOST_DEPTH",.int 10),("MOST_SHIFT",.int 63),
 ("_law_NAMES",.tup (["a","b","c","d","e","_n.1$"].map fun(x:String)=>PV.str (NB x).cps.toList)),
 ("_law_BINARY",.tup (["*","/","%","<<",">>","|","&","^","+","-"].map fun(x:String)=>PV.str (NB x).cps.toList)),
 ("_law_UNARY",.tup (["-","~","!"].map fun(x:String)=>PV.str (NB x).cps.toList))]
noncomputable def ug:List Str:=Ax.map (·.1)
noncomputable def gd:List Str:=Wd NB ["append","pop","remove","reverse","get","upper","told","is_sign","place","is_done","passed","name_end","number","constant","quote","register","mark","token",
 "peek","take","is_end","skip","need","need_end","rest_place","is_number","is_symbol","negate","add","put","find","settled"]
noncomputable def cq(n:Nat):PV:=(Ax.map (·.2)).getD n .none
noncomputable def dK(f:ar->aa->(Option PV->aa->Prop)->Prop)(ZK:List Nat):List PV->ar->List PV->aa->(List PV->aa->Prop)->Prop
 |[],ρ,acc,σ,Q=>Q acc σ
 |v::r,ρ,acc,σ,Q=>∃ZY,oP ρ ZK v=some ZY/\acc.length<aU/\f ZY σ fun o Z6=>dK f ZK r ZY (match o with|some x=>acc++[x]|Option.none=>acc) Z6 Q
noncomputable def He(Q:QV):List PV->aa->Prop:=fun vs σ=>Q (.tup vs) σ
noncomputable def Ef(fr:Bool)(Q:QV):List PV->aa->Prop:=fun vs b=>match fr with
  |true=>Q (.lst vs) b
  |false=>∀a,b a=Option.none->Q (.ref a) (b.upd a (.lst vs))
noncomputable def Hf(ks:List (List Nat))(Q:QV):List PV->aa->Prop:=fun vs b=>ks.length=vs.length/\ks.Nodup/\∀a,b a=Option.none->Q (.ref a) (b.upd a (.dct (ks.zip vs)))
noncomputable def Hg(c:TB)(R:aa->QV->Prop)(Q:QV):QV:=fun a σ=>R σ fun b σ=>Ed c a b σ Q
noncomputable def Hh(Q:QV):QV:=fun a σ=>Ee a σ Q
noncomputable def Ms(Q:QV):QV:=fun a σ=>∃b,eH a σ=some b/\Q (.bool (!b)) σ
noncomputable def kB(Q:QV):Bool->aa->Prop:=fun c σ=>Q (.bool c) σ
noncomputable def Eg(d:UF)(R:aa->QV->Prop)(Q:Bool->aa->Prop):QV:=fun a σ=>R σ fun b σ=>∃c,eJ d a b σ=some c/\Q c σ
noncomputable def Eh(R:aa->QV->Prop)(b:PV)(Q:Bool->aa->Prop):Bool->aa->Prop:=fun c σ=>match c with
 |true=>R σ fun e σ=>∃a,eJ .LtE b e σ=some a/\Q a σ
 |false=>Q false σ
noncomputable def Ay(R d:aa->QV->Prop)(Q:Bool->aa->Prop):QV:=fun a σ=>R σ fun b σ=>∃c,eJ .LtE a b σ=some c/\Eh d b Q c σ
noncomputable def LK{a:Type}(R c:aa->a->Prop)(Q:a):Bool->aa->Prop:=fun b σ=>match b with|true=>R σ Q|false=>c σ Q
noncomputable def Hi(a:Nat)(Q:QV):QV:=fun v σ=>∃w,xw v a σ=some w/\Q w σ
noncomputable def Hj(R:aa->QV->Prop)(Q:QV):QV:=fun v σ=>R σ fun k σ=>∃w,bk v k σ=some w/\Q w σ
noncomputable def Hk(R a:aa->QV->Prop)(Q:QV):QV:=fun v σ=>R σ fun l σ=>a σ fun h σ=>∃w,fE v l h σ=some w/\Q w σ
noncomputable def Hl(d f:Nat)(Q:QV)(X:QX):List PV->aa->Prop:=fun vs σ=>af d (.ref f) vs σ Q X
noncomputable def Mt(b:BI)(Q:QV):List PV->aa->Prop:=fun vs σ=>GG b vs σ Q
noncomputable def Hm(d:Nat)(v:PV)(m:Nat)(Q:QV)(X:QX):List PV->aa->Prop:=fun vs σ=>match v with
 |.obj c b=>∃f,dg c m=some f/\af d (.ref f) (v::vs) σ Q X
 |.iref c a=>∃f,dg c m=some f/\af d (.ref f) (v::vs) σ Q X
 |_=>xi v m vs σ Q
noncomputable def Ei(d m:Nat)(R:aa->(List PV->aa->Prop)->Prop)(Q:QV)(X:QX):QV:=fun v σ=>xj v m σ/\R σ (Hm d v m Q X)
noncomputable def Ej(st:Bool)(Q:QV):QV:=fun v σ=>match v,st with
 |.str _,b=>Q (.bool b) σ
 |.tup _,b=>Q (.bool (!b)) σ
 |_,_=>False
noncomputable def nX:QX:=fun _ _=>False
noncomputable def Hn(R:aa->QV->Prop)(K:Option PV->aa->Prop):Bool->aa->Prop:=fun a σ=>match a with
 |true=>R σ fun v σ=>K (some v) σ
 |false=>K Option.none σ
noncomputable def uh(R:aa->(List PV->aa->Prop)->Prop)(Q:List PV->aa->Prop):QV:=fun v σ=>R σ fun vs σ=>Q (v::vs) σ
noncomputable def Ho(Q:Bool->aa->Prop):Bool->aa->Prop:=fun b σ=>Q (!b) σ
noncomputable def Hp(Q:Bool->aa->Prop):QV:=fun v σ=>∃b,eH v σ=some b/\Q b σ
noncomputable def LL(a:Bool)(R:aa->(Bool->aa->Prop)->Prop)(Q:Bool->aa->Prop):Bool->aa->Prop:=fun b σ=>if b=a then R σ Q else Q b σ
noncomputable def Mu(a:Bool)(R:aa->QV->Prop)(Q:QV):QV:=fun v σ=>∃b,eH v σ=some b/\if b=a then R σ Q else Q v σ
noncomputable def kC(R:aa->(Bool->aa->Prop)->Prop)(Q:Bool->aa->Prop):Bool->aa->Prop:=fun b σ=>match b with|true=>R σ Q|false=>Q false σ
noncomputable def Hq(Q:List PV->aa->Prop):QV:=fun v σ=>∃l,sd v=some l/\Q l σ
noncomputable def Hr(Q:List PV->aa->Prop):QV:=fun v σ=>∃l,uf v=some l/\Q l σ
mutual
noncomputable def nE(d:Nat):ME->ar->QX->aa->QV->Prop
 |.lit v,ρ,X,σ,Q=>Q v σ
 |.loc i,ρ,X,σ,Q=>match ρ[i]? with
  |some (some v)=>Q v σ
  |_=>False
 |.glb n,ρ,X,σ,Q=>Q (cq n) σ
 |.tup es,ρ,X,σ,Q=>ui d es ρ X σ (He Q)
 |.lst fr es,ρ,X,σ,Q=>ui d es ρ X σ (Ef fr Q)
 |.dct ks es,ρ,X,σ,Q=>ui d es ρ X σ (Hf ks Q)
 |.bin op l r,ρ,X,σ,Q=>nE d l ρ X σ (Hg op (nE d r ρ X) Q)
 |.neg e,ρ,X,σ,Q=>nE d e ρ X σ (Hh Q)
 |.nt e,ρ,X,σ,Q=>nE d e ρ X σ (Ms Q)
 |.bop al es,ρ,X,σ,Q=>nB d al es ρ X σ Q
 |.cmp op l r,ρ,X,σ,Q=>nE d l ρ X σ (Eg op (nE d r ρ X) (kB Q))
 |.cmp2 l m r,ρ,X,σ,Q=>nE d l ρ X σ (Ay (nE d m ρ X) (nE d r ρ X) (kB Q))
 |.ite c t e,ρ,X,σ,Q=>nT d c ρ X σ (LK (nE d t ρ X) (nE d e ρ X) Q)
 |.att o a,ρ,X,σ,Q=>nE d o ρ X σ (Hi a Q)
 |.idx o i,ρ,X,σ,Q=>nE d o ρ X σ (Hj (nE d i ρ X) Q)
 |.sli o lo hi,ρ,X,σ,Q=>nE d o ρ X σ (Hk (nE d lo ρ X) (nE d hi ρ X) Q)
 |.calF f as,ρ,X,σ,Q=>ui d as ρ X σ (Hl d f Q X)
 |.calB b as,ρ,X,σ,Q=>ui d as ρ X σ (Mt b Q)
 |.calM o m as,ρ,X,σ,Q=>nE d o ρ X σ (Ei d m (ui d as ρ X) Q X)
 |.isin e st,ρ,X,σ,Q=>nE d e ρ X σ (Ej st Q)
 |.comp fr Zp ZK Zm iter ifs,ρ,X,σ,Q=>nI d iter ρ X σ (fun Z8 Z_=>
   dK (fun ZY Z6 K=>nC d ifs ZY nX Z6 (Hn (nE d Zm ZY nX) K)) ZK Z8 (Zp.map fun o=>o.bind fun i=>(ρ[i]?).join) [] Z_ (Ef fr Q))
 |.rng e,ρ,X,σ,Q=>False
 |.tru e,ρ,X,σ,Q=>False
 |.itm e,ρ,X,σ,Q=>False
noncomputable def ui(d:Nat):List ME->ar->QX->aa->(List PV->aa->Prop)->Prop
 |[],ρ,X,σ,Q=>Q [] σ
 |e::es,ρ,X,σ,Q=>nE d e ρ X σ (uh (ui d es ρ X) Q)
noncomputable def nT(d:Nat):ME->ar->QX->aa->(Bool->aa->Prop)->Prop
 |.nt e,ρ,X,σ,Q=>nT d e ρ X σ (Ho Q)
 |.bop al es,ρ,X,σ,Q=>Hs d al es ρ X σ Q
 |.ite c t e,ρ,X,σ,Q=>nT d c ρ X σ (LK (nT d t ρ X) (nT d e ρ X) Q)
 |.cmp op l r,ρ,X,σ,Q=>nE d l ρ X σ (Eg op (nE d r ρ X) Q)
 |.cmp2 l m r,ρ,X,σ,Q=>nE d l ρ X σ (Ay (nE d m ρ X) (nE d r ρ X) Q)
 |.tru e,ρ,X,σ,Q=>nE d e ρ X σ (Hp Q)
 |_,ρ,X,σ,Q=>False
noncomputable def Hs(d:Nat)(al:Bool):List ME->ar->QX->aa->(Bool->aa->Prop)->Prop
 |[],ρ,X,σ,Q=>Q al σ
 |e::es,ρ,X,σ,Q=>nT d e ρ X σ (LL al (Hs d al es ρ X) Q)
noncomputable def nB(d:Nat)(al:Bool):List ME->ar->QX->aa->QV->Prop
 |[],ρ,X,σ,Q=>False
 |[e],ρ,X,σ,Q=>nE d e ρ X σ Q
 |e::es,ρ,X,σ,Q=>nE d e ρ X σ (Mu al (nB d al es ρ X) Q)
noncomputable def nC(d:Nat):List ME->ar->QX->aa->(Bool->aa->Prop)->Prop
 |[],ρ,X,σ,Q=>Q true σ
 |e::es,ρ,X,σ,Q=>nT d e ρ X σ (kC (nC d es ρ X) Q)
noncomputable def nI(d:Nat):ME->ar->QX->aa->(List PV->aa->Prop)->Prop
 |.rng e,ρ,X,σ,Q=>nE d e ρ X σ (Hq Q)
 |.itm e,ρ,X,σ,Q=>nE d e ρ X σ (Hr Q)
 |_,ρ,X,σ,Q=>False
end
noncomputable abbrev cR(d:Nat)(e:ME)(a:ar)(σ:aa)(Q:QV)(X:QX):Prop:=nE d e a X σ Q
noncomputable abbrev mG(d:Nat)(e:List ME)(a:ar)(σ:aa)(Q:List PV->aa->Prop)(X:QX):Prop:=ui d e a X σ Q
noncomputable abbrev fT(d:Nat)(e:ME)(a:ar)(σ:aa)(Q:Bool->aa->Prop)(X:QX):Prop:=nT d e a X σ Q
noncomputable abbrev Ek(d:Nat)(a:Bool)(e:List ME)(b:ar)(σ:aa)(Q:Bool->aa->Prop)(X:QX):Prop:=Hs d a e b X σ Q
noncomputable abbrev El(d:Nat)(a:Bool)(e:List ME)(b:ar)(σ:aa)(Q:QV)(X:QX):Prop:=nB d a e b X σ Q
noncomputable abbrev ja(d:Nat)(e:List ME)(a:ar)(σ:aa)(Q:Bool->aa->Prop)(X:QX):Prop:=nC d e a X σ Q
noncomputable abbrev Em(d:Nat)(e:ME)(a:ar)(σ:aa)(Q:List PV->aa->Prop)(X:QX):Prop:=nI d e a X σ Q
noncomputable abbrev QS:=Option PV->ar->aa->Prop
noncomputable def bD(c:ar->aa->(Bool->aa->Prop)->Prop)(b:ar->aa->QS->Prop):Nat->ar->aa->QS->Prop
 |0,_,_,_=>False
 |n+1,ρ,σ,K=>c ρ σ fun t Z_=>match t with
  |true=>b ρ Z_ fun o ZY Z6=>match o with
   |some v=>K (some v) ZY Z6
   |Option.none=>bD c b n ZY Z6 K
  |false=>K Option.none ρ Z_
noncomputable def bt(b:ar->aa->QS->Prop)(ZK:List Nat):List PV->ar->aa->QS->Prop
 |[],ρ,σ,K=>K Option.none ρ σ
 |v::r,ρ,σ,K=>∃ZY,oP ρ ZK v=some ZY/\b ZY σ fun o ρ'' Z6=>match o with
  |some v=>K (some v) ρ'' Z6
  |Option.none=>bt b ZK r ρ'' Z6 K
noncomputable def ge(as:List Nat)(vs:List PV)(a:Nat)(v:PV):List Nat×List PV:=match as.idxOf? a with
 |some j=>(as,vs.set j v)
 |Option.none=>(as++[a],vs++[v])
noncomputable def mH(o:PV)(a:Nat)(v:PV)(σ:aa)(K:aa->Prop):Prop:=match o with
 |.iref c d=>match σ d with
  |some (.ins b as vs)=>b=c/\as.length<=100/\(aO c).contains a=true/\K (σ.upd d (.ins c (ge as vs a v).1 (ge as vs a v).2))
  |_=>False
 |_=>False
noncomputable def qn(o i v:PV)(σ:aa)(K:aa->Prop):Prop:=match o,i with
 |.ref a,.int k=>match σ a with
  |some (.lst vs)=>0<=k/\k.toNat<vs.length/\K (σ.upd a (.lst (vs.set k.toNat v)))
  |_=>False
 |.ref a,.str k=>match σ a with
  |some (.dct kvs)=>kvs.length<aU/\K (σ.upd a (.dct (rX kvs k v)))
  |_=>False
 |_,_=>False
noncomputable def eq(f:Nat):Nat:=if f=87 then 0 else 1
noncomputable def uj(R:ar->aa->QS->Prop)(K:QS):QS:=fun o ρ σ=>match o with
 |some v=>K (some v) ρ σ
 |Option.none=>R ρ σ K
noncomputable def En(i:Nat)(a:ar)(K:QS):QV:=fun v σ=>K Option.none (a.set i (some v)) σ
noncomputable def Eo(b:List Nat)(c:ar)(K:QS):QV:=fun v σ=>∃vs a,v= .tup vs/\xz c b vs=some a/\K Option.none a σ
noncomputable def Ht(a:ar)(K:QS):aa->Prop:=fun σ=>K Option.none a σ
noncomputable def Ep(R:aa->QV->Prop)(a:Nat)(b:ar)(K:QS):QV:=fun v σ=>R σ fun c σ=>mH c a v σ (Ht b K)
noncomputable def Er(R a:aa->QV->Prop)(b:ar)(K:QS):QV:=fun v σ=>R σ fun c σ=>a σ fun iv σ=>qn c iv v σ (Ht b K)
noncomputable def Hu(a:ar)(K:QS):QV:=fun _ σ=>K Option.none a σ
noncomputable def Es(a:ar)(K:QS):QV:=fun v σ=>K (some v) a σ
noncomputable def Hv(R c:ar->aa->QS->Prop)(a:ar)(K:QS):Bool->aa->Prop:=fun b σ=>match b with|true=>R a σ K|false=>c a σ K
noncomputable def Hw(R:ar->aa->QS->Prop)(b:List Nat)(c:ar)(K:QS):List PV->aa->Prop:=fun a σ=>bt R b a c σ K
mutual
noncomputable def nS(d:Nat):MS->QX->ar->aa->QS->Prop
 |.asg i e,X,ρ,σ,K=>nE d e ρ X σ (En i ρ K)
 |.asgT is e,X,ρ,σ,K=>nE d e ρ X σ (Eo is ρ K)
 |.asgA o a e,X,ρ,σ,K=>nE d e ρ X σ (Ep (nE d o ρ X) a ρ K)
 |.asgS o i e,X,ρ,σ,K=>nE d e ρ X σ (Er (nE d o ρ X) (nE d i ρ X) ρ K)
 |.expr e,X,ρ,σ,K=>nE d e ρ X σ (Hu ρ K)
 |.ite c t e,X,ρ,σ,K=>nT d c ρ X σ (Hv (xk d t X) (xk d e X) ρ K)
 |.whl c b,X,ρ,σ,K=>∃n,bD (fun ρ σ K'=>nT d c ρ X σ K') (xk d b X) n ρ σ K
 |.forl ZK it b,X,ρ,σ,K=>nI d it ρ X σ (Hw (xk d b X) ZK ρ K)
 |.ret e,X,ρ,σ,K=>nE d e ρ X σ (Es ρ K)
 |.rai f as,X,ρ,σ,K=>ui d as ρ X σ (fun vs Z6=>1<=d/\(f=87\/f=99)/\(∃m r,vs= .str m::r/\r.length<=1)/\X (eq f) Z6)
 |.asgc i e,X,ρ,σ,K=>nE d e ρ X σ (fun v Z6=>ρ[i]? =some Option.none/\K Option.none (ρ.set i (some v)) Z6)
 |.tryR e cls,X,ρ,σ,K=>nE d e ρ (fun c Z6=>c=cls/\K (some .none) ρ Z6) σ (Es ρ K)
 |.tryA i e cls,X,ρ,σ,K=>nE d e ρ (fun c Z6=>c=cls/\K Option.none (ρ.set i (some .none)) Z6) σ (En i ρ K)
noncomputable def xk(d:Nat):List MS->QX->ar->aa->QS->Prop
 |[],X,ρ,σ,K=>K Option.none ρ σ
 |s::ss,X,ρ,σ,K=>nS d s X ρ σ (uj (xk d ss X) K)
end
noncomputable abbrev Hx(d:Nat)(e:MS)(a:ar)(σ:aa)(K:QS)(X:QX):Prop:=nS d e X a σ K
noncomputable abbrev ai(d:Nat)(e:List MS)(a:ar)(σ:aa)(K:QS)(X:QX):Prop:=xk d e X a σ K
set_option genCtorIdx true
mutual
noncomputable def kg:PV->V6
 |.none=> .none
 |.bool b=> .bool b
 |.int i=> .int i
 |.str s=> .str ⟨s.toArray⟩
 |.tup vs=> .tuple (jb vs)
 |.lst vs=> .list (jb vs)
 |_=> .none
noncomputable def jb:List PV->List V6
 |[]=>[]
 |v::vs=>kg v::jb vs
end
theorem mI{m:PV->Nat->Prop}{k:List PV->Nat->Prop}(h0:∀n,m .none n)(hi:∀i n,m (.int i) n)(hs:∀s n,m (.str s) n)(d:∀a n,k a n->m (.tup a) (n+1))(e:∀a n,k a n->m (.lst a) (n+1))
  (f:∀n,k [] n) (g:∀v vs n,m v n->k vs n->k (v::vs) n):(∀v n,b_ v n=true->m v n)/\∀vs n,bb vs n=true->k vs n:=
 have c:∀v vs,(∀n,b_ v n=true->m v n)->(∀n,bb vs n=true->k vs n)->∀n,bb (v::vs) n=true->k (v::vs) n:=fun v vs j l n h=>g v vs n (j n (cD h).1) (l n (cD h).2)
 ⟨fun v=>PV.rec (motive_1:=fun v=>∀n,b_ v n=true->m v n) (motive_2:=fun vs=>∀n,bb vs n=true->k vs n) (fun n _=>h0 n) (fun _ _ h=>aK h) (fun i n _=>hi i n) (fun s n _=>hs s n) (fun a b n=>n.casesOn (fun h=>aK h) fun n h=>d a n (b n h))
  (fun a b n=>n.casesOn (fun h=>aK h) fun n h=>e a n (b n h)) (fun _ _ _ _ h=>aK h) (fun _ _ h=>aK h) (fun _ _ _ h=>aK h) (fun n _=>f n) c v,
 fun v=>PV.rec_1 (motive_1:=fun v=>∀n,b_ v n=true->m v n) (motive_2:=fun vs=>∀n,bb vs n=true->k vs n) (fun n _=>h0 n) (fun _ _ h=>aK h) (fun i n _=>hi i n) (fun s n _=>hs s n) (fun a b n=>n.casesOn (fun h=>aK h) fun n h=>d a n (b n h))
  (fun a b n=>n.casesOn (fun h=>aK h) fun n h=>e a n (b n h)) (fun _ _ _ _ h=>aK h) (fun _ _ h=>aK h) (fun _ _ _ h=>aK h) (fun n _=>f n) c v⟩
noncomputable def DR(h:Og)(d:V6)(x:M4):Prop:=d.canLay0=true/\∃as,Reads h x d as
noncomputable def LM(h:Og)(d:List V6)(x:List M4):Prop:=PyData.canLayAll0 d=true/\∃as,ReadsAll h x d as
noncomputable def GH(fz:Fz)(h:Og):Prop:=∀a o,fz a=some o->h.get? a=some o
theorem qo:(∀(v:PV)(n:Nat),b_ v n=true->(kg v).depth<=n/\∀(P:Nk)(fz:Fz)(h:Og)(x:M4),GH fz h->VR P fz v x->DR h (kg v) x)/\∀(v:List PV)(n:Nat),bb v n=true->Ss (jb v)<=n/\∀(P:Nk)(fz:Fz)(h:Og)(x:List M4),GH fz h->aL P fz v x->LM h (jb v) x:=by
 refine mI (fun n=>⟨NJ n,fun _ _ _ _ _ r=>?_⟩) (fun _ n=>⟨NJ n,fun _ _ _ _ _ r=>?_⟩) (fun _ n=>⟨NJ n,fun _ _ _ _ _ r=>?_⟩) (fun _ n b=>⟨Ny b.1,fun _ _ _ _ k r=>?_⟩) (fun _ n b=>⟨Ny b.1,fun _ _ _ _ k r=>?_⟩)
  (fun n=>⟨NJ n,fun _ _ _ _ _ r=>?_⟩) fun _ _ n d e=>⟨Nat.max_le.mpr ⟨d.1,e.1⟩,fun _ _ _ _ k r=>?_⟩
 .cases r.inv;exact⟨rfl,_,.none⟩
 .obtain⟨t,rfl⟩:=r.inv;exact⟨rfl,_,.int ..⟩
 .obtain⟨t,rfl,hs⟩:=r.inv;exact⟨Array.all_eq_true_iff_forall_mem.mpr fun c o=>NH (hs.2 c (by simpa using o)),_,.str ..⟩
 .apply bc;intro f;obtain⟨a,ws,_,rfl,l,_,g⟩:=r.inv;obtain⟨i,as,j⟩:=b.2 _ _ _ _ k g;apply f;exact⟨i,_,.tuple (k _ _ l) rfl rfl j⟩
 .apply bc;intro f;obtain⟨a,ws,_,rfl,l,_,g⟩:=r.inv;obtain⟨i,as,j⟩:=b.2 _ _ _ _ k g;apply f;exact⟨i,_,.list (k _ _ l) rfl rfl j⟩
 .cases r.inv;exact⟨rfl,_,.nil⟩
 .apply bc;intro f;obtain⟨_,_,rfl,g,m⟩:=r.inv;obtain⟨i,as,j⟩:=d.2 _ _ _ _ k g;obtain⟨p,s,q⟩:=e.2 _ _ _ _ k m;apply f;exact⟨Aw i p,_,.cons j q⟩
theorem dL(v:PV)(n:Nat)(h:b_ v n=true):(kg v).depth<=n/\∀(P:Nk)(fz:Fz)(h:Og)(x:M4),GH fz h->VR P fz v x->DR h (kg v) x:=qo.1 v n h
theorem jc(v:List PV)(n:Nat)(h:bb v n=true):Ss (jb v)<=n/\∀(P:Nk)(fz:Fz)(h:Og)(x:List M4),GH fz h->aL P fz v x->LM h (jb v) x:=qo.2 v n h
theorem c_{m:PV->Prop}(h0:m .none)(hi:∀i,m (.int i))(hs:∀s,m (.str s))(b:∀a n,bb a n=true->m (.tup a))(c:∀a n,bb a n=true->m (.lst a))(v:PV)(n:Nat)(h:b_ v n=true):m v:=
 PV.casesOn (motive_1:=fun v=>b_ v n=true->m v) v (fun _=>h0) (fun _ h=>aK h) (fun i _=>hi i) (fun s _=>hs s) (fun a=>n.casesOn (fun h=>aK h) fun n h=>b a n h)
  (fun a=>n.casesOn (fun h=>aK h) fun n h=>c a n h) (fun _ _ h=>aK h) (fun _ h=>aK h) (fun _ _ h=>aK h) h
theorem xA:(∀(a:PV)(n:Nat),b_ a n=true->∀b m,b_ b m=true->TM (kg a) (kg b)=fC a b)/\∀(a:List PV)(n:Nat),bb a n=true->∀b m,bb b m=true->PyData.eqvAll (jb a) (jb b)=dX a b:=by
 refine mI (fun n=>?_) (fun i n=>?_) (fun s n=>?_) (fun a n c=>?_) (fun a n c=>?_) (fun n b m d=>?_) fun v vs n e f b m d=>?_
 .exact c_ rfl (fun _=>rfl) (fun _=>rfl) (fun _ _ _=>rfl) fun _ _ _=>rfl
 .exact c_ rfl (fun _=>rfl) (fun _=>rfl) (fun _ _ _=>rfl) fun _ _ _=>rfl
 .exact c_ rfl (fun _=>rfl) (fun i=>Bool.eq_iff_iff.mpr (beq_iff_eq.trans (Iff.trans ⟨fun h=>Up (Str.mk.inj h),fun h=>h▸rfl⟩ beq_iff_eq.symm))) (fun _ _ _=>rfl) fun _ _ _=>rfl
 .exact c_ rfl (fun _=>rfl) (fun _=>rfl) (fun b n h=>c b n h) fun _ _ _=>rfl
 .exact c_ rfl (fun _=>rfl) (fun _=>rfl) (fun _ _ _=>rfl) fun b n h=>c b n h
 .cases b<;>rfl
 .cases b with
  |nil=>rfl
  |cons b g=>exact(Np (·&&_) (e b m (cD d).1)).trans (Np (_&&·) (f g m (cD d).2))
theorem qp(a b:PV)(n m:Nat)(c:b_ a n=true)(d:b_ b m=true):TM (kg a) (kg b)=fC a b:=xA.1 a n c b m d
theorem uk(n m:Nat)(x:PV)(a:b_ x m=true)(vs:List PV)(h:bb vs n=true):((jb vs).any fun y=>TM y (kg x))=vs.any fun v=>fC v x:=by
 induction vs with
 |nil=>rfl
 |cons v vs b=>exact(Np (·||_) (qp v x n m (cD h).1 a)).trans (Np (_||·) (b (cD h).2))
section
variable{C:Cx}{A:NN}{FR:List Nw}{σ:aa}{fz:Fz}{s:M7}{E:M4->M7->Prop}
noncomputable def hW(C:Cx)(σ:aa)(fz:Fz)(h:Og)(p:PV)(v:M4):Prop:=match p with
 |.tup vs=>∃a ws,v= .ref a/\IsTup h a ws/\aL C.P fz vs ws.toList/\fb vs
 |.lst vs=>∃a ws,v= .ref a/\h.IsList a ws/\aL C.P fz vs ws.toList/\fb vs
 |p=>VR C.P fz p v
theorem mJ(σ:aa)(a:Nw):(∃vs,σ a=some (.lst vs)/\(PV.ref a).seen σ= .lst vs)\/(PV.ref a).seen σ= .ref a:=by
 show(∃vs,σ a=some (.lst vs)/\(match σ a with|some (.lst vs)=>PV.lst vs|_=>PV.ref a)= .lst vs)\/(match σ a with|some (.lst vs)=>PV.lst vs|_=>PV.ref a)= .ref a;generalize σ a=m;cases m with
 |none=>exact .inr rfl
 |some m=>
  cases m with
  |lst vs=>exact .inl ⟨vs,rfl,rfl⟩
  |_=>exact .inr rfl
theorem iH(G:aw C σ fz FR s.heap){p:PV}{v:M4}:VR C.P fz p v->hW C σ fz s.heap (p.seen σ) v:=
 PV.casesOn (motive_1:=fun p=>VR C.P fz p v->hW C σ fz s.heap (p.seen σ) v) p id (fun _=>id) (fun _=>id) (fun _=>id)
  (fun vs r=>by obtain⟨a,ws,n,e,d,b,c⟩:=r.inv;exact⟨a,ws.toArray,e,⟨_,G.sub _ _ d,rfl,_,rfl⟩,c,b⟩) (fun vs r=>by obtain⟨a,ws,n,e,d,b,c⟩:=r.inv;exact⟨a,ws.toArray,e,⟨_,G.sub _ _ d,rfl,_,rfl⟩,c,b⟩) (fun _ _=>id)
  (fun a r=>by
   rcases mJ σ a with⟨vs,q,e⟩|e
   .apply bc;intro f;obtain⟨_,o,g,h⟩:=G.led a _ q;obtain⟨ws,n,rfl,b,c⟩:=h.inv;apply f;rw[e];exact⟨a,ws.toArray,r.inv,⟨_,g,rfl,_,rfl⟩,c,b⟩
   .rw[e];exact r) fun _ _=>id
theorem bN(G:aw C σ fz FR s.heap){p q:PV}{v:M4}(r:VR C.P fz p v)(h:p.seen σ=q):hW C σ fz s.heap q v:=h▸iH G r
theorem kh{σ:aa}{p:PV}{b:Bool}:p.seen σ= .bool b->p= .bool b:=
 PV.casesOn (motive_1:=fun p=>p.seen σ= .bool b->p= .bool b) p id (fun _=>id) (fun _=>id) (fun _=>id) (fun _=>id) (fun _=>id) (fun _ _=>id) (fun a h=>by
  rcases mJ σ a with⟨_,_,e⟩|e<;>exact PV.noConfusion (e.symm.trans h)) fun _ _=>id
theorem hW.data(G:aw C σ fz FR s.heap)(r:hW C σ fz s.heap q v)(n:Nat)(c:b_ q n=true):
  (kg q).canLay0=true/\(kg q).depth<=n/\∃as,Reads s.heap v (kg q) as:=by
 have z:DR s.heap (kg q) v:=by
  refine c_ (m:=fun q=>hW C σ fz s.heap q v->DR s.heap (kg q) v) (fun r=>(dL .none 0 rfl).2 _ _ _ _ G.sub r) (fun i r=>(dL (.int i) 0 rfl).2 _ _ _ _ G.sub r) (fun i r=>(dL (.str i) 0 rfl).2 _ _ _ _ G.sub r) (fun vs n c r=>?_) (fun vs n c r=>?_) q n c r
  .apply bc;intro d;obtain⟨a,ws,rfl,⟨o,e,f,h,b⟩,g,_⟩:=r;obtain⟨g1,as,g2⟩:=(jc vs n c).2 _ _ _ _ G.sub g;apply d;exact⟨g1,_,.tuple e f b g2⟩
  .apply bc;intro d;obtain⟨a,ws,rfl,⟨o,e,f,h,b⟩,g,_⟩:=r;obtain⟨g1,as,g2⟩:=(jc vs n c).2 _ _ _ _ G.sub g;apply d;exact⟨g1,_,.list e f b g2⟩
 exact⟨z.1,(dL q n c).1,z.2⟩
theorem aX{c a:Type}{R:Fz->a->c->Prop}{Q:a->aa->Prop}{b:a}{v:c}(G:aw C σ fz FR s.heap)(r:R fz b v)(q:Q b σ):PK C FR σ fz s R Q v s:=
 ⟨b,σ,fz,.refl G,r,q⟩
theorem aV{c a:Type}{R:Fz->a->c->Prop}{Q:a->aa->Prop}{b:a}{v:c}{k:Nat}(G:aw C σ fz FR s.heap)(r:R fz b v)(q:Q b σ):PK C FR σ fz s R Q v {s with toks:=k}:=
 ⟨b,σ,fz,.keep G (fun _ _ h=>h),r,q⟩
noncomputable abbrev RB:Fz->Bool->M4->Prop:=fun _ b v=>v= .bool b
theorem GI(d:∀{Q:M4->M7->Prop},Q (.bool c) s->Nm C.M A (Pa .Eq x y) Q E s)(e:∀{Q:M4->M7->Prop},Q (.bool !c) s->Nm C.M A (Pa .NotEq x y) Q E s){Q:M4->M7->Prop}(a:Bool)(b:Q (.bool (a^^c)) s):Nm C.M A (Pa (if a then .NotEq else .Eq) x y) Q E s:=by
 cases a with
 |false=>exact d (by cases c<;>exact b)
 |true=>exact e (by cases c<;>exact b)
theorem ul:mE p=true->p= .lst []:=
 PV.casesOn (motive_1:=fun p=>mE p=true->p= .lst []) p aK (fun _=>aK) (fun _=>aK) (fun _=>aK) (fun _=>aK) (fun l=>List.casesOn (motive:=fun l=>mE (.lst l)=true->PV.lst l= .lst []) l (fun _=>rfl) fun _ _=>aK) (fun _ _=>aK) (fun _=>aK) fun _ _=>aK
theorem aL.nil_inv{P:Nk}{fz:Fz}{x:Array M4}(h:aL P fz [] x.toList):x=#[]:=Array.toList_inj.mp h.inv
theorem Et{x y:M4}{l g:Nw}{ws c:Array M4}{vs:List PV}(n:x= .ref l)(o:y= .ref g)(d:s.heap.IsList l ws)(a:s.heap.IsList g c)(i:aL C.P fz vs ws.toList)(p:aL C.P fz [] c.toList)(f:A.units<Tx){Q:M4->M7->Prop}(b:Bool)(k:Q (.bool (b^^vs.isEmpty)) s):
  Nm C.M A (Pa (if b then .NotEq else .Eq) x y) Q E s:=by
 subst n o;cases p.nil_inv;cases vs with
 |nil=>cases i.nil_inv;exact GI (SeqAt.RcAt.lists (e:=fun _=>true) d a rfl f (fun j h=>absurd h (RC j)) _ _ _ _) (SeqAt.RcNeAt.lists (e:=fun _=>true) d a rfl f (fun j h=>absurd h (RC j)) _ _ _ _) b k
 |cons v vs=>
  apply bc;intro q;obtain⟨y,ys,e,_,_⟩:=i.inv;apply q;have m:(ws.size != (#[]:Array M4).size)=true:=(Np (fun l:List M4=>l.length != 0) e:_)
  exact GI (SeqAt.RcAt.lists_lengths d a m f _ _ _ _) (SeqAt.RcNeAt.lists_lengths d a m f _ _ _ _) b k
theorem um(G:aw C σ fz FR s.heap)(t:A.units+64<Tx){a b:PV}{x y:M4}(g:VR C.P fz a x)(i:VR C.P fz b y){c:Bool}(h:fM a b σ=some c){Q:M4->M7->Prop}(d:Bool)
  (f:Q (.bool (d^^c)) s):Nm C.M A (Pa (if d then .NotEq else .Eq) x y) Q E s:=by
 unfold fM at h;cases j:i_ (a.seen σ)with
 |some p=>rw[j]at h;refine cn h fun q F k=>?_;subst k;obtain rfl:=kh (i' j);obtain rfl:=kh (i' F);cases g.inv;cases i.inv;exact GI eq_bool (fun h=>ne_bool (by cases p<;>cases q<;>exact h)) d f
 |none=>
  rw[j]at h;by_cases hi:(xr (a.seen σ)&&xr (b.seen σ))=true
  .have i0:=ce hi h;injection i0 with z0;subst z0
   apply bc;intro m;obtain⟨u,d1,as,v⟩:=(iH G g).data G 60 (cD hi).1;obtain⟨w,d2,V,z⟩:=(iH G i).data G 60 (cD hi).2;apply m;have D:=M9 (NG (M1 (QG (kg (a.seen σ)).depth (kg (b.seen σ)).depth) (M1 d1 (by decide))) A.units) t;rw[←qp _ _ 60 60 (cD hi).1 (cD hi).2]at f;exact GI (SeqAt.compareEq_reads v z u w D) (SeqAt.compareNe_reads v z u w D) d f
  .have h:=bU hi h;by_cases n:mE (b.seen σ)=true
   .apply bc;intro m;refine cn (ce n h) fun vs H k=>?_;subst k;obtain⟨l,ws,ex,K,o,_⟩:=bN G g (du H);obtain⟨W,L,O,r,e,_⟩:=bN G i (ul n);apply m;exact Et ex O K r o e (M9 (Nh _ _) t) d f
   .exact aj (bU n h)
end
set_option tactic.hygienic true
section
variable{C:Cx}{A:NN}{FR:List Nw}{σ:aa}{fz:Fz}{s:M7}{E:M4->M7->Prop}
theorem eK(s:List Nat):(⟨s.toArray⟩:Str).length=s.length:=by simp[V5]
theorem aA:16777216<=PT:=by decide
theorem kZ{a:Type}{ws:Array a}{l:List a}(e:ws.toList=l):ws=l.toArray:=by cases ws;exact Np _ e
theorem qq{P:Nk}{fz:Fz}{ws:Array M4}{vs:List PV}(a:aL P fz vs ws.toList)(b:fb vs):ws.isEmpty=vs.isEmpty/\ws.size<2^63:=by
 refine⟨?_,M9 (a.length▸b:ws.toList.length<=1048576) (by decide)⟩;cases vs with
 |nil=>rw[kZ a.inv];rfl
 |cons v vs=>obtain⟨y,ys,e,_⟩:=a.inv;rw[kZ e];rfl
theorem gU(G:aw C σ fz FR s.heap)(o:VR C.P fz a x)(h:eH a σ=some c){Q:Bool->M7->Prop}
 (g:∀k,Q c {s with toks:=k}):Nm C.M A (Uc x) Q E s:=by
 have f:Q c s:=g s.toks;refine PV.casesOn (motive_1:=fun v=>Ec v=some c->hW C σ fz s.heap v x->Nm C.M A (Uc x) Q E s) (a.seen σ) (fun h d=>?_) (fun b h d=>?_) (fun i h d=>?_) (fun t h d=>?_) (fun vs h d=>?_) (fun vs h d=>?_) (fun _ _=>aj) (fun _=>aj) (fun _ _=>aj) h (iH G o)
 .injection h with z0;subst z0;cases d.inv;exact truthy_none f
 .injection h with z0;subst z0;cases d.inv;exact Qm f
 .injection h with z0;subst z0;obtain⟨t,rfl⟩:=d.inv;exact P.truthy_int f
 .injection h with z0;subst z0
  obtain⟨tk,rfl,hs⟩:=d.inv;refine P.truthy_str (Int.not_le.mpr (Int.ofNat_lt.mpr (M9 hs.1 (by decide:1048576<2^63)))) ?_;cases t<;>exact g _
 .injection h with z0;subst z0
  obtain⟨l,ws,rfl,j,m,n⟩:=d;obtain⟨e,k⟩:=qq m n;exact truthy_tuple j (Int.ofNat_lt.mpr k) (by rw[e];exact g _)
 .injection h with z0;subst z0
  obtain⟨l,ws,rfl,j,m,n⟩:=d;obtain⟨e,k⟩:=qq m n;exact wpAny_truthy_list j (Int.ofNat_lt.mpr k) (by rw[e];exact g _)
theorem Bf(h:xr x=true){fz:Fz}{b:Og}{C:Cx}(k:∀a o,fz a=some o->b.get? a=some o)(r:VR C.P fz x v):
  (kg x).canLay0=true/\(kg x).depth<=60/\∃as,Reads b v (kg x) as:=by
 have f:=dL x 60 h;obtain⟨g1,g2⟩:=f.2 C.P fz b v k r;exact⟨g1,f.1,g2⟩
theorem dI.pairs(w:OU){fz:Fz}{ns:List Str}{vs:List PV}{es:List N0}(h:dI w.params fz ns vs es):
  Pairs (strKind pw w) es (ns.zip (es.map (·.val)))/\(∀e∈es,∃k,(strKind pw w).is k e.key=true/\e.hash=(strKind pw w).hash k)/\aL w.params fz vs (es.map (·.val))/\ns.length=es.length/\vs.length=es.length:=by
 refine h.ind (m:=fun ns vs es=>Pairs (strKind pw w) es (ns.zip (es.map (·.val)))/\(∀e∈es,∃k,(strKind pw w).is k e.key=true/\e.hash=(strKind pw w).hash k)/\aL w.params fz vs (es.map (·.val))/\ns.length=es.length/\vs.length=es.length) ⟨.nil,(fun e h=>by cases h),.nil,rfl,rfl⟩ fun{n ns v vs e es} b h _ a=>?_;apply bc;intro c;obtain⟨d,t,f⟩:=b;apply c;have k:(strKind pw w).is n e.key=true:=by rw[f];exact Pw pw w _ t
 exact⟨.cons k rfl a.1,List.forall_mem_cons.mpr ⟨⟨_,k,d⟩,a.2.1⟩,.cons h a.2.2.1,Np (·+1) a.2.2.2.1,Np (·+1) a.2.2.2.2⟩
theorem dI.of_pairs(w:OU){fz:Fz}{kvs:List (Str×M4)}{es:List N0}(b:Pairs (strKind pw w) es kvs):∀{vs:List PV},
  (∀e∈es,∃k,(strKind pw w).is k e.key=true/\e.hash=(strKind pw w).hash k)->aL w.params fz vs (kvs.map (·.2))->dI w.params fz (kvs.map (·.1)) vs es:=by
 induction b with
 |nil=>intro vs _ h;cases vs with
  |nil=>exact .nil
  |cons v vs=>obtain⟨_,_,e,_⟩:=h.inv;exact A' e
 |cons c f b g=>
  intro vs d h;cases vs with
  |nil=>exact kT h.inv
  |cons v vs=>
   apply bc;intro i;obtain⟨_,_,e,j,a⟩:=h.inv;injection e with z0 z1;subst z0 z1
   obtain⟨k,l,m⟩:=d _ M_;obtain⟨t,n⟩:=RY c;apply i;obtain rfl:=(strKind pw w).inj _ _ _ l c;exact .cons ⟨m,t,n⟩ (f▸j) (g (fun e o=>d e (Nb _ o)) a)
theorem da(h:aq a=aq b):a=b:=Up (Np Str.cps h)
inductive gf(P:Nk)(fz:Fz):List (List Nat×PV)->List (Str×M4)->Prop
 |nil:gf P fz [] []
 |cons {k:List Nat} {p:PV} {kvs:List (List Nat×PV)} {v:M4} {r:List (Str×M4)} (h:VR P fz p v) (t:gf P fz kvs r):gf P fz ((k,p)::kvs) ((aq k,v)::r)
section
variable{P:Nk}{fz:Fz}{k:List Nat}{kvs:List (List Nat×PV)}{r:List (Str×M4)}
theorem gf.of:∀{xs:List M4},aL P fz (kvs.map (·.2)) xs->gf P fz kvs ((kvs.map fun k=>aq k.1).zip xs):=by
 induction kvs with
 |nil=>intro xs h;exact .nil
 |cons a r b=>intro xs h;obtain⟨_,_,rfl,c,hs⟩:=h.inv;exact .cons c (b hs)
theorem gf.keys(h:gf P fz kvs r):r.map (·.1)=kvs.map fun k=>aq k.1:=by
 induction h with
 |nil=>rfl
 |cons _ _ a=>exact Np (_::·) a
theorem gf.len(h:gf P fz kvs r):r.length=kvs.length:=by
 induction h with
 |nil=>rfl
 |cons _ _ a=>exact Np (·+1) a
theorem gf.vals(h:gf P fz kvs r):aL P fz (kvs.map (·.2)) (r.map (·.2)):=by
 induction h with
 |nil=>exact .nil
 |cons h _ a=>exact .cons h a
theorem ki(a:List Nat):decide (aq a=aq k)=decide (a=k):=decide_eq_decide.mpr ⟨da,Np _⟩
theorem gf.valueAt(h:gf P fz kvs r):(∀p,i9 kvs k=some p->∃v,PySem.valueAt r (aq k)=some v/\VR P fz p v)/\(i9 kvs k=none->PySem.valueAt r (aq k)=none):=by
 induction h with
 |nil=>exact⟨fun p=>aj,fun _=>rfl⟩
 |cons h t a=>
  rename_i b d kvs e r;unfold i9 PySem.valueAt at a⊢;rw[QA,QA,ki];cases decide (b=k)with
  |true=>exact⟨fun p c=>⟨_,rfl,Na c▸h⟩,ba⟩
  |false=>exact a
theorem gf.any(h:gf P fz kvs r):(r.any fun kv=>decide (kv.1=aq k))=kvs.any fun kv=>decide (kv.1=k):=by
 induction h with
 |nil=>rfl
 |cons h t a=>rw[O8,O8,a,ki]
theorem gf.map(b:VR P fz p v)(h:gf P fz kvs r):gf P fz (kvs.map fun kv=>if kv.1=k then(kv.1,p)else kv) (r.map fun kv=>if kv.1=aq k then(kv.1,v)else kv):=by
 induction h with
 |nil=>exact .nil
 |cons h t a=>
  rename_i c _ _ _ _;rw[NO,NO];by_cases e:c=k
  .rw[M8 e,M8 (Np _ e)];exact .cons b a
  .rw[M5 e,M5 fun q=>e (da q)];exact .cons h a
theorem gf.snoc(a:VR P fz p v)(h:gf P fz kvs r):gf P fz (kvs++[(k,p)]) (r++[(aq k,v)]):=by
 induction h with
 |nil=>exact .cons a .nil
 |cons h _ b=>exact .cons h b
end
theorem gf.stored{P:Nk}{fz:Fz}(a:VR P fz p v)(h:gf P fz kvs r):gf P fz (rX kvs k p) (PySem.stored r (aq k) v):=by
 unfold rX PySem.stored;rw[h.any];split
 .exact h.map a
 .exact h.snoc a
theorem dZ(G:aw C σ fz FR s.heap){a:Nw}{kvs:List (List Nat×PV)}(h:σ a=some (.dct kvs)):
  ∃r,s.heap.DictOf (strKind pw C.w) a r/\gf C.P fz kvs r/\fb kvs/\(∀k∈kvs,fa k.1)/\(kvs.map (·.1)).Nodup:=by
 apply bc;intro c;obtain⟨_,o,i,j⟩:=G.led a _ h;apply c;cases j with
 |dct l m f n=>apply bc;intro c;obtain⟨p1,p,t,v,x⟩:=dI.pairs C.w n;apply c;have g:=gf.of t;refine⟨_,⟨_,_,_,i,⟨rfl,rfl,rfl⟩,rfl,fun e u=>p e (by simpa using u),by simpa using p1,?_⟩,g,l,m,f⟩;rw[g.keys,show(fun k:List Nat×PV=>aq k.1)=aq∘(·.1)from rfl,←Oq];exact Qt _ (fun a b d q=>d (da q)) f
theorem k9{h:Og}(p:h.DictOf (strKind pw C.w) a r)(i:gf C.P fz kvs r)(s:fb kvs)(t:∀k∈kvs,fa k.1):
  ∃o,h.get? a=some o/\MR C.P fz (.dct kvs) o:=by
 apply bc;intro u;obtain⟨⟨c,d,A,D⟩,es,E,v,⟨j,l,m⟩,n,x,y,f⟩:=p;apply u;simp only at j l m n;subst j l m n;refine⟨_,v,?_⟩;have:=dI.of_pairs C.w (fz:=fz) (vs:=kvs.map (·.2)) y (fun e z=>x e (by simpa using z)) i.vals;rw[i.keys]at this f;have e:(es:Array N0)=es.toList.toArray:=by simp
 rw[e];refine MR.dct s t ?_ this;rw[show(fun k:List Nat×PV=>aq k.1)=aq∘(·.1)from rfl,←Oq]at f;exact Vu _ (fun a b g q=>g (Np _ q)) f
end
set_option tactic.hygienic false
section
variable{C:Cx}{A:NN}{FR:List Nw}{σ:aa}{fz:Fz}{s:M7}{E:M4->M7->Prop}
theorem aJ(C:Cx){o:Obj}(h:(H1 C.P).get? a=some o)(G:aw C σ fz FR s.heap):fz a=some o/\s.heap.get? a=some o:=
 ⟨G.base a o (C.base a o h),G.sub a o (G.base a o (C.base a o h))⟩
theorem iI(C:Cx)(G:aw C σ fz FR s.heap)(h:σ a≠none):(a==UP)=false:=by
 obtain⟨o,c⟩:∃o,(H1 C.P).get? UP=some o:=⟨_,rfl⟩
 have:=(aJ C c G).1;rw[beq_eq_false_iff_ne];intro e;cases q:σ a with
 |none=>exact h q
 |some m=>have b:=(G.led a m q).1;rw[e,this]at b;exact ba b
theorem k_(C:Cx)(G:aw C σ fz FR s.heap):s.heap.NoLimit:=by
 obtain⟨o,a⟩:∃o,(H1 C.P).get? cStatics=some o:=⟨_,rfl⟩
 have d:=(aJ C a G).2;have b:(H1 C.P).get? cStatics=some _:=rfl;rw[a]at b;injection b with z0;subst z0
 refine⟨_,⟨_,_,_,d,rfl,?_,fun _=>rfl⟩,rfl⟩;intro e c;simp only[GZ,List.mem_toArray,Rb,Nq,VT]at c;rcases c with rfl|rfl<;>exact⟨_,_,rfl⟩
theorem Hy{P:Nk}{fz:Fz}(h:dD a=some i)(r:VR P fz a x):∃t,x= .int i t:=by obtain rfl:=kW h;exact r.inv
theorem Hz{P:Nk}{fz:Fz}{a:PV}{x:M4}{i:List Nat}(h:dq a=some i)(r:VR P fz a x):∃t,x= .str ⟨i.toArray⟩ t/\fa i:=by obtain rfl:=xt h;exact r.inv
theorem tW{P:Nk}{fz:Fz}{p:Prop}(h:dD a=some i)(r:VR P fz a x)(k:∀t,x= .int i t->p):p:=(Hy h r).elim k
theorem se{P:Nk}{fz:Fz}{a:PV}{x:M4}{i:List Nat}{p:Prop}(h:dq a=some i)(r:VR P fz a x)(k:∀t,x= .str ⟨i.toArray⟩ t->fa i->p):p:=(Hz h r).elim fun t e=>k t e.1 e.2
theorem GJ{s':M7}(d:∀{Q:M4->M7->Prop},Q (.bool c) s'->Nm C.M A (Pa .In x y) Q E s)(e:∀{Q:M4->M7->Prop},Q (.bool !c) s'->Nm C.M A (Pa .NotIn x y) Q E s){Q:M4->M7->Prop}(a:Bool)(b:Q (.bool (a^^c)) s'):Nm C.M A (Pa (if a then .NotIn else .In) x y) Q E s:=by
 cases a with
 |false=>exact d (by cases c<;>exact b)
 |true=>exact e (by cases c<;>exact b)
theorem xB(G:aw C σ fz FR s.heap)(n:A.units+100<Tx){a b:PV}{x y:M4}(o:VR C.P fz a x)(l:VR C.P fz b y){vs:List PV}(hs:b.seen σ= .lst vs\/b.seen σ= .tup vs)(hi:(xr a&&gQ vs)=true){Q:M4->M7->Prop}(c:Bool)
  (j:Q (.bool (c^^vs.any fun v=>fC v a)) s):Nm C.M A (Pa (if c then .NotIn else .In) x y) Q E s:=by
 apply bc;intro d;refine qm hi fun m k=>?_;obtain⟨g,d1,as,h⟩:=Bf m G.sub o;apply d;have i:=M9 (NG (M1 (Rm (Ss (jb vs)) _) d1) (A.units+1)) (O7 (by omega) n);rw[←uk 60 60 a m vs k]at j;rcases hs with hs|hs
 .apply bc;intro d;obtain⟨e,_,p,f⟩:=(bN G l hs).data G 61 k;apply d;exact GJ (SeqAt.in_list_reads f h e g i) (SeqAt.notIn_list_reads f h e g i) c j
 .apply bc;intro d;obtain⟨e,_,p,f⟩:=(bN G l hs).data G 61 k;apply d;exact GJ (SeqAt.in_tuple_reads f h e g i) (SeqAt.notIn_tuple_reads f h e g i) c j
theorem qr(u:List Nat)(a:Nat):(!(V9 ⟨u.toArray⟩ ⟨[a].toArray⟩ 0 (⟨u.toArray⟩:Str).length 1).isEmpty)=u.contains a:=by rw[show(⟨[a].toArray⟩:Str)=⟨#[a]⟩ from rfl,StrLaws.found_one ⟨u.toArray⟩ a,Bool.eq_iff_iff];simp
theorem uo(G:aw C σ fz FR s.heap)(L:A.units+100<Tx)(o:VR C.P fz a x)(m:VR C.P fz b y)(h:kU a b σ=some c){Q:M4->M7->Prop}(d:Bool)
 (v:∀k,Q (.bool (d^^c)) {s with toks:=k}):Nm C.M A (Pa (if d then .NotIn else .In) x y) Q E s:=by
 have f:Q (.bool (d^^c)) s:=v s.toks;unfold kU at h;cases hs:mD (b.seen σ)with
 |some vs=>
  rw[hs]at h;by_cases hi:(xr a&&gQ vs)=true
  .have i0:=ce hi h;injection i0 with z0;subst z0
   exact xB G L o m (kX hs) hi d f
  .exact aj (bU hi h)
 |none=>
  rw[hs]at h;apply bc;intro g;refine bE h fun t O h=>?_;refine se O o fun D i Z=>?_;subst i;apply g;cases n:dq b with
  |some u=>rw[n]at h;apply bc;intro g;refine cn h fun F V i=>?_;subst i;obtain rfl:=aR V;refine se n m fun tb i _=>?_;subst i;apply g;exact GJ (fun h=>VC ((qr u F).symm▸h)) (fun h=>Vz ((qr u F).symm▸h)) d f
  |none=>
   rw[n]at h;apply bc;intro g;refine cn h fun p W X=>?_;obtain⟨rfl,j⟩:=gb W;cases m.inv;obtain⟨r,H,K,_⟩:=dZ G j;apply g;have e:(valueAt r (aq t)).isSome=c:=by
    rw[←X];cases q:i9 p.2 t with
    |none=>rw[K.valueAt.2 q];rfl
    |some p=>obtain⟨z,Y,_⟩:=K.valueAt.1 p q;rw[Y];rfl
   have l:=iI C G (a:=p.1) fun q=>aj (q.symm.trans j);exact GJ (fun h=>wpAny_in_of (knd:=strKind pw C.w) (k:=aq t) (Pw pw C.w _ D) l H.mapOf (e.symm▸h)) (fun h=>wpAny_notIn_of (knd:=strKind pw C.w) (k:=aq t) (Pw pw C.w _ D) l H.mapOf (e.symm▸h)) d (v (s.toks+1))
theorem LN{b:PV}{n c:Bool}(h:(if isNone b=true then some n else none)=some c):b= .none/\n=c:=by
 by_cases e:isNone b=true
 .exact⟨rZ e,Na (ce e h)⟩
 .exact aj (bU e h)
theorem uq{P:Nk}{fz:Fz}{a b:PV}{x y:M4}{p:Int×Int}(h:oN a b=some p)(c:VR P fz a x)(d:VR P fz b y):∃t u,x= .int p.1 t/\y= .int p.2 u:=by obtain⟨rfl,rfl⟩:=xu h;obtain⟨t,rfl⟩:=c.inv;obtain⟨u,rfl⟩:=d.inv;exact⟨t,u,rfl,rfl⟩
theorem gg(e:VR C.P fz a x)(g:VR C.P fz b y){f:Int->Int->Bool}(h:uc a b f=some c){Q:M4->M7->Prop}(l:Q (.bool c) s)
 (k:∀{i j:Int}{t u:Tok},Q (.bool (f i j)) s->Nm C.M A (Pa d (.int i t) (.int j u)) Q E s):Nm C.M A (Pa d x y) Q E s:=by refine cn h fun p m n=>?_;subst n;obtain⟨_,_,rfl,rfl⟩:=uq m e g;exact k l
theorem Bg(d:VR C.P fz a x)(e:VR C.P fz b y)(h:(if isNone b=true then some (isNone a)else none)=some c){Q:M4->M7->Prop}(f:Q (.bool c) s):Nm C.M A (Pa .Is x y) Q E s:=by obtain⟨rfl,rfl⟩:=LN h;cases e.inv;refine PySem.is_none ?_;cases d<;>exact f
theorem xC(d:VR C.P fz a x)(e:VR C.P fz b y)(h:(if isNone b=true then some (!isNone a)else none)=some c){Q:M4->M7->Prop}(f:Q (.bool c) s):Nm C.M A (Pa .IsNot x y) Q E s:=by obtain⟨rfl,rfl⟩:=LN h;cases e.inv;refine PySem.isNot_none ?_;cases d<;>exact f
theorem fg(G:aw C σ fz FR s.heap)(j:A.units+100<Tx)(e:VR C.P fz a x)(g:VR C.P fz b y)(h:eJ l a b σ=some c){Q:M4->M7->Prop}
 (m:∀k,Q (.bool c) {s with toks:=k}):Nm C.M A (Pa l x y) Q E s:=by
 have d:Q (.bool c) s:=m s.toks;have i:A.units+64<Tx:=O7 (QO (by decide) _) j;cases l
 case Eq=>exact um G i e g h false (by cases c<;>exact d)
 case NotEq=>
  apply bc;intro n;refine cn h fun o h' p=>?_;subst p;apply n;exact um G i e g h' true (by cases o<;>exact d)
 case In=>exact uo G j e g h false (by cases c<;>exact m)
 case NotIn=>
  apply bc;intro n;refine cn h fun o h' p=>?_;subst p;apply n;exact uo G j e g h' true (by cases o<;>exact m)
 case Is=>exact Bg e g h d
 case IsNot=>exact xC e g h d
 case Lt=>exact gg (f:=fun x y=>decide (x<y)) e g h d P.lt_int
 case LtE=>exact gg (f:=fun x y=>decide (x<=y)) e g h d P.le_int
 case Gt=>exact gg (f:=fun x y=>decide (y<x)) e g h d P.gt_int
 case GtE=>exact gg (f:=fun x y=>decide (y<=x)) e g h d P.ge_int
noncomputable abbrev eM(C:Cx)(a:List Nw)(σ:aa)(fz:Fz)(s:M7)(Q:QV):M4->M7->Prop:=PK C a σ fz s (VR C.P) Q
theorem sf(a:small x)(b:small y):IntMulOk x y:=IntMulOk.of_bits (by unfold small at a;exact M1 a (by decide)) (by unfold small at b;exact M1 b (by decide))
theorem xD(C:Cx){σ:aa}{fz:Fz}{h:Og}(r:hW C σ fz h (.lst vs) v):∃a ws,v= .ref a/\h.IsList a ws/\aL C.P fz vs ws.toList/\fb vs:=r
theorem oQ{a b:List Nat}(d:fa a)(e:fa b)(f:a.length+b.length<=aU):fa (a++b):=
 ⟨by simpa [aU]using f,fun c g=>(List.mem_append.mp g).elim (d.2 c) (e.2 c)⟩
theorem fresh(h:Og):h.get? h.objs.size=none:=by
 cases q:h.get? h.objs.size with
 |none=>rfl
 |some o=>exact absurd (Oi q) (Rh _)
theorem Eu{a:Type}{R:Fz->PV->a->Prop}{Q:QV}{o:Obj}{k:Nat}{p:PV}{v:a}(G:aw C σ fz FR s.heap)(c:o.isFreed=false)
  (d:(∀b x,fz b=some x->fz.ext s.heap.objs.size o b=some x)->fz.ext s.heap.objs.size o s.heap.objs.size=some o->R (fz.ext s.heap.objs.size o) p v) (f:Q p σ):
  PK C FR σ fz s R Q v {s with heap:=s.heap.push o,toks:=k}:=by
 have g:=GS.fzNew (s':={s with heap:=s.heap.push o,toks:=k}) G (o:=o) (fresh s.heap) (fun b o' e=>Ng _ e) (NC _ c);exact⟨p,σ,_,g,d g.1.fzk (by simp[Fz.ext]),f⟩
theorem oR{vs:List PV}{ws:List M4}{Q:QV}{k:Nat}(G:aw C σ fz FR s.heap)(a:aL C.P fz vs ws)(b:fb vs)(c:Q (.lst vs) σ):
  PK C FR σ fz s (VR C.P) Q (.ref s.heap.objs.size) {s with heap:=s.heap.push (bG "list" ws.toArray 0),toks:=k}:=
 Eu G rfl (fun k e=> .lst e b (a.mono k)) c
theorem ur{vs:List PV}{ws:List M4}{Q:QV}{k:Nat}(G:aw C σ fz FR s.heap)(a:aL C.P fz vs ws)(b:fb vs)(c:Q (.tup vs) σ):
  PK C FR σ fz s (VR C.P) Q (.ref s.heap.objs.size) {s with heap:=s.heap.push (bG "tuple" ws.toArray 0),toks:=k}:=
 Eu G rfl (fun k e=> .tup e b (a.mono k)) c
theorem Az{o:Obj}{Q:QV}(G:aw C σ fz FR s.heap)(c:o.isFreed=false)(d:MR C.P fz m o)(f:∀a,σ a=none->Q (.ref a) (σ.upd a m)):
  PK C FR σ fz s (VR C.P) Q (.ref s.heap.objs.size) {s with heap:=s.heap.push o,toks:=k}:=
 ⟨_,_,_,GS.ledNew (s':={s with heap:=s.heap.push o,toks:=k}) G (fresh s.heap) (fun b o' e=>Ng _ e) (NC _ c) d,.ref _,f _ (G.free (fresh s.heap)).2.1⟩
theorem HA{Q:M4->M7->Prop}(p:s.heap.IsList l xs)(q:s.heap.IsList b ys)
 (h:Q (.ref s.heap.objs.size) {s with heap:=s.heap.push {cls:= .type "list",data:= .seq (xs++ys)}}) (e:xs.size+ys.size<=PT):Nm C.M A (SQ .Add (.ref l) (.ref b)) Q E s:=by apply bc;intro r;obtain⟨⟨cls,t,data,u⟩,j,k,n,m⟩:=id p;obtain⟨⟨o,f,g,i⟩,a,c,v,d⟩:=id q;apply r;simp only at k m c d;subst k m c d;exact concat_meets ⟨_,j,rfl⟩ ⟨_,a,rfl⟩ noFill_list_add seq_list_add PySem.F.slot_list_add PySem.F.entry_list_add (PySem.F.args_list_add_2 _ _) (list_addW l b xs ys n v t f u i e) ⟨j,a,h⟩
theorem xE(G:aw C σ fz FR s.heap){Q:QV}(h:Bb d i j σ Q):Nm C.M A (SQ d (.int i u) (.int j v)) (eM C FR σ fz s Q) E s:=by
 have tk:∀{b:PV}{v:M4}{k:Nat},VR C.P fz b v->Q b σ->eM C FR σ fz s Q v {s with toks:=k}:=fun r q=>aV G r q;cases d
 case Sub=>exact P.sub_int (tk (.int ..) h)
 case FloorDiv=>
  obtain⟨h0,a,c⟩:=h;refine floordiv_int h0 (tk (.int ..) c) (.inl (PyProof.noPylong_of_log2 ?_));unfold small Pb at a;have:¬(j==0)=true:=by simpa using h0
  rw[M5 this]at a;exact M1 a (by decide)
 case Mod=>exact mod_int' h.1 (tk (.int ..) h.2)
 case BitAnd=>exact and_int (tk (.int ..) h)
 case BitOr=>exact or_int (tk (.int ..) h)
 case BitXor=>exact xor_int (tk (.int ..) h)
 case LShift=>
  obtain⟨h0,a,c,e⟩:=h;refine lshift_int h0 ?_ (tk (.int ..) e);unfold small at c;lia
 case RShift=>exact rshift_int h.1 (tk (.int ..) h.2)
 case Pow=>
  obtain⟨h0,a,c,e⟩:=h;subst h0;refine pow_int a ?_ (tk (.int ..) e);have:Pb 2=2:=by decide+kernel
  rw[this];lia
 all_goals exact h.elim
theorem lb(i j:List Nat):(⟨i.toArray⟩:Str)++(⟨j.toArray⟩:Str)=⟨(i++j).toArray⟩:=Np Str.mk (TZ i j)
theorem xF(G:aw C σ fz FR s.heap)(m:VR C.P fz a x)(n:VR C.P fz b y){Q:QV}(h:oO a b σ Q):Nm C.M A (SQ .Add x y) (eM C FR σ fz s Q) E s:=by
 unfold oO at h;cases hi:dD a with
 |some i=>rw[hi]at h;apply bc;intro e;refine fe h fun j o h=>?_;refine tW hi m fun _ c=>?_;subst c;refine tW o n fun _ c=>?_;subst c;apply e;exact P.add_int (aV G (.int ..) h)
 |none=>
 rw[hi]at h;cases d:dq a with
 |some i=>rw[d]at h;apply bc;intro e;refine fe h fun j o h=>?_;refine se d m fun F c u=>?_;subst c;refine se o n fun H c w=>?_;subst c;apply e;refine VF (fun r k=>?_) (by rw[eK,eK];exact M1 h.1 (M1 (by decide) aA));rw[lb];exact aV (k:=k) (R:=VR C.P) (v:= .str ⟨(i++j).toArray⟩ r) G (.str _ r (oQ u w h.1)) h.2
 |none=>
 rw[d]at h;apply bc;intro e;refine fe h fun vs hs h=>?_;refine fe h fun ws p h=>?_;obtain⟨l,xs,rfl,z,t,K⟩:=bN G m (du hs);obtain⟨L,f,rfl,q,g,D⟩:=bN G n (du p);apply e;refine HA z q ?_ ?_
 .rw[show xs++f=(xs.toList++f.toList).toArray from kZ Array.toList_append];exact oR (k:=s.toks) G (t.append g) (M1 (ND M3) h.1) h.2
 .rw[←OP,←OP,t.length,g.length];exact M1 h.1 (M1 (by decide) aA)
theorem xG(c m:Nat)(acc:Array Nat):(Nz m (⟨[c].toArray⟩:Str).cps).foldl (·++·) acc=acc++(Nz m c).toArray:=by
 induction m generalizing acc with
 |zero=>exact(Array.append_empty).symm
 |succ m a=>rw[TY,Rx,a,TY];exact Array.append_assoc.trans (Np (acc++·) (TZ [c] _))
theorem ut{c:Nat}{n:Int}{t:Tok}{Q:M4->M7->Prop}(h0:0<=n)(b:n<=64)(main:∀t k,Q (.str ⟨(Nz n.toNat c).toArray⟩ t) {s with toks:=k}):
  (if n<1 then Made.str Str.empty else if(n==1||(⟨[c].toArray⟩:Str).length==0)=true then Made.val (Sl ⟨[c].toArray⟩ t)else Made.str {cps:=R5 (fun d e=>d++e) #[] (Nz n.toNat (⟨[c].toArray⟩:Str).cps)}).post Q s:=by
 by_cases n0:n<1
 .rw[M8 n0];obtain rfl:=UL (Int.lt_add_one_iff.mp n0) h0;exact⟨by decide,main _ _⟩
 .rw[M5 n0];by_cases a:n=1
  .subst a;exact main _ s.toks
  .rw[M5 (by rw[beq_eq_false_iff_ne.mpr a];exact Pm),xG,Array.empty_append];exact⟨by rw[eK,O_];exact M1 (Int.toNat_le.mpr (OY b (by decide:(64:Int)<=16777216))) aA,main _ _⟩
theorem xH(G:aw C σ fz FR s.heap){a b:PV}{x y:M4}(m:VR C.P fz a x)(o:VR C.P fz b y){Q:QV}(h:Ba a b σ Q):Nm C.M A (SQ .Mult x y) (eM C FR σ fz s Q) E s:=by
 unfold Ba at h;cases hi:dD a with
 |some i=>rw[hi]at h;apply bc;intro f;refine fe h fun j p h=>?_;refine tW hi m fun _ e=>?_;subst e;refine tW p o fun _ e=>?_;subst e;apply f;exact P.mul_int (aV G (.int ..) h.2.2) (sf h.1 h.2.1)
 |none=>
 rw[hi]at h;apply bc;intro f;refine fe h fun ss l h=>?_;refine fe h fun c q h=>?_;refine fe h fun n r u=>?_;obtain⟨h0,g,v⟩:=u;refine se l m fun D e w=>?_;subst e;refine tW r o fun F e=>?_;subst e;apply f;obtain rfl:=aR q;have b:0<=n/\n<=64->(decide (n< -2^63)||decide (n>=2^63))=false/\(¬n<1->¬((1:Nat):Int)>(2^63-1) / n)/\1*n.toNat<=16777216:=by
  intro ⟨h0,g⟩;refine⟨?_,fun a1=>?_,by omega⟩
  .rw[NK (by omega),NK (by omega)];rfl
  .exact Int.not_lt.mpr ((Int.le_ediv_iff_mul_le (Int.not_lt.mp a1)).mpr (by omega))
 apply bc;intro f;obtain⟨b1,b2,b3⟩:=b ⟨h0,g⟩;apply f;refine P.mul_str b1 (fun a _=>b2 a) (fun _ _=>NK (Nat.not_lt.mpr (M1 b3 aA))) (ut h0 g fun t k=>aV G (.str _ t ⟨?_,fun d z=>?_⟩) v)
 .rw[O_];exact M1 (ND (VH _).symm) (M1 (Oj 1 (Int.toNat_le.mpr (OY g (by decide:(64:Int)<=1048576)))) (by decide))
 .rw[(List.mem_replicate.mp z).2];exact w.2 c M_
theorem xI(G:aw C σ fz FR s.heap)(i:A.units+100<Tx)(d:VR C.P fz a x)(e:VR C.P fz b y){Q:QV}(h:Ed c a b σ Q):
  Nm C.M A (SQ c x y) (eM C FR σ fz s Q) E s:=by
 have f:(dJ (oN a b) fun p=>Bb c p.1 p.2 σ Q)->Nm C.M A (SQ c x y) (eM C FR σ fz s Q) E s:=fun h=>by refine fe h fun p g h=>?_;obtain⟨_,_,rfl,rfl⟩:=uq g d e;exact xE G h
 cases c
 case Add=>exact xF G d e h
 case Mult=>exact xH G d e h
 all_goals exact f h
theorem xJ(G:aw C σ fz FR s.heap)(b:VR C.P fz a x){Q:QV}(h:Ee a σ Q):
  Nm C.M A (unaryOp .USub x) (eM C FR σ fz s Q) E s:=by
 refine fe h fun i hi h=>?_;refine tW hi b fun _ c=>?_;subst c;exact P.neg_int (aV G (.int ..) h)
end
set_option tactic.hygienic true
section
variable{C:Cx}{A:NN}{FR:List Nw}{σ:aa}{fz:Fz}{s:M7}{E:M4->M7->Prop}
theorem jd(a:Expr)(o i:M4):Uw a false o i=operate [i,o] (U9 o i)\/Uw a false o i=operate [o,i] (U9 o i):=by
 cases a
 case Slice _ _ st _=>cases st with
  |none=>exact .inl rfl
  |some _=>exact .inr rfl
 all_goals exact .inr rfl
theorem fh{a b:Expr}{o i:M4}{T id:String}{Q:M4->M7->Prop}(f:s.TypeIs o T)
  (g:Rg (.type T) "__getitem__"=OD (some (.builtin id))) (h:Nm C.M A (U9 o i) Q E s):Nm C.M A (Rt a b o i) Q E s:=by
 unfold Rt;apply M2;rw[getitemInPython_of_ne f.not_modules];refine M2 (Tf f g ?_);have j:Nm C.M A (U9 o i) (fun r c=>Nm C.M A (Tv a o r>>=fun _=>OD r) Q E c) E s:=
  Nj h (fun r c d=>M2 (Uv (Nf d))) fun _ _ x=>x
 have fin:Nm C.M A (Uw b false o i) (fun r c=>Nm C.M A (Tv a o r>>=fun _=>OD r) Q E c) E s:=by rcases jd b o i with e|e<;>rw[e]<;>exact wpAny_operating j
 first
  |exact Nf (M2 fin)
  |exact M2 (Nf (M2 fin))
  |exact M2 fin
theorem aL.get'{P:Nk}{fz:Fz}{v:List PV}{x:Array M4}{i:Nat}{p:PV}(h:aL P fz v x.toList)(hi:v[i]? =some p):∃q,x[i]? =some q/\VR P fz p q:=by obtain⟨q,a,r⟩:=h.get hi;exact⟨q,Array.getElem?_toList.symm.trans a,r⟩
theorem aL.size{P:Nk}{fz:Fz}{v:List PV}{x:Array M4}(h:aL P fz v x.toList):x.size=v.length:=h.length
theorem mK{k:Int}{n j:Nat}(h:kY k n=some j):(-1000000000<=k/\k<=1000000000)/\seqIndex? k n=some j/\(k<0/\ -(n:Int)<=k/\(k+n).toNat=j\/0<=k/\k.toNat=j):=by
 unfold kY at h;by_cases c: -1000000000<=k/\k<=1000000000
 .have h:=ce c h;refine⟨c,h,?_⟩;have h:(if(decide (0<=(if k<0 then k+n else k))&&decide ((if k<0 then k+n else k)<(n:Int)))=true then some (if k<0 then k+n else k).toNat else none)=some j:=h;by_cases a:(decide (0<=(if k<0 then k+n else k))&&decide ((if k<0 then k+n else k)<(n:Int)))=true
  .have h:=Na (ce a h);have a:=NW (cD a).1;by_cases b:k<0
   .rw[M8 b]at h a;exact .inl ⟨b,Int.le_of_sub_nonneg (by rw[Int.sub_neg];exact a),h⟩
   .rw[M5 b]at h;exact .inr ⟨Int.not_lt.mp b,h⟩
  .exact aj (bU a h)
 .exact aj (bU c h)
theorem LO(h: -1000000000<=k/\k<=1000000000): -2^63<=k/\k<2^63:=⟨OY (by decide) h.1,Sa h.2 (by decide)⟩
theorem Ev(h: -2^63<=k/\k<2^63):(decide (k< -2^63)||decide (k>=2^63))=false:=by rw[NK (Int.not_lt.mpr h.1),NK (Int.not_le.mpr h.2)];rfl
theorem xK(G:aw C σ fz FR s.heap){c d:Expr}{o w:PV}{n:M4}{k:Int}{j:Nat}{u:Tok}{vs:List PV}(p:VR C.P fz o n)(hs:o.seen σ= .lst vs\/o.seen σ= .tup vs)(i:kY k vs.length=some j)(t:vs[j]? =some w) {Q:QV} (l:Q w σ):
  Nm C.M A (Rt c d n (.int k u)) (eM C FR σ fz s Q) E s:=by
 apply bc;intro h;obtain⟨e,hi,i⟩:=mK i;apply h;have e:=LO e;rcases hs with hs|hs
 .apply bc;intro h;obtain⟨a,ws,rfl,f,g,v⟩:=bN G p hs;obtain⟨q,b,r⟩:=g.get' t;apply h;refine fh f.typeIs PySem.slot_list_getitem.lookup ?_;rcases i with⟨m,x,rfl⟩|⟨m,rfl⟩
  .exact wpAny_getItem_list_neg f m (by rw[g.size];exact x) e.1 (by rw[g.size];exact b) (aX G r l)
  .exact wpAny_getItem_list f m e.2 b (aX G r l)
 .apply bc;intro h;obtain⟨a,ws,rfl,f,g,v⟩:=bN G p hs;obtain⟨q,b,r⟩:=g.get' t;apply h;exact fh f.typeIs PyProof.Rows.slot_tuple_getitem.lookup (VD f e.1 e.2 (by rw[g.size];exact hi) b (aX G r l))
theorem xL(G:aw C σ fz FR s.heap)(l:VR C.P fz o D)(m:VR C.P fz i iv)(h:bk o i σ=some w){Q:QV}(n:Q w σ):
  Nm C.M A (Rt b e D iv) (eM C FR σ fz s Q) E s:=by
 unfold bk at h;cases hs:mD (o.seen σ)with
 |some vs=>rw[hs]at h;apply bc;intro f;refine bE h fun k g h=>?_;refine bE h fun j q u=>?_;refine tW g m fun _ a=>?_;subst a;apply f;exact xK G l (kX hs) q u n
 |none=>
  rw[hs]at h;cases x:dq o with
  |some t=>rw[x]at h;apply bc;intro f;refine bE h fun k g h=>?_;refine bE h fun j q h=>?_;refine cn h fun c F a=>?_;subst a;refine tW g m fun _ a=>?_;subst a;refine se x l fun K a y=>?_;subst a;obtain⟨L,hi,_⟩:=mK q;apply f;refine fh (typeIs_str s _ K) PyProof.Rows.slot_str_getitem.lookup (VE (c:=c) (Ev (LO L)) (by rw[eK,hi];exact List.getElem?_toArray.trans F) ?_);exact aV (k:=s.toks+1) (R:=VR C.P) (v:= .str ⟨[c].toArray⟩ s.toks) (Q:=Q) G (.str [c] s.toks ⟨Ni rfl,fun d O=>by obtain rfl:=List.mem_singleton.mp O;exact y.2 _ (Ok F)⟩) n
  |none=>rw[x]at h;apply bc;intro f;refine bE h fun p g h=>?_;refine bE h fun t y u=>?_;obtain⟨rfl,z⟩:=gb g;refine se y m fun V a _=>?_;subst a;cases l.inv;obtain⟨r,H,W,_⟩:=dZ G z;obtain⟨v,X,Y⟩:=W.valueAt.1 _ u;apply f;exact fh H.typeIs PySem.slot_dict_getitem.lookup (wpAny_getItem_of (knd:=strKind pw C.w) (k:=aq t) (Pw pw C.w _ V) H.mapOf X (aV G Y n))
theorem iJ{fz:Fz}{P:Nk}(r:VR P fz v x)(h:r_ v n d=some k):
  ∃l:Option (Int×Tok),x=partValue l/\IsPart x (l.map (·.1))/\(l.map (·.1)).elim d (OZ n)=k:=
 PV.casesOn (motive_1:=fun v=>VR P fz v x->r_ v n d=some k->∃l:Option (Int×Tok),x=partValue l/\IsPart x (l.map (·.1))/\(l.map (·.1)).elim d (OZ n)=k) v (fun r h=>⟨none,r.inv,r.inv▸.none,Na h⟩) (fun _ _=>aj)
  (fun i r h=>by obtain⟨t,rfl⟩:=r.inv;exact⟨some (i,t),rfl,.int _ t,Na h⟩) (fun _ _=>aj) (fun _ _=>aj) (fun _ _=>aj) (fun _ _ _=>aj) (fun _ _=>aj) (fun _ _ _=>aj) r h
theorem Bh(lo hi:Option Int)(n:Nat):Qk lo hi 1 n=sliceRange ((lo.elim 0 (OZ n):Nat):Int) ((hi.elim n (OZ n):Nat):Int) 1:=by cases lo<;>cases hi<;>simp[Qk,clipAt_cast]
theorem xM(n:Nat)(i:Int):OZ n i<=n:=Int.toNat_le.mpr (Int.max_le.mpr ⟨NE n,Int.min_le_right _ _⟩)
theorem qs{s t:List Nat}(h:fa s)(hs:t.Sublist s):fa t:=⟨M1 hs.length_le h.1,fun c a=>h.2 c (hs.subset a)⟩
theorem xN{t:List Nat}{l u:Nat}(a:u<=t.length)(h:u-l=t.length):(t.drop l).take (u-l)=t:=by
 rw[h];cases t with
 |nil=>rw[List.drop_nil];rfl
 |cons c t=>
  cases l with
  |zero=>exact Rj
  |succ l=>exact absurd h (NY (No (Uh (No (Ob _) (h▸Q3 _ _:(c::t).length<=u)) (Ob l)) a))
theorem uu{t:List Nat}{pl c:Option (Int×Tok)}{l u:Nat}(d:(pl.map (·.1)).elim 0 (OZ t.length)=l)(b:(c.map (·.1)).elim t.length (OZ t.length)=u)(g:fa t){tt:Tok}{Q:M4->M7->Prop}
  (h:∀k i,Q (.str ⟨((t.drop l).take (u-l)).toArray⟩ i) {s with toks:=k}):(sliceMade ⟨t.toArray⟩ tt pl c none).post Q s:=by
 have e:slicePicked ⟨t.toArray⟩ pl c none=(OG (u-l)).map fun x=>l+x:=by show Qk _ _ 1 (V5 _)=_;rw[eK,Bh,sliceRange_one,d,b]
 unfold sliceMade;rw[e];by_cases a:(((Ri (fun x:Int×Tok=>x.1) none).getD 1==1)&&((OG (u-l)).map fun x=>l+x).length==(⟨t.toArray⟩:Str).length)=true
 .rw[M8 a];have a:=beq_iff_eq.mp (cD a).2;rw[M6,Qe,eK]at a;have j:u<=t.length:=by
   rw[←b];cases c with
   |none=>exact Nc _
   |some q=>exact xM _ _
  have:=h s.toks tt;rw[xN j a]at this;exact this
 .rw[M5 a,pick_run];have f:=qs g ((Sg (u-l) _).trans (Sh l t));exact⟨by rw[eK];exact M1 f.1 (M1 (by decide) aA),h _ _⟩
theorem xO(G:aw C σ fz FR s.heap){o lo hi w:PV}{K lv c:M4}(L:VR C.P fz o K)(rl:VR C.P fz lo lv)(O:VR C.P fz hi c)(h:fE o lo hi σ=some w){Q:QV}(V:Q w σ){d:Expr}{f g:Option Expr}{p:Pos}:
  Nm C.M A (Rt d (.Slice f g none p) K (.ref s.heap.objs.size)) (eM C FR σ fz s Q) E {s with heap:=s.heap.push {cls:= .type "slice",data:= .fields #[lv,c,.none]}}:=by
 have i:GS C FR σ fz s σ fz {s with heap:=s.heap.push {cls:= .type "slice",data:= .fields #[lv,c,.none]}}:=GS.keep G (fun b o' e=>Ng _ e);have y:(s.heap.push {cls:= .type "slice",data:= .fields #[lv,c,.none]}).get? s.heap.objs.size=some {cls:= .type "slice",data:= .fields #[lv,c,.none]}:=NC _ rfl;generalize s.heap.objs.size=a0 at y⊢;generalize h':s.heap.push {cls:= .type "slice",data:= .fields #[lv,c,.none]}=W at i y⊢;clear h';generalize X:({s with heap:=W}:M7)=s' at i⊢;have e:s'.heap=W:=X▸rfl;clear X;subst e;unfold fE at h;cases hs:dq o with
 |some t=>
  rw[hs]at h;apply bc;intro z;refine bE h fun l D h=>?_;refine cn h fun u F n=>?_;subst n;obtain⟨pl,rfl,q,j⟩:=iJ rl D;obtain⟨Y,rfl,r,m⟩:=iJ O F;refine se hs L fun tt n v=>?_;subst n;apply z;exact fh (typeIs_str _ _ tt) PyProof.Rows.slot_str_getitem.lookup (wpAny_getItem_str_slice (l:=pl) (u:=Y) (st:=none) ⟨_,y,rfl,rfl⟩ rfl (uu j m v fun k Z=>
   PK.via i (aV (k:=k) i.2 (.str _ Z (qs v ((Sg (u-l) _).trans (Sh l t)))) V)))
 |none=>rw[hs]at h;apply bc;intro z;refine bE h fun vs H h=>?_;refine bE h fun l D h=>?_;refine cn h fun u F n=>?_;subst n;obtain⟨pl,rfl,q,j⟩:=iJ rl D;obtain⟨Y,rfl,r,m⟩:=iJ O F;obtain⟨a,ws,rfl,v,c,x⟩:=bN i.2 L (du H);apply z;refine fh v.typeIs PySem.slot_list_getitem.lookup (wpAny_getItem_list_slice v ⟨_,y,rfl,rfl⟩ q r .none aj ?_ (by rw[c.size];exact M1 x (M1 (by decide) aA)));rw[slicePick_plain,c.size,j,m];exact PK.via i (oR (k:=s'.toks) i.2 ((c.drop l).take (u-l)) (M1 ((Sg (u-l) _).trans (Sh l vs)).length_le x) V)
end
set_option tactic.hygienic false
noncomputable def fF:List (Str×Nat):=Hd [("Place",45),("ReadError",87),("SymbolError",99),("digit_of",108),("is_letter",115),("begins_name",122),("is_name_sign",129),
 ("read_escape",136),("read_char",143),("number_worth",150),("local_worth",157),("Token",195),("LineReader",286),("line_tokens",297),("Cursor",391),
 ("Number",447),("Symbol",473),("Here",492),("Unary",518),("Binary",544),("left_spine",553),("level_of",560),("binary_level",567),("read_part",574),("read_level",581),
 ("read_expr",588),("expr_of",595),("Affine",655),("affine_of",664),("Scope",703),("quotient",714),("shifted",721),("reckoned",728),("combined",735),("turned",742),
 ("evaluate",750),("number_of",757),("bracketed",764),("show_leaf",771),("show_expr",778),("show_affine",785),("names_in",792),("has_here",799),
 ("_law_LEVELS",808),("_law_draw",816),("_law_leaf",823),("_law_part",830),("_law_row",837),("_law_digits",844),("_law_word",851),("_law_text",858),("_law_is_deep",865),
 ("_law_tree",872),("_law_sum",877),("_law_two",884),("_law_worth",891),("_law_read",898),("_law_single",905),("_law_leaves",912),("_law_is_spare",919)]
noncomputable def lc:List (Str×BI):=Hd [("len",.len),("ord",.ord),("chr",.chr),("abs",.abs),("int",.int),("str",.str),("sum",.sum),("tuple",.tuple),("divmod",.divmod),("sorted",.sorted),("dict",.dict)]
noncomputable def iw(l:List Str)(n:Str):Option Nat:=l.findIdx? (·==n)
noncomputable def oS(l:List (Str×Od))(n:Str):Option Nat:=l.findIdx? (·.1==n)
noncomputable def dh{a b:Type}(f:a->Option b):List a->Option (List b)
 |[]=>some []
 |e::r=>(f e).bind fun m=>(dh f r).map (m::·)
theorem uv{b c:Type}{f:b->Option c}{e:b}{r:List b}{ms:List c}(h:dh f (e::r)=some ms):∃m a,f e=some m/\dh f r=some a/\ms=m::a:=by apply bc;intro d;obtain⟨m,g,h⟩:=Option.bind_eq_some_iff.mp h;obtain⟨a,i,j⟩:=Option.map_eq_some_iff.mp h;apply d;exact⟨m,a,g,i,j.symm⟩
theorem uw{g i:Type}{f:g->Option i}{e:g}{r:List g}{ms:List i}{p:Prop}(h:dh f (e::r)=some ms)(k:∀m d,f e=some m->dh f r=some d->ms=m::d->p):p:=by obtain⟨m,d,a,b,c⟩:=uv h;exact k m d a b c
theorem ld{e:Type}{c:Prop}[Re c]{a:Option e}{b:e}(h:(if c then a else none)=some b):c/\a=some b:=by
 by_cases d:c
 .rw[M8 d]at h;exact⟨d,h⟩
 .rw[M5 d]at h;exact aj h
noncomputable def Ew:Const->Option Str
 |.str x=>some x
 |_=>none
theorem xP:Ew c=some x->c= .str x:=by cases c<;>first|exact aj|exact fun h=>Np Const.str (Na h)
noncomputable def lg(e:Expr):Option Const:=by cases e with|Constant c _ _=>exact some c|_=>exact none
theorem kj:lg e=some x->∃k p,e= .Constant x k p:=by cases e<;>first|exact aj|exact fun h=>by injection h with z0;subst z0;exact⟨_,_,rfl⟩
noncomputable def j0(e:Expr):Option (Str×Pos):=by cases e with|Name x p=>exact some (x,p)|_=>exact none
theorem gi{e:Expr}{x:Str×Pos}:j0 e=some x->e= .Name x.1 x.2:=by cases e<;>first|exact aj|exact fun h=>by injection h with z0;subst z0;rfl
noncomputable def eN(e:Expr):Option Str:=(j0 e).map (·.1)
theorem cu{e:Expr}{x:Str}(h:eN e=some x):∃p,e= .Name x p:=by obtain⟨q,a,rfl⟩:=Option.map_eq_some_iff.mp h;exact⟨q.2,gi a⟩
noncomputable def mL(e:Expr):Option (List Expr):=by cases e with|Tuple es _ _=>exact some es|_=>exact none
noncomputable def je(e:Expr):Option ((Expr×Pos)×List Expr×List Vb):=by cases e with|Call f as kws p=>exact some ((f,p),as,kws)|_=>exact none
theorem gV{e:Expr}{q:(Expr×Pos)×List Expr×List Vb}:je e=some q->e= .Call q.1.1 q.2.1 q.2.2 q.1.2:=by cases e<;>first|exact aj|exact fun h=>by injection h with z0;subst z0;rfl
noncomputable def qt(e:Expr):Option (Expr×Str×Pos):=by cases e with|Attribute o m p=>exact some (o,m,p)|_=>exact none
theorem jf{e:Expr}{q:Expr×Str×Pos}:qt e=some q->e= .Attribute q.1 q.2.1 q.2.2:=by cases e<;>first|exact aj|exact fun h=>by injection h with z0;subst z0;rfl
noncomputable def Bi(e:Expr):Option ((Option Expr×Option Expr)×Option Expr×Pos):=by cases e with|Slice lo hi st p=>exact some ((lo,hi),st,p)|_=>exact none
theorem xQ{e:Expr}{q:(Option Expr×Option Expr)×Option Expr×Pos}:Bi e=some q->e= .Slice q.1.1 q.1.2 q.2.1 q.2.2:=by cases e<;>first|exact aj|exact fun h=>by injection h with z0;subst z0;rfl
noncomputable def Ex(k:Option Expr):Option Str:=(k.bind lg).bind Ew
theorem xR(h:Ex k=some x):∃j p,k=some (.Constant (.str x) j p):=by apply bc;intro b;obtain⟨c,a,h⟩:=Option.bind_eq_some_iff.mp h;obtain⟨e,d,a⟩:=Option.bind_eq_some_iff.mp a;obtain⟨j,p,rfl⟩:=kj a;apply b;obtain rfl:=xP h;exact⟨j,p,d⟩
noncomputable def keysOf(ks:List (Option Expr)):Option (List (List Nat)):=dh (fun k=>(Ex k).map (·.cps.toList)) ks
noncomputable def oU(x:Str):Bool:=decide (x.cps.size<=1048576)&&x.cps.toList.all (·<1114112)
noncomputable def kk(a:NL)(e:Expr):Option Nat:=(eN e).bind fun x=>(oS a.names x).bind fun i=>if a.names[i]? ==some (x,.local)then some i else none
theorem jg{a:NL}{e:Expr}{i:Nat}(h:kk a e=some i):∃x p,e= .Name x p/\oS a.names x=some i/\a.names[i]? =some (x,.local):=by apply bc;intro c;obtain⟨x,d,h⟩:=Option.bind_eq_some_iff.mp h;obtain⟨j,f,h⟩:=Option.bind_eq_some_iff.mp h;obtain⟨g,b⟩:=ld h;obtain⟨p,rfl⟩:=cu d;apply c;exact⟨x,p,rfl,Na b▸f,Na b▸beq_iff_eq.mp g⟩
noncomputable def dM(b:NL)(e:Expr):Option (List Nat):=match mL e with
 |some a=>if 2<=a.length then dh (kk b) a else none
 |none=>(kk b e).map fun i=>[i]
noncomputable def bA(a:NL):Bool:=a.kind== .function&&decide (a.names.map (·.1)).Nodup&&decide ((a.names.filter (·.2== .cell)).length<=1)&& !a.isGenerator&& !a.isCoroutine
noncomputable def xS(a:NL)(x:Str×Od):Option (Option Nat):=match x.2 with
 |.free=>(oS a.names x.1).bind fun i=>if a.names[i]? ==some (x.1,.cell)then some (some i)else none
 |.local=>some none
 |.globalImplicit=>some none
 |_=>none
noncomputable def kl(a isc:NL):Option (List (Option Nat)):=dh (xS a) isc.names
noncomputable def bW(a isc:NL):NL:={isc with names:=isc.names.map fun(n,k)=>if k== .free&&true&&a.names.lookup n==some .cell then(n,.cell)else(n,k)}
noncomputable def bV(a:NL)(n:Str):Bool:=a.names.lookup n==some .globalImplicit
inductive Md|v|t|i
noncomputable abbrev Rc:=NL->Md->Expr->Option ME
noncomputable def qu(c:Const):Option ME:=match c with
 |.none=>some (.lit .none)
 |.bool b=>some (.lit (.bool b))
 |.int i=>some (.lit (.int i))
 |.str x=>if oU x then some (.lit (.str x.cps.toList))else none
 |_=>none
noncomputable def Bj(i:Nat)(x:Str)(k:Od):Option ME:=match k with
 |.globalImplicit=>(iw ug x).map .glb
 |.local=>some (.loc i)
 |.cell=>some (.loc i)
 |.free=>some (.loc i)
 |_=>none
noncomputable def oV(a:NL)(x:Str):Option ME:=if x=="__debug__"||x=="__classdict__" then none else(oS a.names x).bind fun i=>(a.names[i]?).bind fun p=>Bj i x p.2
noncomputable def oW(R:Rc)(a:NL):Option Expr->Option ME
 |some x=>R a .v x
 |none=>some (.lit .none)
noncomputable def qv(R:Rc)(d:NL)(l:Expr)(e:List UF)(f:List Expr):Option ME:=match cF e with
 |some g=>(cF f).bind fun r=>(R d .v l).bind fun a=>(R d .v r).map fun b=> .cmp g a b
 |none=>if e==[.LtE,.LtE] then(ub f).bind fun p=>(R d .v l).bind fun a=>(R d .v p.1).bind fun b=>(R d .v p.2).map fun c=> .cmp2 a b c else none
noncomputable def Bk(R:Rc)(a:NL)(x:Str)(as:List Expr):Option ME:=(lc.lookup x).bind fun b=>(dh (R a .v) as).map (.calB b)
noncomputable def oY(R:Rc)(a:NL)(as:List Expr):Option ME:=(ub as).bind fun p=>(eN p.2).bind fun t=>if bV a t then(if t=="str" then(R a .v p.1).map (.isin · true)else if t=="tuple" then(R a .v p.1).map (.isin · false)else none)else none
noncomputable def km(a:NL)(y:Str)(e:Expr):Option Expr:=(je e).bind fun q=>(eN q.1.1).bind fun x=>if x==y&&q.2.2.isEmpty&&bV a x then cF q.2.1 else none
theorem mM{a:NL}{y:Str}{e z:Expr}(h:km a y e=some z):∃p q,e= .Call (.Name y p) [z] [] q/\bV a y=true:=by apply bc;intro b;obtain⟨q,c,h⟩:=Option.bind_eq_some_iff.mp h;obtain⟨x,d,h⟩:=Option.bind_eq_some_iff.mp h;obtain⟨p,f⟩:=cu d;obtain⟨g,i⟩:=ld h;obtain⟨j,k⟩:=cD g;obtain⟨l,m⟩:=cD j;apply b;obtain rfl:=beq_iff_eq.mp l;exact⟨p,q.1.2,by rw[gV c,f,aR i,List.isEmpty_iff.mp m],k⟩
noncomputable def iK(R:Rc)(b:NL)(x:Str)(as:List Expr):Option ME:=if bV b x then(match fF.lookup x with
  |some a=>(dh (R b .v) as).map (.calF a)
  |none=>if x=="isinstance" then oY R b as
   else match(if x=="sorted" then(cF as).bind (km b "set")else none)with
    |some z=>(R b .v z).map fun z=> .calB .sortset [z]
    |none=>Bk R b x as)else none
noncomputable def gW(R:Rc)(a:NL)(f:Expr)(as:List Expr)(pos:Pos):Option ME:=match j0 f with
 |some q=>iK R a q.1 as
 |none=>(qt f).bind fun q=>if q.2.2.endLine==pos.line&&decide (as.length<20)then(R a .v q.1).bind fun o=>(iw gd q.2.1).bind fun i=>(dh (R a .v) as).map fun as=> .calM o i as else none
noncomputable def ux(R:Rc)(a:NL)(o b:Expr):Option ME:=match Bi b with
 |some q=>if q.2.1.isNone then(R a .v o).bind fun o=>(oW R a q.1.1).bind fun lo=>(oW R a q.1.2).map fun hi=> .sli o lo hi else none
 |none=>(R a .v o).bind fun o=>(R a .v b).map fun i=> .idx o i
noncomputable def uy(ml:List Nat)(R:Rc)(a:NL)(d:Expr)(b:List Wf)(isc:NL)(pos:Pos):Option ME:=(cF b).bind fun g=>
 if g.is_async==0&&(bA isc&&bA (bW a isc)&&isc.names.all (fun x=>x.2 != .cell))then
  (R a .i g.iter).bind fun f=>(dM (bW a isc) g.target).bind fun t=>(kl a isc).bind fun c=>(R (bW a isc) .v d).bind fun e=>(dh (R (bW a isc) .t) g.ifs).map fun h=> .comp (!ml.contains pos.line) c t e f h
 else none
noncomputable def Bl(R:Rc)(b:NL)(ks:List (Option Expr))(vs:List Expr):Option ME:=(keysOf ks).bind fun a=>(dh (R b .v) vs).bind fun vs'=>
 if ks.length==vs.length&&decide (vs.length<=15)&&a.all (fun k=>oU ⟨k.toArray⟩)then some (.dct a vs')else none
noncomputable def LP(ml:List Nat)(R:Rc)(d:NL)(e:Expr):Option ME:=match e with
 |.Constant c _ _=>qu c
 |.Name x _=>oV d x
 |.Tuple es _ _=>if es.length<=1000 then(dh (R d .v) es).map .tup else none
 |.List es pos=>if es.length<=1000 then(dh (R d .v) es).map (.lst (!ml.contains pos.line))else none
 |.Dict ks vs _=>Bl R d ks vs
 |.BinOp l g r _=>(R d .v l).bind fun a=>(R d .v r).map fun b=> .bin g a b
 |.UnaryOp g x _=>if g== .USub then(R d .v x).map .neg else if g== .Not then(R d .v x).map .nt else none
 |.BoolOp g vs _=>if 2<=vs.length then(dh (R d .v) vs).map (.bop (g== .And))else none
 |.IfExp c a b _=>(R d .t c).bind fun c=>(R d .v a).bind fun a=>(R d .v b).map fun b=> .ite c a b
 |.Compare l j n _=>qv R d l j n
 |.Attribute o a _=>(R d .v o).bind fun o=>(iw f_ a).map fun i=> .att o i
 |.Subscript o p _=>ux R d o p
 |.Call f as k pos=>if k.isEmpty then gW R d f as pos else none
 |.ListComp m h isc pos=>uy ml R d m h isc pos
 |_=>none
noncomputable def LT(R:Rc)(d:NL)(e:Expr):Option ME:=match e with
 |.UnaryOp f x _=>if f== .Not then(R d .t x).map .nt else(R d .v e).map .tru
 |.BoolOp f vs _=>(dh (R d .t) vs).map (.bop (f== .And))
 |.IfExp c a b _=>(R d .t c).bind fun c=>(R d .t a).bind fun a=>(R d .t b).map fun b=> .ite c a b
 |.Compare l g h _=>qv R d l g h
 |e=>(R d .v e).map .tru
noncomputable def HB(R:Rc)(a:NL)(e:Expr):Option ME:=match km a "range" e with
 |some x=>(R a .v x).map .rng
 |none=>(R a .v e).map .itm
noncomputable def bo(ml:List Nat):Nat->Rc
 |0=>fun _ _ _=>none
 |n+1=>fun a md e=>match md with
  |.v=>LP ml (bo ml n) a e
  |.t=>LT (bo ml n) a e
  |.i=>HB (bo ml n) a e
noncomputable def lh(as:List Nw)(h:Og):Frag:=as.filterMap fun a=>(h.get? a).map fun o=>(a,o)
theorem fi(h h':Og)(hh:∀a o,h.get? a=some o->h'.get? a=some o)(as:List Nw):(lh as h).In h':=by
 induction as with
 |nil=>intro a o e;exact aj e
 |cons x r b=>
  intro a o e;unfold lh at e;rw[O5]at e;cases q:h.get? x with
  |none=>rw[q]at e;exact b a o e
  |some y=>
   rw[q]at e;simp only[Ug,OH]at e;cases z:a==x with
   |true=>rw[z]at e;injection e with z0;subst z0;rw[beq_iff_eq.mp z];exact hh _ _ q
   |false=>rw[z]at e;exact b a o e
noncomputable def b':List Nat:=[45,195,286,391,419,447,473,492,518,544,655,703]
noncomputable def Ey:List Nat:=[44,45,194,195,285,286,390,391,418,419,446,447,472,473,491,492,517,518,543,544,654,655,702,703,73,74,86,87,98,99]
noncomputable def Ez:List Nat:=[35,42,171,178,192,213,220,227,234,241,248,255,262,269,276,283,311,318,332,339,346,353,367,374,388,409,416,437,444,463,470,489,508,515,534,541,610,617,624,631,638,645,679,686,693,700,64,71]
noncomputable def KK(P:Nk):Frag:=lh (Ey++Ez) (H1 P)
theorem uz(P:Nk):(b'.all fun c=>QE (KK P) (.ref c) "__getattribute__"==some (some (.builtin "object.__getattribute__"))&&QE (KK P) (.ref c) "__getattr__"==some none&&Vh (KK P) c&&
  (UA (KK P) c).any (·.hasDict)&&QE (KK P) (.ref c) "__setattr__"==some (some (.builtin "object.__setattr__"))&&makesIn (KK P) c&&
  (OG 16).all (fun a=> !(aO c).contains a||(QE (KK P) (.ref c) (aC a)==some none&&SK (KK P) c (aC a)==some none)))=true:=by kernel_rfl
noncomputable def mN(c:Nat):Nat:=match c with
 |45=>35|195=>171|286=>213|391=>311|419=>409|447=>437|473=>463|492=>489|518=>508|544=>534|655=>610|703=>679|_=>0
theorem sh(P:Nk):(b'.all fun c=>QE (KK P) (.ref c) "__init__"==some (some (.ref (mN c)))&&UO (KK P) (.ref (mN c))==some (.type "function"))=true:=by kernel_rfl
theorem si(P:Nk):(b'.all fun c=>(OG 32).all fun m=>match dg c m with
 |some f=>QE (KK P) (.ref c) (gd.getD m "")==some (some (.ref f))&&UO (KK P) (.ref f)==some (.type "function")
 |none=>true)=true:=by kernel_rfl
theorem oZ:((OG 16).all fun a=> !gd.contains (aC a))=true:=by kernel_rfl
theorem gX:∀i,i<16->∀j,j<16->aC i=aC j->i=j:=by decide+kernel
theorem mO{c d:Type}[BEq c][LawfulBEq c]{l:List (c×d)}{a:c}{b:d}(h:l.lookup a=some b):(a,b)∈l:=by
 induction l with
 |nil=>exact aj h
 |cons p l e=>
  rw[OH]at h;cases q:a==p.1 with
  |true=>rw[q]at h;obtain rfl:=beq_iff_eq.mp q;injection h with z0;subst z0;exact M_
  |false=>rw[q]at h;exact Nb _ (e h)
theorem mP{c a:Nat}(h:a∈aO c):a<16/\c∈b':=by
 have q:(oK.all fun p=>p.2.all (Nat.blt · 16)&&b'.contains p.1)=true:=by decide+kernel
 unfold aO at h;cases e:oK.lookup c with
 |none=>rw[e]at h;cases h
 |some as=>rw[e]at h;refine qm (List.all_eq_true.mp q _ (mO e)) fun b d=>?_;exact⟨Ni (List.all_eq_true.mp b a h),List.contains_iff_mem.mp d⟩
theorem iL:∀c,∀a∈aO c,a<16:=fun _ _ h=>(mP h).1
structure HC(P:Nk)(c:Nat):Prop where
 ga:QE (KK P) (.ref c) "__getattribute__"=some (some (.builtin "object.__getattribute__"))
 gx:QE (KK P) (.ref c) "__getattr__"=some none
 po:Vh (KK P) c=true
 hd:(UA (KK P) c).any (·.hasDict)=true
 sa:QE (KK P) (.ref c) "__setattr__"=some (some (.builtin "object.__setattr__"))
 mkk:makesIn (KK P) c=true
 at_:∀a,(aO c).contains a=true->QE (KK P) (.ref c) (aC a)=some none/\SK (KK P) c (aC a)=some none
 ini:QE (KK P) (.ref c) "__init__"=some (some (.ref (mN c)))
 inf:UO (KK P) (.ref (mN c))=some (.type "function")
 me:∀m f,dg c m=some f->QE (KK P) (.ref c) (gd.getD m "")=some (some (.ref f))/\UO (KK P) (.ref f)=some (.type "function")/\m<32
theorem kn(h:dg c m=some f):(c,m,f)∈iG:=by refine cn h fun d b e=>?_;obtain⟨i,j,k⟩:=d;subst e;have a:=UD b;refine qm a fun a g=>?_;obtain rfl:=beq_iff_eq.mp a;obtain rfl:=beq_iff_eq.mp g;exact S6 b
theorem mQ(h:dg c m=some f):m<32/\c∈b':=by
 have q:(iG.all fun x=>decide (x.2.1<32/\x.1∈b'))=true:=by decide+kernel
 exact NW (List.all_eq_true.mp q _ (kn h))
theorem xT(P:Nk)(h:c∈b'):HC P c:=by
 have i:=List.all_eq_true.mp (uz P) c h;have b:=List.all_eq_true.mp (sh P) c h;have n:=List.all_eq_true.mp (si P) c h;simp only[NV,Qh]at i b;obtain⟨⟨⟨⟨⟨⟨a1,o⟩,a3⟩,p⟩,q⟩,r⟩,a7⟩:=i;refine⟨a1,o,a3,p,q,r,fun a j=>?_,b.1,b.2,fun m f k=>?_⟩
 .have d:=List.contains_iff_mem.mp j;have:=List.all_eq_true.mp a7 a (List.mem_range.mpr (iL c a d));rw[j]at this;refine qm this fun e g=>?_;exact⟨beq_iff_eq.mp e,beq_iff_eq.mp g⟩
 .have l:=(mQ k).1;have:=List.all_eq_true.mp n m (List.mem_range.mpr l);rw[k]at this;refine qm this fun e g=>?_;exact⟨beq_iff_eq.mp e,beq_iff_eq.mp g,l⟩
theorem jh{P:Nk}{e:N0}{n m:Str}(h:mC P n e):e.key.isStr m=(n==m)/\e.refKey=false:=by obtain⟨_,t,h⟩:=h;exact⟨by rw[h];rfl,by unfold DictEntry.refKey;rw[h]⟩
theorem uA{P:Nk}{fz:Fz}{a:Nat}(g:a<16){as:List Nat}:∀{vs:List PV}{es:List N0}{j:Nat}{p:PV},(∀x∈as,x<16)->dI P fz (as.map aC) vs es->as.idxOf? a=some j->vs[j]? =some p->
  ∃e v,es.find? (·.key.isStr (aC a))=some e/\e.val=v/\VR P fz p v:=by
 induction as with
 |nil=>intro vs es j p _ _;exact aj
 |cons b as k=>
  intro vs es j p d h c f;obtain⟨w,vs,e,es,rfl,rfl,l,m,hs⟩:=h.inv;rw[Ur]at c;rw[QA,(jh l).1];by_cases q:b=a
  .subst q;rw[Nx]at c;injection c with z0;subst z0
   injection f with z0;subst z0
   exact⟨e,e.val,by rw[Nx],rfl,m⟩
  .rw[beq_eq_false_iff_ne.mpr q]at c;refine cn (bU Pm c) fun i hi n=>?_;subst n;rw[beq_eq_false_iff_ne.mpr fun z=>q (gX b (d b M_) a g z)];exact k (fun x o=>d x (Nb _ o)) hs hi f
theorem mR{P:Nk}{fz:Fz}{nm:Str}{as:List Nat}:∀{vs:List PV}{es:List N0},(∀x∈as,aC x≠nm)->dI P fz (as.map aC) vs es->
  es.find? (·.key.isStr nm)=none/\es.any (·.refKey)=false:=by
 induction as with
 |nil=>intro vs es _ h;obtain rfl:=h.inv.2;exact⟨rfl,rfl⟩
 |cons b as d=>intro vs es a h;apply bc;intro f;obtain⟨w,vs,e,es,rfl,rfl,c,k,hs⟩:=h.inv;obtain⟨g,i⟩:=d (fun x j=>a x (Nb _ j)) hs;apply f;rw[QA,(jh c).1,beq_eq_false_iff_ne.mpr (a b M_),O8,(jh (m:=nm) c).2,i];exact⟨g,rfl⟩
section
variable{C:Cx}{A:NN}{FR:List Nw}{σ:aa}{fz:Fz}{s:M7}{E:M4->M7->Prop}
theorem AA(G:aw C σ fz FR s.heap):(KK C.P).In s.heap:=fi _ _ (fun a o h=>(aJ C h G).2) _
theorem VR.handed{P:Nk}{fz:Fz}(r:VR P fz p v):VX v=true:=
 VR.rec (motive_1:=fun _ v _=>VX v=true) (motive_2:=fun _ _ _=>True) (motive_3:=fun _ _ _ _=>True) rfl (fun _=>rfl) (fun _ _=>rfl) (fun _ _ _=>rfl) (fun _ _ _ _=>rfl) (fun _ _ _ _=>rfl) (fun _ _ _ _=>rfl) (fun _=>rfl) (fun _=>rfl) trivial (fun _ _ _ _=>trivial) trivial (fun _ _ _ _ _=>trivial) r
structure Inst(C:Cx)(σ:aa)(fz:Fz)(h:Og)(o:PV)(c:Nat)(x dx:Nw)(as:List Nat)(vs:List PV)(es:List N0)(n:Nat):Prop where
 at_:h.get? x=some (fK c dx)
 dict:h.get? dx=some (ez es.toArray n)
 b:∀a∈as,a<16
 e:dI C.P fz (as.map aC) vs es
theorem Inst.of_obj(G:aw C σ fz FR s.heap){c:Nat}{b:List PV}{v:M4}(r:VR C.P fz (.obj c b) v):∃x d es n,v= .ref x/\Inst C σ fz s.heap (.obj c b) c x d (aO c) b es n:=by apply bc;intro e;obtain⟨a,d,es,n,rfl,f,g,h⟩:=r.inv;apply e;exact⟨_,_,_,_,rfl,G.sub _ _ f,G.sub _ _ g,iL c,h⟩
theorem Inst.of_iref(G:aw C σ fz FR s.heap){c d:Nat}{as:List Nat}{vs:List PV}{b:Nat}{v:M4}(r:VR C.P fz (.iref c d) v)(h:σ d=some (.ins b as vs)):∃x es n,v= .ref x/\Inst C σ fz s.heap (.iref c d) c x d as vs es n:=by apply bc;intro e;obtain⟨a,rfl,f⟩:=r.inv;obtain⟨_,o,g,i⟩:=G.led _ _ h;obtain⟨es,n,rfl,j,k⟩:=i.inv;apply e;exact⟨_,_,_,rfl,G.sub _ _ f,g,j,k⟩
theorem Inst.instAt{h:Og}{o:PV}{c:Nat}{x a:Nw}{as:List Nat}{vs:List PV}{es:List N0}{n:Nat}(I:Inst C σ fz h o c x a as vs es n):InstAt h x (fK c a) c (some (ez es.toArray n)):=
 ⟨I.at_,rfl,rfl,I.dict⟩
theorem qx(G:aw C σ fz FR s.heap){o:PV}{c a j:Nat}{x l:Nw}{as:List Nat}{vs:List PV}{es:List N0}{n:Nat}{w:PV}(I:Inst C σ fz s.heap o c x l as vs es n)(m:c∈b')(h:(aO c).contains a=true)
  (p:as.idxOf? a=some j) (q:vs[j]? =some w) {Q:QV} (r:Q w σ):Nm C.M A (Wm (.ref x) (aC a) true) (eM C FR σ fz s Q) E s:=by
 have F:=xT C.P m;have d:a<16:=iL c a (List.contains_iff_mem.mp h);apply bc;intro t;obtain⟨e,v,u,y,i⟩:=uA d I.b I.e p q;have z:lookIn (aC a) (ez es.toArray n)=some (some v):=by show(match es.find? (·.key.isStr (aC a))with|some e=>some (some e.val)|none=>_)=_;rw[u,←y]
 obtain⟨k,f,g⟩:=V3 F.hd;apply t;refine get_value (v:=v) (AA G) I.instAt F.ga ?_ i.handed (aV G i r);have D:W.ownOf k (some (ez es.toArray n)) (aC a)=some (some v):=(M8 g).trans z;unfold findObj;rw[f,(F.at_ a h).1];show(W.ownOf k (some (ez es.toArray n)) (aC a)).bind _=_;rw[D];rfl
theorem eO(h:(aO c).contains a=true):c∈b':=(mP (List.contains_iff_mem.mp h)).2
theorem ji{l:List Nat}{a j:Nat}(h:l.idxOf? a=some j):l.contains a=true:=by rw[Vt,Oo]at h;obtain⟨b,c,_⟩:=h;exact List.contains_iff_mem.mpr (beq_iff_eq.mp c▸OI b)
theorem sj{σ:aa}(h:xw (.iref c d) a σ=some w):∃as vs j,σ d=some (.ins c as vs)/\(aO c).contains a=true/\as.idxOf? a=some j/\vs[j]? =some w:=by
 have h:(match σ d with|some (.ins b as vs)=>if b=c/\(aO c).contains a=true then(as.idxOf? a).bind fun j=>vs[j]? else none|_=>none)=some w:=h;generalize σ d=x at h⊢;cases x with
 |none=>exact aj h
 |some x=>cases x with
  |ins b as vs=>
   obtain⟨⟨rfl,e⟩,f⟩:(b=c/\(aO c).contains a=true)/\((as.idxOf? a).bind fun j=>vs[j]?)=some w:=by
    by_cases q:b=c/\(aO c).contains a=true
    .exact⟨q,ce q h⟩
    .exact aj (bU q h)
   refine bE f fun j g i=>?_;exact⟨as,vs,j,rfl,e,g,i⟩
  |_=>exact aj h
theorem xU(G:aw C σ fz FR s.heap)(r:VR C.P fz o i)(h:xw o a σ=some w){Q:QV}(k:Q w σ):
  Nm C.M A (Wm i (aC a) true) (eM C FR σ fz s Q) E s:=by
 cases o with
 |obj c l=>apply bc;intro f;refine bE h fun j e g=>?_;obtain⟨x,m,es,n,rfl,I⟩:=Inst.of_obj G r;apply f;have b:=ji e;exact qx G I (eO b) b e g k
 |iref c d=>apply bc;intro f;obtain⟨as,vs,j,hs,b,e,g⟩:=sj h;obtain⟨x,es,n,rfl,I⟩:=Inst.of_iref G r hs;apply f;exact qx G I (eO b) b e g k
 |_=>exact aj h
theorem uB(b:m<32)(c:a<16):aC a≠gd.getD m "":=by
 intro e;have:=List.all_eq_true.mp oZ a (List.mem_range.mpr c);rw[e]at this;have d:gd.contains (gd.getD m "")=true:=by rw[Oy,Nu (show m<gd.length from b),Sf];exact List.contains_iff_mem.mpr (OI _)
 rw[d]at this;exact aK this
theorem mS(G:aw C σ fz FR s.heap){o:PV}{c m f:Nat}{x g:Nw}{as:List Nat}{vs:List PV}{es:List N0}{n:Nat}(I:Inst C σ fz s.heap o c x g as vs es n)(d:dg c m=some f){pl:Sem Bool}
  {Q:M4×List M4->M7->Prop} (h:Q (.ref f,[.ref x]) s):Nm C.M A (Q9 (.ref x) (gd.getD m "") pl) Q E s:=by
 have F:=xT C.P (mQ d).2;obtain⟨i,j,k⟩:=F.me m f d;refine method_fn (AA G) I.instAt F.ga F.gx i j ?_ h;obtain⟨g1,g2⟩:=mR (fun a l=>uB k (I.b a l)) I.e;show Ri _ (match es.find? (·.key.isStr (gd.getD m ""))with|some e=>some (some e.val)|none=>if es.any (·.refKey)then none else some none)=_;rw[g1,g2];rfl
end
noncomputable def aa.del(σ:aa)(a:Nw):aa:=fun b=>if b=a then none else σ b
theorem aa.dN(σ:aa)(h:b≠a):σ.del a b=σ b:=by simp[aa.del,h]
section
variable{C:Cx}{A:NN}{FR:List Nw}{σ:aa}{fz:Fz}{s:M7}{E:M4->M7->Prop}
theorem GS.freeze(G:aw C σ fz FR s.heap){o:Obj}(d:σ a≠none)(f:s.heap.get? a=some o):GS C FR σ fz s (σ.del a) (fz.ext a o) s:=by
 obtain⟨m,g⟩:∃m,σ a=some m:=by
  cases q:σ a with
  |none=>exact absurd q d
  |some m=>exact⟨m,rfl⟩
 have i:=(G.led a m g).1;have ex:∀b o',fz b=some o'->fz.ext a o b=some o':=fun b o' h=>by
  have:b≠a:=fun e=>by rw[e,i]at h;exact aj h
  simp[Fz.ext,this,h]
 have c:∀b∈FR,b≠a:=fun b h e=>by obtain⟨_,y,_⟩:=G.fr b h;rw[e]at y;exact d y
 refine⟨⟨ex,fun b o h _ _=>h,fun a _ o h=>⟨o.slots,h⟩,fun a h=>G.there a h,fun b h=>?_,fun b h=>?_,rfl,rfl⟩,fun b o' h=>ex b o' (G.base b o' h),fun b o' h=>?_,fun b h=>?_,fun b j h=>?_⟩
 .by_cases e:b=a
  .exact .inl (e▸d)
  .rw[aa.dN _ e]at h;exact .inl h
 .by_cases e:b=a
  .exact .inr (.inl (e▸d))
  .simp only[Fz.ext,e,RI]at h;exact .inl h
 .by_cases e:b=a
  .subst e;simp[Fz.ext]at h;subst h;exact f
  .simp only[Fz.ext,e,RI]at h;exact G.sub b o' h
 .obtain⟨x,y,r⟩:=G.fr b h;exact⟨by simp[Fz.ext,c b h,x],by rw[aa.dN _ (c b h)];exact y,r⟩
 .by_cases e:b=a
  .subst e;simp[aa.del]at h
  .rw[aa.dN _ e]at h;apply bc;intro k;obtain⟨x,o',l,n⟩:=G.led b j h;apply k;exact⟨by simp[Fz.ext,e,x],o',l,n.mono ex⟩
theorem GS.drop(G:aw C σ fz FR s.heap){c:aa}(h:∀a m,c a=some m->σ a=some m):GS C FR σ fz s c fz s:=by
 have d:∀a,c a≠none->σ a≠none:=fun a q=>by
  cases e:c a with
  |none=>exact absurd e q
  |some m=>rw[h a m e];simp
 refine⟨⟨fun _ _ h=>h,fun _ _ h _ _=>h,fun a _ o h=>⟨o.slots,h⟩,fun a h=>G.there a h,fun b q=> .inl (d b q),fun b q=> .inl q,rfl,rfl⟩,G.base,G.sub,fun b q=>?_,fun b m q=>G.led b m (h b m q)⟩;obtain⟨x,y,r⟩:=G.fr b q;refine⟨x,?_,r⟩;cases e:c b with
 |none=>rfl
 |some m=>have:=h b m e;rw[y]at this;exact aj this
theorem dI.set{P:Nk}{fz:Fz}{a:Nat}{p:PV}{v:M4}(j:a<16)(l:VR P fz p v){as:List Nat}:∀{vs:List PV}{es:List N0}{i:Nat},(∀x∈as,x<16)->dI P fz (as.map aC) vs es->as.idxOf? a=some i->
  es.findIdx? (·.key.isStr (aC a))=some i/\dI P fz (as.map aC) (vs.set i p) (es.modify i fun e=>{e with val:=v}):=by
 induction as with
 |nil=>intro vs es i _ _;exact aj
 |cons b as m=>
  intro vs es i g h hi;obtain⟨w,vs,e,es,rfl,rfl,c,d,hs⟩:=h.inv;rw[Ur]at hi;rw[T8,(jh c).1];by_cases q:b=a
  .subst q;rw[Nx]at hi;injection hi with z0;subst z0
   exact⟨by rw[Nx];rfl,.cons (e:={e with val:=v}) c l hs⟩
  .rw[beq_eq_false_iff_ne.mpr q]at hi;refine cn (bU Pm hi) fun k f n=>?_;subst n;rw[beq_eq_false_iff_ne.mpr fun z=>q (gX b (g b M_) a j z)];obtain⟨g1,g2⟩:=m (fun x o=>g x (Nb _ o)) hs f;exact⟨by rw[g1];rfl,.cons c d g2⟩
theorem dI.new{P:Nk}{fz:Fz}{n:Str}{p:PV}{e:N0}(c:mC P n e)(d:VR P fz p e.val){ns:List Str}{vs:List PV}{es:List N0}(h:dI P fz ns vs es):dI P fz (ns++[n]) (vs++[p]) (es++[e]):=
 h.ind (m:=fun ns vs es=>dI P fz (ns++[n]) (vs++[p]) (es++[e])) (.cons c d .nil) fun a b _ f=> .cons a b f
theorem o0{l:List Nat}{a:Nat}(h:l.idxOf? a=none):∀x∈l,x≠a:=by intro x b e;rw[Vt,S7]at h;have:=h x b;simp[e]at this
theorem xV{fz:Fz}{a:Nat}(g:a<16){as:List Nat}{vs:List PV}{es:List N0}{n:Nat}(f:∀x∈as,x<16)(i:dI C.P fz (as.map aC) vs es){p:PV}{v:M4}(k:VR C.P fz p v)(tk:Tok):
  ∃b l,SD (aC a) (Ph C.P (aC a)) (.str (aC a) tk) v (ez es.toArray n)=ez b.toArray l/\dI C.P fz ((ge as vs a p).1.map aC) (ge as vs a p).2 b/\(∀x∈(ge as vs a p).1,x<16)/\b.length<=es.length+1:=by
 rw[Obj.putName_eq];unfold Obj.putNameByArray ge;simp only;cases q:as.idxOf? a with
 |some j=>
  obtain⟨g1,g2⟩:=dI.set g k f i q;have c:es.toArray.findIdx? (fun e=>e.key.isStr (aC a))=some j:=by rw[TH];exact g1
  rw[c];refine⟨es.modify j fun e=>{e with val:=v},n,?_,g2,f,by simp⟩;simp[List.modify_toArray]
 |none=>
  have m:=o0 q;obtain⟨g1,g2⟩:=mR (nm:=aC a) (fun x d e=>m x d (gX x (f x d) a g e)) i;have c:es.toArray.findIdx? (fun e=>e.key.isStr (aC a))=none:=by
   rw[TH,S7];rw[List.find?_eq_none]at g1;intro x d
   simpa using g1 x d
  rw[c];refine⟨es++[⟨Ph C.P (aC a),.str (aC a) tk,v⟩],n+1,by simp,?_,?_,by simp⟩
  .have:=dI.new (e:=⟨Ph C.P (aC a),.str (aC a) tk,v⟩) ⟨rfl,tk,rfl⟩ k i
   simpa using this
  .intro x d;rcases List.mem_append.mp d with h|h
   .exact f x h
   .simp at h;exact h▸g
theorem HD{K:Frag}{f x c:Nw}{name:Str}{tk:Tok}{v:M4}{R:R9->M7->Prop}{es d:List N0}{n i:Nat}(X:K.In s.heap)(I:InstAt s.heap x (fK c f) c (some (ez es.toArray n)))(j:Vh K c=true)(k:SK K c name=some none)
  (hh:(UA K c).any (·.hasDict)=true) (l:es.any (·.refKey)=false)
  (e:SD name (Ph C.P name) (.str name s.toks) v (ez es.toArray n)=ez d.toArray i) (m:d.length<=1000)
  (h:R (.ok (.ret .none)) {s with heap:=s.heap.update f (SD name (Ph C.P name) (.str name s.toks) v),toks:=s.toks+1}):
  PY C.M A (.call (.builtin "object.__setattr__") ⟨[.ref x,.str name tk,v],[]⟩) R s:=by
 refine osa_open X I j k fun b=>?_;apply bc;intro o;obtain⟨t,p,g⟩:=V3 hh;apply o;have D:=I.dict;have q:(s.heap.update f (SD name (Ph C.P name) (.str name s.toks) v)).get? f=some (ez d.toArray i):=by rw[←e];exact NU _ D (by rw[e];rfl)
 refine M2 (Nf (M2 (M2 (VP I.at_ (M2 ((Uy X p).here ?_))))));rw[g];refine Nf (a:=some f) (M2 (Nf (M2 ?_)));unfold nsSet;refine M2 (M2 (RF (Nf (M2 (wpAny_mkText (M2 (VP D ?_)))))));have r:(!es.toArray.any (·.key.isStr name)&&es.toArray.any (·.refKey))=false:=by rw[Ut,Ut,l,S3]
 dsimp only;rw[aRefKeyMayBeTheName_at,r];refine wpAny_updatePart D ?_;refine M2 (Vf q (by exact Vi (by rw[Uk,sizeLine_eq];exact M1 m (by decide))) ?_);exact Nf h
theorem sk{P:Nk}{fz:Fz}{ns:List Str}{vs:List PV}{es:List N0}(h:dI P fz ns vs es):es.any (·.refKey)=false:=
 h.ind (m:=fun _ _ es=>es.any (·.refKey)=false) rfl fun{n _ _ _ _ _} a _ _ b=>by rw[O8,b,(jh (m:=n) a).2];rfl
theorem xW{P:Nk}{fz:Fz}{ns:List Str}{vs:List PV}{es:List N0}(h:dI P fz ns vs es):ns.length=es.length:=
 h.ind (m:=fun ns _ es=>ns.length=es.length) rfl fun _ _ _ a=>Np (·+1) a
theorem xX{σ:aa}{K:aa->Prop}(h:mH o a v σ K):∃c d as vs,o= .iref c d/\σ d=some (.ins c as vs)/\as.length<=100/\(aO c).contains a=true/\K (σ.upd d (.ins c (ge as vs a v).1 (ge as vs a v).2)):=by
 cases o with
 |iref c d=>
  have h:(match σ d with|some (.ins b as vs)=>b=c/\as.length<=100/\(aO c).contains a=true/\K (σ.upd d (.ins c (ge as vs a v).1 (ge as vs a v).2))|_=>False):=h;refine⟨c,d,?_⟩;cases q:σ d with
  |none=>rw[q]at h;exact h.elim
  |some m=>rw[q]at h;cases m with
   |ins b as vs=>obtain⟨rfl,h⟩:=h;exact⟨as,vs,rfl,rfl,h⟩
   |_=>exact h.elim
 |_=>exact h.elim
theorem uC(G:aw C σ fz FR s.heap)(t:VR C.P fz o p)(u:VR C.P fz v r){K:aa->Prop}(h:mH o a v σ K){Q:Unit->M7->Prop}
 (w:∀f fz' s',GS C FR σ fz s f fz' s'->K f->Q () s'):Nm C.M A (U7 p (aC a) r) Q E s:=by apply bc;intro j;obtain⟨c,d,as,vs,rfl,hs,g,k,y⟩:=xX h;obtain⟨x,es,n,rfl,I⟩:=Inst.of_iref G t hs;apply j;have F:=xT C.P (eO k);have l:a<16:=iL _ a (List.contains_iff_mem.mp k);refine set_plain (AA G) I.instAt F.sa ?_;apply bc;intro j;obtain⟨m,z,e,g1,g2,g3⟩:=xV (C:=C) (n:=n) l I.b I.e u (s.toks+1);apply j;have i:es.length=as.length:=(xW I.e).symm.trans (M6 _);have D:GS C FR σ fz s σ fz {s with toks:=s.toks+1}:= .keep G fun _ _ h=>h;refine HD (s:={s with toks:=s.toks+1}) (AA D.2) ⟨I.at_,rfl,rfl,I.dict⟩ F.po (F.at_ a k).2 F.hd (sk I.e) e (M1 g3 (M1 (Ny (i▸g)) (by decide))) ?_;exact w _ fz _ (.ledUpd (o:=ez m.toArray z) G (fun q=>aj (q.symm.trans hs)) (fun b o H L=>(NX _ _ (NT H)).trans L) (by rw[←e];exact NU _ I.dict (by rw[e];rfl)) (.ins g2 g1)) y
theorem rU.under(F:rU A FR (d+1))(v:M4)(c:Nw)(vals:List M4):rU (A.under (.builtin "type.__call__" ⟨.ref c::vals,[]⟩)) FR d:=by
 obtain⟨g,h,i,j⟩:=F;have w:(Si "type.__call__" ⟨.ref c::vals,[]⟩).weight=1:=rfl;have u:(Si "type.__call__" ⟨.ref c::vals,[]⟩).cUnits=1:=rfl;have e:(Si "type.__call__" ⟨.ref c::vals,[]⟩).envs=[]:=rfl;refine⟨g,?_,?_,?_⟩
 .obtain⟨f,a,b⟩:=h;exact⟨f,by show pushEnvs (Code.envs (Si "type.__call__" ⟨.ref c::vals,[]⟩)) A.frames=_;rw[e];exact a,b⟩
 .show A.depth+Vx _+2*d+4<=_;rw[w];lia
 .show A.units+Code.cUnits _+12*d+200<=_;rw[u];lia
theorem aM(hc:c∈b'){Q:QV}{X:QX}
 (h:∀D,σ D=none->af d (.ref (mN c)) (.iref c D::args) (σ.upd D (.ins c [] [])) (fun v Z6=>v= .none/\(Q (.iref c D) Z6\/∃fs,Z6 D=some (.ins c (aO c) fs)/\Q (.obj c fs) (Z6.del D))) X):
  af (d+1) (.ref c) args σ Q X:=by
 intro C A FR fz s vals F G hv;obtain⟨hh,g,dr,tk,os⟩:=s;have K:=xT C.P hc;have n1:hh.get? hh.objs.size=none:=fresh hh;have g1:=GS.ledNew (s:=⟨hh,g,dr,tk,os⟩) (s':=⟨hh.push PW,g,dr,tk,os⟩) (o:=PW) (m:= .ins c [] []) G n1 (fun b o e=>Ng _ e) (NC _ rfl) (.ins (es:=[]) (n:=0) (by simp) .nil);have g2:=GS.fzNew (s:=⟨hh.push PW,g,dr,tk,os⟩) (s':=⟨(hh.push PW).push (instObj c hh.objs.size),g,dr,tk,os⟩) (o:=fK c hh.objs.size) g1.2 (fresh (hh.push PW)) (fun b o e=>Ng _ e) (NC _ rfl);have g3:=g1.trans g2;refine make_core (makes_of (AA G) K.mkk) (SN (AA G) K.ini) (fun self=>bind_fn (AA G) self K.inf) (.inl rfl) ?_;have hx:VR C.P (fz.ext (hh.objs.size+1) (fK c hh.objs.size)) (.iref c hh.objs.size) (.ref (hh.objs.size+1)):= .iref (by simp[Fz.ext]);have z:=h hh.objs.size (G.free n1).2.1 C _ FR _ _ (.ref (hh.objs.size+1)::vals) (F.under (.ref c) c vals) (by have:=g3.2;rw[PG]at this;exact this) (.cons hx (hv.mono (by have:=g3.1.fzk;rw[PG]at this;exact this)));refine SO z fun r s' hr=>?_;have via:GS C FR σ fz ⟨hh,g,dr,tk,os⟩ (σ.upd hh.objs.size (.ins c [] [])) (fz.ext (hh.objs.size+1) (fK c hh.objs.size)) ⟨(hh.push PW).push (instObj c hh.objs.size),g,dr,tk,os⟩:=by have:=g3;rw[PG]at this;exact this
 cases r with
 |error e=>exact PX.via via hr
 |ok f=>
  cases f with
  |ret v=>
   obtain⟨pv,Z6,fz',gs,rv,rfl,hq⟩:=hr;cases rv.inv;refine⟨rfl,?_⟩;have hx':=hx.mono gs.1.fzk;rcases hq with hq|⟨fs,hs,hq⟩
   .exact⟨_,Z6,fz',via.trans gs,hx',hq⟩
   .obtain⟨_,o,ho,hm⟩:=gs.2.led _ _ hs;have fzs:=GS.freeze gs.2 (fun q=>aj (q.symm.trans hs)) ho;obtain⟨_,_,rfl,hb,he⟩:=hm.inv;obtain⟨_,e,ha⟩:=hx'.inv;injection e with z0;subst z0
    exact⟨_,_,_,(via.trans gs).trans fzs,.obj (fzs.1.fzk _ _ ha) (M8 rfl) (he.mono fzs.1.fzk),hq⟩
  |_=>exact hr.elim
end
structure LR(C:Cx)(FR:List Nw)(env:Env)(ρ:ar)(σ:aa)(fz:Fz)(h:Og):Prop where
 ns:∃m,h.Ns env.locals m/\∀(i:Nat)(v:PV),ρ[i]? =some (some v)->∃(n:Str) (k:Od),env.scope.names[i]? =some (n,k)/\
  ((k= .local/\∃x,m n=some x/\VR C.P fz v x)\/((k= .cell\/k= .free)/\∃c o x,env.cells.lookup n=some c/\fz c=some o/\o.data= .cell (some x)/\VR C.P fz v x))
 cl:∀(i:Nat)(n:Str),env.scope.names[i]? =some (n,Ow)->(env.cells.lookup n).isSome=true
 lσ:σ env.locals=none
 lf:fz env.locals=none
 cel:env.func≠none->∀(i:Nat)(n:Str),ρ[i]? =some none->env.scope.names[i]? =some (n,Ow)->∃c,env.cells.lookup n=some c/\(∃o,h.get? c=some o/\o.data= .cell none)/\σ c=none/\fz c=none/\c∉FR/\c≠env.locals
theorem Ns.slots{h h':Og}{m:Str->Option M4}(n:h.Ns L m)(k:∀o,h.get? L=some o->∃a,h'.get? L=some {o with slots:=a}):h'.Ns L m:=by obtain⟨o,es,b,c,d,r⟩:=n;obtain⟨a,e⟩:=k o c;exact⟨_,es,b,e,d,r⟩
theorem LR.step{C:Cx}{env:Env}{σ l:aa}{fz fz':Fz}{s s':M7}(x:LR C u env E σ fz s.heap)(g:GS C u σ fz s l fz' s'):LR C u env E l fz' s'.heap:=by
 apply bc;intro t;obtain⟨⟨m,F,K⟩,L,w,M,O⟩:=x;apply t;have p:∀a,(∃o,s.heap.get? a=some o)->σ a=none->l a=none:=fun a d h=>by
  obtain⟨o,d⟩:=d;cases q:l a with
  |none=>rfl
  |some z=>
   rcases g.1.ledn a (by rw[q];simp)with e|e
   .exact absurd h e
   .rw[d]at e;exact ba e
 have f:∀a,(∃o,s.heap.get? a=some o)->σ a=none->fz a=none->fz' a=none:=fun a d h r=>by
  obtain⟨o,d⟩:=d;cases q:fz' a with
  |none=>rfl
  |some z=>
   rcases g.1.fzn a (by rw[q];simp)with e|e|e
   .exact absurd r e
   .exact absurd h e
   .rw[d]at e;exact ba e
 have j:∃o,s.heap.get? env.locals=some o:=by obtain⟨o,_,_,d,_⟩:=F;exact⟨o,d⟩
 refine⟨⟨m,Ns.slots F fun o d=>?_,fun i v hi=>?_⟩,L,p _ j w,f _ j w M,fun P i n hi Q=>?_⟩
 .by_cases q:env.locals∈u
  .exact g.1.frk _ q o d
  .exact⟨o.slots,g.1.keep _ o d w q⟩
 .apply bc;intro t;obtain⟨n,k,A,r⟩:=K i v hi;apply t;refine⟨n,k,A,r.elim (fun h=>?_) fun h=>?_⟩
  .obtain⟨a,y,b,c⟩:=h;exact .inl ⟨a,y,b,c.mono g.1.fzk⟩
  .obtain⟨a,c,o,y,b1,b2,b3,b4⟩:=h;exact .inr ⟨a,c,o,y,b1,g.1.fzk _ _ b2,b3,b4.mono g.1.fzk⟩
 .apply bc;intro t;obtain⟨c,A,⟨o,r,V⟩,D,W,H,X⟩:=O P i n hi Q;apply t;exact⟨c,A,⟨o,g.1.keep _ o r D H,V⟩,p _ ⟨o,r⟩ D,f _ ⟨o,r⟩ D W,H,X⟩
structure St(C:Cx)(A:NN)(FR:List Nw)(d:Nat)(sc:NL)(env:Env)(ρ:ar)(σ:aa)(fz:Fz)(s:M7):Prop where
 fit:rU A FR d
 scE:env.scope=sc
 gl:env.globals=3
 bi:env.builtins=0
 ok:bA sc=true
 good:aw C σ fz FR s.heap
 lr:LR C FR env ρ σ fz s.heap
theorem St.step{C:Cx}{A:NN}{c:NL}{env:Env}{σ a:aa}{fz fz':Fz}{s s':M7}(x:St C A b d c env e σ fz s)(g:GS C b σ fz s a fz' s'):St C A b d c env e a fz' s':=
 ⟨x.fit,x.scE,x.gl,x.bi,x.ok,g.2,x.lr.step g⟩
structure HE(sc:NL):Prop where
 kind:sc.kind= .function
 nd:(sc.names.map (·.1)).Nodup
 one:(sc.names.filter (·.2== .cell)).length<=1
 gen:sc.isGenerator=false
 cor:sc.isCoroutine=false
theorem ko{a:NL}(h:bA a=true):HE a:=by unfold bA at h;simp only[NV,Qh,Ox,Sk]at h;exact⟨h.1.1.1.1,h.1.1.1.2,h.1.1.2,h.1.2,h.2⟩
theorem aF:∀{l:List (Str×Od)}{i:Nat}{n:Str}{k:Od},(l.map (·.1)).Nodup->l[i]? =some (n,k)->l.lookup n=some k
 |[],_,_,_,_,h=>by simp at h
 |(a,b)::r,0,n,k,_,h=>by simp at h;simp[h.1,h.2,OH]
 |(a,b)::r,i+1,n,k,c,h=>by
  rw[NO,Pd]at c;have d:n∈r.map (·.1):=List.mem_map.mpr ⟨(n,k),Ok (by simpa using h),rfl⟩;have:(n==a)=false:=by rw[beq_eq_false_iff_ne];intro e;exact c.1 (e▸d)
  rw[OH,this];exact aF c.2 (by simpa using h)
noncomputable def sq:Fz->Bool->Bool->Prop:=fun _ b v=>b=v
noncomputable def SV(d:Nat)(c:NL)(e:Expr)(m:ME):Prop:=∀(C:Cx)(A:NN)(a:List Nw)(env:Env)(b:ar)(σ:aa)(fz:Fz)(s:M7)(Q:QV)(X:QX),
 St C A a d c env b σ fz s->cR d m b σ Q X->Nm C.M A (QU e env) (PK C a σ fz s (VR C.P) Q) (PX C a σ fz s X) s
noncomputable def LU(P:Nk)(k:Nat):Fz->List PV->List M4->Prop:=fun fz b v=>aL P fz b v/\v.length=k
noncomputable def xY(d:Nat)(c:NL)(es:List Expr)(ms:List ME):Prop:=∀(C:Cx)(A:NN)(a:List Nw)(env:Env)(b:ar)(σ:aa)(fz:Fz)(s:M7)(Q:List PV->aa->Prop)(X:QX)(pos:Pos),
 St C A a d c env b σ fz s->mG d ms b σ Q X->Nm C.M A (spliced (Ue pos (Qo es env))) (PK C a σ fz s (LU C.P es.length) Q) (PX C a σ fz s X) s
noncomputable def ST(d:Nat)(c:NL)(e:Expr)(m:ME):Prop:=∀(C:Cx)(A:NN)(a:List Nw)(env:Env)(b:ar)(σ:aa)(fz:Fz)(s:M7)(Q:Bool->aa->Prop)(X:QX),
 St C A a d c env b σ fz s->fT d m b σ Q X->Nm C.M A (isTrue e env (QU e env)) (PK C a σ fz s sq Q) (PX C a σ fz s X) s
section
variable{C:Cx}{A:NN}{FR:List Nw}{σ:aa}{fz:Fz}{s:M7}{α β γ δ:Type}{R:Fz->β->α->Prop}{R':Fz->δ->γ->Prop}{X:QX}
theorem LV{k:α->Sem γ}{Q:β->aa->Prop}{Q':δ->aa->Prop}(h:Nm C.M A t (PK C FR σ fz s R Q) (PX C FR σ fz s X) s)
 (h':∀v s' b a fz',GS C FR σ fz s a fz' s'->R fz' b v->Q b a->Nm C.M A (k v) (PK C FR a fz' s' R' Q') (PX C FR a fz' s' X) s'):Nm C.M A (t>>=k) (PK C FR σ fz s R' Q') (PX C FR σ fz s X) s:=
 M2 (Nj h (fun v s' ⟨b,a,fz',g,r,q⟩=>Nj (h' v s' b a fz' g r q) (fun _ _ z=>z.via g) fun _ _ z=>z.via g) fun _ _ z=>z)
theorem Mv{k:α->Sem γ}{Q:β->aa->Prop}{Q':δ->aa->Prop}(h:Nm C.M A t (PK C FR σ fz s R Q) (PX C FR σ fz s X) s)
 (h':∀v s' b a fz',GS C FR σ fz s a fz' s'->R fz' b v->Q b a->Nm C.M A (k v) (PK C FR a fz' s' R' Q') (PX C FR a fz' s' X) s'):Nm C.M A t (fun v s'=>Nm C.M A (k v) (PK C FR σ fz s R' Q') (PX C FR σ fz s X) s') (PX C FR σ fz s X) s:=
 Nj h (fun v s' ⟨b,a,fz',g,r,q⟩=>Nj (h' v s' b a fz' g r q) (fun _ _ z=>z.via g) fun _ _ z=>z.via g) fun _ _ z=>z
theorem fU{a:aa}{fz':Fz}{s':M7}{Q:β->aa->Prop}(g:GS C FR σ fz s a fz' s')(h:Nm C.M A t (PK C FR a fz' s' R Q) (PX C FR a fz' s' X) s'):Nm C.M A t (PK C FR σ fz s R Q) (PX C FR σ fz s X) s':=
 Nj h (fun _ _ z=>z.via g) fun _ _ z=>z.via g
end
section
variable{d:Nat}{sc:NL}{ml:List Nat}
theorem eP(h:bo ml n sc .v e=some m)(rest:List Expr)(env:Env):Qo (e::rest) env=(false,QU e env)::Qo rest env:=by cases e<;>first|rfl|(cases n<;>exact aj (show(none:Option ME)=some m from h))
theorem cG(y:∀e m,bo ml n sc .v e=some m->SV d sc e m):∀(es:List Expr)(ms:List ME),dh (bo ml n sc .v) es=some ms->xY d sc es ms
 |[],ms,h,C,A,p,env,t,σ,fz,s,Q,X,pos,S,w=>by
  injection h with z0;subst z0
  exact wpAny_items_nil (aX S.good ⟨.nil,rfl⟩ w)
 |e::es,ms,h,C,A,p,env,t,σ,fz,s,Q,X,pos,S,w=>by apply bc;intro l;refine uw h fun m u D F H=>?_;subst H;apply l;refine wpAny_items_cons ?_ (eP D es env);refine Nj (y e m D C A p env t σ fz s _ X S w) (fun v s₁ x=>?_) fun _ _ z=>z;apply bc;intro l;obtain⟨b,f,i,g,r,q⟩:=x;apply l;refine Nj (cG y es u F C A p env t f i s₁ _ X pos (S.step g) q) (fun vs E x=>?_) fun _ _ z=>z.via g;apply bc;intro l;obtain⟨K,j,k,a,c,o⟩:=x;apply l;exact⟨b::K,j,k,g.trans a,⟨.cons (r.mono a.1.fzk) c.1,by simp[c.2]⟩,o⟩
theorem dw(es:List Expr):∀(ms:List ME),dh (bo ml n sc .v) es=some ms->∀(pos:Pos)(env:Env),(Ue pos (Qo es env)).any (·.1)=false:=by
 induction es with
 |nil=>exact fun _ _ _ _=>rfl
 |cons e es b=>intro ms h pos env;apply bc;intro c;refine uw h fun m a d f g=>?_;subst g;apply c;rw[eP d es env];exact b a f pos env
end
set_option tactic.hygienic true
noncomputable def uD(h:Og)(a:Nw):Array N0:=match h.get? a with
 |some ⟨_,_,.dict es _,_⟩=>es
 |_=>#[]
noncomputable def gj(P:Nk):Array N0:=uD (H1 P) 3
noncomputable def qy(P:Nk):Array N0:=uD (H1 P) 0
noncomputable def iM(e:N0):Bool:=match e.key with|.str .. =>true|_=>false
theorem d8{es:Array N0}(h:es.toList.all iM=true):StrKeys es:=by
 intro e a;have:=List.all_eq_true.mp h e (by simpa using a);unfold iM at this;split at this
 .rename_i x t q;exact⟨_,_,q⟩
 .exact aK this
theorem EB(P:Nk):∃n,(H1 P).get? 3=some ⟨.type "dict",none,.dict (gj P) n,#[]⟩:=⟨_,rfl⟩
theorem EC(P:Nk):∃n,(H1 P).get? 0=some ⟨.type "dict",none,.dict (qy P) n,#[]⟩:=⟨_,rfl⟩
theorem uE(P:Nk):(gj P).toList.all iM=true:=by kernel_rfl
theorem uF(P:Nk):(qy P).toList.all iM=true:=by kernel_rfl
noncomputable def eQ:BI->M4
 |.len=> .builtin "len"|.ord=> .builtin "ord"|.chr=> .builtin "chr"|.abs=> .builtin "abs"|.int=> .type "int"|.str=> .type "str"|.sum=> .builtin "sum"
 |.tuple=> .type "tuple"|.divmod=> .builtin "divmod"|.sorted=> .builtin "sorted"|.sortset=> .none|.dict=> .type "dict"
theorem ED(P:Nk):(fF.all fun x=>Ov (gj P) x.1==some (.ref x.2))=true:=by kernel_rfl
theorem EE(P:Nk):(lc.all fun x=>(Ov (gj P) x.1).isNone&&Ov (qy P) x.1==some (eQ x.2))=true:=by kernel_rfl
theorem Bm(P:Nk):((Ov (gj P) "range").isNone&&Ov (qy P) "range"==some (.type "range")&&(Ov (gj P) "isinstance").isNone&&Ov (qy P) "isinstance"==some (.builtin "isinstance")&&
 (Ov (gj P) "set").isNone&&Ov (qy P) "set"==some (.type "set"))=true:=by kernel_rfl
theorem qz(P:Nk):Ov (gj P) "range"=none/\Ov (qy P) "range"=some (.type "range")/\Ov (gj P) "isinstance"=none/\Ov (qy P) "isinstance"=some (.builtin "isinstance")/\True:=by apply bc;intro a;refine qm (Bm P) fun h _=>?_;refine qm h fun h _=>?_;refine qm h fun h b=>?_;refine qm h fun h c=>?_;refine qm h fun d e=>?_;apply a;exact⟨Option.isNone_iff_eq_none.mp d,beq_iff_eq.mp e,Option.isNone_iff_eq_none.mp c,beq_iff_eq.mp b,trivial⟩
noncomputable def HF:List Nat:=fF.map (·.2)
noncomputable def KA(P:Nk):Frag:=lh (Ey++Ez++HF) (H1 P)
theorem AB(P:Nk):((HF++[178,192,220,227,234,241,248,255,262,269,276,283,318,332,339,346,353,367,374,388,444,470,416,515,541,617,624,631,638,645,686,693,700]).all fun a=>VW (KA P) (.ref a))=true:=by kernel_rfl
noncomputable def bv(s:String)(t:Nat):M4:= .str (NB s) t
theorem HG(P:Nk):(Ov (gj P) "SIGNS",Ov (gj P) "ESCAPE_SIGNS",Ov (gj P) "ESCAPE_CODES",Ov (gj P) "TOP",Ov (gj P) "MOST_DEPTH",Ov (gj P) "MOST_SHIFT",Ov (gj P) "_law_NAMES",Ov (gj P) "_law_BINARY",Ov (gj P) "_law_UNARY")=
 (some (bv "+-*/%&|^~!()[],:$=<>" 306),some (bv "btnfr\"'\\" 308),some (.str ⟨[8,9,10,12,13,34,39,92].toArray⟩ 310),some (.int 18446744073709551615 312),some (.int 10 698),some (.int 63 700),some (.ref 800),some (.ref 801),some (.ref 809)):=by kernel_rfl
theorem HH(P:Nk):∃t1 a b c d e n,(H1 P).get? 800=some (bG "tuple" [bv "a" t1,bv "b" a,bv "c" b,bv "d" c,bv "e" d,bv "_n.1$" e].toArray n):=⟨_,_,_,_,_,_,_,rfl⟩
theorem HI(P:Nk):∃t1 b c d e f g h i a n,(H1 P).get? 801=some (bG "tuple" [bv "*" t1,bv "/" b,bv "%" c,bv "<<" d,bv ">>" e,bv "|" f,bv "&" g,bv "^" h,bv "+" i,bv "-" a].toArray n):=⟨_,_,_,_,_,_,_,_,_,_,_,rfl⟩
theorem HJ(P:Nk):∃t1 a b n,(H1 P).get? 809=some (bG "tuple" [bv "-" t1,bv "~" a,bv "!" b].toArray n):=⟨_,_,_,_,rfl⟩
theorem a_(P:Nk)(fz:Fz)(s:String)(t:Nat)(h:oU (NB s)=true):VR P fz (.str (NB s).cps.toList) (bv s t):=by
 unfold oU at h;simp only[NV,Ox,Rl]at h;have:=VR.str (P:=P) (fz:=fz) (NB s).cps.toList t ⟨by simpa using h.1,fun c a=>by simpa using h.2 c a⟩
 simpa [bv]using this
section
variable{C:Cx}{A:NN}{FR:List Nw}{σ:aa}{fz:Fz}{s:M7}{E:M4->M7->Prop}
theorem Bn(G:aw C σ fz FR s.heap)(h:iw ug n=some i):∃x,Ov (gj C.P) n=some x/\VR C.P fz (cq i) x:=by
 unfold iw at h;rw[Oo]at h;obtain⟨f,a,_⟩:=h;have a:=beq_iff_eq.mp a;have b:=HG C.P;simp only[SU]at b;obtain⟨b0,b1,b2,b3,b4,b5,g,j,k⟩:=b;have l:i<9:=f;obtain rfl|rfl|rfl|rfl|rfl|rfl|rfl|rfl|rfl:i=0\/i=1\/i=2\/i=3\/i=4\/i=5\/i=6\/i=7\/i=8:=by lia
 .subst a;exact⟨_,b0,a_ _ _ _ _ (by decide+kernel)⟩
 .subst a;exact⟨_,b1,a_ _ _ _ _ (by decide+kernel)⟩
 .subst a;exact⟨_,b2,.str _ _ ⟨by decide,by decide⟩⟩
 .subst a;exact⟨_,b3,.int ..⟩
 .subst a;exact⟨_,b4,.int ..⟩
 .subst a;exact⟨_,b5,.int ..⟩
 .subst a;apply bc;intro c;obtain⟨t1,d,e,m,o,p,n,h⟩:=HH C.P;apply c;exact⟨_,g,.tup (aJ C h G).1 (by unfold fb;decide) (.cons (a_ _ _ _ _ (by decide+kernel)) (.cons (a_ _ _ _ _ (by decide+kernel)) (.cons (a_ _ _ _ _ (by decide+kernel)) (.cons (a_ _ _ _ _ (by decide+kernel)) (.cons (a_ _ _ _ _ (by decide+kernel)) (.cons (a_ _ _ _ _ (by decide+kernel)) .nil))))))⟩
 .subst a;apply bc;intro c;obtain⟨t1,d,e,m,o,p,r,t,u,q,n,h⟩:=HI C.P;apply c;exact⟨_,j,.tup (aJ C h G).1 (by unfold fb;decide) (.cons (a_ _ _ _ _ (by decide+kernel)) (.cons (a_ _ _ _ _ (by decide+kernel)) (.cons (a_ _ _ _ _ (by decide+kernel)) (.cons (a_ _ _ _ _ (by decide+kernel)) (.cons (a_ _ _ _ _ (by decide+kernel)) (.cons (a_ _ _ _ _ (by decide+kernel)) (.cons (a_ _ _ _ _ (by decide+kernel)) (.cons (a_ _ _ _ _ (by decide+kernel)) (.cons (a_ _ _ _ _ (by decide+kernel)) (.cons (a_ _ _ _ _ (by decide+kernel)) .nil))))))))))⟩
 .subst a;apply bc;intro c;obtain⟨t1,d,e,n,h⟩:=HJ C.P;apply c;exact⟨_,k,.tup (aJ C h G).1 (by unfold fb;decide) (.cons (a_ _ _ _ _ (by decide+kernel)) (.cons (a_ _ _ _ _ (by decide+kernel)) (.cons (a_ _ _ _ _ (by decide+kernel)) .nil)))⟩
theorem xZ(G:aw C σ fz FR s.heap):s.heap.Ns 3 (Ov (gj C.P)):=by obtain⟨n,h⟩:=EB C.P;exact⟨_,_,_,(aJ C h G).2,rfl,d8 (uE C.P),fun _=>rfl⟩
theorem HK(G:aw C σ fz FR s.heap):s.heap.Ns 0 (Ov (qy C.P)):=by obtain⟨n,h⟩:=EC C.P;exact⟨_,_,_,(aJ C h G).2,rfl,d8 (uF C.P),fun _=>rfl⟩
theorem Bo(G:aw C σ fz FR s.heap):(KA C.P).In s.heap:=fi _ _ (fun a o h=>(aJ C h G).2) _
theorem Bp{b:Type}:∀{l:List (Str×b)}{n:Str}{a:b},l.lookup n=some a->(n,a)∈l:=mem_of_lookup
theorem li(h:fF.lookup n=some a)(P:Nk):Ov (gj P) n=some (.ref a)/\VW (KA P) (.ref a)=true:=by have b:=mem_of_lookup h;have c:=List.all_eq_true.mp (ED P) _ b;have d:=List.all_eq_true.mp (AB P) a (Ol _ (List.mem_map.mpr ⟨_,b,rfl⟩));exact⟨by simpa using c,d⟩
theorem iN(h:lc.lookup n=some b)(P:Nk):Ov (gj P) n=none/\Ov (qy P) n=some (eQ b):=by
 have a:=List.all_eq_true.mp (EE P) _ (mem_of_lookup h)
 simpa using a
end
set_option tactic.hygienic false
structure Kp(s s':M7):Prop where
 keep:∀b o,s.heap.get? b=some o->s'.heap.get? b=some o
 gens:s'.gens=s.gens
 os:s'.os=s.os
theorem Kp.trans{s s' a:M7}(x:Kp s s')(y:Kp s' a):Kp s a:=⟨fun b o h=>y.keep b o (x.keep b o h),y.gens.trans x.gens,y.os.trans x.os⟩
theorem x0:Rg (.type "set") "__len__"=OD (some (.builtin "set.__len__")):=by rw[Qc,Pe];kernel_rfl
theorem uG:Rg (.type "dict") "__len__"=OD (some (.builtin "dict.__len__")):=by rw[Qc,Pe];kernel_rfl
inductive EF(prog:Pr)(w:OU)(A:NN)(d:Nw)(rW:List M4->Prop)(s₁:M7)(v:M4)(Z4:M7):Prop
 |mk (I:Nw) (fp wr:List Nw) (n:Nat) (P:Nat->M4->Prop) (St:Nat->M7->Prop) (e:v= .ref I) (W:WalksS prog w A I fp wr (fun a b=>b=a) n P St) (hn:n<=PT) (st:St 0 Z4) (hf:∀b∈fp,b=d\/s₁.heap.get? b=none)
  (hw:∀b∈wr,s₁.heap.get? b=none) (hr:∀acc,Wp P acc n->rW acc.toList)
structure mT(prog:Pr)(w:OU)(A:NN)(d:Nw)(rW:List M4->Prop)(s₁:M7)(v:M4)(Z4:M7):Prop where
 w:EF prog w A d rW s₁ v Z4
 kp:Kp s₁ Z4
section
variable{prog:Pr}{w:OU}{A:NN}{E:M4->M7->Prop}{s:M7}
theorem uH{A:NN}{T:String}(f:T="dict"\/T="set"){d:Nw}(e:s.TypeIs (.ref d) T){Q:Bool->M7->Prop}(g:Q false s):Nm (N6 prog w) A (R3 (.ref d)) Q E s:=by
 unfold R3;rcases f with rfl|rfl
 .refine M2 (Tf e uG ?_);generalize a:("dict.__len__":String)=c
  fail_if_success (clear a c)
  wp_delta
  rw[show splitId c=some ("dict","__len__")from by subst a;decide+kernel];subst a;refine M2 (S4 (b:=true) e (by rw[Qp];kernel_rfl) ?_);exact M2 (RW e (Nf g))
 .refine M2 (Tf e x0 ?_);generalize a:("set.__len__":String)=c
  fail_if_success (clear a c)
  wp_delta
  rw[show splitId c=some ("set","__len__")from by subst a;decide+kernel];subst a;refine M2 (S4 (b:=true) e (by rw[Qp];kernel_rfl) ?_);exact M2 (RW e (Nf g))
noncomputable abbrev EG:Obj:={cls:= .type "list",data:= .seq ([]:List M4).toArray}
theorem uI{T:String}(hTm:T="dict"\/T="set"){d S:Nw}{s1:M7}(k1:Kp s s1)(hT:s1.TypeIs (.ref d) T)(hSd:S≠d)(a1:s1.heap.get? S=some EG)(fS:s.heap.get? S=none){rW:List M4->Prop}{R:R9->M7->Prop}
  (Zl:∀(E':M4->M7->Prop)(Q':M4->M7->Prop),(∀v Z4,mT prog w A.in1 d rW s1 v Z4->Q' v Z4)->Nm (N6 prog w) A.in1 (R7 (.ref d)) Q' E' s1)
  (hQ:∀s'(acc:Array M4)n,Kp s s'->s'.heap.get? S=some {cls:= .type "list",data:= .seq acc n}->rW acc.toList->R (.ok (.ret (.ref S))) s'):PY (N6 prog w) A (.builtin "list.__iadd__" ⟨[.ref S,.ref d],[]⟩) R s1:=by
 have h1:Sj (.ref S) (.ref d)=false:=by simp[Sj,hSd]
 have hT2:=fun s2 (k:Kp s1 s2)=>(show s2.TypeIs (.ref d) T from hT.elim fun od h=>⟨od,k.keep _ _ h.1,h.2⟩)
 have hres2:(false||["set","frozenset","dict","dict_keys","dict_values","dict_items"].any fun x=>SR T== .type x)=true:=by rcases hTm with rfl|rfl<;>rfl
 refine O6 PySem.F.entry_list_iadd ?_;rw[OW PySem.F.plain_list_iadd _];show Nm _ A.in1 (R4 (.ref S) (.ref d) (.ref S)) _ _ _;unfold R4;refine M2 (RW hT ?_);rw[h1,M5 (by rcases hTm with rfl|rfl<;>decide)];refine M2 (Zl _ _ fun v s2 it=>?_);obtain⟨⟨I,fp,wr,n,P,St,rfl,W,hn,hst,hfp,hwr,hres⟩,k2⟩:=it;have hSf:S∉fp:=fun h=>(hfp S h).elim hSd fun e=>aj (e.symm.trans a1);have a2:=k2.keep _ _ a1;have hS₂:=NU (O4 (·.push Om)) a2 rfl;have hS₃:=NU (O4 (·.pop)) hS₂ rfl;have oth:∀b o,b≠S->s2.heap.get? b=some o->((s2.heap.update S (O4 (·.push Om))).update S (O4 (·.pop))).get? b=some o:=
  fun b o hb e=>(NX _ _ (NT hb)).trans ((NX _ _ (NT hb)).trans e)
 refine M2 (OA (uH hTm (hT2 s2 k2) ?_));show Nm _ A.in1 (if(false||["set","frozenset","dict","dict_keys","dict_values","dict_items"].any fun x=>SR T== .type x)=true then _ else _) _ _ _;rw[M8 hres2];refine M2 (m:=rule "list.extend.makes-room") (Ts ?_);refine M2 (m:=VL (.ref S)) (M2 (m:=updateSeq S (·.push .none)) (Vy a2 rfl (Vy hS₂ rfl ?_)));refine Nf ⟨QN PySem.F.plain_extend_loop _,codeAny_extend_loopS W hn _ hSf _ n 0 _ _ _ rfl (NJ _)
  (W.frame 0 s2 _ s2.toks hst (Nc _) fun b hb o e=>oth b o (fun h=>hSf (h▸hb)) e) hS₃ (ItemsOf.nil P) fun s' acc' c' hm hS' ZC=>?_⟩
 refine hQ s' acc' _ ⟨fun b o e=>?_,hm.gens.trans (k2.gens.trans k1.gens),hm.os.trans (k2.os.trans k1.os)⟩ hS' (hres acc' ZC);have e1:=k1.keep _ _ e;have hb:b≠S:=fun q=>aj (fS.symm.trans (q▸e));exact hm.heap b o (fun h=>(List.mem_cons.mp h).elim hb fun q=>aj ((hwr b q).symm.trans e1)) (oth b o hb (k2.keep _ _ e1))
theorem hY{T:String}(f:T="dict"\/T="set"){d:Nw}(l:s.TypeIs (.ref d) T){rW:List M4->Prop}{Q:List M4->M7->Prop}
  (g:∀(s₁:M7)(h:M4->M7->Prop)(Q':M4->M7->Prop),Kp s s₁->(∀v a,mT prog w A.in1 d rW s₁ v a->Q' v a)->Nm (N6 prog w) A.in1 (R7 (.ref d)) Q' h s₁)
  (p:∀s' keys,Kp s s'->rW keys->Q keys s'):Nm (N6 prog w) A (U_ (.ref d)) Q E s:=by
 obtain⟨q,c,i⟩:=id l;unfold U_;refine M2 (Tq (O6 PySem.F.entry_proto_collect ?_));rw[OW PySem.F.plain_proto_collect _];refine M2 (m:=Wj []) (Pi ?_);have j:Kp s {s with heap:=s.heap.push EG}:=⟨fun b o e=>Ng _ e,rfl,rfl⟩
 refine Nf ⟨QN PySem.F.plain_list_iadd _,uI f j ⟨q,j.keep _ _ c,i⟩ (NT (NY (Oi c))) (NC _ rfl) (fresh _) (fun h Q'=>g _ h Q' j) fun s' acc n k r t=>?_⟩;exact M2 (m:=load s.heap.objs.size) (wpAny_load r (Nf (p s' acc.toList k t)))
theorem o4{d:Nw}{ss:List Str}(y:ss.length<64)(hh:A.handled=none){Q:M4->M7->Prop}
  (g:∀(B:NN)(C:M4->M7->Prop)(Q':List M4->M7->Prop),B.handled=none->(∀s' keys,Kp s s'->(∃a,Oe keys a/\a.Perm ss)->Q' keys s')->Nm (N6 prog w) B (U_ (.ref d)) Q' C s)
  (D:∀s' r out n a,Kp s s'->s.heap.get? r=none->s'.heap.get? r=some (UQ "list" out n)->Oe out.toList a->a.Perm ss->sortedS a=true->Q (.ref r) s'):
  Nm (N6 prog w) A (PZ (.builtin "sorted") [.ref d]) Q E s:=by
 refine Calls.call_function_entry kind_sorted plain_sorted entry_sorted (args_sorted1 _) ?_;unfold QR.«sorted»;refine M2 (m:=checkCount "sorted" 1 1 _) (Nf ?_);refine M2 (g _ _ _ (by simpa using hh) fun s' keys k ⟨l,j,p⟩=>?_);have q:keys.length<64:=by
  have e:∀{ws:List M4}{ys:List Str},Oe ws ys->ys.length=ws.length:=by
   intro ws ys h;induction h with
   |nil=>rfl
   |cons _ _ _ F=>simp[F]
  have:=e j;have:=p.length_eq;lia
 refine M2 (wpAny_newList ?_ (by have:=aA;exact M1 (Nl q) (by decide)));have c:(s'.heap.push (UQ "list" keys.toArray 0)).get? s'.heap.objs.size=some (UQ "list" keys.toArray 0):=NC _ rfl;show Nm _ _ _ _ _ {s' with heap:=s'.heap.push (UQ "list" keys.toArray 0)};refine M2 (OA (QC slot_list_sort ⟨_,c,rfl⟩ entry_list_sort (list_sort_treeK strKind_oneLt c j.keysOf (fun t u rest e=>keyKind_strs (by rw[←e];exact j)) q fun i p1 H=>⟨_,rfl,?_⟩) (args_list_sort _)));apply bc;intro K;obtain⟨f,L,M,O⟩:=sorted_out_str j p1 H;obtain⟨n,P⟩:=sortedHeap_at (out:=(arrOf i).map (·.2)) c;apply K;refine Nf ⟨_,rfl,D _ s'.heap.objs.size _ n f ⟨fun b o e=>?_,k.gens,k.os⟩ ?_ P L (M.trans p) O⟩
 .have v:=k.keep _ _ e;have x:=Oi v;show(sortedHeap (s'.heap.push (UQ "list" keys.toArray 0)) s'.heap.objs.size keys ((arrOf i).map (·.2))).get? b=some o;rw[sortedHeap_old (NY x) (by rw[size_push'];exact Py x)];exact Ng _ v
 .cases z:s.heap.get? s'.heap.objs.size with
  |none=>rfl
  |some o=>exact absurd (Oi (k.keep _ _ z)) (Rh _)
theorem o5{ks:List Str}{acc:Array M4}(h:Wp (fun i v=>∃k t,ks[i]? =some k/\v=Sl k t) acc ks.length):Oe acc.toList ks:=by
 obtain⟨c,d⟩:=h;have:∀(vs:List M4)(ks:List Str),vs.length=ks.length->(∀(j:Nat)(v:M4),vs[j]? =some v->∃k t,ks[j]? =some k/\v=Sl k t)->Oe vs ks:=by
  intro vs;induction vs with
  |nil=>intro ks a _;cases ks<;>first|exact .nil|cases a
  |cons v vs e=>
   intro ks a h;cases ks with
   |nil=>cases a
   |cons k ks=>
    obtain⟨l,t,f,g⟩:=h 0 v rfl;injection f with z0;subst z0
    subst g;exact .cons k t (e ks (Pj a) fun j v b=>h (j+1) v b)
 exact this acc.toList ks (by simpa using c) fun j v b=>d j v (by simpa using b)
theorem sv(hh:A.handled=none){d:Nw}{kvs:List (Str×M4)}{g:Nat}(i:(d==UP)=false)(f:s.heap.DictAt (strKind prog w) d kvs g)(l:kvs.length<=PT){Q:M4->M7->Prop}
  (m:∀v a,mT prog w A d (fun keys=>Oe keys (kvs.map (·.1))) s v a->Q v a):Nm (N6 prog w) A (R7 (.ref d)) Q E s:=by
 refine wpAny_pyIter_dict i f (m _ _ ⟨⟨s.heap.objs.size,_,_,kvs.length,_,_,rfl,(Walks.dictKeys (knd:=strKind prog w) hh s.heap.objs.size d (NY f.lt_size) kvs g).toS,l,⟨⟨_,NC _ rfl,rfl,rfl⟩,f.push _⟩,fun b c=>?_,fun b c=>?_,fun acc h=>?_⟩,fun b o e=>Ng _ e,rfl,rfl⟩)
 .simp only[Rb,Nq,VT]at c;rcases c with rfl|rfl
  .exact .inr (fresh _)
  .exact .inl rfl
 .simp only[Rb,Nq,VT]at c;subst c;exact fresh _
 .refine o5 ⟨by simpa using h.1,fun j v n=>?_⟩;apply bc;intro p;obtain⟨k,x,q,r⟩:=h.2 j v n;obtain⟨t,rfl⟩:=RY r;apply p;exact⟨k,t,by simp[q],rfl⟩
end
section
variable{prog:Pr}{w:OU}{A:NN}{E:M4->M7->Prop}{h:Og}{g:Array SZ}{d:Vd}{t:Nat}{os:O9}{a:Nw}{o:Obj}
theorem o6:Rg (.type "tuple") "keys"=OD none:=by rw[Qc,Pe];kernel_rfl
theorem lj{Q:Option M4->M7->Prop}(hh:A.handled=none)(hx:h.get? a=some (bG "tuple" ws n))(hq:∀s',Kp ⟨h,g,d,t,os⟩ s'->Q none s'):
  Nm (N6 prog w) A (getAttr? (.ref a) "keys") Q E ⟨h,g,d,t,os⟩:=by
 have hT:∀tk',(⟨h,g,d,tk',os⟩:M7).TypeIs (.ref a) "tuple":=fun _=>⟨_,hx,rfl⟩
 have f1:=sub_AttributeError;have f3:=F.slot_tuple_getattribute.lookup;have f4:=F.slot_tuple_getattribute.bind (.ref a);have f5:=am_tuple_getattr_none;unfold getAttr? getAttrBy? getAttrBy
 repeat (any_goals (first|assumption|exact hT _|((with_reducible show Nm _ _ (PZ (Value.builtin "tuple.__getattribute__") _ _) _ _ _);refine RX F.slot_tuple_getattribute (hT _) am_entry_tuple_getattribute (F.args_tuple_getattribute_2 _ _) (meets_getattribute_miss_tuple a ws n #[] _ _ o6 (by decide) (by decide+kernel)) ⟨hx,hh,fun h' tk' e hx'=>?_⟩)|wp_step))
 apply bc;intro qK;obtain⟨t',u',he⟩:=hx'.there;apply qK;show Nm _ _ (US _ _ _ _ _ _ _) _ _ _;unfold US
 repeat (any_goals (first|assumption|wp_step))
 exact hq _ ⟨hx'.of.keeps,rfl,rfl⟩
end
theorem er:Uz table "dict.update.loop"=some QR.«dict.update.loop»:=Vl (by kernel_rfl)
theorem bO:plainId "dict.update.loop"=true:=by decide+kernel
section
variable{prog:Pr}{w:OU}{A:NN}{E:M4->M7->Prop}{R:R9->M7->Prop}
noncomputable def qA(h:Og)(a:Array M4)(kvs:List (Str×M4)):Prop:=
 a.size=kvs.length/\∀(i:Nat)(kv:Str×M4),kvs[i]? =some kv->∃p t n,a[i]? =some (.ref p)/\h.get? p=some (bG "tuple" #[.str kv.1 t,kv.2] n)
theorem DM{b I:Nw}(h:b≠I):b∉[I]:=fun e=>h (List.mem_singleton.mp e)
theorem o7{kvs:List (Str×M4)}{k:Str}{v:M4}(h:k∉kvs.map (·.1)):stored kvs k v=kvs++[(k,v)]:=by refine M5 fun z=>?_;obtain⟨x,a,e⟩:=List.any_eq_true.mp z;exact h (List.mem_map.mpr ⟨x,a,N3 e⟩)
theorem mU{kvs:List (Str×M4)}(c:(kvs.map (·.1)).Nodup){i:Nat}(a:i<kvs.length):stored (kvs.take i) kvs[i].1 kvs[i].2=kvs.take (i+1):=by
 rw[o7,Uj,Nu a]
 .rfl
 .intro b;refine i8 b fun x g e=>?_;obtain⟨j,f,d⟩:=List.mem_take_iff_getElem.mp g;exact List.pairwise_iff_getElem.mp (List.nodup_iff_pairwise_ne.mp c) j i ((M6 ..).symm▸No f (Rm ..)) ((M6 ..).symm▸a) (No f (QG ..))
   ((Su ..).trans ((Np Prod.fst d).trans (e.trans (Su ..).symm)))
theorem o8{s:M7}{p:Nw}{x:Str}{t:Tok}{v:M4}{n:Nat}{Q:List M4->M7->Prop}(a:s.heap.get? p=some (bG "tuple" #[.str x t,v] n))(b:Q [.str x t,v] s):Nm (N6 prog w) A (Sw (.ref p)) Q E s:=by unfold Sw;refine M2 (RW (T:="tuple") ⟨_,a,rfl⟩ ?_);rw[M8 (by decide)];exact M2 (Tp a rfl (Nf b))
theorem kq{h h':Og}{D:Nw}{kvs:List (Str×M4)}(a:h.DictOf (strKind prog w) D kvs)(k:∀o,h.get? D=some o->h'.get? D=some o):h'.DictOf (strKind prog w) D kvs:=by obtain⟨o,es,b,c,r⟩:=a;exact⟨o,es,b,k o c,r⟩
theorem sx{D I a:Nw}{d:Array M4}{kvs:List (Str×M4)}{c:Og}(P:qA c d kvs)(F:(kvs.map (·.1)).Nodup)(l:kvs.length<=1048576)(hh:A.handled=none)(H:a≠I)(r:D≠I)(K:D≠a)(L:c.get? D=none)(M:c.get? I=none)
  (k:Nat):∀(i:Nat)(s:M7)(tk:Tok),kvs.length-i=k->i<=kvs.length->(∀b o,c.get? b=some o->s.heap.get? b=some o)->s.heap.IsTupleIter I a i->s.heap.IsTuple a d->s.heap.DictOf (strKind prog w) D (kvs.take i)->
   (∀s',s'.gens=s.gens->s'.os=s.os->(∀b o,c.get? b=some o->s'.heap.get? b=some o)->s'.heap.DictOf (strKind prog w) D kvs->R (.ok (.ret .none)) s')->
   PY (N6 prog w) A (.builtin "dict.update.loop" ⟨[.ref D,.ref I,.int i tk,.none],[]⟩) R s:=by
 have W:=Walks.tuple (prog:=prog) (w:=w) (A:=A.in1) hh I a H d;have nI:∀b o,c.get? b=some o->b∉[I]:=fun b o e=>DM fun q=>aj (M.symm.trans (q▸e));have nD:∀b o,c.get? b=some o->b≠D:=fun b o e q=>aj (L.symm.trans (q▸e));have u:=DM r;induction k with
 |zero=>intro i s tk C hi O j Q E V;have X:=QH hi (TO C);subst X;rw[Rj]at E;refine O6 er ?_;rw[OW bO _];refine M2 (m:=Sy (.ref I)) (W.done s _ _ ⟨P.1.symm▸j,Q⟩ fun h' Y f=>?_);exact M2 (m:=VO D []) (Nf (Nf (V _ rfl rfl (fun b o e=>f b o (nI b o e) (O b o e)) (kq E fun o=>f D o u))))
 |succ k Z=>intro i s tk C hi O j Q E V;have h:=TN C;have Z:=Z (i+1);have e1:=mU F h;have hz:(kvs.take i).length<=1048576:=M1 (RO ..) l;obtain⟨p,t,n,hp,a0⟩:=P.2 i kvs[i] (Nu h);refine O6 er ?_;rw[OW bO _];refine M2 (m:=Sy (.ref I)) (W.item i s _ _ (P.1.symm▸h) ⟨j,Q⟩ fun v h' Y hP x f=>?_);obtain rfl:=Na (hp.symm.trans hP);have y:∀b o,c.get? b=some o->h'.get? b=some o:=fun b o e=>f b o (nI b o e) (O b o e);refine M2 (m:=Th _ _) (OA ?_);refine M2 (wpAny_tryCatch (o8 (y _ _ a0) ?_));apply OA;refine wpAny_dictSet_pairs (knd:=strKind prog w) (k:=kvs[i].1) (Pw prog w _ t) (kq E fun o=>f D o u) (fun a6 z g=>?_) (M1 hz (M1 (by decide:1048576<=16777216) aA));exact Nf ⟨QN bO _,Z _ _ ((UV ..).trans (Np Wo C)) h (fun b o e=>(g.2 b (nD b o e)).trans (y b o e)) (x.1.at fun o e=>(g.2 I r.symm).trans e) (x.2.at fun o e=>(g.2 a K.symm).trans e) (e1▸z) fun s' g1 g2 g3 g4=>V s' g1 g2 g3 g4⟩
theorem ix{s:M7}{a:Nw}{Z8:Array M4}{n:Nat}{kvs:List (Str×M4)}(hx:s.heap.get? a=some (bG "tuple" Z8 n))(P:qA s.heap Z8 kvs)(hnd:(kvs.map (·.1)).Nodup)(ZV:kvs.length<=1048576)(hh:A.handled=none){Q:M4->M7->Prop}
  (hQ:∀s',s'.gens=s.gens->s'.os=s.os->(∀b o,s.heap.get? b=some o->s'.heap.get? b=some o)->s'.heap.DictOf (strKind prog w) s.heap.objs.size kvs->Q (.ref s.heap.objs.size) s'):
  Nm (N6 prog w) A (PZ (.type "dict") [.ref a]) Q E s:=by
 refine callType_codes (Q₁:=fun obj s₁=>obj= .ref s.heap.objs.size/\s₁={s with heap:=s.heap.push {cls:= .type "dict",data:= .dict #[]}}) PySem.F.kt_called_dict (PySem.F.kt_typeCall_dict_1 _) PySem.F.entry_dict_init (kt_code_dict_new _ ⟨rfl,rfl⟩) ?_;rintro obj s₁ ⟨rfl,rfl⟩;have Zv:(s.heap.push {cls:= .type "dict",data:= .dict #[]}).DictOf (strKind prog w) s.heap.objs.size []:=Heap.DictOf.new s.heap;have fD:s.heap.get? s.heap.objs.size=none:=fresh s.heap;have k0:∀b o,s.heap.get? b=some o->(s.heap.push {cls:= .type "dict",data:= .dict #[]}).get? b=some o:=fun b o e=>Ng _ e;have hDa:s.heap.objs.size≠a:=fun e=>by rw[e,hx]at fD;exact ba fD
 refine⟨Zv.typeIs,PySem.F.args_dict_init_2 _ _,?_⟩;unfold QR.«dict.__init__»;apply M2;unfold VN;refine M2 (wpAny_notOrdered_dict Zv.typeIs ?_);show Nm _ _ (OD (s.heap.objs.size,[Oz a])) _ _ _;apply Nf;show Nm _ _ (So "dict.__init__" s.heap.objs.size (.ref a) [] .none) _ _ _;unfold So;generalize hs1:({s with heap:=s.heap.push {cls:= .type "dict",data:= .dict #[]}}:M7)=s1 at Zv⊢;have q1:s1.heap=s.heap.push {cls:= .type "dict",data:= .dict #[]}:=by rw[←hs1]
 have k1:Kp s s1:=by rw[←hs1];exact⟨k0,rfl,rfl⟩
 have hnew1:s1.heap.DictOf (strKind prog w) s.heap.objs.size []:=by rw[q1];exact Zv
 have hx1:=k1.keep _ _ hx;refine M2 (RW (T:="tuple") ⟨_,hx1,rfl⟩ ?_);rw[M8 (by decide)];obtain⟨h1,g1,d1,t1,os1⟩:=s1;refine M2 (lj (by simpa using hh) hx1 fun s2 k2=>?_);dsimp only;rw[M8 (by rfl)];have hx2:=k2.keep _ _ hx1;have ht2:s2.heap.IsTuple a Z8:=⟨_,hx2,rfl,n,rfl⟩
 refine M2 (Ts ?_);refine M2 (UM ht2 ?_);refine Nf ⟨QN bO _,?_⟩;have k12:=k1.trans k2;have fI:s2.heap.get? s2.heap.objs.size=none:=fresh s2.heap;have fI0:s.heap.get? s2.heap.objs.size=none:=by
  cases z:s.heap.get? s2.heap.objs.size with
  |none=>rfl
  |some o=>have:=k12.keep _ _ z;rw[fI]at this;exact aj this
 have hD2:s2.heap.DictOf (strKind prog w) s.heap.objs.size []:=by obtain⟨o,es,ep,ho,r⟩:=hnew1;exact⟨o,es,ep,k2.keep _ _ ho,r⟩
 have haI:a≠s2.heap.objs.size:=fun e=>by rw[←e,hx2]at fI;exact ba fI
 have hDI:s.heap.objs.size≠s2.heap.objs.size:=fun e=>by obtain⟨o,es,ep,ho,r⟩:=hD2;rw[←e,ho]at fI;exact ba fI
 refine sx P hnd ZV (by simpa using hh) haI hDI hDa fD fI0 kvs.length 0 _ _ rfl (NJ _) (fun b o e=>Ng _ (k12.keep _ _ e)) ?_ ⟨_,Ng _ hx2,rfl,n,rfl⟩ ?_ fun s' e1 e2 e3 e4=>?_
 .exact⟨_,NC _ rfl,rfl,rfl⟩
 .exact hD2.push _
 .exact⟨rfl,hQ s' (e1.trans k12.gens) (e2.trans k12.os) e3 e4⟩
end
set_option backward.match.sparseCases true
set_option tactic.hygienic true
theorem AC(t:OC)(n:Nat):(t.standIn n).led=t.led/\(t.plain=false->(t.standIn n).plain=false):=⟨rfl,fun _=>rfl⟩
noncomputable def uJ(t t':OC):Prop:=t'.led=t.led/\(t.plain=false->t'.plain=false)
theorem x1(t:OC)(n:Nat):uJ t (t.orStandIn n):=dt (p:=uJ t) (fun _=>⟨rfl,id⟩) fun _=>⟨rfl,fun _=>rfl⟩
theorem o9(t:OC)(es:Array (Int×M4))(h:Int)(x:M4):uJ t (layNew t es h x).2.1:=by
 delta layNew;cases t.freeSlot h with
 |none=>exact⟨rfl,fun _=>rfl⟩
 |some p=>exact x1 (t.put p.1).1 _
theorem gm(t:OC)(es:Array (Int×M4))(n:Nat):uJ t (SL t es n).2.1:=by
 delta SL;cases hr:t.relaid (es.map (·.1)) n with
 |none=>exact⟨rfl,fun _=>rfl⟩
 |some q=>
  refine dt (p:=fun x:Array (Int×M4)×OC×Bool=>uJ t x.2.1) (fun _=>?_) fun _=>⟨rfl,fun _=>rfl⟩
  refine bE hr fun o ho h=>?_;cases h;exact⟨rfl,id⟩
noncomputable abbrev fV(w:OU):Bool:=w.params.followText "set-order"
structure cf(prog:Pr)(w:OU)(h:Og)(a:Nw)(ks:List Str)(o:Obj)(es:Array (Int×M4))(ep:Nat)(t:OC):Prop where
 at_:h.get? a=some o
 ex:o.ExactSet
 data:o.data= .set es ep t
 keys:∃ZR,Oe (es.toList.map (·.2)) ZR/\ZR.Perm ks
 hs:∀e∈es.toList,∃k u,e=((strKind prog w).hash k,.str k u)
 size:es.size=ks.length
 small:es.size<QD
 fits:t.fits es.size=true
 led:fV w=true\/t.led=true
 pl:ks≠[]->t.plain=false
theorem cf.elems{prog:Pr}{w:OU}{h:Og}{a:Nw}{ks:List Str}{o:Obj}{es:Array (Int×M4)}{ep:Nat}{t:OC}(S:cf prog w h a ks o es ep t):ElemsOf (strKind prog w) es.toList:=fun e he=>by obtain⟨k,u,rfl⟩:=S.hs e he;exact⟨⟨k,Pw prog w k u,rfl⟩,rfl⟩
theorem mV{vs:List M4}{ks:List Str}(h:Oe vs ks):∀k,k∈ks↔∃u,Sl k u∈vs:=by
 induction h with
 |nil=>exact fun k=>⟨fun h=>absurd h Nq,fun h=>h.elim fun _ h=>absurd h Nq⟩
 |cons n t _ ih=>
  refine fun k=>⟨fun h=>(List.mem_cons.mp h).elim (fun e=>⟨t,e▸M_⟩) fun h=>((ih k).mp h).elim fun u hu=>⟨u,Nb _ hu⟩,fun h=>h.elim fun u hu=>(List.mem_cons.mp hu).elim (fun e=>?_) fun hu=>Nb _ ((ih k).mpr ⟨u,hu⟩)⟩
  cases e;exact M_
theorem uK{v:M4}{vs:List M4}{ks:List Str}(h:Oe (v::vs) ks):∃k t ZR,v= .str k t/\ks=k::ZR/\Oe vs ZR:=by
 cases h with
 |cons k t h=>exact⟨k,t,_,rfl,rfl,h⟩
theorem EH{vs:List M4}{ks:List Str}(h:Oe vs ks):vs.length=ks.length:=by
 induction h with
 |nil=>rfl
 |cons _ _ _ ih=>exact Np Nat.succ ih
theorem d9{vs vs':List M4}{ks:List Str}(h:Oe vs ks)(p:vs'.Perm vs):∃ZR,Oe vs' ZR/\ZR.Perm ks:=by
 induction p generalizing ks with
 |nil=>exact⟨ks,h,.refl _⟩
 |cons x _ ih=>obtain⟨n,t,ZR,rfl,rfl,h'⟩:=uK h;obtain⟨k2,h1,h2⟩:=ih h';exact⟨n::k2,.cons n t h1,h2.cons n⟩
 |swap x y l=>obtain⟨n,t,ZR,rfl,rfl,h1⟩:=uK h;obtain⟨m,u,ZR,rfl,rfl,h2⟩:=uK h1;exact⟨_,.cons m u (.cons n t h2),.swap ..⟩
 |trans _ _ ih1 ih2=>obtain⟨k1,h1,p1⟩:=ih2 h;obtain⟨k2,h2,p2⟩:=ih1 h1;exact⟨k2,h2,p2.trans p1⟩
theorem jj{vs vs':List M4}{ks ZR:List Str}(h:Oe vs ks)(h':Oe vs' ZR):Oe (vs++vs') (ks++ZR):=by
 induction h with
 |nil=>exact h'
 |cons n t _ ih=>exact .cons n t ih
section
variable{prog:Pr}{w:OU}{A:NN}{E:M4->M7->Prop}{s:M7}
theorem cf.has{h:Og}{a:Nw}{ks:List Str}{o:Obj}{es:Array (Int×M4)}{ep:Nat}{t:OC}(S:cf prog w h a ks o es ep t)(x:Str):x∈ks↔∃e∈es.toList,(strKind prog w).is x e.2=true:=by
 obtain⟨ZR,hS,hp⟩:=S.keys;refine hp.mem_iff.symm.trans ((mV hS x).trans ⟨?_,?_⟩)
 .intro ⟨u',hu⟩;refine i8 hu fun e he e2=>?_;exact⟨e,he,by rw[e2];exact Pw prog w x u'⟩
 .intro ⟨e,he,e2⟩;obtain⟨u',e3⟩:=RY e2;exact⟨u',List.mem_map.mpr ⟨e,he,e3⟩⟩
theorem cf.add{h h':Og}{a:Nw}{ks:List Str}{o o':Obj}{es ZG:Array (Int×M4)}{ep ZQ:Nat}{t t2:OC}{x:Str}{u:Tok}(S:cf prog w h a ks o es ep t)(hn:ks.length+1<QD)
  (p:ZG.toList.Perm (es.toList++[((strKind prog w).hash x,.str x u)])) (p2:t2.fits ZG.size=true) (p3:t2.led=t.led) (p4:t2.plain=false) (a1:h'.get? a=some o') (a2:o'.ExactSet) (a3:o'.data= .set ZG ZQ t2):cf prog w h' a (ks++[x]) o' ZG ZQ t2:=by
 obtain⟨ZR,hS,hp⟩:=S.keys;have hsz:ZG.size=ks.length+1:=by have:=p.length_eq;rw[M3,OP,OP,S.size]at this;exact this
 have hSx:Oe ((es.toList++[((strKind prog w).hash x,Sl x u)]).map (·.2)) (ZR++[x]):=by rw[NA];exact jj hS (.cons x u .nil)
 obtain⟨k2,h1,h2⟩:=d9 hSx (p.map (·.2));refine⟨a1,a2,a3,⟨k2,h1,h2.trans (hp.append_right _)⟩,fun e he=>?_,by rw[hsz,M3];rfl,by rw[hsz];exact hn,p2,p3▸S.led,fun _=>p4⟩;rcases List.mem_append.mp (p.mem_iff.mp he)with he|he
 .exact S.hs e he
 .exact⟨x,u,List.mem_singleton.mp he⟩
theorem AD{b:Bool}{Q':Unit->M7->Prop}(hq:Q' () s):Nm (N6 prog w) A (match b with|true=>rule "set.scan.the-table-gave-way"|false=>OD ()) Q' E s:=by
 cases b with
 |true=>exact Ts hq
 |false=>exact Nf hq
theorem qB{a:Nw}{ZJ ZG:Array (Int×M4)}{ep:Nat}{t1 t2:OC}{o:Obj}(h:s.heap.get? a=some o)(hd:o.data= .set ZJ ep t1)(hb:ZG.size<=PT){Q':Unit->M7->Prop}
  (k:∀h',QQ a s.heap h'->h'.get? a=some {o with data:= .set ZG (ep+1) t2}->Q' () {s with heap:=h'}):Nm (N6 prog w) A (VQ a ZG t2) Q' E s:=by
 refine wpAny_storeSet_of h hd (k _ (Heap.SameBut.update s.heap a (V7 ZG t2)) ?_) hb;have:=NU (V7 ZG t2) h (by rw[putSet_of ZG t2 hd];rfl);rw[putSet_of ZG t2 hd]at this;exact this
theorem mW{a:Nw}{ks:List Str}{o:Obj}{es ZJ:Array (Int×M4)}{ep:Nat}{t t2:OC}{x:Str}{u:Tok}{R:Option Bool->M7->Prop}{wd:Bool}(S:cf prog w s.heap a ks o es ep t)(hn:ks.length+1<QD)
  (hp:ZJ.toList.Perm (es.toList++[((strKind prog w).hash x,.str x u)])) (f1:t2.fits ZJ.size=true) (f2:t2.led=t.led) (f3:t2.plain=false)
  (hR:∀h' o' ZN ZQ t',QQ a s.heap h'->cf prog w h' a (ks++[x]) o' ZN ZQ t'->R (some true) {s with heap:=h'}):
    Nm (N6 prog w) A (do
     VQ a ZJ t2
     if(!wd&&t2.tooFull)=true then do
       (match(SL t2 ZJ (Qy ZJ.size)).2.2 with|true=>rule "set.scan.the-table-gave-way"|false=>OD ())
       VQ a (SL t2 ZJ (Qy ZJ.size)).1 (SL t2 ZJ (Qy ZJ.size)).2.1
       OD (some true)
      else OD (some true)) R E s:=by
 have q1:=relayAll_perm t2 ZJ (Qy ZJ.size);have hb1:ZJ.size<=PT:=by have:=hp.length_eq;rw[M3,OP,OP,S.size]at this;exact this▸M1 (NQ hn) (M1 (by decide:QD<=16777216) aA)
 have hb2:(SL t2 ZJ (Qy ZJ.size)).1.size<=PT:=by rw[←OP,q1.length_eq,OP];exact hb1
 refine M2 (qB S.at_ S.data hb1 fun h1 sb1 g1=>?_);refine dt (p:=fun p=>Nm _ _ p _ _ _) (fun _=>?_) fun _=>?_
 .refine M2 (AD ?_);refine M2 (qB g1 rfl hb2 fun h2 sb2 g2=>?_);exact Nf (hR _ _ _ _ _ (sb1.trans sb2) (S.add hn (q1.trans hp) (relayAll_fits ..) ((gm ..).1.trans f2) ((gm ..).2 f3) g2 S.ex rfl))
 .exact Nf (hR _ _ _ _ _ sb1 (S.add hn hp f1 f2 f3 g1 S.ex rfl))
theorem uL{a:Nw}{ks:List Str}{o:Obj}{es:Array (Int×M4)}{ep:Nat}{t:OC}{x:Str}{u:Tok}{ad:Bool}{Q:ScanMet->M7->Prop}(S:cf prog w s.heap a ks o es ep t)
  (h1:x∈ks->∀i,Q (.found i) s) (h2:x∉ks->Q .absent s):Nm (N6 prog w) A (setScan a (.str x u) ((strKind prog w).hash x) ad es) Q E s:=by
 refine wpAny_setScan_of (Pw prog w x u) S.at_ S.data S.fits S.elems ?_;have hmem:=S.has x;cases hr:es.toList.findIdx? (fun e=>(strKind prog w).is x e.2)with
 |some j=>obtain⟨hj,hpj,_⟩:=List.findIdx?_eq_some_iff_getElem.mp hr;exact h1 (hmem.mpr ⟨es.toList[j],OI hj,hpj⟩) _
 |none=>refine h2 fun h=>?_;obtain⟨e,he,q⟩:=hmem.mp h;exact aK ((List.findIdx?_eq_none_iff.mp hr e he).symm.trans q)
theorem x2{a:Nw}{ks:List Str}{o:Obj}{es:Array (Int×M4)}{ep:Nat}{t:OC}{x:Str}{u:Tok}{Q:Bool->M7->Prop}(S:cf prog w s.heap a ks o es ep t)(hn:ks.length+1<QD)
  (hq:∀h' b o' ZN ZQ t',QQ a s.heap h'->cf prog w h' a (if x∈ks then ks else ks++[x]) o' ZN ZQ t'->Q b {s with heap:=h'}):
  Nm (N6 prog w) A (Wh a (.str x u) ((strKind prog w).hash x)) Q E s:=by
 have Zz:=layNew_perm t es ((strKind prog w).hash x) (.str x u);have hfits:=layNew_fits t es ((strKind prog w).hash x) (.str x u);have Zu:=o9 t es ((strKind prog w).hash x) (.str x u);rw[Ub]at Zz;unfold Wh setAddHashedIn;refine OA (M2 (PJ S.at_ S.data S.fits ?_));dsimp only;rw[byScan_of rfl S.small S.elems,M8 rfl];unfold setAddByScan;apply M2;refine M2 (Ts ?_);refine M2 (uL S (fun hin i=>Nf (Nf (hq s.heap false o es ep t (Heap.SameBut.refl a s.heap) (by rw[M8 hin];exact S)))) fun hout=>?_);refine M2 (m:=match(layNew t es ((strKind prog w).hash x) (.str x u)).2.2.2 with|true=>rule "set.scan.the-table-gave-way"|false=>OD ()) (AD ?_);have fin:∀h' o' ZN ZQ t',QQ a s.heap h'->cf prog w h' a (ks++[x]) o' ZN ZQ t'->Q true {s with heap:=h'}:=fun h' o' ZN ZQ t' sb S'=>hq h' true o' ZN ZQ t' sb (by rw[M5 hout];exact S');refine dt (p:=fun p=>Nm _ _ p _ _ _) (fun hp=>?_) fun hp=>?_
 .refine M2 (QT (show hashByValue 8 (.str x u)=OD false from rfl) ?_);exact mW S hn Zz (SetTable.fits_plain_off hfits) Zu.1 rfl fun h' o' ZN ZQ t' sb S'=>Nf (fin h' o' ZN ZQ t' sb S')
 .refine M2 (Nf ?_);exact mW S hn Zz hfits Zu.1 (UI hp) fun h' o' ZN ZQ t' sb S'=>Nf (fin h' o' ZN ZQ t' sb S')
end
noncomputable def bB(ks:List Str)(x:Str):List Str:=if x∈ks then ks else ks++[x]
theorem sy(ks:List Str)(x:Str):(bB ks x).length<=ks.length+1:=dt (p:=fun l:List Str=>l.length<=ks.length+1) (fun _=>Oc _) fun _=>ND M3
theorem kr(ss:List Str):∀ks:List Str,(ss.foldl bB ks).length<=ks.length+ss.length:=by
 induction ss with
 |nil=>exact fun ks=>Nc _
 |cons x r ih=>exact fun ks=>M1 (ih (bB ks x)) (M1 (NF (sy ks x) _) (ND (Nat.succ_add_eq_add_succ ..)))
theorem sA(ks:List Str)(x y:Str):y∈bB ks x↔y∈ks\/y=x:=
 dt (p:=fun l:List Str=>y∈l↔y∈ks\/y=x) (fun h=>⟨.inl,fun q=>q.elim id fun e=>e▸h⟩) fun _=>List.mem_append.trans (VU .rfl List.mem_singleton)
theorem kt(ss:List Str):∀(ks:List Str)(y:Str),y∈ss.foldl bB ks↔y∈ks\/y∈ss:=by
 induction ss with
 |nil=>exact fun ks y=>⟨.inl,fun h=>h.elim id fun h=>absurd h Nq⟩
 |cons x r ih=>exact fun ks y=>(ih (bB ks x) y).trans ((VU (sA ks x y) .rfl).trans (or_assoc.trans (VU .rfl List.mem_cons.symm)))
theorem mX(ss:List Str):∀ks:List Str,ks.Nodup->(ss.foldl bB ks).Nodup:=by
 induction ss with
 |nil=>exact fun ks h=>h
 |cons x r ih=>exact fun ks h=>ih _ (dt (p:=List.Nodup) (fun _=>h) fun hx=>List.nodup_append.mpr ⟨h,.cons (fun _ h=>absurd h Nq) .nil,fun a ha b hb e=>hx ((e.trans (List.mem_singleton.mp hb))▸ha)⟩)
section
variable{prog:Pr}{w:OU}{A:NN}{R:R9->M7->Prop}
theorem HL{ws:List M4}{ys:List Str}(h:Oe ws ys):∀(i:Nat)(v:M4),ws[i]? =some v->∃u,∃h:i<ys.length,v= .str ys[i] u:=by
 induction h with
 |nil=>exact fun _ _=>aj
 |cons n t _ ih=>
  intro i v h;cases i with
  |zero=>cases h;exact⟨t,Ob _,rfl⟩
  |succ i=>obtain⟨u,hl,e⟩:=ih i v h;exact⟨u,Qr hl,e⟩
theorem sB{ss:List Str}{i:Nat}(h:i<ss.length):bB ((ss.take i).foldl bB []) ss[i]=(ss.take (i+1)).foldl bB []:=by rw[Uj,Nu h,Option.toList_some,List.foldl_append];rfl
theorem uM{ss:List Str}(i:Nat)(h:ss.length<=1000):((ss.take i).foldl bB []).length+1<QD:=
 M9 (Ny (M1 (kr (ss.take i) []) (M1 (ND (N1 _)) (M1 (RO ..) h)))) (by decide:1001<QD)
theorem uO{S I l:Nw}{Z8:Array M4}{ss:List Str}(hS:Oe Z8.toList ss)(ZV:ss.length<=1000)(hh:A.handled=none)(hlI:l≠I)(hSI:S≠I)(hSl:S≠l)
  (k:Nat):∀(i:Nat)(s:M7)(o:Obj)(es:Array (Int×M4))(ep:Nat)(t:OC),ss.length-i=k->i<=ss.length->s.heap.IsListIter I l i->s.heap.IsList l Z8->cf prog w s.heap S ((ss.take i).foldl bB []) o es ep t->
   (∀s' o' ZN ZQ t',s'.gens=s.gens->s'.os=s.os->(∀b o,b≠S->b≠I->s.heap.get? b=some o->s'.heap.get? b=some o)->cf prog w s'.heap S (ss.foldl bB []) o' ZN ZQ t'->R (.ok (.ret .none)) s')->
   PY (N6 prog w) A (.builtin "set.update.loop" ⟨[.ref S,.ref I],[]⟩) R s:=by
 have W:=Walks.list (prog:=prog) (w:=w) (A:=A.in1) hh I l hlI Z8;have hsz:Z8.size=ss.length:=EH hS;induction k with
 |zero=>intro i s o es ep t hk hi Zl hl hm hR;have hin:=QH hi (TO hk);subst hin;rw[Rj]at hm;refine O6 TT ?_;rw[OW Rz _];refine M2 (m:=Sy (.ref I)) (W.done s _ _ ⟨hsz.symm▸Zl,hl⟩ fun h' tk' hk'=>?_);exact Nf (hR _ o es ep t rfl rfl (fun b o' h1 h2 e=>hk' b o' (DM h2) e) {hm with at_:=hk' S o (DM hSI) hm.at_})
 |succ k ih=>intro i s o es ep t hk hi Zl hl hm hR;have Zk:=TN hk;have ih:=ih (i+1);have hn:=uM i ZV;have e1:=sB Zk;refine O6 TT ?_;rw[OW Rz _];refine M2 (m:=Sy (.ref I)) (W.item i s _ _ (hsz.symm▸Zk) ⟨Zl,hl⟩ fun v h' tk' hP st' hk'=>?_);obtain⟨u,hi',rfl⟩:=HL hS i v ((RA ..).trans hP);refine M2 (m:=Th _ (setAdd S (.str ss[i] u))) (OA ?_);refine OA (M2 ((strKind prog w).pyHash (k:=ss[i]) (Pw prog w _ u) ?_));refine x2 (s:={s with heap:=h',toks:=tk'+1}) {hm with at_:=hk' S o (DM hSI) hm.at_} hn fun h'' b o' ZN ZQ t' sb S'=>?_;refine Nf ⟨QN Rz _,ih _ o' ZN ZQ t' ((UV ..).trans (Np Wo hk)) Zk (st'.1.at fun o e=>(sb.2 I hSI.symm).trans e) (st'.2.at fun o e=>(sb.2 l hSl.symm).trans e) (e1▸S') fun s' o2 ZG ep2 t2 g1 g2 g3 g4=>hR s' o2 ZG ep2 t2 g1 g2 (fun b o h1 h2 e=>g3 b o h1 h2 ((sb.2 b h1).trans (hk' b o (DM h2) e))) g4⟩
end
section
variable{prog:Pr}{w:OU}{A:NN}{E:M4->M7->Prop}{s:M7}
noncomputable abbrev bq(w:OU):Obj:={cls:= .type "set",dict:=none,data:= .set #[] 0 (.fresh 0 0 (!fV w))}
theorem lm(a:M4){Q₁:M4->M7->Prop}(h:Q₁ (.ref s.heap.objs.size) {s with heap:=s.heap.push (bq w)}):
  PY (N6 prog w) A (.call (.builtin "set.__new__") ⟨[.type "set",a],[]⟩) (wants Q₁ E) s:=by
 apply Tg;show Nm _ A.in1 (do RJ "set.__new__" ⟨[.type "set",a],[]⟩;again (.builtin "set.__new__" ⟨[.type "set",a],[]⟩)) _ _ s;refine M2 (QT (PySem.F.newCall_set_1 a) (Nf ⟨QN PySem.F.plain_set_new _,O6 PySem.F.entry_set_new ?_⟩));rw[OW PySem.F.plain_set_new _];unfold QR.«set.__new__» Builtin.Frozenset.newClass;have hsub:Vk (.type "set") (.type "set")=OD true:=by rw[Qp];kernel_rfl
 obtain⟨hp,g,d,tk,os⟩:=s;dsimp only;wp_walk;refine RF (Nf ?_);dsimp only;simp only[newObj];refine M2 (wpAny_alloc (Nf ?_));exact Nf h
theorem sC(h:Og):cf prog w (h.push (bq w)) h.objs.size [] (bq w) #[] 0 (.fresh 0 0 (!fV w)) where
 at_:=NC _ rfl
 ex:=⟨rfl,rfl,rfl⟩
 data:=rfl
 keys:=⟨[],.nil,.refl _⟩
 hs:=fun e he=>by simp at he
 size:=rfl
 small:=by decide
 fits:=by rfl
 led:=by cases fV w<;>simp[SetTable.fresh]
 pl:=fun h=>absurd rfl h
theorem fN{c:Code}{Q E:M4->M7->Prop}{R:R9->M7->Prop}(h:PY (N6 prog w) A c (wants Q E) s)(h1:∀e s',E e s'->R (.error e) s')(h2:∀v s',Q v s'->R (.ok (.ret v)) s'):PY (N6 prog w) A c R s:=
 SO h fun r s' h=>match r,h with
 |.error e,h=>h1 e s' h
 |.ok .next,h=>h.elim
 |.ok .brk,h=>h.elim
 |.ok .cont,h=>h.elim
 |.ok (.ret v),h=>h2 v s' h
theorem uP{l:Nw}{P:M7->Prop}{Q:M4->M7->Prop}(hi:PY (N6 prog w) A.in1 (.call (.builtin "set.__init__") ⟨[.ref s.heap.objs.size,.ref l],[]⟩) (wants (fun r Z4=>r= .none/\P Z4) E) {s with heap:=s.heap.push (bq w)})
  (hQ:∀s',P s'->Q (.ref s.heap.objs.size) s'):Nm (N6 prog w) A (PZ (.type "set") [.ref l]) Q E s:=by
 obtain⟨c,tl,hmro⟩:=PySem.F.called_set.mro;have hmade:=PySem.F.called_set.made;have hsub:=PySem.F.called_set.sub;have h1:=PySem.F.called_set.notType;have h2:=PySem.F.called_set.canCreate;have hct:=PySem.F.typeCall_set_1 (.ref l);have hli:=PySem.F.called_set.init.lookup;have hbi:=PySem.F.called_set.init.bind (.ref s.heap.objs.size);have hT:Shared.TypeIs {s with heap:=s.heap.push (bq w)} (.ref s.heap.objs.size) "set":=⟨_,NC _ rfl,rfl⟩
 refine Sx (Tg ?_);show Nm _ _ (callAny (.type "set") _) _ _ _;refine Nf ⟨R6 _ (by decide+kernel),O6 PySem.F.entry_type_call ?_⟩;rw[Around.under_plain (weight_type_call_type "set" [.ref l] []) rfl]
 repeat (any_goals (first|assumption|wp_step))
 refine fN (lm (.ref l) (E:=E) (Q₁:=fun obj s₁=>obj= .ref s.heap.objs.size/\s₁={s with heap:=s.heap.push (bq w)}) ⟨rfl,rfl⟩) (fun _ _ h=>h) fun obj s₁ h=>?_;obtain⟨rfl,rfl⟩:=h
 repeat (any_goals (first|assumption|wp_step))
 refine fN hi (fun _ _ h=>h) fun r Z4 h=>?_;obtain⟨rfl,h⟩:=h
 repeat (any_goals (first|assumption|wp_step))
 exact hQ _ h
theorem uQ{l:Nw}{Z8:Array M4}{ss:List Str}(hh:A.handled=none)(hl:s.heap.IsList l Z8)(hS:Oe Z8.toList ss)(ZV:ss.length<=1000):
  PY (N6 prog w) A (.call (.builtin "set.__init__") ⟨[.ref s.heap.objs.size,.ref l],[]⟩) (wants (fun r Z4=>r= .none/\Kp s Z4/\∃o es ep t,cf prog w Z4.heap s.heap.objs.size (ss.foldl bB []) o es ep t) E) {s with heap:=s.heap.push (bq w)}:=by
 have emp:=sC (prog:=prog) (w:=w) s.heap;have hT:Shared.TypeIs {s with heap:=s.heap.push (bq w)} (.ref s.heap.objs.size) "set":=⟨_,emp.at_,rfl⟩
 obtain⟨ol,hol,hcl,nl,hdl⟩:=id hl;have hlS:l<s.heap.objs.size:=Oi hol;obtain⟨ocls,odict,odata,oslots⟩:=ol;simp only at hcl hdl;subst hcl;subst hdl;have hol':(s.heap.push (bq w)).get? l=some {cls:= .type "list",dict:=odict,data:= .seq Z8 nl,slots:=oslots}:=Ng _ hol;have hl1:(s.heap.push (bq w)).IsList l Z8:=⟨_,hol',rfl,nl,rfl⟩
 have eI:(s.heap.push (bq w)).objs.size=s.heap.objs.size+1:=PG ..;have hneI:l≠(s.heap.push (bq w)).objs.size:=by rw[eI];exact NY (Py hlS)
 have hSI:s.heap.objs.size≠(s.heap.push (bq w)).objs.size:=by rw[eI];exact NY (NR _)
 have hsls:=PySem.F.sub_list_set;have hslf:=PySem.F.sub_list_frozenset;have Zj:(SR "list"==SR "dict")=false:=by decide
 refine R8 PySem.F.called_set.init.plain PySem.F.entry_set_init (check_set_init_1 hT ?_);unfold QR.«set.__init__» noKeywords Builtin.Frozenset.updateFrom;generalize hPI:R7=PI;wp_walk;subst hPI;refine U3 hl1 ?_;refine M2 (Tq ?_);refine uO hS ZV (by simpa using hh) hneI hSI (Rv hlS) ss.length 0 _ (bq w) #[] 0 (.fresh 0 0 (!fV w)) rfl (NJ _) ⟨_,NC _ rfl,rfl,rfl⟩ (hl1.push _) ?_ ?_
 .exact{emp with at_:=Ng _ emp.at_}
 intro s' o' ZN ZQ t' g1 g2 g3 g4;refine Nf (Nf ⟨rfl,⟨fun b o e=>?_,g1,g2⟩,o',ZN,ZQ,t',g4⟩);have hb:=Oi e;exact g3 b o (NY hb) (by rw[eI];exact NY (Py hb)) (Ng _ (Ng _ e))
theorem j1{l:Nw}{Z8:Array M4}{ss:List Str}{Q:M4->M7->Prop}(hh:A.handled=none)(hl:s.heap.IsList l Z8)(hS:Oe Z8.toList ss)(ZV:ss.length<=1000)
  (hQ:∀s' o es ep t,Kp s s'->cf prog w s'.heap s.heap.objs.size (ss.foldl bB []) o es ep t->Q (.ref s.heap.objs.size) s'):Nm (N6 prog w) A (PZ (.type "set") [.ref l]) Q E s:=
 uP (uQ (by simpa using hh) hl hS ZV) fun s' h=>by obtain⟨k,o,es,ep,t,hS⟩:=h;exact hQ s' o es ep t k hS
end
theorem fO:Slot "set" "__iter__" "set.__iter__":=
 .of (owner:="set") (n:="__iter__") (by rw[Qc,Pe];kernel_rfl) (by decide+kernel) (by decide+kernel) (by decide+kernel)
  (by first|exact .inl (by decide+kernel)|exact .inr (by decide+kernel)) (by rw[Qp];kernel_rfl)
theorem jk:Uz table "set.__iter__"=some QR.«frozenset.__iter__»:=
 VZ (id':="frozenset.__iter__") (by kernel_rfl) (by first|rfl|decide+kernel) (by decide+kernel) (by kernel_rfl)
theorem j2(a:M4):Uf "set.__iter__" ⟨[a],[]⟩:=by unfold Uf;kernel_rfl
theorem bH:Slot "set_iterator" "__next__" "set_iterator.__next__":=
 .of (owner:="set_iterator") (n:="__next__") (by rw[Qc,Pe];kernel_rfl) (by decide+kernel) (by decide+kernel) (by decide+kernel)
  (by first|exact .inl (by decide+kernel)|exact .inr (by decide+kernel)) (by rw[Qp];kernel_rfl)
theorem jl:Uz table "set_iterator.__next__"=some QR.«set_iterator.__next__»:=Vl (by kernel_rfl)
theorem j3(a:M4):Uf "set_iterator.__next__" ⟨[a],[]⟩:=by unfold Uf;kernel_rfl
theorem fP:Slot "set_iterator" "__iter__" "set_iterator.__iter__":=
 .of (owner:="set_iterator") (n:="__iter__") (by rw[Qc,Pe];kernel_rfl) (by decide+kernel) (by decide+kernel) (by decide+kernel)
  (by first|exact .inl (by decide+kernel)|exact .inr (by decide+kernel)) (by rw[Qp];kernel_rfl)
theorem jm:Uz table "set_iterator.__iter__"=some QR.«dict_keyiterator.__iter__»:=
 VZ (id':="dict_keyiterator.__iter__") (by kernel_rfl) rfl (by decide+kernel) (by kernel_rfl)
theorem j4(a:M4):Uf "set_iterator.__iter__" ⟨[a],[]⟩:=by unfold Uf;kernel_rfl
section
variable{prog:Pr}{w:OU}{A:NN}{E:M4->M7->Prop}{s:M7}
theorem jn{α:Type}(l:List α):∀(i:Nat)(h:i<l.length),(l[i]::l.eraseIdx i).Perm l:=by
 induction l with
 |nil=>exact fun _ h=>absurd h (RC _)
 |cons x l ih=>
  intro i h;cases i with
  |zero=>exact .refl _
  |succ i=>exact(List.Perm.swap x (l[i]'(Rw h)) (l.eraseIdx i)).trans ((ih i (Rw h)).cons x)
theorem lp{src:Source}{n:Nat}{Q:Nat->M7->Prop}(hn:n≠0)(h:∀r d',r<n->Q r {s with drawn:=d'}):Nm (N6 prog w) A (choose src n) Q E s:=
 fun Γ p hΓ=>⟨hn,h _ _ (R_ _ (Nat.pos_of_ne_zero hn))⟩
theorem iy{α:Type}(n:Nat):∀(xs:List α)(s:M7){Q:List α->M7->Prop},n=xs.length->(∀d' ys,ys.Perm xs->Q ys {s with drawn:=d'})->Nm (N6 prog w) A (drawOrder n xs) Q E s:=by
 induction n with
 |zero=>intro xs s Q hn h;cases List.length_eq_zero_iff.mp hn.symm;exact Nf (h s.drawn [] (.refl _))
 |succ n ih=>
  intro xs s Q hn h;cases xs with
  |nil=>exact absurd hn (Sz _)
  |cons x xs=>refine M2 (m:=choose .order (x::xs).length) (lp (Sz _) fun i d' hi=>?_);rw[Nu hi];refine M2 (ih ((x::xs).eraseIdx i) _ ?_ fun d'' ys hp=>Nf (h d'' _ ((hp.cons _).trans (jn _ _ hi))));rw[S2 hi,←hn];rfl
theorem Bq{α:Type}(next:Nat->Nat)(n:Nat):∀(k:Nat)(left:List α)(out:Array α),n=left.length->(pickOrder.go next n k left out).toList.Perm (out.toList++left):=by
 induction n with
 |zero=>intro k left out h;cases List.length_eq_zero_iff.mp h.symm;exact .of_eq (Nv _).symm
 |succ n ih=>intro k left out h;have hi:next k % left.length<left.length:=R_ _ (h▸Ob n);show(match left[next k % left.length]? with|some x=>pickOrder.go next n (k+1) (left.eraseIdx (next k % left.length)) (out.push x)|none=>out).toList.Perm _;rw[Nu hi];refine(ih (k+1) _ _ (by rw[S2 hi,←h];rfl)).trans ?_;rw[Ub,Nd];exact(jn _ _ hi).append_left _
theorem jo{α:Type}(next:Nat->Nat)(xs:Array α):(T6 next xs).toList.Perm xs.toList:=Bq next xs.size 0 xs.toList #[] rfl
noncomputable abbrev jp(f:M4)(i:Nat)(a:Nw)(n ep:Nat):Obj:={cls:= .type "set_iterator",data:= .fields #[f,.int i 0,.ref a,.int n 0,.int ep 0]}
theorem mY{I:Nw}{f:M4}{i:Nat}{a:Nw}{n ep:Nat}{Q:M4->M7->Prop}(hI:s.heap.get? I=some (jp f i a n ep))(h:Q (.ref I) s):Nm (N6 prog w) A (R7 (.ref I)) Q E s:=by
 have hT:s.TypeIs (.ref I) "set_iterator":=⟨_,hI,rfl⟩
 refine U2 hT fP (QC fP hT jm ?_ (j4 _));show Nm _ _ (ret (.ref I)) _ _ s;exact Nf ⟨_,rfl,"set_iterator",_,hT,bH.lookup,h⟩
theorem gp{I:Nw}{f:M4}{i:Nat}{a:Nw}{ks:List Str}{o:Obj}{es:Array (Int×M4)}{ep:Nat}{t:OC}{Q:Option M4->M7->Prop}(S:cf prog w s.heap a ks o es ep t)(hI:s.heap.get? I=some (jp f i a es.size ep))
  (h:Nm (N6 prog w) A.in1 (if let .int slot _:=f then do
    match ←Sb a slot.toNat (i:Int).toNat (ep:Int).toNat with
    |some (x,next)=>
     RH (.ref I) 0 (Pn next)
     RH (.ref I) 1 (Pn ((i:Int)+1))
     ret x
    |none=>RH (.ref I) 2 .none;Ux (←VV (.type "StopIteration") [])
   else do
    let some places ←T5 f|unsupported "internal:set_iterator"
    match places[(i:Int).toNat]? with
    |some (.int place _)=>
     let x ←Wg a place.toNat (ep:Int).toNat
     RH (.ref I) 1 (Pn ((i:Int)+1))
     ret x
    |some _=>unsupported "internal:set_iterator"
    |none=>RH (.ref I) 0 (Pn 0);RH (.ref I) 2 .none;Ux (←VV (.type "StopIteration") []))
   (fun fin s'=>∃v,fin= .done (.ret v)/\Q (some v) s')
   (fun e s'=>∃o',e= .ref o'/\s'.TypeIs (.ref o') "StopIteration"/\Q none s') s):Nm (N6 prog w) A (Sy (.ref I)) Q E s:=by
 have hT:s.TypeIs (.ref I) "set_iterator":=⟨_,hI,rfl⟩
 unfold Sy;refine M2 (wpAny_attempt (T4 (name:=NB "__next__") hT bH
  (QC bH hT jl ?_ (j3 _))))
 unfold QR.«set_iterator.__next__»;refine M2 (Nf ?_);refine M2 (wpAny_fieldsOf hI rfl ?_);refine M2 (UG S.at_ S.data S.fits ?_);rw[M5 (by simp)];exact Nj h (fun fin s' ⟨v,e,z⟩=>⟨v,e,Nf z⟩) (fun e s' ⟨o',e1,hT,z⟩=>by subst e1;exact M2 (S4 hT isSubtype_stop (Nf z)))
theorem mZ{Q:PySem.Fin->M7->Prop}{P:M7->Prop}(hh:A.handled=none)(h:∀h' tk,(∀b o,s.heap.get? b=some o->h'.get? b=some o)->P {s with heap:=h',toks:=tk}):
  Nm (N6 prog w) A (do Ux (←VV (.type "StopIteration") []):Sem PySem.Fin) Q (fun e s'=>∃o',e= .ref o'/\s'.TypeIs (.ref o') "StopIteration"/\P s') s:=by
 apply M2;simp only[VV,newTuple];refine M2 (Pi ?_ (by size_fits));refine M2 (m:=VY _ _) (QT (a:=Om) (by first|rfl|(simp only[VY];rfl)) ?_);refine Pi ?_ (by size_fits);simp only[Ux];refine M2 (wpAny_handled ?_);rw[hh];refine M2 (Nf (wpAny_throw ?_));exact⟨_,rfl,⟨_,NC _ rfl,rfl⟩,h _ s.toks fun b o e=>Ng _ (Ng _ e)⟩
theorem db{I:Nw}{o':Obj}{vs:Array M4}{j:Nat}{v:M4}{Q:Unit->M7->Prop}(hI:s.heap.get? I=some {cls:= .type "set_iterator",data:= .fields vs})(hj:j<vs.size)
  (h:∀h',h'.get? I=some {cls:= .type "set_iterator",data:= .fields (vs.setIfInBounds j v)}->(∀b o,b≠I->s.heap.get? b=some o->h'.get? b=some o)->Q () {s with heap:=h'}):Nm (N6 prog w) A (RH (.ref I) j v) Q E s:=by
 refine Qn hI rfl hj (h _ ?_ fun b o hb e=>?_)
 .exact NU _ hI rfl
 .rw[NX _ _ (NT hb)];exact e
theorem uR{I a:Nw}(Zj:a≠I){ks:List Str}{o:Obj}{es:Array (Int×M4)}{ep:Nat}{t:OC}(hh:A.handled=none)(S:cf prog w s.heap a ks o es ep t)(xs:List M4)(hx:xs.length=es.size)(sl:Nat->Nat)
  (hN:∀(B:NN)(s:M7)(E:M4->M7->Prop)(Q:Option (M4×Nat)->M7->Prop)(i:Nat),i<=xs.length->s.heap.get? a=some o->Q ((xs[i]?).map fun x=>(x,sl (i+1))) s->Nm (N6 prog w) B (Sb a (sl i) i ep) Q E s):
  V4 prog w A I [I,a] [I] xs.length (fun i v=>xs[i]? =some v) (fun i h=>h.get? I=some (jp (.int (sl i) 0) i a es.size ep)/\h.get? a=some o) where
 sub:=fun b hb=>by simp at hb;simp[hb]
 frame:=fun _ _ _ st hk=>⟨hk I (by simp) _ st.1,hk a (by simp) _ st.2⟩
 item:=fun i s Q E hi st hQ=>by refine gp {S with at_:=st.2} st.1 ?_;show Nm _ _ (Sb a (sl i) i ep>>=_) _ _ _;refine M2 (hN _ s _ _ i (NQ hi) st.2 ?_);rw[Nu hi];dsimp only[Ri];refine M2 (db (o':=o) st.1 (by simp) fun Zy g1 g2=>?_);refine M2 (db (o':=o) g1 (by simp) fun ZB g3 g4=>?_);refine Nf ⟨_,rfl,hQ _ ZB s.toks (Nu hi) ⟨?_,g4 _ _ Zj (g2 _ _ Zj st.2)⟩ fun b ob hb e=>g4 b ob (by simpa using hb) (g2 b ob (by simpa using hb) e)⟩;rw[g3];simp[Pn,jp]
 done:=fun s Q E st hQ=>by refine gp {S with at_:=st.2} st.1 ?_;show Nm _ _ (Sb a (sl xs.length) xs.length ep>>=_) _ _ _;refine M2 (hN _ s _ _ xs.length (Nc _) st.2 ?_);rw[RD (Nc _)];dsimp only[Ri];refine M2 (db (o':=o) st.1 (by simp) fun Zy g1 g2=>?_);exact mZ (by simpa using hh) fun h' tk hk=>hQ h' tk fun b ob hb e=>hk b ob (g2 b ob (by simpa using hb) e)
 self:=fun _ _ _ _ st hQ=>mY st.1 hQ
theorem cS{Q:Bool->M7->Prop}(h:Q (fV w) s):Nm (N6 prog w) A setsByText Q E s:=by unfold setsByText;exact M2 (RF (Nf h))
theorem sD{I a T:Nw}(Zj:a≠I)(hTI:T≠I){ks:List Str}{o oT:Obj}{es:Array (Int×M4)}{ep nT:Nat}{t:OC}(hh:A.handled=none)(S:cf prog w s.heap a ks o es ep t){ps:List Nat}(hp:∀p∈ps,p<es.size)(hpl:ps.length=es.size)
  (hoT:oT.data= .seq (ps.map fun(i:Nat)=>Pn i).toArray nT):
  V4 prog w A I [I,a,T] [I] ps.length (fun i v=>∃p e,ps[i]? =some p/\es[p]? =some e/\v=e.2) (fun i h=>h.get? I=some (jp (.ref T) i a es.size ep)/\h.get? a=some o/\h.get? T=some oT) where
 sub:=fun b hb=>by simp at hb;simp[hb]
 frame:=fun _ _ _ st hk=>⟨hk I (by simp) _ st.1,hk a (by simp) _ st.2.1,hk T (by simp) _ st.2.2⟩
 item:=fun i s Q E hi st hQ=>by
  have S':cf prog w s.heap a ks o es ep t:={S with at_:=st.2.1}
  refine gp S' st.1 ?_;show Nm _ _ (T5 (.ref T)>>=_) _ _ _;refine M2 (Tp st.2.2 hoT ?_);have hpi:ps[i]? =some ps[i]:=Nu hi;have Zk:=hp ps[i] (OI hi);have e1:(ps.map fun(i:Nat)=>Pn i).toArray[(i:Int).toNat]? =some (.int (ps[i]:Nat) 0):=by simp[hi,Pn]
  dsimp only;rw[e1];have e2:es[ps[i]]? =some es[ps[i]]:=by simp[Zk]
  apply M2;unfold Wg;refine M2 (PJ S'.at_ S'.data S'.fits ?_);dsimp only;rw[M5 (by simp)];simp only[Int.toNat_natCast];rw[e2];refine Nf (M2 (db (o':=o) st.1 (by simp) fun Zy g1 g2=>?_));refine Nf ⟨_,rfl,hQ _ Zy s.toks ⟨_,_,hpi,e2,rfl⟩ ⟨?_,g2 _ _ Zj st.2.1,g2 _ _ hTI st.2.2⟩ fun b ob hb e=>g2 b ob (by simpa using hb) e⟩;rw[g1];simp[Pn,jp]
 done:=fun s Q E st hQ=>by
  refine gp {S with at_:=st.2.1} st.1 ?_;show Nm _ _ (T5 (.ref T)>>=_) _ _ _;refine M2 (Tp st.2.2 hoT ?_);have e1:(ps.map fun(i:Nat)=>Pn i).toArray[((ps.length:Nat):Int).toNat]? =none:=by simp
  dsimp only;rw[e1];refine M2 (db (o':=o) st.1 (by simp) fun Zy g1 g2=>?_);refine M2 (db (o':=o) g1 (by simp) fun ZB g3 g4=>?_);exact mZ (by simpa using hh) fun h' tk hk=>hQ h' tk fun b ob hb e=>hk b ob (g4 b ob (by simpa using hb) (g2 b ob (by simpa using hb) e))
 self:=fun _ _ _ _ st hQ=>mY st.1 hQ
theorem uT{acc:Array M4}{xs:List M4}(h:Wp (fun i v=>xs[i]? =some v) acc xs.length):acc.toList=xs:=by
 refine List.ext_getElem? fun i=>?_;by_cases hi:i<xs.length
 .have h1:i<acc.size:=by rw[h.1];exact hi
  have e1:acc[i]? =some acc[i]:=by simp[h1]
  have:=h.2 i acc[i] e1;rw[this];simp[h1]
 .rw[RD (Nat.not_lt.mp hi),RD (by have:=h.1;simp;lia)]
theorem fW{n:Nat}(h:n<QD):n<=PT:=M1 (NQ h) (M1 (by decide:QD<=16777216) aA)
theorem jq{a:Nw}{ks:List Str}{o:Obj}{es:Array (Int×M4)}{ep:Nat}{t:OC}(hh:A.handled=none)(S:cf prog w s.heap a ks o es ep t)(xs:List M4)(sl:Nat->Nat)(h0:sl 0=0)(hl:xs.length=es.size)(hx:xs.Perm (es.toList.map (·.2)))
  (hN:∀(B:NN)(s:M7)(E:M4->M7->Prop)(Q:Option (M4×Nat)->M7->Prop)(i:Nat),i<=xs.length->s.heap.get? a=some o->Q ((xs[i]?).map fun x=>(x,sl (i+1))) s->Nm (N6 prog w) B (Sb a (sl i) i ep) Q E s):
  mT prog w A a (fun keys=>∃ZS,Oe keys ZS/\ZS.Perm ks) s (.ref s.heap.objs.size) {s with heap:=s.heap.push (jp (.int 0 0) 0 a es.size ep)}:=by
 have ha:=Oi S.at_;have hf:=fresh s.heap;obtain⟨ZR,hS,hp⟩:=S.keys;obtain⟨k2,h1,h2⟩:=d9 hS hx;refine⟨⟨s.heap.objs.size,_,_,xs.length,_,_,rfl,(uR (NY ha) hh S xs hl sl hN).toS,hl▸fW S.small,⟨?_,Ng _ S.at_⟩,fun b hb=>?_,fun b hb=>?_,fun acc ZC=>?_⟩,⟨fun b o e=>Ng _ e,rfl,rfl⟩⟩
 .rw[h0];exact NC _ rfl
 .exact(List.mem_cons.mp hb).elim (fun e=> .inr (e▸hf)) fun hb=> .inl (List.mem_singleton.mp hb)
 .exact List.mem_singleton.mp hb▸hf
 .rw[uT ZC];exact⟨k2,h1,h2.trans hp⟩
theorem sE{a:Nw}{ks:List Str}{o:Obj}{es:Array (Int×M4)}{ep:Nat}{t:OC}(hh:A.handled=none)(S:cf prog w s.heap a ks o es ep t)(hb:fV w=true):
  mT prog w A a (fun keys=>∃ZS,Oe keys ZS/\ZS.Perm ks) s (.ref s.heap.objs.size) {s with heap:=s.heap.push (jp (.int 0 0) 0 a es.size ep)}:=by
 have pp:=jo (w.params.setOrder a ep) es;refine jq hh S ((T6 (w.params.setOrder a ep) es).toList.map (·.2)) (fun _=>0) rfl ((M6 ..).trans pp.length_eq) (pp.map _) fun B s' E' Q' i hi Zo hq=>?_;have e:Ri (fun x=>(x,0)) ((T6 (w.params.setOrder a ep) es).toList.map (·.2))[i]? =(T6 (w.params.setOrder a ep) es)[i]?.map fun e=>(e.2,0):=by rw[Os,RA,Option.map_map];rfl
 rw[e]at hq;unfold Sb;refine M2 (PJ Zo S.data S.fits ?_);dsimp only;refine M2 (cS ?_);rw[hb,M8 rfl,M5 (by simp)];apply M2;unfold setWalk;refine M2 (PJ Zo S.data S.fits ?_);dsimp only;refine M2 (cS ?_);rw[hb,M8 rfl];exact M2 (RF (Nf (Nf hq)))
theorem Br{B:NN}{Q':Option (M4×Nat)->M7->Prop}{a:Nw}{ks:List Str}{o:Obj}{es:Array (Int×M4)}{ep:Nat}{t:OC}{h:Og}(S:cf prog w h a ks o es ep t)(hb:fV w=false)(hd:(!t.plain&&decide (es.size>1))=false)(sl i:Nat)(Zo:s.heap.get? a=some o)
  (hq:Q' (match es[P3 t.place sl]?,t.place[P3 t.place sl]? with|some (_,x),some j=>some (x,j+1)|_,_=>none) s):Nm (N6 prog w) B (Sb a sl i ep) Q' E s:=by
 have Zu:t.led=true:=S.led.resolve_left fun h=>aK (hb.symm.trans h);unfold Sb;refine M2 (PJ Zo S.data S.fits ?_);dsimp only;refine M2 (cS ?_);rw[hb,M5 (by decide)];show Nm _ _ (if(!t.plain&&decide (es.size>1))=true then _ else _) _ _ _;rw[hd,M5 (by decide)];show Nm _ _ ((if(!t.led&& !es.isEmpty)=true then _ else OD ())>>=_) _ _ _;rw[Zu];exact M2 (Nf (Nf hq))
theorem uV{a:Nw}{ks:List Str}{o:Obj}{es:Array (Int×M4)}{ep:Nat}{t:OC}(hh:A.handled=none)(S:cf prog w s.heap a ks o es ep t)(hb:fV w=false)(hd:(!t.plain&&decide (es.size>1))=false):
  mT prog w A a (fun keys=>∃ZS,Oe keys ZS/\ZS.Perm ks) s (.ref s.heap.objs.size) {s with heap:=s.heap.push (jp (.int 0 0) 0 a es.size ep)}:=by
 have hfit:t.place.size=es.size:=N3 (cD S.fits).1;have hs1:es.size<=1:=by refine Decidable.byContradiction fun h=>aK (hd.symm.trans (Aw ?_ (NH (Ro h))));rw[S.pl fun q=>h (by rw[S.size,q];exact NJ 1)];rfl
 have nx:=fun(B:NN) (s':M7) (E':M4->M7->Prop) (Q':Option (M4×Nat)->M7->Prop) (sl i:Nat)=>Br (prog:=prog) (E:=E') (s:=s') (B:=B) (Q':=Q') S hb hd sl i;rcases Ui hs1 with h1|h0
 .obtain⟨e,he⟩:∃e,es=#[e]:=Array.size_eq_one_iff.mp h1;obtain⟨j,hj⟩:∃j,t.place=#[j]:=Array.size_eq_one_iff.mp (hfit.trans h1);refine jq hh S [e.2] (fun i=>if i=0 then 0 else j+1) rfl h1.symm (he▸.refl _) fun B s' E' Q' i hi Zo hq=>nx B s' E' Q' _ i Zo ?_;rw[he,hj];rcases Ui hi with h|h
  .subst h;have b1:P3 #[j] (j+1)=1:=by simp[P3,SetTable.below.go]
   rw[M5 (show ¬[e.2].length=0 from Sz 0),b1];exact hq
  .cases Nat.lt_one_iff.mp h;have b0:P3 #[j] 0=0:=by simp[P3,SetTable.below.go]
   rw[M8 rfl,b0];exact hq
 .have h0:=Nat.lt_one_iff.mp h0;have he:es=#[]:=Array.size_eq_zero_iff.mp h0;have hj:t.place=#[]:=Array.size_eq_zero_iff.mp (hfit.trans h0);refine jq hh S [] (fun _=>0) rfl h0.symm (he▸.refl _) fun B s' E' Q' i hi Zo hq=>nx B s' E' Q' _ i Zo ?_;rw[he];cases Nat.le_zero.mp hi;exact hq
noncomputable abbrev sG(ps:List Nat):Obj:={cls:= .type "tuple",data:= .seq (ps.map fun(i:Nat)=>Pn i).toArray}
theorem uW{es:Array (Int×M4)}(vs:List M4):∀ps:List Nat,vs.length=ps.length->(∀(j:Nat)(v:M4),vs[j]? =some v->∃p e,ps[j]? =some p/\es[p]? =some e/\v=e.2)->vs=ps.filterMap fun p=>es[p]?.map (·.2):=by
 induction vs with
 |nil=>intro ps hl _;cases ps<;>first|rfl|cases hl
 |cons v vs ih=>
  intro ps hl h;cases ps with
  |nil=>cases hl
  |cons p ps=>obtain⟨p',e,h1,h2,h3⟩:=h 0 v rfl;cases h1;rw[O5,h2,h3];exact Np _ (ih ps (Pj hl) fun j v hj=>h (j+1) v hj)
theorem sH{a:Nw}{ks:List Str}{o:Obj}{es:Array (Int×M4)}{ep:Nat}{t:OC}(hh:A.handled=none)(S:cf prog w s.heap a ks o es ep t)(d':Vd){ps:List Nat}(Zn:ps.Perm (OG es.size)):
  mT prog w A a (fun keys=>∃ZS,Oe keys ZS/\ZS.Perm ks) s (.ref (s.heap.push (sG ps)).objs.size) {s with drawn:=d',heap:=(s.heap.push (sG ps)).push (jp (.ref s.heap.objs.size) 0 a es.size ep)}:=by
 have ha:=Oi S.at_;have hf:=fresh s.heap;have hpl:ps.length=es.size:=Zn.length_eq.trans Qe;have Zk:∀p∈ps,p<es.size:=fun p hp=>List.mem_range.mp (Zn.mem_iff.mp hp);have a2:(s.heap.push (sG ps)).get? a=some o:=Ng _ S.at_;have eI:(s.heap.push (sG ps)).objs.size=s.heap.objs.size+1:=PG ..;have n1:s.heap.get? (s.heap.push (sG ps)).objs.size=none:=eI▸RV (Oc _);obtain⟨ZR,hS,hp⟩:=S.keys;have e2:(OG es.size).filterMap (fun p=>es[p]?.map (·.2))=es.toList.map (·.2):=by rw[←filterMap_getElem?_range es,List.map_filterMap]
 have hx:=Zn.filterMap fun p:Nat=>es[p]?.map fun e:Int×M4=>e.2;rw[e2]at hx;obtain⟨k2,h1,h2⟩:=d9 hS hx;refine⟨⟨_,_,_,ps.length,_,_,rfl,(sD (I:=(s.heap.push (sG ps)).objs.size) (T:=s.heap.objs.size) (eI▸NY (Py ha)) (eI▸NY (NR _)) hh S Zk hpl rfl).toS,hpl▸fW S.small,⟨NC _ rfl,Ng _ a2,Ng _ (NC _ rfl)⟩,fun b hb=>?_,fun b hb=>?_,fun acc ZC=>?_⟩,⟨fun b o e=>Ng _ (Ng _ e),rfl,rfl⟩⟩
 .exact(List.mem_cons.mp hb).elim (fun e=> .inr (e▸n1)) fun hb=>(List.mem_cons.mp hb).elim .inl fun hb=> .inr (List.mem_singleton.mp hb▸hf)
 .exact List.mem_singleton.mp hb▸n1
 .rw[uW acc.toList ps ZC.1 fun j v hj=>ZC.2 j v ((RA ..).symm.trans hj)];exact⟨k2,h1,h2.trans hp⟩
theorem uX{a:Nw}{ks:List Str}{o:Obj}{es:Array (Int×M4)}{ep:Nat}{t:OC}(hh:A.handled=none)(S:cf prog w s.heap a ks o es ep t){Q:M4->M7->Prop}
  (hQ:∀v Z4,mT prog w A a (fun keys=>∃ZS,Oe keys ZS/\ZS.Perm ks) s v Z4->Q v Z4):Nm (N6 prog w) A (R7 (.ref a)) Q E s:=by
 have hT:s.TypeIs (.ref a) "set":=⟨_,S.at_,S.ex.1⟩
 have hz:=fW S.small;have hA:=fun hb=>hQ _ _ (sE hh S hb);have hB:=fun hb hd=>hQ _ _ (uV hh S hb hd);have hC:=fun d' ps Zn=>hQ _ _ (sH hh S d' (ps:=ps) Zn);clear hQ;refine U2 hT fO (QC fO hT jk ?_ (j2 _));unfold QR.«frozenset.__iter__»;refine M2 (Nf ?_);refine M2 (M2 (UG S.at_ S.data S.fits (Nf ?_)));unfold setDrawn;refine M2 (M2 (PJ S.at_ S.data S.fits ?_));dsimp only;refine M2 (cS ?_);have made:Q (.ref s.heap.objs.size) {s with heap:=s.heap.push (jp (.int 0 0) 0 a es.size ep)}->Nm (N6 prog w) A.in1 (do
     let first ←OD (Pn 0)
     let __do_lift ←setEpoch a
     let __do_lift ←newFields "set_iterator" [first,Pn 0,Oz a,Pn es.size,Pn __do_lift]
     ret __do_lift) (fun fin s'=>∃v,fin= .done (.ret v)/\∃T r,s'.TypeIs v T/\Rg (.type T) (NB "__next__")=OD (some r)/\Q v s') E s:=fun hq=>
  M2 (Nf (M2 (U1 S.at_ S.data S.fits (M2 (Pi (Nf ⟨_,rfl,"set_iterator",_,⟨_,NC _ rfl,rfl⟩,bH.lookup,hq⟩))))))
 cases hb:fV w with
 |true=>exact Nf (made (hA hb))
 |false=>apply Nf;refine dt (p:=fun p=>Nm _ _ p _ _ _) (fun hd=>?_) fun hd=>made (hB hb (UI hd));refine M2 (iy es.size (OG es.size) s List.length_range.symm fun d' ps Zn=>?_);refine M2 (wpAny_newTuple ?_ (by rw[M6,Zn.length_eq,Qe];exact hz));refine M2 (U1 (Ng _ S.at_) S.data S.fits ?_);exact M2 (Pi (Nf ⟨_,rfl,"set_iterator",_,⟨_,NC _ rfl,rfl⟩,bH.lookup,hC d' ps Zn⟩))
end
set_option backward.match.sparseCases false
set_option tactic.hygienic false
theorem lq:cx (v::vs)=some b->∃i a,v= .int i/\cx vs=some a/\b=i::a:=
 PV.casesOn (motive_1:=fun v=>cx (v::vs)=some b->∃i a,v= .int i/\cx vs=some a/\b=i::a) v aj (fun _=>aj) (fun i h=>by refine cn h fun a c d=>?_;subst d;exact⟨i,a,rfl,c,rfl⟩) (fun _=>aj) (fun _=>aj) (fun _=>aj) (fun _ _=>aj) (fun _=>aj) fun _ _=>aj
theorem j5{P:Nk}{fz:Fz}:∀{ws:List M4}{a:List Int},aL P fz vs ws->cx vs=some a->∃xs:List (Int×Tok),ws=xs.map (fun p=>Value.int p.1 p.2)/\xs.map (·.1)=a:=by
 induction vs with
 |nil=>intro ws a h e;exact⟨[],h.inv,Na e⟩
 |cons v vs b=>intro ws a h e;obtain⟨y,ys,rfl,r,t⟩:=h.inv;obtain⟨i,d,rfl,c,rfl⟩:=lq e;obtain⟨k,rfl⟩:=r.inv;obtain⟨xs,rfl,rfl⟩:=b t c;exact⟨(i,k)::xs,rfl,rfl⟩
theorem gq:bm (v::vs)=some b->∃i a,v= .str i/\bm vs=some a/\b=i::a:=
 PV.casesOn (motive_1:=fun v=>bm (v::vs)=some b->∃i a,v= .str i/\bm vs=some a/\b=i::a) v aj (fun _=>aj) (fun _=>aj) (fun i h=>by refine cn h fun a c d=>?_;subst d;exact⟨i,a,rfl,c,rfl⟩) (fun _=>aj) (fun _=>aj) (fun _ _=>aj) (fun _=>aj) fun _ _=>aj
theorem eR{P:Nk}{fz:Fz}:∀{ws:List M4}{a:List (List Nat)},aL P fz vs ws->bm vs=some a->Oe ws (a.map aq)/\∀x∈a,fa x:=by
 induction vs with
 |nil=>intro ws a h e;cases h.inv;injection e with z0;subst z0;exact⟨.nil,fun _ h=>absurd h Nq⟩
 |cons v vs b=>intro ws a h e;apply bc;intro c;obtain⟨y,ys,rfl,r,t⟩:=h.inv;obtain⟨i,j,rfl,d,rfl⟩:=gq e;obtain⟨k,rfl,hs⟩:=r.inv;obtain⟨f,g⟩:=b t d;apply c;exact⟨.cons _ k f,List.forall_mem_cons.mpr ⟨hs,g⟩⟩
noncomputable def EI(ws:List M4)(ys:List Str):Prop:=match ys with
 |[]=>ws=[]
 |y::ys=>∃t w,ws= .str y t::w/\Oe w ys
theorem fj(h:Oe ws ys):EI ws ys:=by
 cases h with
 |nil=>exact rfl
 |cons y t h=>exact⟨t,_,rfl,h⟩
theorem m5{P:Nk}{fz:Fz}{a:List (List Nat)}:∀{ws:List M4},Oe ws (a.map aq)->(∀x∈a,fa x)->aL P fz (a.map .str) ws:=by
 induction a with
 |nil=>intro ws h _;obtain rfl:=fj h;exact .nil
 |cons x r b=>intro ws h k;obtain⟨t,w,rfl,c⟩:=fj h;exact .cons (.str x t (k x M_)) (b c fun y d=>k y (Nb _ d))
theorem ku:∀(a:List Str)(c:List (List Nat)),a.Perm (c.map aq)->∃b:List (List Nat),a=b.map aq/\b.Perm c:=by
 intro a c h;refine⟨a.map (fun x=>x.cps.toList),?_,?_⟩
 .rw[Oq];have:(aq∘fun x:Str=>x.cps.toList)=id:=by funext x;simp[aq]
  rw[this,RN]
 .have:=h.map (fun x:Str=>x.cps.toList);rw[Oq]at this;have e:((fun x:Str=>x.cps.toList)∘aq)=id:=by funext x;simp[aq]
  rw[e,RN]at this;exact this
theorem m6{a b c:List Nat}(h:¬b<a)(d:¬c<b):¬c<a:=
 List.not_lt.mpr (List.le_trans (List.not_lt.mp h) (List.not_lt.mp d))
theorem gr:∀(is:List (List Nat)),sortedS (is.map aq)=true->is.Pairwise (fun a b=>¬b<a):=by
 have rise:∀(r:List (List Nat))(p:List Nat),Wi (aq p) (r.map aq)=true->(p::r).Pairwise (fun a b=>¬b<a):=by
  intro r;induction r with
  |nil=>intro p _;simp
  |cons x r ih=>
   intro p h;have h:(!Spec.ltCps x p&&Wi (aq x) (r.map aq))=true:=by simpa [Wi,aq]using h
   rw[NV]at h;have h2:=ih x h.2;have h1:¬x<p:=by
    have:=h.1;rw[ltCps_eq]at this
    simpa using this
   refine List.pairwise_cons.mpr ⟨fun y hy=>?_,h2⟩;rcases List.mem_cons.mp hy with rfl|hy
   .exact h1
   .exact m6 h1 (List.rel_of_pairwise_cons h2 hy)
 intro is h;cases is with
 |nil=>exact .nil
 |cons x r=>exact rise r x h
section
variable{C:Cx}{A:NN}{FR:List Nw}{σ:aa}{fz:Fz}{s:M7}{E:M4->M7->Prop}
theorem uY{P:Nk}{fz:Fz}(h:aL P fz [p] ws):∃v,ws=[v]/\VR P fz p v:=by obtain⟨v,_,rfl,r,t⟩:=h.inv;cases t.inv;exact⟨v,rfl,r⟩
theorem x3{P:Nk}{fz:Fz}(h:aL P fz [p,q] ws):∃v w,ws=[v,w]/\VR P fz p v/\VR P fz q w:=by obtain⟨v,_,rfl,r,t⟩:=h.inv;obtain⟨w,rfl,r'⟩:=uY t;exact⟨v,w,rfl,r,r'⟩
theorem Bs{Q:QV}{h':Og}(G:aw C σ fz FR s.heap)(a:∀b o,s.heap.get? b=some o->h'.get? b=some o)(r:VR C.P fz p v)(q:Q p σ):eM C FR σ fz s Q v {s with heap:=h',toks:=k}:=
 ⟨p,σ,fz,.keep G a,r,q⟩
theorem jr{n k:Nat}(h:n=k)(a:k<=1048576):(n:Int)<2^63:=by lia
theorem qC(h:n=k)(a:k<=1048576):n<=PT:=by have:=aA;exact M1 (ND h) (M1 a (by decide))
theorem x4(G:aw C σ fz FR s.heap){v:PV}{x:M4}(i:VR C.P fz v x){k:Nat}(h:gT v σ=some k){Q:QV}(l:Q (.int k) σ):Nm C.M A (PZ (eQ .len) [x]) (eM C FR σ fz s Q) E s:=by
 have tk:∀{t m n:Nat},n=k->eM C FR σ fz s Q (.int n t) {s with toks:=m}:=fun e=>e▸aV G (.int ..) l;unfold gT at h;cases hs:mD (v.seen σ)with
 |some t=>
  rw[hs]at h;injection h with z0;subst z0
  rcases kX hs with hs|hs
  .apply bc;intro b;obtain⟨a,ws,rfl,c,d,f⟩:=bN G i hs;apply b;exact VB c (jr d.size f) (tk d.size)
  .apply bc;intro b;obtain⟨a,ws,rfl,c,d,f⟩:=bN G i hs;apply b;exact VA c (jr d.size f) (tk d.size)
 |none=>
  rw[hs]at h;cases c:dq v with
  |some t=>
   rw[c]at h;injection h with z0;subst z0
   apply bc;intro b;refine se c i fun u o r=>?_;subst o;apply b;exact P.len_str (Int.not_le.mpr (jr (eK t) r.1)) (tk (eK t))
  |none=>rw[c]at h;apply bc;intro b;refine cn h fun p y z=>?_;obtain⟨rfl,g⟩:=gb y;cases i.inv;obtain⟨r',D,j,f,_⟩:=dZ G g;apply b;exact call_len_dict (knd:=strKind pw C.w) (iI C G fun q=>aj (q.symm.trans g)) D (jr j.len f) (tk (j.len.trans z))
theorem sI(G:aw C σ fz FR s.heap){a:Nw}{ws:List M4}(ht:s.heap.IsList a ws.toArray){ss:List (List Nat)}(st:Oe ws (ss.map aq))(so:∀x∈ss,fa x){Q:QV}(h:mF ss σ Q):
  Nm C.M A (PZ (eQ .sorted) [.ref a]) (eM C FR σ fz s Q) E s:=by
 have hsl:ss.length=ws.length:=by
  have:∀{ws:List M4}{ys:List Str},Oe ws ys->ys.length=ws.length:=by
   intro ws ys h;induction h with
   |nil=>rfl
   |cons _ _ _ ih=>simp[ih]
  simpa using this st
 refine sorted_strs ht st (by have:=h.1;exact hsl▸this) fun out ZS h1 h2 h3=>?_;apply bc;intro qK;obtain⟨Zi,rfl,hp⟩:=ku ZS ss h2;obtain⟨ee,he⟩:=sortedAll_at s.heap ws out;apply qK;have so':∀x∈Zi,fa x:=fun x hx=>so x (hp.mem_iff.mp hx);have vr:=m5 (P:=C.P) (fz:=fz) h1 so';have g:GS C FR σ fz s σ (fz.ext (s.heap.objs.size+1) (bG "list" out.toList.toArray ee)) {s with heap:=sortedAll s.heap ws out}:=
  .fzNew G (by
   cases q:s.heap.get? (s.heap.objs.size+1)with
   |none=>rfl
   |some o=>exact absurd (Oi q) (Nat.not_lt.mpr (Oc _))) (fun b o=>sortedAll_old) (by simpa using he)
 refine⟨_,σ,_,g,.lst (M8 rfl) ?_ (vr.mono g.1.fzk),h.2 Zi hp (gr Zi h3)⟩;have:=hp.length_eq;have h64:=h.1;unfold fb;rw[M6];exact M1 (ND this) (M1 (NQ h64) (by decide))
theorem kx(G:aw C σ fz FR s.heap)(hh:A.handled=none){a:Nw}{ss:List (List Nat)}(so:∀x∈ss,fa x){Q:QV}(h:mF ss σ Q)
  (hcol:∀(B:NN)(E':M4->M7->Prop)(Q':List M4->M7->Prop),B.handled=none->(∀s' keys,Kp s s'->(∃ZS,Oe keys ZS/\ZS.Perm (ss.map aq))->Q' keys s')->Nm C.M B (U_ (.ref a)) Q' E' s):
  Nm C.M A (PZ (.builtin "sorted") [.ref a]) (eM C FR σ fz s Q) E s:=by
 refine o4 (ss:=ss.map aq) (by simpa using h.1) hh hcol fun s' r out n ZS k h1 h2 h3 h4 h5=>?_;apply bc;intro qK;obtain⟨Zi,rfl,hp⟩:=ku ZS ss h4;apply qK;have so':∀x∈Zi,fa x:=fun x hx=>so x (hp.mem_iff.mp hx);have vr:=m5 (P:=C.P) (fz:=fz) h3 so';have g:GS C FR σ fz s σ (fz.ext r (bG "list" out.toList.toArray n)) s':= .fzNew G h1 k.keep (by simpa using h2) k.gens k.os;refine⟨_,σ,_,g,.lst (M8 rfl) ?_ (vr.mono g.1.fzk),h.2 Zi hp (gr Zi h5)⟩;have:=hp.length_eq;have h64:=h.1;unfold fb;rw[M6];exact M1 (ND this) (M1 (NQ h64) (by decide))
theorem uZ{P:Nk}{fz:Fz}{kvs:List (List Nat×PV)}:∀{ws:List M4},aL P fz (kvs.map fun p=>PV.tup [.str p.1,p.2]) ws->∃r,gf P fz kvs r/\ws.length=r.length/\(∀kv∈kvs,fa kv.1)/\
  ∀(i:Nat)(kv:Str×M4),r[i]? =some kv->∃p t n,ws[i]? =some (.ref p)/\fz p=some (bG "tuple" #[.str kv.1 t,kv.2] n):=by
 induction kvs with
 |nil=>intro ws h;cases h.inv;exact⟨[],.nil,rfl,(fun _ h=>absurd h Nq),fun i kv=>aj⟩
 |cons kv kvs b=>intro ws h;apply bc;intro c;obtain⟨_,_,rfl,d,e⟩:=h.inv;obtain⟨a,_,_,rfl,f,_,g⟩:=d.inv;obtain⟨r,j,k,l,m⟩:=b e;obtain⟨x,y,rfl,o,q⟩:=x3 g;obtain⟨t,rfl,hs⟩:=o.inv;apply c;exact⟨(aq kv.1,y)::r,.cons q j,Np (·+1) k,List.forall_mem_cons.mpr ⟨hs,l⟩,fun i=>i.casesOn (fun kv hi=>by injection hi with z0;subst z0;exact⟨a,t,_,rfl,f⟩) m⟩
theorem Bt(G:aw C σ fz FR s.heap)(a:VR C.P fz v x){Q:QV}(h:ue v σ Q):Nm C.M A (PZ (eQ .int) [x]) (eM C FR σ fz s Q) E s:=by
 unfold ue at h;cases hi:dD v with
 |some i=>rw[hi]at h;refine tW hi a fun _ b=>?_;subst b;exact call_int_int (aX G (.int ..) h)
 |none=>rw[hi]at h;refine fe h fun c d h=>?_;obtain rfl:=i' d;cases a.inv;exact call_int_bool (aV G (.int ..) h)
theorem Bu(G:aw C σ fz FR s.heap)(hh:A.handled=none){vs:List PV}{x:M4}(c:VR C.P fz (.lst vs) x){b:List Int}(hi:cx vs=some b){Q:QV}(d:Q (.int b.sum) σ):Nm C.M A (PZ (eQ .sum) [x]) (eM C FR σ fz s Q) E s:=by apply bc;intro e;obtain⟨a,_,n,rfl,f,i,g⟩:=c.inv;obtain⟨xs,rfl,rfl⟩:=j5 g hi;apply e;refine sum_intListG hh (show s.heap.IsList a (intItems xs.toArray)from⟨_,G.sub _ _ f,rfl,n,Np (Data.seq · n) (List.map_toArray).symm⟩) fun h' k j h=>?_;rw[preSum_eq,show((xs.toArray.toList.map (·.1)).take xs.toArray.size)=xs.map (·.1)from ON (ND (M6 _))];exact Bs G h (.int ..) d
theorem sJ(G:aw C σ fz FR s.heap)(hh:A.handled=none)(i:VR C.P fz v x){Q:QV}(h:dY v σ Q):Nm C.M A (PZ (eQ .sorted) [x]) (eM C FR σ fz s Q) E s:=by
 unfold dY at h;cases hs:iu (v.seen σ)with
 |some vs=>rw[hs]at h;apply bc;intro b;refine fe h fun ss d h=>?_;obtain⟨a,ws,rfl,n,o,j⟩:=bN G i (du hs);obtain⟨st,f⟩:=eR o d;apply b;exact sI G n st f h
 |none=>
  rw[hs]at h;apply bc;intro b;refine fe h fun p t u=>?_;obtain⟨rfl,c⟩:=gb t;cases i.inv;obtain⟨r,l,m,j,f⟩:=dZ G c;obtain⟨O,w⟩:=l.dictAt;apply b;have e:r.map (·.1)=(p.2.map (·.1)).map aq:=by rw[m.keys,Oq];rfl
  refine kx G hh (fun x y=>?_) u fun B z Q' D g=>hY (.inl rfl) l.typeIs (rW:=fun keys=>Oe keys (r.map (·.1))) (fun s₁ z Q' k F=>sv (A:=B.in1) D (iI C G fun q=>aj (q.symm.trans c)) (w.keep k.keep) (qC m.len j) F) fun s' keys k H=>g s' keys k ⟨_,H,by rw[e]⟩;apply bc;intro b;refine i8 y fun kv K L=>?_;subst L;apply b;exact f.1 kv K
theorem x5(G:aw C σ fz FR s.heap)(hh:A.handled=none){kvs:List (List Nat×PV)}{x:M4}(j:VR C.P fz (.tup (kvs.map fun p=>PV.tup [.str p.1,p.2])) x){Q:QV}(e:(kvs.map (·.1)).Nodup)(k:∀a,σ a=none->Q (.ref a) (σ.upd a (.dct kvs))):Nm C.M A (PZ (eQ .dict) [x]) (eM C FR σ fz s Q) E s:=by
 apply bc;intro c;obtain⟨a,ws,n,rfl,l,u,v⟩:=j.inv;obtain⟨r,f,w,y,z⟩:=uZ v;apply c;have D:r.map (·.1)=(kvs.map (·.1)).map aq:=by rw[f.keys,Oq];rfl
 have d:kvs.length<=1048576:=M1 (ND (M6 _).symm) u;refine ix (G.sub _ _ l) ⟨w,fun i kv hi=>?_⟩ (by rw[D];exact Qt _ (fun a b g q=>g (da q)) e) (f.len▸d) hh fun s' g1 g2 g3 g4=>?_
 .apply bc;intro c;obtain⟨p,t,m,F,H⟩:=z i kv hi;apply c;exact⟨p,t,m,List.getElem?_toArray.trans F,G.sub _ _ H⟩
 .apply bc;intro c;obtain⟨o,K,h⟩:=k9 (C:=C) (fz:=fz) g4 f d y;apply c;exact⟨_,_,fz,.ledNew G (fresh _) g3 K h g1 g2,.ref _,k _ (G.free (fresh s.heap)).2.1⟩
theorem x6(i:Int):(if i<0 then -i else i)=(i.natAbs:Int):=by
 by_cases h:i<0
 .rw[M8 h];exact(S8 (PP h)).symm
 .rw[M5 h];exact(Qx (Int.not_lt.mp h)).symm
theorem x7(G:aw C σ fz FR s.heap)(hh:A.handled=none)(y:b≠.sortset)(f:VR C.P fz v x){Q:QV}(h:Be b v σ Q):Nm C.M A (PZ (eQ b) [x]) (eM C FR σ fz s Q) E s:=by
 cases b
 case len=>
  apply bc;intro d;refine fe h fun n z h=>?_;apply d;exact x4 G f z h
 case ord=>
  apply bc;intro d;refine fe h fun t D h=>?_;refine fe h fun c j h=>?_;refine se D f fun u g H=>?_;subst g;apply d;obtain rfl:=aR j;exact ord_of_one (eK _) (aV G (.int ..) h)
 case chr=>
  apply bc;intro d;refine fe h fun i hi l=>?_;obtain⟨h0,p,h⟩:=l;refine tW hi f fun _ g=>?_;subst g;apply d;exact chr_of_range h0 (OY (PP p) (by decide:(55296:Int)<=1114111)) (aV G (.str [i.toNat] _ ⟨Ni rfl,fun c j=>by obtain rfl:=List.mem_singleton.mp j;exact(Int.toNat_lt h0).mpr (TK p (by decide:(55296:Int)<1114112))⟩) h)
 case abs=>
  apply bc;intro d;refine fe h fun i hi h=>?_;refine tW hi f fun _ g=>?_;subst g;apply d;exact call_abs_int fun u k=>x6 i▸aV G (.int ..) h
 case int=>exact Bt G f h
 case str=>
  apply bc;intro d;refine fe h fun i hi h=>?_;refine tW hi f fun _ g=>?_;subst g;apply d;exact P.str_of_int (shown (N:=2^64) h.1 h.2.1 (by decide+kernel)) (aV G (VR.str (P:=C.P) (fz:=fz) (aE i) s.toks h.2.2.1) h.2.2.2)
 case sum=>
  apply bc;intro d;refine fe h fun vs e h=>?_;refine fe h fun K hi m=>?_;apply d;obtain rfl:=du e;exact Bu G hh f hi m
 case tuple=>
  apply bc;intro d;refine fe h fun vs e h=>?_;obtain rfl:=du e;obtain⟨a,ws,n,rfl,F,q,r⟩:=f.inv;apply d;exact call_tuple_list ⟨_,G.sub _ _ F,rfl,_,rfl⟩ (fun h' w=>PK.via (.keep G w) (ur (k:=s.toks) (s:={s with heap:=h'}) (GS.keep (s':={s with heap:=h'}) G w).2 r q h)) (qC r.length q)
 case sorted=>exact sJ G hh f h
 case sortset=>exact absurd rfl y
 case dict=>
  apply bc;intro d;refine fe h fun vs e l=>?_;obtain⟨kvs,rfl,o,m⟩:=l;apply d;obtain rfl:=xx e;exact x5 G hh f o m
 case divmod=>exact h.elim
theorem Bv(G:aw C σ fz FR s.heap)(hh:A.handled=none)(j:b≠.sortset)(r:aL C.P fz as vals){Q:QV}(h:GG b as σ Q):Nm C.M A (PZ (eQ b) vals) (eM C FR σ fz s Q) E s:=by
 unfold GG at h;cases a:cF as with
 |some v=>rw[a]at h;obtain rfl:=aR a;apply bc;intro c;obtain⟨x,rfl,d⟩:=uY r;apply c;exact x7 G hh j d h
 |none=>rw[a]at h;apply bc;intro c;obtain⟨rfl,h⟩:=h;refine fe h fun u l h=>?_;refine fe h fun i f m=>?_;obtain⟨h0,n,o⟩:=m;obtain rfl:=iF l;obtain⟨x,y,rfl,d,g⟩:=x3 r;obtain⟨_,_,rfl,rfl⟩:=uq f d g;apply c;refine divmod_int h0 (ur (k:=s.toks+1+1) (ws:=[.int (i.1.fdiv i.2) s.toks,.int (i.1.fmod i.2) (s.toks+1)]) G (.cons (.int ..) (.cons (.int ..) .nil)) (Ni rfl) o) (.inl (PyProof.noPylong_of_log2 ?_));have e:Pb i.2=i.2.natAbs.log2+1:=M5 fun e=>h0 (beq_iff_eq.mp e);exact No (NR _) (M1 (ND e.symm) (M1 n (by decide)))
end
set_option tactic.hygienic true
section
variable{d:Nat}{sc:NL}{ml:List Nat}{n:Nat}
theorem HM:bo ml 0 sc md e=none:=by cases md<;>rfl
theorem o_{A:NN}(F:rU A a d):A.units+100<Tx:=No (No (QO (by decide:100<200) A.units) (NF (Nh _ _) 200)) F.units
theorem m7(h:oS l x=some i):∃k,l[i]? =some (x,k):=by unfold oS at h;rw[Oo]at h;obtain⟨a,b,_⟩:=h;have:=beq_iff_eq.mp b;exact⟨l[i].2,by rw[Nu a,←this]⟩
section
variable{C:Cx}{A:NN}{FR:List Nw}{σ:aa}{fz:Fz}{s:M7}{E:M4->M7->Prop}{env:Env}{ρ:ar}
theorem js(S:St C A FR d sc env ρ σ fz s){Q:M4->M7->Prop}(a:sc.names.lookup x=some .globalImplicit)(b:Ov (gj C.P) x=some v)(h:Q v s)(c:(x==("__debug__":Str))=false):
  Nm C.M A (QU (.Name x p) env) Q E s:=
 QY (by rw[S.scE];exact(ko S.ok).kind) (by unfold Pu;rw[S.scE];exact a) (U8 (by rw[S.gl];exact xZ S.good) b h) c
theorem fk(S:St C A FR d sc env ρ σ fz s){Q:M4->M7->Prop}(a:sc.names.lookup x=some .globalImplicit)(b:Ov (gj C.P) x=none)(c:Ov (qy C.P) x=some v)(h:Q v s)(e:(x==("__debug__":Str))=false):
  Nm C.M A (QU (.Name x p) env) Q E s:=
 QY (by rw[S.scE];exact(ko S.ok).kind) (by unfold Pu;rw[S.scE];exact a) (UR (by rw[S.gl];exact xZ S.good) b (by rw[S.bi];exact HK S.good) c h) e
theorem u0(S:St C A FR d sc env ρ σ fz s){x:Str}{i:Nat}{k:Od}{pv:PV}(r:sc.names[i]? =some (x,k)) (L:k= .local\/k= .cell\/k= .free) (g:ρ[i]? =some (some pv)) {Q:QV} (h:Q pv σ)
  (u:(x==("__debug__":Str))=false) (v:(x==("__classdict__":Str))=false) {p:Pos}:Nm C.M A (QU (.Name x p) env) (eM C FR σ fz s Q) E s:=by
 have F:=ko S.ok;apply bc;intro w;obtain⟨m,z,D⟩:=S.lr.ns;obtain⟨O,P,t,H⟩:=D i pv g;apply w;rw[S.scE]at t;cases r.symm.trans t;have j:=aF F.nd r;have l:env.scope.kind= .function:=by rw[S.scE];exact F.kind
 have n:env.kindOf x=some k:=by unfold Pu;rw[S.scE];exact j
 refine wpAny_Name ?_ u;rcases H with⟨rfl,y,K,f⟩|⟨q,c,o,y,a,b,e,f⟩
 .exact Uu l n z K (aX S.good f h)
 .rcases q with rfl|rfl
  .exact wpAny_loadName_cell l n a ⟨o,S.good.sub _ _ b,e⟩ (aX S.good f h)
  .exact wpAny_loadName_free l n a ⟨o,S.good.sub _ _ b,e⟩ (aX S.good f h) v
end
theorem lu{x:Str}{p:Pos}{i:Nat}{k:Od}(c:sc.names[i]? =some (x,k)) (e:k= .local\/k= .cell\/k= .free) (f:(x==("__debug__":Str))=false) (g:(x==("__classdict__":Str))=false):SV d sc (.Name x p) (.loc i):=by
 intro C A h env b σ fz s Q X S w;have w:(match b[i]? with|some (some v)=>Q v σ|_=>False):=w;cases a:b[i]? with
 |none=>rw[a]at w;exact w.elim
 |some o=>
  cases o with
  |none=>rw[a]at w;exact w.elim
  |some v=>rw[a]at w;exact u0 S c e a w f g
theorem u1(h:oV sc x=some m):SV d sc (.Name x p) m:=by
 unfold oV at h;by_cases b:(x==("__debug__":Str)||x==("__classdict__":Str))=true
 .exact aj (ce b h)
 .replace h:=bU b h;rw[Bool.or_eq_true,not_or,PN,PN]at b;refine bE h fun i hi h=>?_;refine bE h fun c e h=>?_;obtain⟨q,k⟩:=c;obtain⟨r,a⟩:=m7 hi;cases a.symm.trans e;cases k
  case globalImplicit=>
   intro C A t env u σ fz s Q X S w;apply bc;intro f;refine cn h fun j g l=>?_;subst l;obtain⟨y,n,o⟩:=Bn S.good g;apply f;exact js S (aF (ko S.ok).nd a) n (aX S.good o w) b.1
  case «local»=>injection h with z0;subst z0;exact lu a (.inl rfl) b.1 b.2
  case cell=>injection h with z0;subst z0;exact lu a (.inr (.inl rfl)) b.1 b.2
  case free=>injection h with z0;subst z0;exact lu a (.inr (.inr rfl)) b.1 b.2
  all_goals exact aj h
theorem sK(h:qu c=some m):SV d sc (.Constant c k p) m:=by
 intro C A i env j σ fz s Q X S w;cases c
 case none=>injection h with z0;subst z0;exact wpAny_Constant_none (aX S.good .none w)
 case bool=>injection h with z0;subst z0;exact wpAny_Constant_bool (aX S.good (.bool _) w)
 case int=>injection h with z0;subst z0;exact wpAny_Constant_int (aV S.good (.int ..) w)
 case str x=>
  apply bc;intro a;refine fB (show(if oU x then some (.lit (.str x.cps.toList))else none)=some m from h) fun b h=>?_;injection h with z0;subst z0
  refine qm b fun e f=>?_;apply a;exact UN (aV S.good (VR.str (P:=C.P) (fz:=fz) x.cps.toList s.toks ⟨NW e,fun c g=>NW (List.all_eq_true.mp f c g)⟩) w)
 all_goals exact aj h
theorem sM{es:List Expr}{ms:List ME}(f:xY d sc es ms){k:Nat}{p:Pos}(h:es.length<=1000):SV d sc (.Tuple es k p) (.tup ms):=by intro C A i env j σ fz s Q X S w;refine wpAny_Tuple (Nj (f C A i env j σ fz s _ X p S w) (fun vs s₁ z=>?_) fun _ _ z=>z);apply bc;intro l;obtain⟨b,a,c,g,⟨r,rl⟩,q⟩:=z;apply l;have e:=M1 (ND rl) h;exact⟨M1 e (M1 (by decide) aA),PK.via g (ur (k:=s₁.toks) g.2 r (M1 (ND r.length.symm) (M1 e (by decide))) q)⟩
theorem u2{es:List Expr}{ms:List ME}(f:xY d sc es ms){fr:Bool}{p:Pos}(h:es.length<=1000):SV d sc (.List es p) (.lst fr ms):=by
 intro C A i env j σ fz s Q X S w;refine wpAny_List (Nj (f C A i env j σ fz s _ X p S w) (fun vs s₁ z=>?_) fun _ _ z=>z);apply bc;intro l;obtain⟨b,c,e,g,⟨r,rl⟩,q⟩:=z;apply l;have a:=M1 (ND rl) h;refine⟨M1 a (M1 (by decide) aA),?_⟩;have a:fb b:=M1 (ND r.length.symm) (M1 a (by decide));cases fr with
 |true=>exact PK.via g (oR (k:=s₁.toks) g.2 r a q)
 |false=>exact PK.via g (Az (k:=s₁.toks) g.2 rfl (.lst (n:=0) a r) q)
theorem sN{l r:Expr}{ml n:ME}(v:SV d sc l ml)(x:SV d sc r n){o:TB}{p:Pos}:SV d sc (.BinOp l o r p) (.bin o ml n):=by intro C A q env t σ fz s Q X S w;refine wpAny_BinOp (Nj (v C A q env t σ fz s _ X S w) (fun a s₁ j=>?_) fun _ _ z=>z);obtain⟨E,f,g,c,y,h⟩:=j;refine Nj (x C A q env t f g s₁ _ X (S.step c) h) (fun b u j=>?_) fun _ _ z=>z.via c;obtain⟨F,k,m,e,D,i⟩:=j;exact fU (c.trans e) (xI e.2 (o_ S.fit) (y.mono e.1.fzk) D i)
theorem x8{l:Expr}{ml:ME}(g:SV d sc l ml){p:Pos}:SV d sc (.UnaryOp .USub l p) (.neg ml):=by intro C A h env i σ fz s Q X S w;refine V_ (Nj (g C A h env i σ fz s _ X S w) (fun a s₁ j=>?_) fun _ _ z=>z);obtain⟨m,e,f,b,k,c⟩:=j;exact fU b (xJ b.2 k c)
theorem x9{l:Expr}{ml:ME}(h:SV d sc l ml){p:Pos}:SV d sc (.UnaryOp .Not l p) (.nt ml):=by intro C A i env j σ fz s Q X S w;refine V_ (Nj (h C A i env j σ fz s _ X S w) (fun a s₁ m=>?_) fun _ _ z=>z);apply bc;intro n;obtain⟨r,f,g,c,o,b,q,e⟩:=m;apply n;exact fU c (PySem.not_value (gU c.2 o q fun k=>aV c.2 (.bool _) e))
theorem sO(o:ST d sc c k)(q:SV d sc a l)(r:SV d sc b m):SV d sc (.IfExp c a b p) (.ite k l m):=by
 intro C A i env j σ fz s Q X S w;refine wpAny_IfExp (Nj (o C A i env j σ fz s _ X S w) (fun t s₁ u=>?_) fun _ _ z=>z);obtain⟨v,f,g,e,n,h⟩:=u;unfold sq at n;subst n;cases v with
 |true=>exact fU e (q C A i env j f g s₁ _ X (S.step e) h)
 |false=>exact fU e (r C A i env j f g s₁ _ X (S.step e) h)
theorem qD(h:bo ml n sc .v e=some m):Ru a e=false:=by cases e<;>first|rfl|(cases n<;>exact aj (show(none:Option ME)=some m from h))
theorem x_{l r:Expr}{m1 m2:ME}(y:SV d sc l m1)(D:SV d sc r m2){m:UF}(hs:Ru m r=false){p:Pos}:SV d sc (.Compare l [m] [r] p) (.cmp m m1 m2):=by intro C A u env v σ fz s Q X S w;refine wpAny_Compare1 (Nj (y C A u env v σ fz s _ X S w) (fun a s₁ n=>?_) fun _ _ z=>z) hs;apply bc;intro o;obtain⟨K,g,h,f,E,i⟩:=n;apply o;refine Nj (D C A u env v g h s₁ _ X (S.step f) i) (fun b x n=>?_) fun _ _ z=>z.via f;apply bc;intro o;obtain⟨L,q,t,e,F,c,H,j⟩:=n;apply o;exact fU (f.trans e) (fg e.2 (o_ S.fit) (E.mono e.1.fzk) F H fun k=>aV e.2 (.bool _) j)
theorem x'{l r:Expr}{m1 m2:ME}(y:SV d sc l m1)(D:SV d sc r m2){n:UF}(hs:Ru n r=false){p:Pos}:ST d sc (.Compare l [n] [r] p) (.cmp n m1 m2):=by intro C A u env v σ fz s Q X S w;refine wpAny_isTrue_Compare1 (Nj (y C A u env v σ fz s _ X S w) (fun a s₁ o=>?_) fun _ _ z=>z) hs;apply bc;intro q;obtain⟨K,g,h,f,E,j⟩:=o;apply q;refine Nj (D C A u env v g h s₁ _ X (S.step f) j) (fun b x o=>?_) fun _ _ z=>z.via f;apply bc;intro q;obtain⟨L,t,i,e,F,c,H,m⟩:=o;apply q;exact fg e.2 (o_ S.fit) (E.mono e.1.fzk) F H fun k=>Qm (PK.via (f.trans e) (aV e.2 (show sq i c c from rfl) m))
theorem ya{l:Expr}{m1:ME}(h:ST d sc l m1){p:Pos}:ST d sc (.UnaryOp .Not l p) (.nt m1):=by intro C A i env j σ fz s Q X S w;refine wpAny_isTrue_Not (Nj (h C A i env j σ fz s _ X S w) (fun b s₁ k=>?_) fun _ _ z=>z);obtain⟨m,a,c,e,g,f⟩:=k;unfold sq at g;subst g;exact⟨!m,a,c,e,rfl,f⟩
theorem j6{C:Cx}{A:NN}{E:M4->M7->Prop}{s:M7}{env:Env}{c a b:Expr}{p:Pos}{d:Sem M4}{Q:Bool->M7->Prop}
  (h:Nm C.M A (isTrue c env (QU c env)) (fun t s₁=>if t then Nm C.M A (isTrue a env (QU a env)) Q E s₁ else Nm C.M A (isTrue b env (QU b env)) Q E s₁) E s):Nm C.M A (isTrue (.IfExp c a b p) env d) Q E s:=by
 show Nm C.M A (do if ←isTrue c env (QU c env)then isTrue a env (QU a env)else isTrue b env (QU b env)) Q E s;refine M2 (Nj h (fun t s₁ e=>?_) fun _ _ z=>z);cases t<;>exact e
theorem sP(o:ST d sc c k)(q:ST d sc a l)(r:ST d sc b m):ST d sc (.IfExp c a b p) (.ite k l m):=by
 intro C A i env j σ fz s Q X S w;refine j6 (Nj (o C A i env j σ fz s _ X S w) (fun t s₁ u=>?_) fun _ _ z=>z);obtain⟨v,f,g,e,n,h⟩:=u;unfold sq at n;subst n;cases v with
 |true=>exact fU e (q C A i env j f g s₁ _ X (S.step e) h)
 |false=>exact fU e (r C A i env j f g s₁ _ X (S.step e) h)
theorem yb{e:Expr}{m:ME}(i:SV d sc e m)(j:∀(env:Env)(a:Sem M4),isTrue e env a=(do let v ←a;U4 e.pos;Th [v] (Uc v))):ST d sc e (.tru m):=by intro C A l env n σ fz s Q X S w;refine wpAny_isTrue_value (Nj (i C A l env n σ fz s _ X S w) (fun v s₁ o=>?_) fun _ _ z=>z) (j env _);apply bc;intro p;obtain⟨pv,h,f,c,q,b,r,g⟩:=o;apply p;exact gU c.2 q r fun k=>PK.via c (aV c.2 (show sq f b b from rfl) g)
theorem yc(p:q=(o== .And))(es:List Expr):∀(ms:List ME),(∀(i:Nat)(e:Expr)(m:ME),es[i]? =some e->ms[i]? =some m->ST d sc e m)->es.length=ms.length->
  ∀(C:Cx)(A:NN)(f:List Nw)(env:Env)(n:ar)(σ:aa)(fz:Fz)(s:M7)(Q:Bool->aa->Prop)(X:QX),St C A f d sc env n σ fz s->Ek d q ms n σ Q X->Nm C.M A (allTrue o es env) (PK C f σ fz s sq Q) (PX C f σ fz s X) s:=by
 induction es with
 |nil=>
  intro ms _ c C A f env n σ fz s Q X S w;cases ms with
  |cons _ _=>exact aK (beq_iff_eq.mpr c)
  |nil=>
  subst p;cases o
  .exact wpAny_allTrue_And_nil (aX S.good rfl w)
  .exact wpAny_allTrue_Or_nil (aX S.good rfl w)
 |cons e es u=>
  intro ms r c C A f env n σ fz s Q X S w;cases ms with
  |nil=>exact aK (beq_iff_eq.mpr c)
  |cons m ms=>
  have rest:=u ms (fun i=>r (i+1)) (Pj c);have l:Nm C.M A (isTrue e env (QU e env)) (fun b s₁=>if b=q then Nm C.M A (allTrue o es env) (PK C f σ fz s sq Q) (PX C f σ fz s X) s₁ else PK C f σ fz s sq Q b s₁) (PX C f σ fz s X) s:=by
   refine Nj (r 0 e m rfl rfl C A f env n σ fz s _ X S w) (fun b s₁ x=>?_) fun _ _ z=>z;obtain⟨t,g,j,k,y,a⟩:=x;have e:t=b:=y;subst e;unfold LL at a;by_cases v:t=q
   .rw[M8 v]at a⊢;exact fU k (rest C A f env n g j s₁ _ X (S.step k) a)
   .rw[M5 v]at a⊢;exact⟨t,g,j,k,rfl,a⟩
  clear rest u r w;subst p;cases o
  .exact wpAny_allTrue_And_cons (Nj l (fun b s₁ h=>by cases b<;>exact h) fun _ _ z=>z)
  .exact wpAny_allTrue_Or_cons (Nj l (fun b s₁ h=>by cases b<;>exact h) fun _ _ z=>z)
end
set_option backward.match.sparseCases true
set_option tactic.hygienic false
section
variable{d:Nat}{sc:NL}{ml:List Nat}{n:Nat}
theorem m8{C:Cx}{A:NN}{E:M4->M7->Prop}{s:M7}(e:f=(c== .And)){Q:M4->M7->Prop}
 (h:Nm C.M A x (fun v s₁=>Nm C.M A (Uc v) (fun t a=>if t=f then Nm C.M A (Ud pos c (y::rest)) Q E a else Q v a) E s₁) E s):Nm C.M A (Ud pos c (x::y::rest)) Q E s:=by
 show Nm C.M A (do
  let v ←x
  U4 pos
  let t ←Th [v] (Uc v)
  match c,t with
  |.And,false|.Or,true=>OD v
  |_,_=>Ud pos c (y::rest)) Q E s
 subst e;refine M2 (Nj h (fun v s₁ d=>M2 (O0 (M2 (OA (Nj d (fun t a b=>?_) fun _ _ x=>x))))) fun _ _ x=>x);cases c<;>cases t<;>first|exact Nf b|exact b
theorem yd(u:t=(x== .And))(es:List Expr):∀(e:Expr)(ms:List ME)(m:ME),(∀(i:Nat)(p:Expr)(q:ME),(e::es)[i]? =some p->(m::ms)[i]? =some q->SV d sc p q)->es.length=ms.length->
  ∀(C:Cx)(A:NN)(l:List Nw)(env:Env)(n:ar)(σ:aa)(fz:Fz)(s:M7)(Q:QV)(X:QX),St C A l d sc env n σ fz s->El d t (m::ms) n σ Q X->Nm C.M A (Ud pos x (Tw (e::es) env)) (PK C l σ fz s (VR C.P) Q) (PX C l σ fz s X) s:=by
 induction es with
 |nil=>
  intro e ms m r g C A l env n σ fz s Q X S w;cases ms with
  |nil=>exact r 0 e m rfl rfl C A l env n σ fz s _ X S w
  |cons _ _=>exact aK (beq_iff_eq.mpr g)
 |cons p es E=>
  intro e ms m r g C A l env n σ fz s Q X S w;cases ms with
  |nil=>exact aK (beq_iff_eq.mpr g)
  |cons q ms=>
  refine m8 u (Nj (r 0 e m rfl rfl C A l env n σ fz s _ X S w) (fun v s₁ F=>?_) fun _ _ z=>z);apply bc;intro H;obtain⟨pv,c,f,a,y,b,K,j⟩:=F;apply H;refine gU a.2 y K fun k=>?_;by_cases o:b=t
  .rw[M8 o]at j⊢;have D:GS C l c f s₁ c f {s₁ with toks:=k}:= .keep a.2 fun _ _ h=>h;exact fU (a.trans D) (E p ms q (fun i=>r (i+1)) (Pj g) C A l env n c f _ _ X (S.step (a.trans D)) j)
  .rw[M5 o]at j⊢;exact PK.via a (aV a.2 y j)
theorem pd(b:g=(h== .And))(es:List Expr)(ms:List ME)(k:∀(i:Nat)(e:Expr)(m:ME),es[i]? =some e->ms[i]? =some m->SV d sc e m) (a:es.length=ms.length) (c:es≠[]):
  ∀(C:Cx)(A:NN)(f:List Nw)(env:Env)(j:ar)(σ:aa)(fz:Fz)(s:M7)(Q:QV)(X:QX),St C A f d sc env j σ fz s->El d g ms j σ Q X->Nm C.M A (Ud pos h (Tw es env)) (PK C f σ fz s (VR C.P) Q) (PX C f σ fz s X) s:=by
 cases es with
 |nil=>exact absurd rfl c
 |cons e es=>cases ms with
  |nil=>exact aK (beq_iff_eq.mpr a)
  |cons m ms=>exact yd b es e ms m k (Pj a)
theorem u3(il:SV d sc l v)(im:SV d sc m P)(ir:SV d sc r V)(hs:lastMarks [.LtE,.LtE] [m,r]=false):SV d sc (.Compare l [.LtE,.LtE] [m,r] p) (.cmp2 v P V):=by
 intro C A F env H σ fz s Q X S w;show Nm C.M A (do compareChain p (←QU l env) [.LtE,.LtE] (markedEach [.LtE,.LtE] [m,r] (Tw [m,r] env))) _ _ s;rw[UH _ _ _ hs];refine M2 (Nj (il C A F env H σ fz s _ X S w) (fun a s₁ x=>?_) fun _ _ z=>z);apply bc;intro y;obtain⟨pa,t,u,n,ra,D⟩:=x;apply y;refine chain_link (Nj (im C A F env H t u s₁ _ X (S.step n) D) (fun b o x=>?_) fun _ _ z=>z.via n);apply bc;intro y;obtain⟨pb,f,g,i,W,c,hc,q⟩:=x;apply y;refine fg i.2 (o_ S.fit) (ra.mono i.1.fzk) W hc fun k=>Qm ?_;have Y:GS C F f g o f g {o with toks:=k}:= .keep i.2 fun _ _ h=>h;have g3:=(n.trans i).trans Y;cases c with
 |false=>exact PK.via g3 (aX Y.2 (.bool _) q)
 |true=>refine chain_last (Nj (ir C A F env H f g _ _ X (S.step g3) q) (fun e Z x=>?_) fun _ _ z=>z.via g3);apply bc;intro y;obtain⟨pe,K,L,j,re,c',O,E⟩:=x;apply y;exact fU (g3.trans j) (fg j.2 (o_ S.fit) (W.mono j.1.fzk) re O fun k=>aV j.2 (.bool _) E)
theorem u4(il:SV d sc l x)(im:SV d sc m P)(ir:SV d sc r V)(hs:lastMarks [.LtE,.LtE] [m,r]=false):ST d sc (.Compare l [.LtE,.LtE] [m,r] p) (.cmp2 x P V):=by
 intro C A H env K σ fz s Q X S w;show Nm C.M A (do testChain p (←QU l env) [.LtE,.LtE] (markedEach [.LtE,.LtE] [m,r] (Tw [m,r] env))) _ _ s;rw[UH _ _ _ hs];refine M2 (Nj (il C A H env K σ fz s _ X S w) (fun a s₁ y=>?_) fun _ _ z=>z);apply bc;intro D;obtain⟨pa,t,u,n,ra,E⟩:=y;apply D;refine test_link (Nj (im C A H env K t u s₁ _ X (S.step n) E) (fun b o y=>?_) fun _ _ z=>z.via n);apply bc;intro D;obtain⟨pb,g,f,i,W,c,hc,q⟩:=y;apply D;refine fg i.2 (o_ S.fit) (ra.mono i.1.fzk) W hc fun k=>Qm ?_;have Y:GS C H g f o g f {o with toks:=k}:= .keep i.2 fun _ _ h=>h;have g3:=(n.trans i).trans Y;cases c with
 |false=>exact PK.via g3 (aX Y.2 (show sq f false false from rfl) q)
 |true=>refine test_last (Nj (ir C A H env K g f _ _ X (S.step g3) q) (fun e Z y=>?_) fun _ _ z=>z.via g3);apply bc;intro D;obtain⟨pe,L,v,j,re,c',O,F⟩:=y;apply D;exact fg j.2 (o_ S.fit) (W.mono j.1.fzk) re O fun k=>Qm (PK.via (g3.trans j) (aV j.2 (show sq v c' c' from rfl) F))
theorem ye(e:Expr)(b:Str)(env:Env)(a:Sem M4):je e=none->Sr e b env a=a:=by cases e<;>first|exact ba|exact fun _=>rfl
theorem u5(h:iK (bo ml n) sc "super" as=some m):False:=by refine fB h fun _ h=>?_;rw[show fF.lookup (NB "super")=none by decide+kernel]at h;replace h:=bU (by decide+kernel) h;rw[M5 (by decide+kernel)]at h;refine bE h fun b a _=>?_;rw[show lc.lookup (NB "super")=none by decide+kernel]at a;exact aj a
theorem qE(h:bo ml n sc .v e=some m)(b:Str)(env:Env)(a:Sem M4):Sr e b env a=a:=by
 cases q:je e with
 |none=>exact ye e b env a q
 |some z=>
  rw[gV q]at h⊢;cases n with
  |zero=>rw[HM]at h;exact aj h
  |succ n=>
   refine fB (show(if z.2.2.isEmpty then gW (bo ml n) sc z.1.1 z.2.1 z.1.2 else none)=some m from h) fun c h=>?_;rw[List.isEmpty_iff.mp c];unfold gW at h;cases q:j0 z.1.1 with
   |none=>rw[q]at h;refine bE h fun y d _=>?_;rw[jf d];rfl
   |some x=>
    rw[q]at h;rw[gi q];cases z.2.1 with
    |cons _ _=>rfl
    |nil=>
     refine Eq.trans (M8 ?_) rfl;have f:(x.1 != ("super":Str))=true:=bne_iff_ne.mpr fun e=>by have h:iK (bo ml n) sc x.1 z.2.1=some m:=h;rw[e]at h;exact u5 h
     rw[f];rfl
theorem u6(t:SV d sc o g)(x:bo ml n sc .v o=some g)(i:iw f_ b=some a):SV d sc (.Attribute o b p) (.att g a):=by
 intro C A m env y σ fz s Q X S w;have e:b=aC a:=by unfold iw at i;rw[Oo]at i;apply bc;intro j;obtain⟨D,F,_⟩:=i;apply j;have:=beq_iff_eq.mp F;unfold aC;rw[Oy,Nu D,Sf,this]
 subst e;show Nm C.M A (do
  let o' ←Sr o (aC a) env (QU o env)
  U4 p.atName
  let r ←Th [o'] (Wm o' (aC a) true)
  Tv o o' r
  OD r) _ _ s
 rw[qE x];refine M2 (Nj (t C A m env y σ fz s _ X S w) (fun v s₁ H=>?_) fun _ _ z=>z);apply bc;intro j;obtain⟨pv,k,l,c,K,u,L,f⟩:=H;apply j;refine M2 (O0 (M2 (OA ?_)));refine Nj (xU c.2 K L (Q:=Q) f (E:=PX C m σ fz s X)) (fun r q h=>?_) fun _ _ z=>z;exact M2 (Uv (Nf (PK.via c h)))
theorem yg(y:SV d sc o q)(D:SV d sc i r):SV d sc (.Subscript o i p) (.idx q r):=by intro C A t env v σ fz s Q X S w;refine Subscript_ (Nj (y C A t env v σ fz s _ X S w) (fun a s₁ k=>?_) fun _ _ z=>z);apply bc;intro l;obtain⟨K,f,g,c,E,h⟩:=k;apply l;refine Nj (D C A t env v f g s₁ _ X (S.step c) h) (fun b x k=>?_) fun _ _ z=>z.via c;apply bc;intro l;obtain⟨L,m,n,e,F,u,H,j⟩:=k;apply l;exact fU (c.trans e) (xL e.2 (E.mono e.1.fzk) F H j)
noncomputable def SP(d:Nat)(c:NL)(e:Option Expr)(m:ME):Prop:=∀(C:Cx)(A:NN)(a:List Nw)(env:Env)(b:ar)(σ:aa)(fz:Fz)(s:M7)(Q:QV)(X:QX),
 St C A a d c env b σ fz s->cR d m b σ Q X->Nm C.M A (evalPart e env) (PK C a σ fz s (VR C.P) Q) (PX C a σ fz s X) s
theorem yh:SP d sc none (.lit .none):=fun C A a env b σ fz s Q X S w=>by exact Nf (aX S.good .none w)
theorem yj(h:SV d sc e m):SP d sc (some e) m:=h
theorem yk{o:Expr}{lo hi:Option Expr}{P t V:ME}(Z:SV d sc o P)(il:SP d sc lo t)(ih:SP d sc hi V){p q:Pos}:SV d sc (.Subscript o (.Slice lo hi none q) p) (.sli P t V):=by intro C A K env L σ fz s Q X S w;refine Subscript_ (Nj (Z C A K env L σ fz s _ X S w) (fun a s₁ v=>?_) fun _ _ z=>z);apply bc;intro x;obtain⟨pa,j,k,f,ra,y⟩:=v;apply x;refine wpAny_Slice (Nj (il C A K env L j k s₁ _ X (S.step f) y) (fun b D v=>?_) fun _ _ z=>z.via f);apply bc;intro x;obtain⟨pb,l,m,i,rb,F⟩:=v;apply x;have n:=f.trans i;refine Nj (ih C A K env L l m D _ X (S.step n) F) (fun c W v=>?_) fun _ _ z=>z.via n;apply bc;intro x;obtain⟨pc,M,O,e,rc,u,hu,H⟩:=v;apply x;rw[evalPart_none];apply Nf;have g:=n.trans e;refine Nj (xO e.2 ((ra.mono i.1.fzk).mono e.1.fzk) (rb.mono e.1.fzk) rc hu H (E:=PX C K σ fz s X)) (fun r Y h=>PK.via g h) fun _ _ z=>z
end
set_option backward.match.sparseCases false
section
variable{C:Cx}{A:NN}{FR:List Nw}{σ:aa}{fz:Fz}{s:M7}{E:M4->M7->Prop}
theorem fm(G:aw C σ fz FR s.heap)(h:σ a=some (.lst vs)):∃ws n,s.heap.get? a=some (bG "list" ws.toArray n)/\aL C.P fz vs ws/\fb vs:=by apply bc;intro b;obtain⟨_,o,c,d⟩:=G.led a _ h;obtain⟨ws,n,rfl,e,f⟩:=d.inv;apply b;exact⟨_,_,c,f,e⟩
theorem gt(G:aw C σ fz FR s.heap){a:Nw}{vs vs':List PV}{ws ws':List M4}{n:Nat}(h:σ a=some (.lst vs))(d:s.heap.get? a=some (bG "list" ws.toArray n)){f:Array M4->Array M4}(g:f ws.toArray=ws'.toArray)
  (i:aL C.P fz vs' ws') (j:fb vs'):GS C FR σ fz s (σ.upd a (.lst vs')) fz {s with heap:=s.heap.update a (O4 f)}:=by
 apply bc;intro k;obtain⟨c,e⟩:∃c,O4 f (bG "list" ws.toArray n)=bG "list" ws'.toArray c:=⟨_,by unfold O4;simp only[g];rfl⟩
 apply k;exact .ledUpd (o:=bG "list" ws'.toArray c) G (fun q=>aj (q.symm.trans h)) (fun b o l m=>(NX _ _ (NT l)).trans m) ((NU _ d (by rw[e];rfl)).trans (Np some e)) (.lst j i)
theorem qF{a:Type}(l:List a)(j:Nat):(l.toArray.eraseIdxIfInBounds j)=(l.eraseIdx j).toArray:=by
 unfold Array.eraseIdxIfInBounds;by_cases h:j<l.toArray.size
 .rw[dif_pos h];exact List.eraseIdx_toArray ..
 .rw[dif_neg h,List.eraseIdx_of_length_le (Nat.not_lt.mp h)]
theorem aL.eraseIdx{P:Nk}{fz:Fz}{v:List PV}{x:List M4}(j:Nat)(h:aL P fz v x):aL P fz (v.eraseIdx j) (x.eraseIdx j):=
 h.ind (m:=fun v x=>∀j,aL P fz (v.eraseIdx j) (x.eraseIdx j)) (fun _=> .nil) (fun a b c j=>j.casesOn b fun j=> .cons a (c j)) j
theorem sQ(ss:List (List Nat))(x:List Nat)(h:ss.contains x=true):∃j,j<ss.length/\ss[j]? =some x/\(∀m,m<j->ss[m]? ≠some x)/\ss.erase x=ss.eraseIdx j:=by
 induction ss with
 |nil=>exact aK h
 |cons a r c=>
  by_cases e:a=x
  .subst e;exact⟨0,Ob _,rfl,fun m b=>absurd b (RC m),List.erase_cons_head ..⟩
  .rw[Ua,beq_eq_false_iff_ne.mpr (NT e),Bool.false_or]at h;apply bc;intro d;obtain⟨j,f,g,i,k⟩:=c h;apply d;refine⟨j+1,Qr f,g,fun m=>m.casesOn (fun _ q=>e (Na q)) fun m b=>i m (Rw b),?_⟩;rw[List.erase_cons_tail (fun q=>e (beq_iff_eq.mp q)),k];rfl
theorem j7{b c:Type}(f:b->c)(l:List b):∀(j:Nat),(l.eraseIdx j).map f=(l.map f).eraseIdx j:=by
 induction l with
 |nil=>exact fun _=>rfl
 |cons a l d=>exact fun j=>j.casesOn rfl fun j=>Np (_::·) (d j)
theorem m9(t:List Nat)(h:∀c∈t,c<128):Txt.upper ⟨t.toArray⟩=⟨(t.map fun c=>if 97<=c&&c<=122 then c-32 else c).toArray⟩:=by
 induction t with
 |nil=>rfl
 |cons c t a=>
  rw[show(⟨(c::t).toArray⟩:Str)=(⟨#[c]⟩:Str)++(⟨t.toArray⟩:Str)from(lb [c] t).symm,W.KOpn.upper_app,W.KOpn.upper_one (h c M_),a fun x b=>h x (Nb _ b)];have e:(if 97<=c/\c<=122 then c-32 else c)=if 97<=c&&c<=122 then c-32 else c:=by
   by_cases q:97<=c/\c<=122
   .rw[M8 q,M8 (by rw[NH q.1,NH q.2];rfl)]
   .rw[M5 q,M5 fun z=>q ⟨NW (cD z).1,NW (cD z).2⟩]
  rw[e];exact lb [_] _
theorem m_:∀{ss:List (List Nat)},bm vs=some ss->vs=ss.map .str:=by
 induction vs with
 |nil=>intro ss h;injection h with z0;subst z0;rfl
 |cons v vs a=>intro ss h;obtain⟨i,c,rfl,b,rfl⟩:=gq h;exact Np (_::·) (a b)
noncomputable def ky(m:Nat):String:=match m with
 |0=>"list.append"|1=>"list.pop"|2=>"list.remove"|3=>"list.reverse"|4=>"dict.get"|_=>"str.upper"
theorem qG{ws:List M4}{ss:List (List Nat)}(h:Oe ws (ss.map aq)){i:Nat}{x:List Nat}(hi:ss[i]? =some x):∃t,ws[i]? =some (.str (aq x) t):=by
 induction ss generalizing ws i with
 |nil=>exact aj hi
 |cons a ss b=>
  obtain⟨t,w,rfl,c⟩:=fj h;cases i with
  |zero=>injection hi with z0;subst z0;exact⟨t,rfl⟩
  |succ i=>exact b (i:=i) c hi
theorem u7{ws:List M4}{j:Nat}{v:M4}(h:ws[j]? =some v) (a:j<ws.toArray.size):ws.toArray[j]=v:=by obtain⟨_,q⟩:=List.getElem?_eq_some_iff.mp h;exact q
theorem lw{P:Nk}{fz:Fz}{vs:List PV}{ws:List M4}(a:aL P fz vs ws)(b:fb vs):ws.toArray.size<=1048576:=M1 (ND a.length) b
theorem eS(h:n<=1048576):n<=PT:=M1 h (M1 (by decide) aA)
theorem sS(G:aw C σ fz FR s.heap){a:Nw}{vs:List PV}(hs:σ a=some (.lst vs)){p:PV}{v:M4}(d:VR C.P fz p v){Q:QV}(e:vs.length<aU)(h:Q .none (σ.upd a (.lst (vs++[p])))):
  Nm C.M A (PZ (.builtin "list.append") [.ref a,v]) (eM C FR σ fz s Q) E s:=by
 apply bc;intro f;obtain⟨ws,n,b,c,g⟩:=fm G hs;apply f;exact RX PySem.F.slot_list_append ⟨_,b,rfl⟩ PySem.F.entry_list_append (PySem.F.args_list_append_2 _ _) (list_append a ws.toArray n v (eS (lw c g))) ⟨b,_,_,_,gt G hs b (ws':=ws++[v]) (List.push_toArray ..) (c.append (.cons d .nil)) (M1 (ND M3) e),.none,h⟩
theorem Bw(G:aw C σ fz FR s.heap)(hs:σ a=some (.lst (b++[u]))){Q:QV}(h:Q u (σ.upd a (.lst b))):Nm C.M A (PZ (.builtin "list.pop") [.ref a]) (eM C FR σ fz s Q) E s:=by
 apply bc;intro d;obtain⟨ws,n,e,c,g⟩:=fm G hs;apply d;have j:ws.toArray.size-1=b.length:=by rw[show ws.toArray.size=(b++[u]).length from c.length,M3];rfl
 apply bc;intro d;obtain⟨y,k,l⟩:=c.get (i:=b.length) (p:=u) List.getElem?_concat_length;apply d;refine RX PySem.F.slot_list_pop ⟨_,e,rfl⟩ PySem.F.entry_list_pop (PySem.F.args_list_pop_1 _) (MeetsSeq.list_pop_last a ws.toArray n y (by rw[j];exact List.getElem?_toArray.trans k) (eS (lw c g))) ⟨e,?_⟩;rw[j];refine⟨_,_,_,gt G hs e (f:=fun xs=>xs.eraseIdxIfInBounds b.length) (ws':=ws.eraseIdx b.length) (qF _ _) (vs':=b) ?_ (M1 (M1 (Nh _ _) (ND List.length_append.symm)) g),l,h⟩;have:=c.eraseIdx b.length
 rwa [show(b++[u]).eraseIdx b.length=b from by rw[List.eraseIdx_append_of_length_le (Nc _),Sm];exact Nv b]at this
theorem sT(G:aw C σ fz FR s.heap){a:Nw}{ss:List (List Nat)}(hs:σ a=some (.lst (ss.map .str)))(g:bm (ss.map .str)=some ss){x:List Nat}{t:Tok}{Q:QV}(r:ss.contains x=true)(h:Q .none (σ.upd a (.lst ((ss.erase x).map .str)))):Nm C.M A (PZ (.builtin "list.remove") [.ref a,.str (aq x) t]) (eM C FR σ fz s Q) E s:=by
 apply bc;intro i;obtain⟨ws,n,k,e,o⟩:=fm G hs;obtain⟨st,K⟩:=eR e g;obtain⟨j,p,u,v,w⟩:=sQ ss x r;have z:ws.length=ss.length:=e.length.trans (M6 _);obtain⟨L,D⟩:=qG st u;apply i;have b:j<ws.toArray.size:=Nat.lt_of_lt_of_eq p z.symm;refine RX PySem.F.slot_list_remove ⟨_,k,rfl⟩ PySem.F.entry_list_remove (PySem.F.args_list_remove_2 _ _)
  (MeetsSeq.list_remove a ws.toArray n (.str ⟨x.toArray⟩ t) (isStrOf (aq x)) (fun y H=>eq_isStrOf (aq x) t st y (List.mem_toArray.mp H)) j b (by rw[u7 D b];exact Nx _) (fun m O c=>?_) (eS (lw e o))) ⟨k,?_⟩
 .have d:ss[m]? =some ss[m]:=Nu (O7 c p);apply bc;intro i;obtain⟨P,l⟩:=qG st d;apply i;rw[u7 l (O7 c b)];exact beq_eq_false_iff_ne.mpr fun q=>v m c (d.trans (Np some (da q)))
 .refine⟨_,_,_,gt G hs k (f:=fun xs=>xs.eraseIdxIfInBounds j) (ws':=ws.eraseIdx j) (qF _ _) (vs':=(ss.erase x).map .str) ?_ ?_,.none,h⟩
  .rw[w,j7];exact e.eraseIdx j
  .exact M1 (ND (M6 _)) (M1 List.length_erase_le (M1 (ND (M6 _).symm) o))
theorem Bx(G:aw C σ fz FR s.heap){a:Nw}{vs:List PV}(hs:σ a=some (.lst vs)){Q:QV}(h:Q .none (σ.upd a (.lst vs.reverse))):Nm C.M A (PZ (.builtin "list.reverse") [.ref a]) (eM C FR σ fz s Q) E s:=by apply bc;intro e;obtain⟨ws,n,b,c,d⟩:=fm G hs;apply e;exact RX PySem.F.slot_list_reverse ⟨_,b,rfl⟩ PySem.F.entry_list_reverse (PySem.F.args_list_reverse_1 _) (AutoSeq1.list_reverse_list_0 a ws.toArray n (eS (lw c d))) ⟨b,_,_,_,gt G hs b (ws':=ws.reverse) (List.reverse_toArray ..) c.reverse (M1 (ND QI) d),.none,h⟩
theorem u8(G:aw C σ fz FR s.heap)(hs:σ a=some (.lst vs))(r:aL C.P fz as vals){Q:QV}(h:xy a vs m as σ Q):
  Nm C.M A (PZ (.builtin (ky m)) (.ref a::vals)) (eM C FR σ fz s Q) E s:=by
 unfold xy at h;by_cases m0:m=0
 .rw[M8 m0]at h;subst m0;apply bc;intro b;refine fe h fun v0 c h=>?_;obtain rfl:=aR c;obtain⟨v,rfl,e⟩:=uY r;apply b;exact sS G hs e h.1 h.2
 rw[M5 m0]at h;by_cases m1:m=1
 .rw[M8 m1]at h;subst m1;apply bc;intro b;obtain⟨rfl,k,u,rfl,g⟩:=h;apply b;cases r.inv;exact Bw G hs g
 rw[M5 m1]at h;by_cases m2:m=2
 .rw[M8 m2]at h;subst m2;apply bc;intro b;refine fe h fun v0 c h=>?_;refine fe h fun x i h=>?_;refine fe h fun ss d f=>?_;obtain rfl:=aR c;obtain⟨v,rfl,e⟩:=uY r;refine se i e fun t j _=>?_;subst j;apply b;obtain rfl:=m_ d;exact sT G hs d f.1 f.2
 rw[M5 m2]at h;by_cases m3:m=3
 .rw[M8 m3]at h;subst m3;apply bc;intro b;obtain⟨rfl,h⟩:=h;apply b;cases r.inv;exact Bx G hs h
 rw[M5 m3]at h;exact h.elim
theorem By(G:aw C σ fz FR s.heap)(hs:σ a=some (.dct kvs))(b:VR C.P fz d w){Q:QV}(h:Q ((i9 kvs k).getD d) σ):Nm C.M A (PZ (.builtin "dict.get") [.ref a,.str (aq k) t,w]) (eM C FR σ fz s Q) E s:=by
 apply bc;intro c;obtain⟨r',e,f,_⟩:=dZ G hs;apply c;refine call_meetsIn PySem.F.slot_dict_get e.mapOf.typeIs PySem.F.entry_dict_get (PySem.F.args_dict_get_3 _ _ _) (meets_dict_get_default (strKind pw C.w) a (Pw pw C.w (aq k) t) (iI C G fun q=>aj (q.symm.trans hs)) w) ⟨_,e.mapOf,?_⟩;show eM C FR σ fz s Q _ _;cases q:i9 kvs k with
 |none=>rw[f.valueAt.2 q];rw[q]at h;exact aV G b h
 |some p=>apply bc;intro c;obtain⟨z,g,i⟩:=f.valueAt.1 p q;apply c;rw[g];rw[q]at h;exact aV G i h
theorem EJ(h:c<128):(if 97<=c&&c<=122 then c-32 else c)<1114112:=by
 by_cases e:(decide (97<=c)&&decide (c<=122))=true
 .rw[M8 e];exact M9 (Q3 _ _) (O7 h (by decide))
 .rw[M5 e];exact O7 h (by decide)
theorem Bz(G:aw C σ fz FR s.heap)(e:VR C.P fz o u)(r:aL C.P fz as vals){Q:QV}(h:xi o m as σ Q):
  Nm C.M A (PZ (.builtin (ky m)) (u::vals)) (eM C FR σ fz s Q) E s:=by
 unfold xi at h;cases f:rY σ o with
 |some p=>rw[f]at h;obtain⟨rfl,hs⟩:=xv f;cases e.inv;exact u8 G hs r h
 |none=>
 rw[f]at h;cases g:fQ σ o with
 |some p=>rw[g]at h;apply bc;intro i;obtain⟨rfl,h⟩:=h;refine fe h fun q x h=>?_;refine fe h fun k j a=>?_;obtain rfl:=iF x;obtain⟨y,hs⟩:=gb g;subst y;obtain⟨v,w,rfl,z,l⟩:=x3 r;cases e.inv;refine se j z fun t b _=>?_;subst b;apply i;exact By G hs l a
 |none=>rw[g]at h;apply bc;intro i;refine fe h fun t d D=>?_;obtain⟨rfl,rfl,a⟩:=D;cases r.inv;refine se d e fun tk b d=>?_;subst b;apply i;refine PyProof.Rows.SCL.upper (by rw[eK];exact M1 d.1 (by decide)) fun _=>?_;rw[m9 t a.1];refine aV G (.str _ _ ⟨M1 (ND (M6 _)) d.1,fun c F=>?_⟩) a.2;refine i8 F fun H n b=>?_;subst b;exact EJ (a.1 H n)
end
noncomputable def u9(P:Nk):Fz->List PV->Args->Prop:=fun fz b a=>aL P fz b a.pos/\a.kw=[]
section
variable{d:Nat}{sc:NL}{ml:List Nat}{n:Nat}
theorem jt(j:dh (bo ml n sc .v) es=some ms)(k:xY d sc es ms){C:Cx}{A:NN}{env:Env}{σ:aa}{fz:Fz}{s:M7}{Q:List PV->aa->Prop}{X:QX}
 (S:St C A a d sc env c σ fz s) (w:mG d ms c σ Q X):Nm C.M A (evalArgs f true (Ue pos (Qo es env)) []) (PK C a σ fz s (u9 C.P) Q) (PX C a σ fz s X) s:=by
 have h:=k C A a env c σ fz s Q X pos S w;have fin:∀vs s',PK C a σ fz s (LU C.P es.length) Q vs s'->PK C a σ fz s (u9 C.P) Q ⟨vs,[]⟩ s':=fun vs s' h=>by obtain⟨b,i,fz',g,r,q⟩:=h;exact⟨b,i,fz',g,⟨r.1,rfl⟩,q⟩
 cases es with
 |nil=>
  have h':PK C a σ fz s (u9 C.P) Q ⟨[],[]⟩ s:=by
   injection j with z0;subst z0
   exact aX S.good ⟨.nil,rfl⟩ w
  exact evalArgs_nil3 h'
 |cons e es=>
  have hs:Qo (e::es) env=(false,QU e env)::Qo es env:=by apply bc;intro l;refine uw j fun m o p t _=>?_;apply l;exact eP p es env
  rw[hs]at h⊢;exact PC (Nj h fin fun _ _ z=>z)
structure dE(C:Cx)(f:M4):Prop where
 keep:∀h,(KA C.P).In h->∃k,(k=Keeper.frame\/k=Keeper.machine\/k=Keeper.boundFrame)/\Va C.M h (keeperOf f) k
theorem dE.of_ref{C:Cx}(h:VW (KA C.P) (.ref a)=true):dE C (.ref a):=⟨keeps_K h⟩
theorem dE.of_type{C:Cx}:dE C (.type t):=⟨fun h _=>⟨.machine,.inr (.inl rfl),Pg rfl⟩⟩
theorem dE.of_builtin{C:Cx}:dE C (.builtin t):=⟨fun h _=>⟨.machine,.inr (.inl rfl),Pg rfl⟩⟩
theorem cT(i:dh (bo ml n sc .v) es=some ms)(k:xY d sc es ms){C:Cx}{A:NN}{env:Env}{σ:aa}{fz:Fz}{s:M7}{Q':List PV->aa->Prop}{Q:QV}{X:QX}
 (S:St C A e d sc env j σ fz s) (l:dE C f) (w:mG d ms j σ Q' X)
 (h:∀vals s₁ vs b c,GS C e σ fz s b c s₁->aL C.P c vs vals->Q' vs b->Nm C.M A (PZ f (first++vals)) (eM C e b c s₁ Q) (PX C e b c s₁ X) s₁):
  Nm C.M A (callWith pos f first (Ue pos (Qo es env)) []) (eM C e σ fz s Q) (PX C e σ fz s X) s:=by
 refine QW (P:=(KA C.P).In) (by rw[dw es ms i pos env];rfl) l.keep ?_;refine Nj (jt i k (f:=f) S w) (fun a s₁ z=>?_) fun _ _ z=>z;apply bc;intro m;obtain⟨vs,b,c,g,⟨r,o⟩,q⟩:=z;apply m;refine⟨Bo g.2,?_⟩;rw[o];exact fU g (h a.pos s₁ vs b c g r q)
theorem gu{C:Cx}{A:NN}{σ:aa}{fz:Fz}{s:M7}{Q:QV}{X:QX}(F:rU A FR d)(G:aw C σ fz FR s.heap)(r:aL C.P fz args vals)(h:af d f args σ Q X):
  Nm C.M A (PZ f vals) (eM C FR σ fz s Q) (PX C FR σ fz s X) s:=by
 refine Sx (SO (h C A FR fz s vals F G r) fun r s' hr=>?_);cases r with
 |error e=>exact hr
 |ok f=>cases f<;>first|exact hr|exact hr.elim
theorem bg(h:bV sc x=true):sc.names.lookup x=some .globalImplicit:=beq_iff_eq.mp h
theorem ju(h:fF.lookup x=some a):(x==("__debug__":Str))=false:=by
 rw[beq_eq_false_iff_ne];intro e;subst e;have:fF.lookup (NB "__debug__")=none:=by decide+kernel
 rw[this]at h;exact aj h
theorem u_(h:lc.lookup x=some a):(x==("__debug__":Str))=false:=by
 rw[beq_eq_false_iff_ne];intro e;subst e;have:lc.lookup (NB "__debug__")=none:=by decide+kernel
 rw[this]at h;exact aj h
theorem yl(h:lc.lookup x=some a):a≠.sortset:=by
 have q:(lc.all fun x=>decide (x.2≠.sortset))=true:=by decide+kernel
 exact NW (List.all_eq_true.mp q _ (mem_of_lookup h))
theorem sU(f:bV sc x=true)(e:fF.lookup x=some a)(h:dh (bo ml n sc .v) es=some ms)(i:xY d sc es ms):SV d sc (.Call (.Name x p) es [] pos) (.calF a ms):=by intro C A l env m σ fz s Q X S w;obtain⟨j,k⟩:=li e C.P;refine Pt (js S (bg f) j ?_ (ju e));exact cT h i S (.of_ref k) w fun vals s₁ vs b c g r q=>gu S.fit g.2 r q
theorem sV{C:Cx}(b:BI):dE C (eQ b):=by cases b<;>first|exact .of_type|exact .of_builtin|exact⟨fun h _=>⟨.machine,.inr (.inl rfl),Pg rfl⟩⟩
theorem sW(f:bV sc x=true)(a:lc.lookup x=some b)(h:dh (bo ml n sc .v) es=some ms)(i:xY d sc es ms):SV d sc (.Call (.Name x p) es [] pos) (.calB b ms):=by intro C A m env o σ fz s Q X S w;obtain⟨j,k⟩:=iN a C.P;have l:=yl a;refine Pt (fk S (bg f) j k ?_ (u_ a));exact cT h i S (sV b) w fun vals s₁ vs c e g r q=>Bv g.2 S.fit.hand l r q
theorem m'{x y:Str}{p g pos:Pos}{e:Expr}{m:ME}{st:Bool}(i:(x==("isinstance":Str))=true)(f:(y==(if st then("str":Str)else("tuple":Str)))=true)(u:bV sc x=true)(j:bV sc y=true)(D:bo ml n sc .v e=some m)(E:SV d sc e m):
  SV d sc (.Call (.Name x p) [e,.Name y g] [] pos) (.isin m st):=by
 intro C A F env H σ fz s Q X S w;have i:=beq_iff_eq.mp i;have f:=beq_iff_eq.mp f;subst i;apply bc;intro K;obtain⟨_,_,b3,b4,_⟩:=qz C.P;apply K;refine Pt (fk S (bg u) b3 b4 ?_ (by decide+kernel));have hs:Qo [e,.Name y g] env=[(false,QU e env),(false,QU (.Name y g) env)]:=by rw[eP D];rfl
 refine QW (P:=fun _=>True) (by rw[hs];rfl) (fun h _=>⟨.machine,.inr (.inl rfl),Pg rfl⟩) ?_;rw[hs];refine PC (Pq (Nj (E C A F env H σ fz s _ X S w) (fun v s₁ L=>?_) fun _ _ z=>z));obtain⟨pv,k,l,a,q,c⟩:=L;have ty:Ov (gj C.P) y=none/\Ov (qy C.P) y=some (if st then .type "str" else .type "tuple"):=by
  cases st with
  |true=>have:=iN (n:="str") (b:= .str) (by decide+kernel) C.P;rw[f];exact this
  |false=>have:=iN (n:="tuple") (b:= .tuple) (by decide+kernel) C.P;rw[f];exact this
 have o:(y==("__debug__":Str))=false:=by rw[f];cases st<;>decide+kernel
 refine Pq (fk (S.step a) (bg j) ty.1 ty.2 (Q6 ?_) o);refine⟨trivial,?_⟩;show Nm C.M A (PZ (.builtin "isinstance") [v,(if st then .type "str" else .type "tuple")]) _ _ s₁;cases pv with
 |str t=>
  obtain⟨tk,rfl,_⟩:=q.inv;cases st with
  |true=>exact IsiPair.str_str (PK.via a (aX a.2 (.bool true) c))
  |false=>exact IsiPair.str_tuple (PK.via a (aV a.2 (.bool false) c))
 |tup vs=>
  obtain⟨_,_,_,rfl,r,_⟩:=q.inv;cases st with
  |true=>exact IsiPair.tuple_str (a.2.sub _ _ r) rfl (PK.via a (aV a.2 (.bool false) c))
  |false=>exact IsiPair.tuple_tuple (a.2.sub _ _ r) rfl (PK.via a (aX a.2 (.bool true) c))
 |_=>exact c.elim
theorem sX(h:dg c m=some f)(P:Nk):VW (KA P) (.ref f)=true:=by
 have:f∈HF++[178,192,220,227,234,241,248,255,262,269,276,283,318,332,339,346,353,367,374,388,444,470,416,515,541,617,624,631,638,645,686,693,700]:=by
  refine Oh _ ?_;have q:(iG.all fun x=>decide (x.2.2∈[178,192,220,227,234,241,248,255,262,269,276,283,318,332,339,346,353,367,374,388,444,470,416,515,541,617,624,631,638,645,686,693,700]))=true:=by decide+kernel
  exact NW (List.all_eq_true.mp q _ (kn h))
 exact List.all_eq_true.mp (AB P) f this
theorem va{σ:aa}(h:xj (.iref c d) m σ):(dg c m).isSome=true/\∃as vs,σ d=some (.ins c as vs):=by
 obtain⟨a,b⟩:=h;refine⟨a,?_⟩;revert b;generalize σ d=x;intro h;cases x with
 |none=>exact h.elim
 |some x=>cases x with
  |ins e as vs=>obtain rfl:=(show e=c from h);exact⟨as,vs,rfl⟩
  |_=>exact h.elim
theorem ym{σ:aa}(h:xj (.ref a) m σ):(∃vs,σ a=some (.lst vs)/\m<4)\/∃kvs,σ a=some (.dct kvs)/\m=4:=by
 have h:(match σ a with|some (.lst _)=>m<4|some (.dct _)=>m=4|_=>False):=h;generalize σ a=x at h⊢;cases x with
 |none=>exact h.elim
 |some x=>cases x with
  |lst vs=>exact .inl ⟨vs,rfl,h⟩
  |dct kvs=>exact .inr ⟨kvs,rfl,h⟩
  |_=>exact h.elim
theorem BA(h:m<n+1):m=n\/m<n:=(Nat.lt_succ_iff_lt_or_eq.mp h).symm
theorem pf{C:Cx}{A:NN}{σ:aa}{fz:Fz}{s:M7}{E:M4->M7->Prop}(G:aw C σ fz k s.heap)(l:xj (.ref a) m σ){Q:M4×List M4->M7->Prop}(d:Q (.builtin (ky m),[.ref a]) s):Nm C.M A (Q9 (.ref a) (gd.getD m "") pl) Q E s:=by
 rcases ym l with⟨vs,hs,c⟩|⟨kvs,hs,rfl⟩
 .obtain⟨ws,n,f,_⟩:=fm G hs;have g:s.TypeIs (.ref a) "list":=⟨_,f,rfl⟩
  have h:∀b,Oz a= .ref b->∃o,s.heap.get? b=some o/\o.dict=none:=fun b e=>by injection e with z0;subst z0;exact⟨_,f,rfl⟩
  rcases BA c with rfl|c
  .exact Qq g PySem.F.plainAttrs_list PySem.F.slot_list_reverse PySem.F.type_list_reverse h d
  rcases BA c with rfl|c
  .exact Qq g PySem.F.plainAttrs_list PySem.F.slot_list_remove PySem.F.type_list_remove h d
  rcases BA c with rfl|c
  .exact Qq g PySem.F.plainAttrs_list PySem.F.slot_list_pop PySem.F.type_list_pop h d
  obtain rfl:=Nat.lt_one_iff.mp c;exact Qq g PySem.F.plainAttrs_list PySem.F.slot_list_append PySem.F.type_list_append h d
 .apply bc;intro i;obtain⟨r,j,_⟩:=dZ G hs;apply i;exact Qq j.mapOf.typeIs PySem.F.plainAttrs_dict PySem.F.slot_dict_get PySem.F.type_dict_get (fun b e=>by
   injection e with z0;subst z0
   apply bc;intro i;obtain⟨o,es,t,p,q,_⟩:=j;apply i;exact⟨o,p,q.2.1⟩) d
theorem pg{C:Cx}{A:NN}{σ:aa}{fz:Fz}{s:M7}{E:M4->M7->Prop}(G:aw C σ fz p s.heap)(j:VR C.P fz v i)(b:xj v m σ)
 {Q:M4×List M4->M7->Prop}
 (l:∀c f,((∃g,v= .obj c g)\/(∃d,v= .iref c d))->dg c m=some f->Q (.ref f,[i]) s) (o:(∀c g,v≠.obj c g)->(∀c d,v≠.iref c d)->Q (.builtin (ky m),[i]) s):Nm C.M A (Q9 i (gd.getD m "") pl) Q E s:=by
 cases v with
 |obj c g=>refine DL b fun f h=>?_;obtain⟨x,q,es,n,rfl,I⟩:=Inst.of_obj G j;exact mS G I h (l c f (.inl ⟨g,rfl⟩) h)
 |iref c d=>obtain⟨k,as,vs,hs⟩:=va b;refine DL k fun f h=>?_;obtain⟨x,es,n,rfl,I⟩:=Inst.of_iref G j hs;exact mS G I h (l c f (.inr ⟨d,rfl⟩) h)
 |str t=>
  obtain⟨tk,rfl,_⟩:=j.inv;obtain rfl:=(show m=_ from b)
  exact GM.upper (o (fun _ _ e=>PV.noConfusion e) (fun _ _ e=>PV.noConfusion e))
 |ref a=>cases j.inv;exact pf G b (o (fun _ _ e=>PV.noConfusion e) (fun _ _ e=>PV.noConfusion e))
 |_=>exact b.elim
theorem yo{a:Type}(l:List (Bool×a))(h:l.any (·.1)=false):l.all (fun x=> !x.1)=true:=by rw[List.all_eq_not_any_not];exact(Np (!·) ((Np l.any (funext fun x=>Bool.not_not x.1)).trans h))
theorem sY{o:Expr}{H:ME}{name:Str}{b pos:Pos}{es:List Expr}{ms:List ME}{m:Nat}(io:SV d sc o H)(K:bo ml n sc .v o=some H)(L:iw gd name=some m)(k:(b.endLine==pos.line)=true)(x:es.length<20)
  (O:dh (bo ml n sc .v) es=some ms) (ih:xY d sc es ms):SV d sc (.Call (.Attribute o name b) es [] pos) (.calM H m ms):=by
 intro C A FR env ρ σ fz s Q X S w;have e:name=gd.getD m "":=by unfold iw at L;rw[Oo]at L;apply bc;intro l;obtain⟨hl,h1,_⟩:=L;apply l;have:=beq_iff_eq.mp h1;rw[Oy,Nu hl,Sf,this]
 subst e;rw[Wc,qE K];refine M2 (Nj (io C A FR env ρ σ fz s _ X S w) (fun v s₁ zz=>?_) fun _ _ z=>z);apply bc;intro l;obtain⟨pv,V,W,a,F,hk,i⟩:=zz;apply l;refine M2 (O0 ?_);have y:=dw es ms O pos env;have D:=yo _ y;have p:Tu (es.length+([]:List Vb).length) (Ue pos (Qo es env)) (backToKw pos (keywordEach [] env))=true:=by unfold Tu;rw[D];show(true&&true&&decide (es.length+0+0<30))=true;simp;exact M1 x (by decide)
 have j:Sq true o env b pos=OD pos:=by unfold Sq;simp[k]
 unfold methodCall;rw[p];refine fU a (M2 (OA ?_));show Nm C.M A (Q9 v (gd.getD m "") _) _ _ s₁;refine pg a.2 F hk (fun c f ho Y=>?_) fun Z a0=>?_
 .refine M2 (QT j ?_);refine cT O ih (S.step a) (.of_ref (sX Y C.P)) i fun vals E vs h t g r q=>?_;rcases ho with⟨fs,rfl⟩|⟨dd,rfl⟩
  .apply bc;intro l;obtain⟨f',u,hq⟩:=q;apply l;have i0:=Y.symm.trans u;injection i0 with z0;subst z0
   exact gu S.fit g.2 (.cons (F.mono g.1.fzk) r) hq
  .apply bc;intro l;obtain⟨f',u,hq⟩:=q;apply l;have i0:=Y.symm.trans u;injection i0 with z0;subst z0
   exact gu S.fit g.2 (.cons (F.mono g.1.fzk) r) hq
 .refine M2 (QT j ?_);refine cT O ih (S.step a) .of_builtin i fun vals E vs h t g r q=>?_;have q':xi pv m vs h Q:=by
   cases pv with
   |obj c fs=>exact absurd rfl (Z c fs)
   |iref c d=>exact absurd rfl (a0 c d)
   |_=>exact q
  exact Bz g.2 (F.mono g.1.fzk) r q'
theorem kz(h:keysOf (k::ks)=some a):∃x j p c,k=some (.Constant (.str x) j p)/\keysOf ks=some c/\a=x.cps.toList::c:=by apply bc;intro d;refine uw h fun m ms e f b=>?_;subst b;refine cn e fun x g b=>?_;subst b;obtain⟨j,p,rfl⟩:=xR g;apply d;exact⟨x,j,p,ms,rfl,f,rfl⟩
theorem ph{ks:List (Option Expr)}:∀{a:List (List Nat)},keysOf ks=some a->ks.all (·.isSome)=true/\ks.length=a.length:=by
 induction ks with
 |nil=>intro a h;injection h with z0;subst z0;exact⟨rfl,rfl⟩
 |cons k ks b=>intro a h;apply bc;intro c;obtain⟨x,j,p,g,rfl,d,rfl⟩:=kz h;obtain⟨e,f⟩:=b d;apply c;exact⟨e,Np (·+1) f⟩
theorem GS.adopt{C:Cx}{σ c:aa}{fz a:Fz}{s s₁ s':M7}(g:GS C j σ fz s c a s₁)(l:s.heap.get? D=none)(v:c D=none)(p:a D=none)(w:D∉j)(hs:QQ D s₁.heap s'.heap)
 {o:Obj} (t:s'.heap.get? D=some o) (z:MR C.P a m o) (A:s'.gens=s₁.gens:=by rfl) (k:s'.os=s₁.os:=by rfl):GS C j σ fz s (c.upd D m) a s':=by
 have u:∀b o,s.heap.get? b=some o->b≠D:=fun b o h e=>by rw[e,l]at h;exact aj h
 refine⟨⟨g.1.fzk,fun b o h q r=>(hs.2 b (u b o h)).trans (g.1.keep b o h q r),fun b h o i=>?_,fun b h=>?_,fun b h=>?_,g.1.fzn,A.trans g.1.gens,k.trans g.1.os⟩,
  g.2.base,fun b o h=>?_,fun b h=>?_,fun b E h=>?_⟩
 .apply bc;intro f;obtain⟨F,e⟩:=g.1.frk b h o i;apply f;exact⟨F,(hs.2 b (u b o i)).trans e⟩
 .apply bc;intro f;obtain⟨o',e⟩:=g.1.lk b h;apply f;by_cases q:b=D
  .exact⟨o,q▸t⟩
  .exact⟨o',(hs.2 b q).trans e⟩
 .by_cases q:b=D
  .exact .inr (q▸l)
  .rw[aa.uN _ _ q]at h;exact g.1.ledn b h
 .have q:b≠D:=fun e=>by rw[e,p]at h;exact aj h
  exact(hs.2 b q).trans (g.2.sub b o h)
 .apply bc;intro f;obtain⟨x,y,o',es,n,e,d⟩:=g.2.fr b h;apply f;have q:b≠D:=fun e=>w (e▸h);exact⟨x,by rw[aa.uN _ _ q];exact y,o',es,n,(hs.2 b q).trans e,d⟩
 .by_cases q:b=D
  .subst q;rw[aa.uS]at h;injection h with z0;subst z0;exact⟨p,o,t,z⟩
  .rw[aa.uN _ _ q]at h;apply bc;intro f;obtain⟨x,o',e,r⟩:=g.2.led b E h;apply f;exact⟨x,o',(hs.2 b q).trans e,r⟩
noncomputable def BB(P:Nk)(ks:List (List Nat)):Fz->List PV->List (M4×M4)->Prop:=fun fz b r=>aL P fz b (r.map (·.2))/\Oe (r.map (·.1)) (ks.map aq)
theorem sZ(ks:List (Option Expr)):∀(c:List (List Nat))(vs:List Expr)(ms:List ME),keysOf ks=some c->(∀(i:Nat)(e:Expr)(m:ME),vs[i]? =some e->ms[i]? =some m->SV d sc e m)->vs.length=ms.length->ks.length=vs.length->
  ∀(C:Cx)(A:NN)(f:List Nw)(env:Env)(D:ar)(σ:aa)(fz:Fz)(s:M7)(Q:List PV->aa->Prop)(X:QX)(pos:Pos),St C A f d sc env D σ fz s->mG d ms D σ Q X->
   Nm C.M A (evalPairs (pairTrees ks vs env pos)) (PK C f σ fz s (BB C.P c) Q) (PX C f σ fz s X) s:=by
 induction ks with
 |nil=>
  intro c vs ms K L E F C A f env D σ fz s Q X pos S w;injection K with z0;subst z0
  cases vs with
  |cons _ _=>exact aK (beq_iff_eq.mpr F)
  |nil=>
  cases ms with
  |cons _ _=>exact aK (beq_iff_eq.mpr E)
  |nil=>exact pairTrees_nil_walk (aX S.good ⟨.nil,.nil⟩ w)
 |cons k ks W=>
  intro c vs ms K L E F C A f env D σ fz s Q X pos S w;obtain⟨x,j,p,Y,rfl,O,rfl⟩:=kz K;cases vs with
  |nil=>exact aK (beq_iff_eq.mpr F)
  |cons v vs=>
  cases ms with
  |nil=>exact aK (beq_iff_eq.mpr E)
  |cons m ms=>
  have g0:GS C f σ fz s σ fz {s with toks:=s.toks+1}:= .keep S.good fun _ _ h=>h;refine pairTrees_cons_walk (UN ?_);refine Nj (L 0 v m rfl rfl C A f env D σ fz _ _ X (S.step g0) w) (fun a s₁ Z=>?_) fun _ _ z=>z.via g0;obtain⟨b,o,t,g1,r,q⟩:=Z;have g:=g0.trans g1;refine Nj (W Y vs ms O (fun i e m E F=>L (i+1) e m E F) (Pj E) (Pj F) C A f env D o t s₁ _ X pos (S.step g) q)
   (fun rs V z=>?_) fun _ _ z=>z.via g
  obtain⟨bs,u,y,l,n,H⟩:=z;exact⟨b::bs,u,y,g.trans l,⟨.cons (r.mono l.1.fzk) n.1,StrsAre.cons x s.toks n.2⟩,H⟩
theorem BC{P:Nk}{fz:Fz}{ks:List (List Nat)}:∀{c:List PV}{r:List (M4×M4)},Oe (r.map (·.1)) (ks.map aq)->aL P fz c (r.map (·.2))->gf P fz (ks.zip c) (strPairs r)/\allStrKeys r=true/\(strPairs r).map (·.1)=ks.map aq:=by
 induction ks with
 |nil=>intro c r h _;cases r with
  |nil=>exact⟨.nil,rfl,rfl⟩
  |cons a r=>exact kT (fj h)
 |cons k ks g=>intro c r h h';cases r with
  |nil=>obtain⟨_,_,e,_⟩:=fj h;exact A' e
  |cons a r=>
   apply bc;intro d;obtain⟨a,v⟩:=a;apply d;cases c with
   |nil=>exact kT h'.inv
   |cons b c=>
    apply bc;intro d;obtain⟨_,_,e,i,f⟩:=h'.inv;injection e with z0 z1;subst z0 z1
    obtain⟨_,_,e,h⟩:=fj h;injection e with z0 z1;subst z0 z1
    obtain⟨j,l,m⟩:=g h f;apply d;exact⟨.cons i j,l,Np (aq k::·) m⟩
theorem vb{ks:List (Option Expr)}{c:List (List Nat)}{vs:List Expr}{ms:List ME}(x:keysOf ks=some c)(Z:∀(i:Nat)(e:Expr)(m:ME),vs[i]? =some e->ms[i]? =some m->SV d sc e m) (P:vs.length=ms.length) (v:ks.length=vs.length)
  (y:vs.length<=15) (D:∀k∈c,fa k) {pos:Pos}:SV d sc (.Dict ks vs pos) (.dct c ms):=by
 intro C A V env ρ σ fz s Q X S w;apply bc;intro r;obtain⟨t,W⟩:=ph x;apply r;by_cases h0:ks=[]
 .subst h0;injection x with z0;subst z0
  obtain rfl:=List.length_eq_zero_iff.mp v.symm;obtain rfl:=List.length_eq_zero_iff.mp P.symm;exact wpAny_Dict_empty (Az (k:=s.toks) S.good rfl (.dct (kvs:=[]) (es:=[]) (n:=0) (NJ _) (fun _ h=>absurd h Nq) .nil .nil) w.2.2)
 .have f:=fresh s.heap;have E:∀b o,s.heap.get? b=some o->(s.heap.push PW).get? b=some o:=fun b o e=>Ng _ e;have g0:GS C V σ fz s σ fz {s with heap:=s.heap.push PW}:= .keep S.good E;refine wpAny_Dict_walk (knd:=PySem.strKind pw C.w) t v h0 (M1 (ND v) y) ?_;refine Nj (sZ ks c vs ms x Z P v C A V env ρ σ fz _ _ X pos (S.step g0) w) (fun rs s₁ zz=>?_) fun _ _ z=>z.via g0;apply bc;intro r;obtain⟨Y,l,j,g,⟨r1,r2⟩,q⟩:=zz;obtain⟨q1,q2,q3⟩:=q;obtain⟨k1,k2,k3⟩:=BC r2 r1;apply r;have p:(s.heap.push PW).get? s.heap.objs.size=some PW:=NC _ rfl;have fr:=S.good.free f;have hD:s₁.heap.get? s.heap.objs.size=some PW:=g.1.keep _ _ p fr.2.1 fr.2.2;have F:s₁.heap.DictOf (PySem.strKind pw C.w) s.heap.objs.size []:=⟨_,#[],0,hD,⟨rfl,rfl,rfl⟩,rfl,fun e he=>by simp at he,.nil,.nil⟩
  refine display_done_str (prog:=pw) (w:=C.w) k2 (by rw[k3];exact Qt _ (fun a b H q=>H (da q)) q2) F fun h' hm hs=>?_;have K:fb (c.zip Y):=by unfold fb;rw[List.length_zip];lia
  have so:∀kv∈c.zip Y,fa kv.1:=fun kv L=>D _ (Qz L).1;apply bc;intro r;obtain⟨o,ho,M⟩:=k9 (C:=C) (fz:=j) hm k1 K so;apply r;have u:l s.heap.objs.size=none:=NM fun z=>(g.1.ledn _ z).elim (absurd fr.2.1) fun e=>aj (e.symm.trans p);have O:j s.heap.objs.size=none:=NM fun z=>(g.1.fzn _ z).elim (absurd fr.1) fun z=>z.elim (absurd fr.2.1) fun e=>aj (e.symm.trans p);exact⟨_,_,_,GS.adopt (s':={s₁ with heap:=h',toks:=s₁.toks+rs.length}) (g0.trans g) f u O fr.2.2 hs ho M,.ref _,q3 _ u⟩
end
set_option tactic.hygienic true
structure bX(I:Nw)(FR:List Nw)(σ:aa)(fz:Fz)(h:Og):Prop where
 s:σ I=none
 f:fz I=none
 r:I∉FR
 t:∃o,h.get? I=some o
theorem bX.step{C:Cx}{FR:List Nw}{σ Z6:aa}{fz fz':Fz}{s s':M7}{I:Nw}(x:bX I FR σ fz s.heap)(g:GS C FR σ fz s Z6 fz' s'):bX I FR Z6 fz' s'.heap/\∀o,s.heap.get? I=some o->s'.heap.get? I=some o:=by
 obtain⟨o,ho⟩:=x.t;refine⟨⟨?_,?_,x.r,⟨o,g.1.keep _ o ho x.s x.r⟩⟩,fun o' ho'=>g.1.keep _ o' ho' x.s x.r⟩
 .cases z:Z6 I with
  |none=>rfl
  |some m=>
   rcases g.1.ledn _ (by rw[z];simp)with e|e
   .exact absurd x.s e
   .rw[ho]at e;exact ba e
 .cases z:fz' I with
  |none=>rfl
  |some m=>
   rcases g.1.fzn _ (by rw[z];simp)with e|e|e
   .exact absurd x.f e
   .exact absurd x.s e
   .rw[ho]at e;exact ba e
theorem bX.new{C:Cx}{σ:aa}{fz:Fz}{s:M7}(G:aw C σ fz a s.heap){o:Obj}(b:o.isFreed=false):bX s.heap.objs.size a σ fz (s.heap.push o):=
 have f:=G.free (fresh s.heap)
 ⟨f.2.1,f.1,f.2.2,⟨o,NC _ b⟩⟩
theorem GS.touch{C:Cx}{σ a:aa}{fz c:Fz}{s s₁ s':M7}(g:GS C k σ fz s a c s₁)(t:s.heap.get? D=none)(h0:σ D=none)(l:bX D k a c s₁.heap)(hs:∀b o,b≠D->s₁.heap.get? b=some o->s'.heap.get? b=some o)
 (u:s'.gens=s₁.gens:=by rfl) (m:s'.os=s₁.os:=by rfl):GS C k σ fz s a c s':=by
 have p:∀b o,s.heap.get? b=some o->b≠D:=fun b o h e=>by rw[e,t]at h;exact aj h
 refine⟨⟨g.1.fzk,fun b o h q r=>hs b o (p b o h) (g.1.keep b o h q r),fun b h o j=>?_,fun b h=>?_,g.1.ledn,g.1.fzn,u.trans g.1.gens,m.trans g.1.os⟩,
  g.2.base,fun b o h=>?_,fun b h=>?_,fun b v h=>?_⟩
 .apply bc;intro i;obtain⟨w,e⟩:=g.1.frk b h o j;apply i;exact⟨w,hs b _ (p b o j) e⟩
 .apply bc;intro i;obtain⟨o',e⟩:=g.1.lk b h;apply i;have q:b≠D:=fun z=>h (z▸h0);exact⟨o',hs b o' q e⟩
 .have q:b≠D:=fun e=>by rw[e,l.f]at h;exact aj h
  exact hs b o q (g.2.sub b o h)
 .apply bc;intro i;obtain⟨x,y,o',es,n,e,d⟩:=g.2.fr b h;apply i;have q:b≠D:=fun e=>l.r (e▸h);exact⟨x,y,o',es,n,hs b o' q e,d⟩
 .have q:b≠D:=fun e=>by rw[e,l.s]at h;exact aj h
  apply bc;intro i;obtain⟨x,o',e,r⟩:=g.2.led b v h;apply i;exact⟨x,o',hs b o' q e,r⟩
inductive Mw(C:Cx)(A:NN)(fz:Fz)(Z8:List PV)(I:Nw)(ZZ:Nat->Og->Prop):Prop
 |mk (fp:List Nw) (P:Nat->M4->Prop) (w:V4 pw C.w A I fp [I] Z8.length P ZZ) (i:I∈fp) (f:∀b∈fp,b=I\/∃o,fz b=some o)
  (p:∀i v,i<Z8.length->P i v->∃pv,Z8[i]? =some pv/\∀(fz':Fz),(∀a o,fz a=some o->fz' a=some o)->VR C.P fz' pv v)
structure WK(C:Cx)(A:NN)(fz:Fz)(Z8:List PV)(I:Nw)(ZZ:Nat->Og->Prop):Prop where
 w:Mw C A fz Z8 I ZZ
 k:∀i h,ZZ i h->∃o n,h.get? I=some o/\o.cls= .type n/\n∈["list_iterator","tuple_iterator","range_iterator","str_ascii_iterator","str_iterator"]/\∀v,o.data≠.cell v
section
variable{C:Cx}{A:NN}{FR:List Nw}{σ:aa}{fz:Fz}{s:M7}{E:M4->M7->Prop}
theorem WK.frame{c:List PV}{I:Nw}{d:Nat->Og->Prop}(W:WK C A fz c I d){i:Nat}{h h':Og}(st:d i h)(g:∀o,h.get? I=some o->h'.get? I=some o)(j:∀a o,fz a=some o->h'.get? a=some o)(k:∀a o,fz a=some o->h.get? a=some o):d i h':=by
 obtain⟨fp,P,l,_,m,_⟩:=W.w;refine l.frame i h h' st fun b n o f=>?_;rcases m b n with rfl|⟨o',e⟩
 .exact g o f
 .have:=k b o' e;rw[f]at this;injection this with z0;subst z0
  exact j b o e
theorem WK.next{c:List PV}{I:Nw}{d:Nat->Og->Prop}(W:WK C A fz c I d){fz':Fz}(h:∀a o,fz a=some o->fz' a=some o){i:Nat}(st:d i s.heap)(hi:i<c.length){Q:Option M4->M7->Prop}
  (j:∀v pv h' tk,c[i]? =some pv->VR C.P fz' pv v->d (i+1) h'->(∀b o,b≠I->s.heap.get? b=some o->h'.get? b=some o)->Q (some v) {s with heap:=h',toks:=tk}):Nm C.M A (Sy (.ref I)) Q E s:=by
 apply bc;intro e;obtain⟨fp,P,k,_,_,l⟩:=W.w;apply e;refine k.item i s Q E hi st fun v h' tk m f n=>?_;apply bc;intro e;obtain⟨pv,g,p⟩:=l i v hi m;apply e;exact j v pv h' tk g (p fz' h) f fun b o q=>n b o (by simpa using q)
theorem WK.done{a:List PV}{I:Nw}{c:Nat->Og->Prop}(W:WK C A fz a I c)(st:c a.length s.heap){Q:Option M4->M7->Prop}
  (d:∀h' tk,(∀b o,b≠I->s.heap.get? b=some o->h'.get? b=some o)->Q none {s with heap:=h',toks:=tk}):Nm C.M A (Sy (.ref I)) Q E s:=by
 apply bc;intro e;obtain⟨fp,P,f,_,_,i⟩:=W.w;apply e;exact f.done s Q E st fun h' tk g=>d h' tk fun b o h=>g b o (by simpa using h)
theorem WK.self{a:List PV}{I:Nw}{b:Nat->Og->Prop}(W:WK C A fz a I b){i:Nat}(st:b i s.heap){Q:M4->M7->Prop}(c:Q (.ref I) s):Nm C.M A (R7 (.ref I)) Q E s:=by apply bc;intro d;obtain⟨fp,P,e,_,_,f⟩:=W.w;apply d;exact e.self i s Q E st c
inductive yp(C:Cx)(A:NN)(FR:List Nw)(σ:aa)(fz:Fz)(s:M7)(Z8:List PV)(it:M4)(s':M7):Prop
 |mk (I:Nw) (ZZ:Nat->Og->Prop) (e:it= .ref I) (h:s.heap.get? I=none) (g:GS C FR σ fz s σ fz s') (o:bX I FR σ fz s'.heap) (w:WK C A fz Z8 I ZZ) (st:ZZ 0 s'.heap)
noncomputable abbrev yq:List String:=["list_iterator","tuple_iterator","range_iterator","str_ascii_iterator","str_iterator"]
theorem yr{I:Nw}{h:Og}{n:String}{d:Data}(st:∃o,h.get? I=some o/\o.cls= .type n/\o.data=d)(f:n∈yq)(g:∀v,d≠.cell v):∃o n,h.get? I=some o/\o.cls= .type n/\n∈yq/\∀v,o.data≠.cell v:=by obtain⟨o,a,b,c⟩:=st;exact⟨o,n,a,b,f,fun v e=>g v (c.symm.trans e)⟩
theorem qH(G:aw C σ fz FR s.heap){c:Nat->Og->Prop}{o:Obj}(d:o.isFreed=false)(W:WK C A fz a s.heap.objs.size c)(st:c 0 (s.heap.push o)):yp C A FR σ fz s a (.ref s.heap.objs.size) {s with heap:=s.heap.push o}:=
 ⟨_,c,rfl,fresh s.heap,.keep G (fun b o e=>Ng _ e),bX.new G d,W,st⟩
theorem vc{a I:Nw}{ob:Obj}{e:List PV}{ws:List M4}{c:Nat->Og->Prop}(j:fz a=some ob)(g:aL C.P fz e ws)(W:V4 pw C.w A I [I,a] [I] ws.toArray.size (fun i v=>ws.toArray[i]? =some v) c)
  (k:∀i h,c i h->∃o n,h.get? I=some o/\o.cls= .type n/\n∈yq/\∀v,o.data≠.cell v):WK C A fz e I c:=by
 have l:ws.toArray.size=e.length:=g.length;refine⟨⟨[I,a],fun i v=>ws.toArray[i]? =some v,l▸W,M_,fun b f=>?_,fun i v d m=>?_⟩,k⟩
 .exact(List.mem_cons.mp f).elim .inl fun f=> .inr ⟨_,List.mem_singleton.mp f▸j⟩
 .obtain⟨q,p,r⟩:=g.get (Nu d);obtain rfl:=Na (p.symm.trans (List.getElem?_toArray.symm.trans m));exact⟨_,Nu d,fun fz' s=>r.mono s⟩
theorem vd{t:List Nat}(g:fa t){I:Nw}{e:Nat->Og->Prop}(W:V4 pw C.w A I [I] [I] (⟨t.toArray⟩:Str).cps.size (SignAt ⟨t.toArray⟩) e)
  (j:∀i h,e i h->∃o n,h.get? I=some o/\o.cls= .type n/\n∈yq/\∀v,o.data≠.cell v):WK C A fz (t.map fun c=> .str [c]) I e:=by
 refine⟨⟨[I],_,(by simpa using W),M_,fun b k=> .inl (List.mem_singleton.mp k),fun i v _ l=>?_⟩,j⟩;obtain⟨c,u,f,rfl⟩:=l;have a:t[i]? =some c:=by simpa using f
 refine⟨.str [c],by rw[Os,a];rfl,fun fz' _=> .str [c] u ⟨by simp,fun d m=>?_⟩⟩;obtain rfl:=List.mem_singleton.mp m;exact g.2 _ (Ok a)
theorem ve(G:aw C σ fz FR s.heap)(hh:A.handled=none){pv:PV}{v:M4}(j:VR C.P fz pv v){b:List PV}(hi:uf pv=some b){Q:M4->M7->Prop}(g:∀l s',yp C A FR σ fz s b l s'->Q l s'):Nm C.M A (R7 v) Q E s:=by
 cases pv with
 |str t=>
  obtain rfl:=Na hi;obtain⟨tk,rfl,c⟩:=j.inv;cases d:(⟨t.toArray⟩:Str).cps.all (·<128)
  .exact wpAny_pyIter_wide d (g _ _ (qH G rfl (vd c (Walks.strWide hh _ _ tk) fun i h st=>yr st (by decide) fun v e=>Ql e) ⟨_,NC _ rfl,rfl,rfl⟩))
  .exact wpAny_pyIter_ascii d (g _ _ (qH G rfl (vd c (Walks.strAscii hh _ _ tk) fun i h st=>yr st (by decide) fun v e=>Ql e) ⟨_,NC _ rfl,rfl,rfl⟩))
 |tup m=>
  obtain rfl:=Na hi;obtain⟨a,ws,n,rfl,d,o,k⟩:=j.inv;have f:=G.sub _ _ d;have c:s.heap.IsTuple a ws.toArray:=⟨_,f,rfl,_,rfl⟩
  exact UM c (g _ _ (qH G rfl (vc d k (Walks.tuple hh _ a (NY (Oi f)) ws.toArray) fun i h st=>yr st.1 (by decide) fun v e=>Ql e) ⟨⟨_,NC _ rfl,rfl,rfl⟩,c.push _⟩))
 |lst m=>
  obtain rfl:=Na hi;obtain⟨a,ws,n,rfl,d,o,k⟩:=j.inv;have f:=G.sub _ _ d;have c:s.heap.IsList a ws.toArray:=⟨_,f,rfl,_,rfl⟩
  exact U3 c (g _ _ (qH G rfl (vc d k (Walks.list hh _ a (NY (Oi f)) ws.toArray) fun i h st=>yr st.1 (by decide) fun v e=>Ql e) ⟨⟨_,NC _ rfl,rfl,rfl⟩,c.push _⟩))
 |_=>exact aj hi
theorem s7(G:aw C σ fz FR s.heap)(hh:A.handled=none){r:Nw}{n:Int}{t u v:Tok}(q:n<=1048576)(c: -(2^62)<=n)(j:IsRange s.heap r 0 n 1 t u v){Q:M4->M7->Prop}
  (k:∀f s',yp C A FR σ fz s ((OG n.toNat).map fun(i:Nat)=>PV.int i) f s'->Q f s'):Nm C.M A (R7 (.ref r)) Q E s:=by
 refine wpAny_pyIter_range j (small_one (by decide) (by decide) c (by lia)) ?_;have d:Builtin.Range.rangeSize 0 n 1=(n.toNat:Int):=by rw[rangeSize_one];split<;>lia
 have g:((OG n.toNat).map fun(i:Nat)=>PV.int i).length=n.toNat:=by simp
 have W:WK C A fz ((OG n.toNat).map fun(i:Nat)=>PV.int i) s.heap.objs.size (fun i h=>IsRangeIter h s.heap.objs.size (0+(i:Nat)*1) ((n.toNat:Int)-(i:Nat)) 1):=by
  refine⟨⟨[s.heap.objs.size],fun i v=>∃t,v= .int (0+i*1) t,?_,by simp,fun b l=> .inl (by simpa using l),fun i v a m=>?_⟩,fun i h st=>⟨_,_,st,rfl,by decide,fun v e=>by cases e⟩⟩
  .rw[g];exact Walks.range (prog:=pw) (w:=C.w) hh s.heap.objs.size 0 1 n.toNat
  .obtain⟨t,rfl⟩:=m;rw[g]at a;refine⟨.int i,by simp[a],fun fz' _=>?_⟩;have:(0+(i:Int)*1)=(i:Int):=by simp
   rw[this];exact .int ..
 refine k _ _ ⟨s.heap.objs.size,_,rfl,fresh s.heap,.keep G (fun b o e=>Ng _ e),bX.new G rfl,W,?_⟩;have p:(0+((0:Nat):Int)*1)=0:=by simp
 show Heap.get? _ _=_;rw[p,show((n.toNat:Int)-((0:Nat):Int))=Builtin.Range.rangeSize 0 n 1 from by rw[d];simp];exact NC _ rfl
end
noncomputable def SI(d:Nat)(i:NL)(e:Expr)(m:ME):Prop:=∀(C:Cx)(A:NN)(f:List Nw)(env:Env)(g:ar)(σ:aa)(fz:Fz)(s:M7)(Q:List PV->aa->Prop)(X:QX)(K:M4->M7->Prop)(E:M4->M7->Prop),
 St C A f d i env g σ fz s->Em d m g σ Q X->(∀e s',PX C f σ fz s X e s'->E e s')->
 (∀h b a c fz' s₁,GS C f σ fz s c fz' s₁->yp C A f c fz' s₁ a h b->Q a c->K h b)->Nm C.M A (QU e env) (fun x s₁=>Nm C.M A (R7 x) K E s₁) E s
section
variable{d:Nat}{sc:NL}{ml:List Nat}{n:Nat}
theorem BD(i:SV d sc e m):SI d sc e (.itm m):=by intro C A j env k σ fz s Q X K E S w n o;refine Nj (i C A j env k σ fz s _ X S w) (fun v s₁ p=>?_) fun e s' h=>n e s' h;obtain⟨pv,a,c,g,r,l,t,q⟩:=p;exact ve g.2 S.fit.hand r t fun u f b=>o u f l a c s₁ g b q
theorem BE:sd v=some l->∃i,v= .int i/\(-(2^62)<=i/\i<=1048576)/\l=(OG i.toNat).map fun(i:Nat)=>PV.int i:=
 PV.casesOn (motive_1:=fun v=>sd v=some l->∃i,v= .int i/\(-(2^62)<=i/\i<=1048576)/\l=(OG i.toNat).map fun(i:Nat)=>PV.int i) v aj (fun _=>aj) (fun i h=>by refine fB h fun a b=>?_;exact⟨i,rfl,a,(Na b).symm⟩) (fun _=>aj) (fun _=>aj) (fun _=>aj) (fun _ _=>aj) (fun _=>aj) fun _ _=>aj
theorem BF(k:(x==("range":Str))=true)(y:bV sc x=true)(z:bo ml n sc .v e=some m)(D:SV d sc e m):SI d sc (.Call (.Name x p) [e] [] pos) (.rng m):=by intro C A r env F σ fz s Q X K E S w H L;have k:=beq_iff_eq.mp k;subst k;apply bc;intro g;obtain⟨b1,b2,_⟩:=qz C.P;apply g;refine Pt (fk S (bg y) b1 b2 ?_ (by decide+kernel));rw[eP z];refine QW (P:=fun _=>True) rfl (fun h _=>⟨.machine,.inr (.inl rfl),Pg rfl⟩) ?_;refine PC (Pq (Nj (D C A r env F σ fz s _ X S w) (fun v s₁ M=>?_) fun e s' h=>H e s' h));apply bc;intro g;obtain⟨pv,a,c,f,O,l,V,q⟩:=M;apply g;refine Q6 ⟨trivial,?_⟩;apply bc;intro g;obtain⟨i,rfl,hi,rfl⟩:=BE V;obtain⟨t,rfl⟩:=O.inv;apply g;apply call_range_1;have u:GS C r a c s₁ a c {s₁ with heap:=s₁.heap.push {cls:= .type "range",data:= .fields #[.int 0 s₁.toks,.int i t,.int 1 (s₁.toks+1)]},toks:=s₁.toks+1+1}:= .keep f.2 fun b o e=>Ng _ e;exact s7 u.2 S.fit.hand hi.2 hi.1 (NC _ rfl) fun W j b=>L W j _ a c _ (f.trans u) b q
end
section
variable{C:Cx}{A:NN}{FR:List Nw}{σ:aa}{fz:Fz}{s:M7}{E:M4->M7->Prop}{env:Env}{ρ:ar}{sc:NL}
structure LS(env:Env)(s s':M7):Prop where
 keep:∀b o,b≠env.locals->s.heap.get? b=some o->s'.heap.get? b=some o
 dict:∃o es n,s'.heap.get? env.locals=some o/\o.data= .dict es n
 gens:s'.gens=s.gens
 os:s'.os=s.os
theorem vf{l:List (Str×Od)}(f:(l.map (·.1)).Nodup){i j:Nat}{a b:Str}{k g:Od}(hi:l[i]? =some (a,k)) (m:l[j]? =some (b,g)) (c:i≠j):a≠b:=by
 intro e;subst e;have n:(l.map (·.1))[i]? =some a:=by rw[Os,hi];rfl
 have o:(l.map (·.1))[j]? =some a:=by rw[Os,m];rfl
 obtain⟨a1,d⟩:=List.getElem?_eq_some_iff.mp n;obtain⟨b1,b2⟩:=List.getElem?_eq_some_iff.mp o;have pw:=List.pairwise_iff_getElem.mp f;rcases Nat.lt_or_gt_of_ne c with h|h
 .exact pw i j a1 b1 h (d.trans b2.symm)
 .exact pw j i b1 a1 h (b2.trans d.symm)
theorem dc(x:LR C FR env ρ σ fz s.heap)(f:env.scope=sc)(F:HE sc){i:Nat}{n:Str}(hi:sc.names[i]? =some (n,.local)) {pv:PV} {v:M4} (z:VR C.P fz pv v) {Q:Unit->M7->Prop}
  (D:∀s',LS env s s'->LR C FR env (ρ.set i (some pv)) σ fz s'.heap->Q () s'):Nm C.M A (storeName env n v) Q E s:=by
 apply bc;intro g;obtain⟨⟨m,H,K⟩,L,O,V,W⟩:=x;apply g;have X:env.scope.kind= .function:=by rw[f];exact F.kind
 have Y:env.kindOf n=some .local:=by unfold Pu;rw[f];exact aF F.nd hi
 refine wpAny_storeName_local Y H (fun h' k l=>D _ ⟨fun b o Z e=>(l.2 b Z).trans e,?_,rfl,rfl⟩ ⟨⟨_,k,fun j w d=>?_⟩,L,O,V,fun hf j n' d p=>?_⟩) (by rw[X];rfl)
 .apply bc;intro g;obtain⟨o,es,ep,ho,hd,_⟩:=k;apply g;exact⟨o,es,ep,ho,hd⟩
 .by_cases e:j=i
  .subst e;have h:j<ρ.length:=by
    have:=(List.getElem?_eq_some_iff.mp d).1
    simpa using this
   have:pv=w:=by rw[Qg h]at d;simpa using d
   subst this;exact⟨n,.local,by rw[f];exact hi,.inl ⟨rfl,v,by simp,z⟩⟩
  .rw[RS (NT e)]at d;apply bc;intro g;obtain⟨t,k1,q,r⟩:=K j w d;apply g;refine⟨t,k1,q,r.imp (fun⟨a,y,b,c⟩=>⟨a,y,?_,c⟩) id⟩;have:t≠n:=by rw[f]at q;exact vf F.nd q hi e
   simp[this,b]
 .by_cases e:j=i
  .subst e;have h:j<ρ.length:=by
    have:=(List.getElem?_eq_some_iff.mp d).1
    simpa using this
   rw[Qg h]at d;cases d
  .rw[RS (NT e)]at d;apply bc;intro g;obtain⟨c,q,⟨o,r,h3⟩,h4,h5,h6,u⟩:=W hf j n' d p;apply g;exact⟨c,q,⟨o,(l.2 c u).trans r,h3⟩,h4,h5,h6,u⟩
theorem LS.trans{s₁ c:M7}(a:LS env s s₁)(b:LS env s₁ c):LS env s c:=⟨fun x o h e=>b.keep x o h (a.keep x o h e),b.dict,b.gens.trans a.gens,b.os.trans a.os⟩
theorem LR.keep{h':Og}(x:LR C FR env ρ σ fz s.heap)(d:∀b o,s.heap.get? b=some o->h'.get? b=some o):LR C FR env ρ σ fz h':=by obtain⟨⟨m,e,f⟩,g,h,i,k⟩:=x;exact⟨⟨m,e.keeps d,f⟩,g,h,i,fun l j n p a=>by obtain⟨c,q,⟨o,t,u⟩,r⟩:=k l j n p a;exact⟨c,q,⟨o,d _ _ t,u⟩,r⟩⟩
theorem nf{b a:ar}{i:Nat}{c:List Nat}{vs:List PV}(h:xz b (i::c) vs=some a):∃v r,vs=v::r/\xz (b.set i (some v)) c r=some a:=by
 cases vs with
 |nil=>exact aj h
 |cons v r=>exact⟨v,r,rfl,h⟩
theorem qI(h:xz b [] vs=some a):vs=[]/\a=b:=by
 cases vs with
 |nil=>exact⟨rfl,(Na h).symm⟩
 |cons v r=>exact aj h
theorem s8(g:env.scope=sc)(F:HE sc)(es:List Expr):∀(d:List Nat)(a:List PV)(vs:List M4)(f b:ar)(s:M7),dh (kk sc) es=some d->xz f d a=some b->aL C.P fz a vs->LR C FR env f σ fz s.heap->(∃o es n,s.heap.get? env.locals=some o/\o.data= .dict es n)->
  Nm C.M A (assignInOrder ((Tz es env).map (·.2)) vs) (fun _ s'=>LS env s s'/\LR C FR env b σ fz s'.heap) E s:=by
 induction es with
 |nil=>
  intro d a vs f b s i c q x r;injection i with z0;subst z0
  apply bc;intro k;obtain⟨rfl,rfl⟩:=qI c;apply k;exact Nf ⟨⟨fun _ _ _ h=>h,r,rfl,rfl⟩,x⟩
 |cons e es w=>intro d a vs f b s i c q x r;apply bc;intro k;refine uw i fun j l y D H=>?_;subst H;obtain⟨nm,ps,rfl,_,K⟩:=jg y;obtain⟨pv,a,rfl,c⟩:=nf c;obtain⟨v,vs,rfl,m,p⟩:=q.inv;apply k;refine M2 (OA (SH (dc x g F K m fun s₁ t L=>?_)));exact Nj (w l a vs _ b s₁ D c p L t.dict) (fun _ u z=>⟨t.trans z.1,z.2⟩) fun _ _ z=>z
theorem jv(es:List Expr)(env:Env):(Tz es env).length=es.length:=by
 induction es with
 |nil=>rfl
 |cons e es a=>cases e<;>exact Np (·+1) a
theorem fo{b c:Type}{f:b->Option c}{l:List b}:∀{r:List c},dh f l=some r->r.length=l.length:=by
 induction l with
 |nil=>intro r h;injection h with z0;subst z0;rfl
 |cons a l d=>intro r h;refine uw h fun m ms _ e g=>?_;subst g;exact Np (·+1) (d e)
theorem yu{b:List Nat}:∀{vs:List PV}{c a:ar},xz c b vs=some a->b.length=vs.length:=by
 induction b with
 |nil=>intro vs c a h;obtain rfl:=(qI h).1;rfl
 |cons i b d=>intro vs c a h;obtain⟨v,r,rfl,h⟩:=nf h;exact Np (·+1) (d h)
theorem vg{c b:ar}{a:List Nat}(hi:2<=a.length){v:PV}(h:oP c a v=some b):∃vs,v= .tup vs/\xz c a vs=some b:=by
 cases a with
 |nil=>cases hi
 |cons i a=>
  cases a with
  |nil=>exact absurd hi (TW 1)
  |cons j a=>cases v<;>first|exact aj h|exact⟨_,rfl,h⟩
theorem j8{b:NL}(c:dh (kk b) es=some a)(env:Env):(Tz es env).findIdx? (·.1)=none:=by
 induction es generalizing a with
 |nil=>rfl
 |cons e es d=>apply bc;intro f;refine uw c fun j g h i _=>?_;obtain⟨nm,ps,rfl,_,k⟩:=jg h;apply f;show List.findIdx? (·.1) ((false,_)::Tz es env)=none;rw[T8,d i];rfl
theorem lx(S:St C A FR d sc env ρ σ fz s){t:Expr}{n:List Nat}(f:dM sc t=some n){pv:PV}{v:M4}(u:VR C.P fz pv v){g:ar}(w:oP ρ n pv=some g):
  Nm C.M A (V2 t env v) (fun _ s'=>LS env s s'/\LR C FR env g σ fz s'.heap) E s:=by
 have F:=ko S.ok;cases t
 case Name x p=>
  apply bc;intro h;refine cn f fun i K L=>?_;subst L;obtain⟨nm,ps,e,_,l⟩:=jg K;apply h;injection e with z0 z1;subst z0 z1
  injection w with z0;subst z0
  exact SH (dc S.lr S.scE F l u fun s' a b=>⟨a,b⟩)
 case Tuple es k p=>
  apply bc;intro h;refine fB (show(if 2<=es.length then dh (kk sc) es else none)=some n from f) fun O f=>?_;have c:=fo f;obtain⟨vs,rfl,j⟩:=vg (c▸O) w;obtain⟨a,ws,nn,rfl,Q,V,y⟩:=u.inv;apply h;refine wpAny_assign_Tuple S.fit.hand (⟨_,S.good.sub _ _ Q,rfl,_,rfl⟩:s.heap.IsTuple a ws.toArray) (by rw[jv,←c,yu j];exact y.length.symm) (j8 f env) fun h' W=>?_;have l:∀b o,s.heap.get? b=some o->h'.get? b=some o:=fun b o e=>W b o (NY (Oi e)) e;have D:=S.lr.keep l;apply bc;intro h;obtain⟨m,⟨o,q,X,r,Y,_⟩,_⟩:=D.ns;apply h;exact Nj (s8 S.scE F es _ _ ws ρ g {s with heap:=h'} f j y D ⟨o,q,X,r,Y⟩) (fun _ H z=>⟨⟨fun b o Z e=>z.1.keep b o Z (l b o e),z.1.dict,z.1.gens,z.1.os⟩,z.2⟩) fun _ _ z=>z
 all_goals exact aj f
end
set_option tactic.hygienic false
theorem GS.adoptF{C:Cx}{σ d:aa}{fz c:Fz}{s s₁:M7}(g:GS C i σ fz s d c s₁)(l:s.heap.get? D=none)(j:bX D i d c s₁.heap){o:Obj}(n:s₁.heap.get? D=some o):
  GS C i σ fz s d (c.ext D o) s₁:=by
 have ex:∀b o',c b=some o'->c.ext D o b=some o':=fun b o' h=>by
  have:b≠D:=fun e=>by rw[e,j.f]at h;exact aj h
  simp[Fz.ext,this,h]
 refine⟨⟨fun a o h=>ex a o (g.1.fzk a o h),g.1.keep,g.1.frk,g.1.lk,g.1.ledn,fun b h=>?_,g.1.gens,g.1.os⟩,fun b o' h=>ex b o' (g.2.base b o' h),fun b o' h=>?_,fun b h=>?_,fun b m h=>?_⟩
 .by_cases e:b=D
  .exact .inr (.inr (e▸l))
  .simp only[Fz.ext,e,RI]at h;exact g.1.fzn b h
 .by_cases e:b=D
  .subst e;simp[Fz.ext]at h;subst h;exact n
  .simp only[Fz.ext,e,RI]at h;exact g.2.sub b o' h
 .apply bc;intro k;obtain⟨x,y,r⟩:=g.2.fr b h;apply k;have e:b≠D:=fun e=>j.r (e▸h);exact⟨by simp[Fz.ext,e,x],y,r⟩
 .apply bc;intro k;obtain⟨x,o',p,q⟩:=g.2.led b m h;apply k;have e:b≠D:=fun e=>by rw[e,j.s]at h;exact aj h
  exact⟨by simp[Fz.ext,e,x],o',p,q.mono ex⟩
section
variable{C:Cx}{A:NN}{FR:List Nw}{σ:aa}{fz:Fz}{s:M7}{E:M4->M7->Prop}{env:Env}{ρ:ar}{sc:NL}{d:Nat}{ml:List Nat}{n:Nat}
theorem ng{a:M4->M7->Prop}{s':M7}(h:PX C FR σ fz s (fun _ _=>False) e s'):a e s':=by obtain⟨_,_,_,_,_,h⟩:=h;exact h.elim
theorem nh(l:List Expr){K:Bool->M7->Prop}(k:K false s):Nm C.M A (forIn l false fun c r=>if r=true then do let a ←isTrue c env (QU c env);OD (OL a)else OD (OL r)) K E s:=by
 induction l with
 |nil=>exact Nf k
 |cons x l b=>rw[SG];exact M2 (Nf b)
theorem s9(f:List Expr):∀(ms:List ME)(_:∀(i:Nat)(e:Expr)(m:ME),f[i]? =some e->ms[i]? =some m->ST d sc e m) (_:f.length=ms.length) {l:ar} {σ:aa} {fz:Fz} {s:M7} {Q:Bool->aa->Prop}
  (S:St C A FR d sc env l σ fz s) (w:ja d ms l σ Q (fun _ _=>False)) (b:Bool),(b=false->Q false σ)->
  Nm C.M A (forIn f b fun c r=>if r=true then do let v ←isTrue c env (QU c env);OD (OL v)else OD (OL r)) (PK C FR σ fz s sq (fun r n=>if b=true then Q r n else Q false n)) E s:=by
 induction f with
 |nil=>
  intro ms o a l σ fz s Q S w b p;cases ms with
  |cons _ _=>exact aK (beq_iff_eq.mpr a)
  |nil=>
  refine Nf (aX S.good rfl ?_);cases b with
  |true=>exact w
  |false=>exact p rfl
 |cons c cs x=>
  intro ms o a l σ fz s Q S w b p;cases ms with
  |nil=>exact aK (beq_iff_eq.mpr a)
  |cons m ms=>
  cases b with
  |false=>exact nh (c::cs) (aX S.good (b:=false) rfl (p rfl))
  |true=>
   rw[SG];refine M2 (M2 (Nj (o 0 c m rfl rfl C A FR env l σ fz s _ _ S w) (fun t s₁ y=>?_) fun _ _ z=>ng z));obtain⟨D,j,k,g,rfl,q⟩:=y;apply Nf;cases D with
   |true=>exact Nj (x ms (fun i=>o (i+1)) (Pj a) (S.step g) q true df) (fun r u h=>h.via g) fun _ _ z=>z
   |false=>exact nh cs ⟨false,j,k,g,rfl,q⟩
theorem ly{prog:Pr}{w:OU}{R:R9->M7->Prop}{l a iter:Expr}{o:List Expr}{scope:NL}{pos:Pos}{C acc:M4}{env:Env}(I:Nat->M7->Prop)
  (q:∀n s,I n s->Nm (N6 prog w) A (Sy C) (fun r s₁=>match r with
   |none=>R (.ok .next) s₁
   |some v=>Nm (N6 prog w) A (Q2 a C v) (fun _ b=>Nm (N6 prog w) A (V2 a env v) (fun _ f=>
     Nm (N6 prog w) A (forIn o true fun c r=>if r=true then do let t ←isTrue c env (QU c env);OD (OL t)else OD (OL r)) (fun t d=>
      if t=true then Nm (N6 prog w) A (QU l env) (fun x g=>
       Nm (N6 prog w) A (PZ (.builtin "list.append") [acc,x]) (fun _ i=>∃m,m<n/\I m i) (SM (N6 prog w) A env fun e s'=>R (.error e) s') g) (SM (N6 prog w) A env fun e s'=>R (.error e) s') d
      else ∃m,m<n/\I m d) (SM (N6 prog w) A env fun e s'=>R (.error e) s') f) (SM (N6 prog w) A env fun e s'=>R (.error e) s') b) (SM (N6 prog w) A env fun e s'=>R (.error e) s') s₁) (SM (N6 prog w) A env fun e s'=>R (.error e) s') s)
  (n:Nat) (h:I n s):PY (N6 prog w) A (.compLoop (.ListComp l [⟨a,iter,o,0⟩] scope pos) 0 C acc env) R s:=by
 refine codeAny_loop rfl I (fun n s D=>?_) n h;show Nm _ A ((compTurn (.ListComp l [⟨a,iter,o,0⟩] scope pos) 0 C acc env).onRaise (fun x=>do Sd x env;theTreesLotGoes x)) _ _ s;apply wpAny_noted;rw[compTurn_list];refine M2 (O0 (M2 (Nj (q n s D) (fun r s₁ j=>?_) fun _ _ h'=>h')));cases r with
 |none=>exact Nf j
 |some v=>
  refine M2 (Nj j (fun _ b p=>?_) fun _ _ h'=>h');refine M2 (Nj p (fun _ f u=>M2 (Nj u (fun t d k=>?_) fun _ _ h'=>h')) fun _ _ h'=>h');cases t with
  |false=>exact Nf ⟨rfl,k⟩
  |true=>exact M2 (M2 (Nj k (fun x g y=>M2 (Nj y (fun _ i z=>Nf (Nf ⟨rfl,z⟩)) fun _ _ h'=>h')) fun _ _ h'=>h'))
theorem s_(t:Expr)(a v:M4):Q2 t a v=OD ()\/Q2 t a v=Q2 (.List [] default) a v:=by cases t<;>first|exact .inl rfl|exact .inr rfl
theorem BG(a:nm∈["list_iterator","tuple_iterator","range_iterator","str_ascii_iterator","str_iterator"]):(["enumerate","zip","dict_itemiterator","dict_reverseitemiterator","odict_iterator","itertools.zip_longest","itertools.pairwise"].contains nm)=false:=
 (show ∀nm∈["list_iterator","tuple_iterator","range_iterator","str_ascii_iterator","str_iterator"],(["enumerate","zip","dict_itemiterator","dict_reverseitemiterator","odict_iterator","itertools.zip_longest","itertools.pairwise"].contains nm)=false by decide+kernel) nm a
theorem vh{Z8:List PV}{I:Nw}{ZZ:Nat->Og->Prop}(W:WK C A fz Z8 I ZZ){i:Nat}(st:ZZ i s.heap){t:Expr}{v:M4}{Q:Unit->M7->Prop}(hQ:Q () s):Nm C.M A (Q2 t (.ref I) v) Q E s:=by
 obtain⟨o,nm,ho,hc,hm,_⟩:=W.k i s.heap st;rcases s_ t (.ref I) v with e|e
 .rw[e];exact Nf hQ
 .rw[e];cases v with
  |ref a=>
   refine M2 (wpAny_load ho ?_);rw[hc];generalize o.data=dd;cases dd with
   |fields vs=>exact QT (M5 (by rw[BG hm];exact Pm)) hQ
   |_=>exact Nf hQ
  |_=>exact Nf hQ
noncomputable def j9(cells:List (Str×Nw)):List (Str×Od)->List (Str×Nw)->List (Str×Nw)
 |[],acc=>acc
 |(n,k)::r,acc=>j9 cells r (if k== .free then(match cells.lookup n with|some c=>(n,c)::acc|none=>acc)else acc)
theorem ft(cells:List (Str×Nw))(n:Str)(k:Od)(r:List (Str×Od))(acc:List (Str×Nw)):j9 cells ((n,k)::r) acc=j9 cells r (if k== .free then(match cells.lookup n with|some c=>(n,c)::acc|none=>acc)else acc):=rfl
theorem pi(isc:NL)(h:∀n,(n,PM)∈isc.names->(env.cells.lookup n).isSome=true):closureFor isc env=OD (j9 env.cells isc.names []):=by
 have d:∀(l:List (Str×Od))(acc:List (Str×Nw)),(∀n,(n,PM)∈l->(env.cells.lookup n).isSome=true)->
   (forIn l acc fun(x:Str×Od) r=>if x.2== .free then(do let a ←V1 env x.1;OD (OL ((x.1,a)::r)))else OD (OL r):Sem (List (Str×Nw)))=OD (j9 env.cells l acc):=by
  intro l;induction l with
  |nil=>intro acc _;rfl
  |cons a l g=>
   intro acc i;obtain⟨nm,k⟩:=a;rw[SG];have b:=fun n m=>i n (Nb _ m);cases f:k==PM with
   |true=>
    obtain rfl:=beq_iff_eq.mp f;refine DL (i nm M_) fun c j=>?_;have o:V1 env nm=OD c:=by unfold V1;rw[j]
    rw[M8 rfl,o,pure_bind,pure_bind];refine(g _ b).trans ?_;rw[ft,M8 f,j]
   |false=>rw[M5 Pm,pure_bind];refine(g _ b).trans ?_;rw[ft,M5 (by rw[f];exact Pm)]
 have e:closureFor isc env=(forIn isc.names [] (fun(x:Str×Od) r=>if x.2== .free then(do let a ←V1 env x.1;OD (OL ((x.1,a)::r)))else OD (OL r):Str×Od->List (Str×Nw)->Sem (ForInStep (List (Str×Nw))))>>=fun r=>OD r):=rfl;rw[e,d isc.names [] h];rfl
theorem hZ{cells:List (Str×Nw)}:∀(l:List (Str×Od))(acc:List (Str×Nw))(nm:Str)(c:Nw),(l.map (·.1)).Nodup->(nm,PM)∈l->cells.lookup nm=some c->(j9 cells l acc).lookup nm=some c:=by
 have d:∀(l:List (Str×Od))(acc:List (Str×Nw))(nm:Str),nm∉l.map (·.1)->(j9 cells l acc).lookup nm=acc.lookup nm:=by
  intro l;induction l with
  |nil=>intro acc nm _;rfl
  |cons a l f=>
   intro acc nm b;obtain⟨i,k⟩:=a;simp only[NO,Rb,not_or]at b;rw[ft,f _ nm b.2];cases k==PM with
   |false=>rfl
   |true=>
    cases cells.lookup i with
    |none=>rfl
    |some c=>exact(OH ..).trans (by rw[beq_eq_false_iff_ne.mpr b.1])
 intro l;induction l with
 |nil=>intro acc nm c _ h;cases h
 |cons a l f=>
  intro acc nm c g b j;obtain⟨i,k⟩:=a;rw[NO,Pd]at g;rcases List.mem_cons.mp b with e|b
  .injection e with z0 z1;subst z0 z1
   rw[ft,d l _ nm g.1,j];exact(OH ..).trans (by rw[Nx])
  .exact f _ nm c g.2 b j
theorem tc{a:NL}{x:Str×Od}{j:Nat}(h:xS a x=some (some j)):x.2= .free/\a.names[j]? =some (x.1,.cell):=by
 obtain⟨nm,k⟩:=x;cases k
 case free=>
  refine bE h fun i hi h=>?_;refine fB h fun b c=>?_;cases c;exact⟨rfl,beq_iff_eq.mp b⟩
 all_goals first|exact aj h|exact aj (Na h)
theorem yv{d:NL}:∀{c:List (Option Nat)},dh (xS d) names=some c->∀(i:Nat)(j:Nat),c[i]? =some (some j)->∃n,names[i]? =some (n,.free)/\d.names[j]? =some (n,.cell):=by
 induction names with
 |nil=>intro c h i j e;injection h with z0;subst z0;exact aj e
 |cons x r f=>
  intro c h i j e;refine uw h fun m ms g k l=>?_;subst l;cases i with
  |succ i=>exact f k i j e
  |zero=>
   obtain rfl:=(Na e)
   obtain⟨a,b⟩:=tc g;exact⟨x.1,by rw[←a];rfl,b⟩
theorem vi{b:NL}:∀{a:List (Option Nat)},dh (xS b) names=some a->∀(n:Str),(n,PM)∈names->∃j:Nat,b.names[j]? =some (n,Ow):=by
 induction names with
 |nil=>intro a h n c;cases c
 |cons x r f=>
  intro a h n c;apply bc;intro d;refine uw h fun m ms e g k=>?_;subst k;apply d;rcases List.mem_cons.mp c with rfl|c
  .apply bc;intro d;refine bE e fun i hi e=>?_;apply d;exact⟨i,beq_iff_eq.mp (ld e).1⟩
  .exact f g n c
theorem yw(hs:env.scope=sc)(a:sc.kind= .function)(isc:NL):relabel isc env=bW sc isc:=by
 unfold relabel bW
 congr 1
 apply OR;intro x b;obtain⟨nm,k⟩:=x;unfold Pu;rw[hs,a];rfl
structure CL(C:Cx)(A:NN)(FR:List Nw)(d:Nat)(ZF:NL)(Z3:Env)(Z8:List PV)(I D:Nw)(ZZ:Nat->Og->Prop)(ZI:Fz)(ZP:aa)(ZH:Fz)(s0:M7)(i:Nat)(ρ:ar)(acc:List PV)(σ:aa)(fz:Fz)(s:M7):Prop where
 g:GS C FR ZP ZH s0 σ fz s
 st:St C A FR d ZF Z3 ρ σ fz s
 sta:ZZ i s.heap
 fzk:∀a o,ZI a=some o->fz a=some o
 oI:bX I FR σ fz s.heap
 oD:bX D FR σ fz s.heap
 oL:bX Z3.locals FR σ fz s.heap
 ac:∃ws n,s.heap.get? D=some (bG "list" ws.toArray n)/\aL C.P fz acc ws
 la:fb acc
theorem CL.step{j:NL}{c:Env}{b:List PV}{I D:Nw}{e:Nat->Og->Prop}{f:Fz}{k:aa}{l:Fz}{s0:M7}{i:Nat}{p:ar}{acc:List PV}{σ m:aa}{fz fz':Fz}{s s':M7}
  (W:WK C A f b I e) (x:CL C A FR d j c b I D e f k l s0 i p acc σ fz s) (g:GS C FR σ fz s m fz' s'):CL C A FR d j c b I D e f k l s0 i p acc m fz' s':=by
 apply bc;intro q;obtain⟨r,t⟩:=x.oI.step g;obtain⟨u,v⟩:=x.oD.step g;obtain⟨w,E⟩:=x.oL.step g;obtain⟨ws,n,y,z⟩:=x.ac;apply q;exact⟨x.g.trans g,x.st.step g,W.frame x.sta t (fun a o h=>g.2.sub a o (g.1.fzk a o (x.fzk a o h))) (fun a o h=>x.st.good.sub a o (x.fzk a o h)),fun a o h=>g.1.fzk a o (x.fzk a o h),r,u,w,⟨ws,n,v _ y,z.mono g.1.fzk⟩,x.la⟩
theorem LR.but{I:Nw}{h':Og}(x:LR C FR env ρ σ fz s.heap)(f:I≠env.locals)(a:env.func=none\/∀o v,s.heap.get? I=some o->o.data≠.cell v)(h:∀b o,b≠I->s.heap.get? b=some o->h'.get? b=some o):LR C FR env ρ σ fz h':=by
 apply bc;intro g;obtain⟨⟨m,n,p⟩,q,t,u,w⟩:=x;apply g;refine⟨⟨m,n.extBut h (NT f),p⟩,q,t,u,fun i j y z d=>?_⟩;apply bc;intro g;obtain⟨c,A,⟨o,k,l⟩,r⟩:=w i j y z d;apply g;refine⟨c,A,⟨o,h _ _ (fun e=>?_) k,l⟩,r⟩;rcases a with a|a
 .exact i a
 .exact a o _ (e▸k) l
noncomputable def cB(d:Nat)(f:List ME)(g:ME):ar->aa->(Option PV->aa->Prop)->Prop:=fun c e K=>ja d f c e (fun h a=>match h with
    |true=>cR d g c a (fun v b=>K (some v) b) (fun _ _=>False)
    |false=>K Option.none a) (fun _ _=>False)
section
variable{ZF:NL}{Z3:Env}{Z8:List PV}{I D:Nw}{ZZ:Nat->Og->Prop}{ZI:Fz}{ZP:aa}{ZH:Fz}{s0:M7}{i:Nat}{acc:List PV}
inductive HN(C:Cx)(A:NN)(FR:List Nw)(d:Nat)(ZF:NL)(Z3:Env)(Z8:List PV)(I D:Nw)(ZZ:Nat->Og->Prop)(ZI:Fz)(ZP:aa)(ZH:Fz)(s0:M7)(mi:List ME)(me:ME)(is:List Nat)(Qf:List PV->aa->Prop)(k:Nat)(s':M7):Prop
 |mk (i:Nat) (ρ:ar) (acc:List PV) (σ:aa) (fz:Fz) (e:k=Z8.length+1-i) (hi:i<=Z8.length) (x:CL C A FR d ZF Z3 Z8 I D ZZ ZI ZP ZH s0 i ρ acc σ fz s') (w:dK (cB d mi me) is (Z8.drop i) ρ acc σ Qf)
theorem yx(hi:i<=n):n+1-(i+1)<n+1-i:=by rw[TP,Vq hi];exact NR _
theorem CL.mv(W:WK C A ZI Z8 I ZZ)(x:CL C A FR d ZF Z3 Z8 I D ZZ ZI ZP ZH s0 i ρ acc σ fz s)(h0:s0.heap.get? I=none/\ZP I=none)(e:I≠D)(h:I≠Z3.locals)(p:Z3.func=none){a:Og}
 (j:ZZ (i+1) a) (l:∀b o,b≠I->s.heap.get? b=some o->a.get? b=some o):CL C A FR d ZF Z3 Z8 I D ZZ ZI ZP ZH s0 (i+1) ρ acc σ fz {s with heap:=a,toks:=tk}:=by
 have c:GS C FR ZP ZH s0 σ fz {s with heap:=a,toks:=tk}:=x.g.touch h0.1 h0.2 x.oI l;apply bc;intro q;obtain⟨o,_,u,_⟩:=W.k _ _ j;obtain⟨y,v⟩:=x.oL.t;obtain⟨ws,w,n,m⟩:=x.ac;apply q;exact⟨c,⟨x.st.fit,x.st.scE,x.st.gl,x.st.bi,x.st.ok,c.2,LR.but x.st.lr h (.inl p) l⟩,j,x.fzk,⟨x.oI.s,x.oI.f,x.oI.r,⟨o,u⟩⟩,⟨x.oD.s,x.oD.f,x.oD.r,⟨_,l _ _ (NT e) n⟩⟩,
  ⟨x.oL.s,x.oL.f,x.oL.r,⟨_,l _ _ (NT h) v⟩⟩,⟨ws,w,l _ _ (NT e) n,m⟩,x.la⟩
theorem CL.laid(W:WK C A ZI Z8 I ZZ)(x:CL C A FR d ZF Z3 Z8 I D ZZ ZI ZP ZH s0 i ρ acc σ fz s)(h0:s0.heap.get? Z3.locals=none/\ZP Z3.locals=none)(j:I≠Z3.locals)(k:D≠Z3.locals){b:M7}
 (z:LS Z3 s b/\LR C FR Z3 l σ fz b.heap):CL C A FR d ZF Z3 Z8 I D ZZ ZI ZP ZH s0 i l acc σ fz b:=by
 have e:=z.1;have c:GS C FR ZP ZH s0 σ fz b:=x.g.touch h0.1 h0.2 x.oL e.keep e.gens e.os;apply bc;intro q;obtain⟨v,n⟩:=x.oI.t;obtain⟨o,_,_,h,_⟩:=e.dict;obtain⟨ws,u,p,m⟩:=x.ac;apply q;exact⟨c,⟨x.st.fit,x.st.scE,x.st.gl,x.st.bi,x.st.ok,c.2,z.2⟩,W.frame x.sta (fun o h=>e.keep _ _ j h) (fun a o h=>c.2.sub a o (x.fzk a o h)) fun a o h=>x.g.2.sub a o (x.fzk a o h),x.fzk,⟨x.oI.s,x.oI.f,x.oI.r,⟨_,e.keep _ _ j n⟩⟩,
  ⟨x.oD.s,x.oD.f,x.oD.r,⟨_,e.keep _ _ k p⟩⟩,⟨x.oL.s,x.oL.f,x.oL.r,⟨o,h⟩⟩,⟨ws,u,e.keep _ _ k p,m⟩,x.la⟩
theorem CL.push(W:WK C A ZI Z8 I ZZ)(x:CL C A FR d ZF Z3 Z8 I D ZZ ZI ZP ZH s0 i ρ acc σ fz s)(h0:s0.heap.get? D=none/\ZP D=none)(l:I≠D)(p:D≠Z3.locals)(E:Z3.func=none){y:M4}{z:PV}(F:VR C.P fz z y)
  {ws:List M4} {n:Nat} (H:s.heap.get? D=some (bG "list" ws.toArray n)) (q:aL C.P fz acc ws) (K:acc.length<1048576):CL C A FR d ZF Z3 Z8 I D ZZ ZI ZP ZH s0 i ρ (acc++[z]) σ fz {s with heap:=s.heap.update D (O4 fun x=>x.push y)}:=by
 apply bc;intro u;obtain⟨m,e⟩:∃L,O4 (fun x=>x.push y) (bG "list" ws.toArray n)=bG "list" (ws++[y]).toArray L:=⟨_,by unfold O4;simp;rfl⟩
 apply u;have h:(s.heap.update D (O4 fun x=>x.push y)).get? D=some (bG "list" (ws++[y]).toArray m):=by rw[←e];exact NU _ H (by rw[e];rfl)
 have c:∀b o,b≠D->s.heap.get? b=some o->(s.heap.update D (O4 fun x=>x.push y)).get? b=some o:=fun b o M k=>by rw[NX _ _ (NT M)];exact k
 have j:GS C FR ZP ZH s0 σ fz {s with heap:=s.heap.update D (O4 fun x=>x.push y)}:=x.g.touch h0.1 h0.2 x.oD c;apply bc;intro u;obtain⟨O,v⟩:=x.oI.t;obtain⟨Q,w⟩:=x.oL.t;apply u;exact⟨j,⟨x.st.fit,x.st.scE,x.st.gl,x.st.bi,x.st.ok,j.2,LR.but x.st.lr p (.inl E) c⟩,W.frame x.sta (fun o k=>c _ _ l k) (fun a o k=>j.2.sub a o (x.fzk a o k)) (fun a o k=>x.g.2.sub a o (x.fzk a o k)),x.fzk,
  ⟨x.oI.s,x.oI.f,x.oI.r,⟨_,c _ _ l v⟩⟩,⟨x.oD.s,x.oD.f,x.oD.r,⟨_,h⟩⟩,⟨x.oL.s,x.oL.f,x.oL.r,⟨_,c _ _ (NT p) w⟩⟩,⟨ws++[y],m,h,q.append (.cons F .nil)⟩,by
   unfold fb;rw[M3];exact M1 (Nat.succ_le_of_lt K) (by decide)⟩
theorem td(W:WK C A ZI Z8 I ZZ)
  {a5 a6 iter:Expr} {E:List Expr} {isc:NL} {pos:Pos} {is:List Nat} {me:ME} {mi:List ME} (ht:dM ZF a5=some is) (ie:SV d ZF a6 me)
  (ii:∀(i:Nat)(e:Expr)(m:ME),E[i]? =some e->mi[i]? =some m->ST d ZF e m) (a8:E.length=mi.length) (hf:Z3.func=none)
  (H:I≠D) (K:I≠Z3.locals) (a9:D≠Z3.locals) (h0:∀a,a=I\/a=D\/a=Z3.locals->s0.heap.get? a=none/\ZP a=none)
  {Qf:List PV->aa->Prop} {R:R9->M7->Prop}
  (hR:∀acc σ fz s',GS C FR ZP ZH s0 σ fz s'->bX D FR σ fz s'.heap->bX Z3.locals FR σ fz s'.heap->(∃m,s'.heap.Ns Z3.locals m)->(∃ws n,s'.heap.get? D=some (bG "list" ws.toArray n)/\aL C.P fz acc ws)->fb acc->Qf acc σ->R (.ok .next) s')
  (x:CL C A FR d ZF Z3 Z8 I D ZZ ZI ZP ZH s0 i ρ acc σ fz s) (hi:i<=Z8.length)
  (w:dK (cB d mi me) is (Z8.drop i) ρ acc σ Qf):
  PY C.M A (.compLoop (.ListComp a6 [⟨a5,iter,E,0⟩] isc pos) 0 (.ref I) (.ref D) Z3) R s:=by
 refine ly (HN C A FR d ZF Z3 Z8 I D ZZ ZI ZP ZH s0 mi me is Qf) ?_ (Z8.length+1-i) ⟨i,ρ,acc,σ,fz,rfl,hi,x,w⟩;clear w x hi;intro k s z;cases z with
 |mk i ρ acc σ fz e hi x w=>
 subst e;by_cases h:i<Z8.length
 .rw[OS h]at w;apply bc;intro X;obtain⟨Y,L,b6,w⟩:=w;apply X;refine W.next (fz':=fz) x.fzk x.sta h fun v pv c8 tk Z rv a0 O=>?_;rw[Nu h]at Z;have j:=x.mv W (h0 I (.inl rfl)) H K hf (tk:=tk) a0 O;clear O x hR;refine vh W (i:=i+1) a0 (Nj (lx j.st ht rv (by rw[←Na Z];exact L)) (fun _ d3 zz=>?_) fun _ _ z=>z);have l:=j.laid W (h0 _ (.inr (.inr rfl))) K a9 zz;refine Nj (s9 E mi ii a8 l.st w true (fun e=>aK (beq_iff_eq.mpr e))) (fun ok b7 zz=>?_) fun _ _ z=>z;apply bc;intro X;obtain⟨pt,o,p,Q,rt,q⟩:=zz;apply X;have u:=l.step W Q;have lt:=yx hi;clear zz l j Q rv Z L a0;have e:pt=ok:=rt;subst e;cases pt with
  |false=>exact⟨Z8.length+1-(i+1),lt,i+1,Y,acc,o,p,rfl,h,u,q⟩
  |true=>refine Nj (ie C A FR Z3 Y o p b7 _ _ u.st q) (fun y d6 zz=>?_) fun _ _ z=>ng z;apply bc;intro X;obtain⟨py,a1,a2,b8,ry,b9⟩:=zz;have V:=u.step W b8;obtain⟨a3,c0,c,b⟩:=V.ac;apply X;exact RX PySem.F.slot_list_append ⟨_,c,rfl⟩ PySem.F.entry_list_append (PySem.F.args_list_append_2 _ _) (list_append D a3.toArray c0 y (eS (M1 (ND b.length) (NQ b6)))) ⟨c,Z8.length+1-(i+1),lt,i+1,Y,acc++[py],a1,a2,rfl,h,V.push W (h0 D (.inr (.inl rfl))) H a9 hf ry c b b6,b9⟩
 .obtain rfl:=QH hi (Nat.not_lt.mp h);rw[Rk]at w;refine W.done x.sta fun h' tk O=>?_;apply bc;intro X;obtain⟨m,hm,_⟩:=x.st.lr.ns;obtain⟨oL,hL⟩:=x.oL.t;obtain⟨ws,nD,hD,c1⟩:=x.ac;apply X;exact hR acc σ fz _ (x.g.touch (h0 I (.inl rfl)).1 (h0 I (.inl rfl)).2 x.oI O) ⟨x.oD.s,x.oD.f,x.oD.r,⟨_,O _ _ (NT H) hD⟩⟩ ⟨x.oL.s,x.oL.f,x.oL.r,⟨_,O _ _ (NT K) hL⟩⟩ ⟨m,hm.extBut O (NT K)⟩ ⟨ws,nD,O _ _ (NT H) hD,c1⟩ x.la w
end
end
section
variable{C:Cx}{A:NN}{FR:List Nw}{σ:aa}{fz:Fz}{s:M7}{E:M4->M7->Prop}{env:Env}{ρ:ar}{sc:NL}{d:Nat}{ml:List Nat}{n:Nat}
theorem pj{a isc:NL}{i:Nat}{nm:Str}(h:isc.names[i]? =some (nm,.free)) (b:a.names.lookup nm=some .cell):(bW a isc).names[i]? =some (nm,.cell):=by unfold bW;simp only[Os,h,Ug];simp[b]
theorem kA(S:St C A FR d sc env ρ σ fz s){ZK Zm iter:Expr}{ifs:List Expr}{isc:NL}{pos p:Pos}{is:List Nat}{me mt:ME}{mi:List ME}{Zp:List (Option Nat)}
  (Zl:SI d sc iter mt) (hset:∀(env:Env)x,PL iter env x=OD x)
  (ht:dM (bW sc isc) ZK=some is) (ie:SV d (bW sc isc) Zm me) (ii:∀(i:Nat)(e:Expr)(m:ME),ifs[i]? =some e->mi[i]? =some m->ST d (bW sc isc) e m) (ZV:ifs.length=mi.length)
  (Zh:kl sc isc=some Zp) (Z0:bA isc=true) (hok':bA (bW sc isc)=true) (hnc:∀x∈isc.names,x.2≠.cell)
  {Qf:List PV->aa->Prop} {X:QX} {use:Option (M4->Sem Unit)} {Q:M4->M7->Prop}
  (w:Em d mt ρ σ (fun Z8 Z_=>dK (fun ZY Z6 K=>ja d mi ZY Z6 (fun ok σ''=>match ok with
    |true=>cR d me ZY σ'' (fun v ZD=>K (some v) ZD) (fun _ _=>False)
    |false=>K Option.none σ'') (fun _ _=>False)) is Z8 (Zp.map fun o=>o.bind fun i=>(ρ[i]?).join) [] Z_ Qf) X)
  (hE:∀e s',PX C FR σ fz s X e s'->E e s')
  (hfin:∀D L' acc Z6 fz' s',s.heap.get? D=none->s.heap.get? L'=none->D≠L'->GS C FR σ fz s Z6 fz' s'->bX D FR Z6 fz' s'.heap->bX L' FR Z6 fz' s'.heap->(∃m,s'.heap.Ns L' m)->(∃ws n,s'.heap.get? D=some (bG "list" ws.toArray n)/\aL C.P fz' acc ws)->fb acc->Qf acc Z6->
   V0 C.M A E use Q (.ref D) L' (.ok .next) s'):
  Nm C.M A (Wb (.ListComp Zm [⟨ZK,iter,ifs,0⟩] isc pos) isc env p (Wj []) false (QU iter env) use) Q E s:=by
 have Fs:=ko S.ok;have Fi:=ko Z0;have Fr:=ko hok';unfold kl at Zh;have hfree:∀nm,(nm,PM)∈isc.names->(env.cells.lookup nm).isSome=true:=fun nm hm=>by apply bc;intro qK;obtain⟨j,hj⟩:=vi Zh nm hm;apply qK;exact S.lr.cl j nm (by rw[S.scE];exact hj)
 refine wpAny_comprehension_free rfl (hset env) (pi isc hfree) Fi.kind (fun x hx hl=>by
  apply bc;intro qK;obtain⟨nm,k⟩:=x;obtain⟨i,hi⟩:=List.getElem?_of_mem hx;apply qK;dsimp only at hl;subst hl;exact aF Fi.nd hi) ?_
 refine Zl C A FR env ρ σ fz s _ X _ _ S w hE fun it Z4 Z8 Z_ Z9 s₁ Zt born w₁=>?_;apply bc;intro qK;obtain⟨I,ZZ,rfl,hI1,gI,oI,W,sta⟩:=born;apply qK;have ZU:=Zt.trans gI;refine Pi ?_ (by size_fits);refine wpAny_newFunctionEnv hnc (by intro y hy;simp at hy) (fun ZA hns hsb=>?_) Fi.kind;have hrel:=yw (env:=env) S.scE Fs.kind isc;rw[hrel];generalize hD:Z4.heap.objs.size=D at *;generalize hH3:Z4.heap.push {cls:= .type "list",dict:=none,data:= .seq ([]:List M4).toArray}=H3 at *;have hL:H3.objs.size=D+1:=by rw[←hH3,PG,hD]
 rw[hL]at hns hsb⊢;have k3:∀b o,Z4.heap.get? b=some o->H3.get? b=some o:=fun b o e=>hH3▸Ng _ e;have lt2:∀b o,Z4.heap.get? b=some o->b<D:=fun b o e=>hD▸Oi e;have k4:∀b o,Z4.heap.get? b=some o->ZA.get? b=some o:=fun b o e=>hsb.extBut b o (NY (Py (lt2 b o e))) (Ng _ (k3 b o e));have hDo:ZA.get? D=some (bG "list" ([]:List M4).toArray 0):=by refine hsb.extBut D _ (NY (NR _)) (Ng _ ?_);rw[←hH3,←hD];exact NC _ rfl
 have n2:∀a,D<=a->Z4.heap.get? a=none:=fun a ha=>by
  cases e:Z4.heap.get? a with
  |none=>rfl
  |some o=>exact absurd (lt2 a o e) (Nat.not_lt.mpr ha)
 have Zs:=ZU.2;have fD:=Zs.free (n2 D (Nc _));have fL:=Zs.free (n2 (D+1) (Oc _));have n0:∀a,D<=a->s.heap.get? a=none/\σ a=none:=fun a ha=>by have h:=ZU.1.gone (n2 a ha);exact⟨h,(S.good.free h).2.1⟩
 have hI0:s.heap.get? I=none/\σ I=none:=by have h:=Zt.1.gone hI1;exact⟨h,(S.good.free h).2.1⟩
 apply bc;intro qK;obtain⟨oi,hoi⟩:=oI.t;apply qK;have hIlt:I<D:=lt2 I oi hoi;have Zx:GS C FR σ fz s Z_ Z9 {Z4 with heap:=ZA,toks:=Z4.toks+0}:=ZU.trans (.keep Zs k4);have hLo:∃o,ZA.get? (D+1)=some o:=by obtain⟨o,_,_,ho,_⟩:=hns;exact⟨o,ho⟩
 have lr:LR C FR {newEnv isc (D+1) env.globals (j9 env.cells isc.names []) env.qual none .none (some env) 0 with scope:=bW sc isc} (Zp.map fun o=>o.bind fun i=>(ρ[i]?).join) Z_ Z9 ZA:=by
  refine⟨⟨_,hns,fun i v hv=>?_⟩,fun i nm hi=>?_,fL.2.1,fL.1,fun hf=>absurd rfl hf⟩
  .simp only[Os,P_]at hv;apply bc;intro qK;obtain⟨o,ho,hv⟩:=hv;apply qK;cases o with
   |none=>simp at hv
   |some j=>
    apply bc;intro qK;obtain⟨nm,h1,h2⟩:=yv Zh i j ho;apply qK;simp only[PD]at hv;have hρ:ρ[j]? =some (some v):=by
     cases q:ρ[j]? with
     |none=>rw[q]at hv;simp at hv
     |some o=>rw[q]at hv;simp at hv;rw[hv]
    apply bc;intro qK;obtain⟨m,_,hvs⟩:=S.lr.ns;obtain⟨n',k',e1,e2⟩:=hvs j v hρ;apply qK;rw[S.scE,h2]at e1;cases e1;rcases e2 with⟨e,_⟩|⟨_,c,o,y,c1,c2,c3,c4⟩
    .cases e
    .refine⟨nm,.cell,pj h1 (aF Fs.nd h2),.inr ⟨.inl rfl,c,o,y,?_,Zx.1.fzk _ _ c2,c3,c4.mono Zx.1.fzk⟩⟩;exact hZ isc.names [] nm c Fi.nd (Ok h1) c1
  .have hi:(bW sc isc).names[i]? =some (nm,.cell):=hi;unfold bW at hi;simp only[Os,P_]at hi;apply bc;intro qK;obtain⟨⟨n',k'⟩,h1,h2⟩:=hi;apply qK;have hm:=Ok h1;dsimp only at h2;split at h2
   .rename_i hc;simp only[SU,and_true]at h2;subst h2;simp only[U0,NV,Qh]at hc;apply bc;intro qK;obtain⟨hk,_⟩:=hc;subst hk;refine DL (hfree n' hm) fun c hc=>?_;apply qK;show(Vs n' (j9 env.cells isc.names [])).isSome=true;rw[hZ isc.names [] n' c Fi.nd hm hc];rfl
   .simp only[SU]at h2;apply bc;intro qK;obtain⟨rfl,rfl⟩:=h2;apply qK;exact absurd rfl (hnc _ hm)
 have W':WK C A Z9 Z8 I ZZ:=W;have x:CL C A FR d (bW sc isc) {newEnv isc (D+1) env.globals (j9 env.cells isc.names []) env.qual none .none (some env) 0 with scope:=bW sc isc} Z8 I D ZZ Z9 σ fz s 0 (Zp.map fun o=>o.bind fun i=>(ρ[i]?).join) [] Z_ Z9 {Z4 with heap:=ZA,toks:=Z4.toks+0}:=
  ⟨Zx,⟨S.fit,rfl,S.gl,S.bi,hok',Zx.2,lr⟩,W.frame sta (fun o ho=>k4 _ _ ho) (fun a o ho=>Zx.2.sub a o ho) (fun a o ho=>Zs.sub a o ho),fun _ _ h=>h,
   ⟨oI.s,oI.f,oI.r,⟨oi,k4 _ _ hoi⟩⟩,⟨fD.2.1,fD.1,fD.2.2,⟨_,hDo⟩⟩,⟨fL.2.1,fL.1,fL.2.2,hLo⟩,⟨[],0,hDo,.nil⟩,by unfold fb;simp⟩
 have loop:=td (iter:=iter) (isc:=isc) (pos:=pos) (R:=V0 C.M A E use Q (.ref D) (D+1)) W ht ie ii ZV rfl (NY hIlt) (NY (Py hIlt)) (NY (NR _))
  (fun a ha=>by
   rcases ha with rfl|rfl|rfl
   .exact hI0
   .exact n0 _ (Nc _)
   .exact n0 _ (Oc _))
  (fun acc Z6 fz' s' g oD oL hn hD' hl hq=>hfin D (D+1) acc Z6 fz' s' (n0 _ (Nc _)).1 (n0 _ (Oc _)).1 (NY (NR _)) g oD oL hn hD' hl hq)
  x (NJ _) (by rw[RT];exact w₁)
 exact codeAny_compStart_list loop (W.self x.sta loop)
theorem vj{p q iter:Expr}{l:List Expr}{isc:NL}{pos:Pos}{Z:List Nat}{me mt:ME}{K:List ME}{t:List (Option Nat)}{fr:Bool}
  (L:SI d sc iter mt) (u:∀(env:Env)x,PL iter env x=OD x)
  (ht:dM (bW sc isc) p=some Z) (ie:SV d (bW sc isc) q me) (ii:∀(i:Nat)(e:Expr)(m:ME),l[i]? =some e->K[i]? =some m->ST d (bW sc isc) e m) (v:l.length=K.length)
  (y:kl sc isc=some t) (M:bA isc=true) (z:bA (bW sc isc)=true) (O:∀x∈isc.names,x.2≠.cell):
  SV d sc (.ListComp q [⟨p,iter,l,0⟩] isc pos) (.comp fr t Z me mt K):=by
 intro C A P env ρ σ fz s Q X S w;rw[eval_ListComp];refine kA (E:=PX C P σ fz s X) (X:=X) S L u ht ie ii v y M z O w (fun _ _ h=>h) fun D L' acc n fz' s' F H V g j oL hn hD hl hq=>?_;apply bc;intro qK;obtain⟨m,hm⟩:=hn;obtain⟨ws,n',W,hv⟩:=hD;apply qK;refine⟨m,hm,fun h' hs=>?_⟩;have f0:=S.good.free H;have k:GS C P σ fz s n fz' {s' with heap:=h'}:=g.touch H f0.2.1 oL fun b o hb e=>(hs.2 b hb).trans e;have c:h'.get? D=some (bG "list" ws.toArray n'):=(hs.2 D V).trans W;have Y:bX D P n fz' h':=⟨j.s,j.f,j.r,⟨_,c⟩⟩
 cases fr with
 |true=>
  have ga:=GS.adoptF (s₁:={s' with heap:=h'}) k F Y c;exact⟨_,n,_,ga,.lst (M8 rfl) hl (hv.mono fun a o h=>by
   have:a≠D:=fun e=>by rw[e,j.f]at h;exact aj h
   simp[Fz.ext,this,h]),hq⟩
 |false=>exact⟨_,_,_,GS.adopt (s₁:={s' with heap:=h'}) (s':={s' with heap:=h'}) k F j.s j.f j.r (.refl _ _) c (.lst hl hv),.ref _,hq D j.s⟩
end
set_option tactic.hygienic true
section
variable{d:Nat}{sc:NL}{ml:List Nat}{n:Nat}
theorem iO{c d:Type}{f:c->Option d}{l:List c}:∀{r:List d},dh f l=some r->∀(i:Nat)(a:c)(b:d),l[i]? =some a->r[i]? =some b->f a=some b:=by
 induction l with
 |nil=>intro r _ i a b;exact aj
 |cons x l j=>
  intro r h i a b e g;refine uw h fun m ms k n o=>?_;subst o;cases i with
  |zero=>injection e with z0;subst z0;injection g with z0;subst z0;exact k
  |succ i=>exact j n i a b e g
theorem HO(P:Nk):((Ov (gj P) "set").isNone&&Ov (qy P) "set"==some (.type "set"))=true:=by kernel_rfl
theorem BH:((NB "set")==("__debug__":Str))=false:=by decide+kernel
theorem jw(k:Str):aq k.cps.toList=k:=rfl
theorem te(ss:List (List Nat)):(∀y:List Nat,y∈((ss.map aq).foldl bB []).map (·.cps.toList)↔y∈ss)/\(((ss.map aq).foldl bB []).map (·.cps.toList)).map aq=(ss.map aq).foldl bB []/\(((ss.map aq).foldl bB []).map (·.cps.toList)).Nodup/\(((ss.map aq).foldl bB []).map (·.cps.toList)).length<=ss.length:=by
 refine⟨fun y=>⟨fun h=>?_,fun d=>List.mem_map.mpr ⟨aq y,(kt ..).mpr (.inr (List.mem_map.mpr ⟨y,d,rfl⟩)),rfl⟩⟩,?_,?_,?_⟩
 .refine i8 h fun i c e=>?_;subst e;rcases(kt ..).mp c with c|c
  .cases c
  .refine i8 c fun y d e=>?_;subst e;exact d
 .rw[Oq];exact RN _
 .exact Qt _ (fun a b f q=>f (by rw[←jw a,←jw b,q])) (mX (ss.map aq) [] .nil)
 .have g:=kr (ss.map aq) [];rw[N5,M6,N1]at g;rw[M6];exact g
theorem ni(iv:∀e m,bo ml n sc .v e=some m->SV d sc e m)(hg:bV sc "sorted"=true)(L:bV sc "set"=true)(ht:bo ml n sc .v z=some m):
  SV d sc (.Call (.Name "sorted" p) [.Call (.Name "set" p') [z] [] u] [] pos) (.calB .sortset [m]):=by
 intro C A FR env ρ σ fz s Q X S w;have w:mG d [m] ρ σ (fun vs c=>GG .sortset vs c Q) X:=w;have y:dh (bo ml n sc .v) [z]=some [m]:=by show(bo ml n sc .v z).bind _=_;rw[ht];rfl
 apply bc;intro D;obtain⟨h1,h2⟩:=iN (n:="sorted") (b:= .sorted) (by decide+kernel) C.P;apply D;have O:=HO C.P;rw[NV,PH,Qh]at O;refine Pt (fk S (bg hg) h1 h2 ?_ (by decide+kernel));refine QW (P:=fun _=>True) rfl (fun h _=>⟨.machine,.inr (.inl rfl),Pg rfl⟩) ?_;refine PC (Pq (Pt (fk S (bg L) O.1 O.2 ?_ BH)));refine QW (P:=(KA C.P).In) (by rw[dw _ _ y u env];rfl) dE.of_type.keep ?_;refine Nj (jt y (cG iv [z] [m] y) (f:= .type "set") S w) (fun a s₁ z=>?_) fun _ _ z=>z;apply bc;intro D;obtain⟨vs,c,l,g,⟨r,rk⟩,q⟩:=z;apply D;refine⟨Bo g.2,?_⟩;rw[rk];show Nm C.M A (PZ (.type "set") ([]++a.pos)) _ _ s₁;generalize a.pos=ap at r;have q:(match cF vs with|some v=>Be .sortset v c Q|none=>BI.sortset= .divmod/\_):=q;cases V:cF vs with
 |none=>rw[V]at q;cases q.1
 |some v=>rw[V]at q;obtain rfl:=aR V;apply bc;intro D;obtain⟨x,rfl,rv⟩:=uY r;refine fe q fun us hu q1=>?_;refine fe q1 fun ss W y0=>?_;obtain⟨E,hq⟩:=y0;obtain rfl:=du hu;obtain⟨_,_,_,rfl,Y,c2,hv⟩:=rv.inv;obtain⟨st,so⟩:=eR hv W;apply D;refine j1 S.fit.hand ⟨_,g.2.sub _ _ Y,rfl,_,rfl⟩ st (by rw[M6];exact M1 (NQ E) (by decide)) fun F o es ep t k i=>?_;refine Q6 ⟨trivial,?_⟩;have gk:GS C FR c l s₁ c l F:= .keep g.2 k.keep k.gens k.os;have g2:=g.trans gk;refine fU g2 ?_;apply bc;intro D;obtain⟨H,K,nd,dl⟩:=te ss;apply D;refine Nj (kx (ss:=((ss.map aq).foldl bB []).map (·.cps.toList)) g2.2 S.fit.hand (fun x hx=>so x ((H x).mp hx)) ⟨M9 dl E,fun j hp hs=>hq j (fun x=>hp.mem_iff.trans (H x)) (hp.nodup_iff.mpr nd) hs⟩ fun B E' Q' hB Z=>?_) (fun _ _ z=>z) fun _ _ z=>z;exact hY (.inr rfl) ⟨_,i.at_,i.ex.1⟩ (rW:=fun keys=>∃j,Oe keys j/\j.Perm ((ss.map aq).foldl bB [])) (fun a2 c9 d3 k3 a0=>uX (A:=B.in1) hB {i with at_:=k3.keep _ _ i.at_} a0) fun s' keys k' z=>by obtain⟨j,e1,e2⟩:=z;exact Z s' keys k' ⟨j,e1,by rw[K];exact e2⟩
theorem nj{md:Md}{e:Expr}{m:ME}(h:bo ml n sc .i e=some m)(env:Env)(x:M4):PL e env x=OD x:=by
 cases n with
 |zero=>exact aj h
 |succ n=>
  cases e
  case Set=>
   refine cn (show(bo ml n sc .v (.Set ..)).map .itm=some m from h) fun a b _=>?_;cases n<;>exact aj b
  all_goals rfl
theorem EK{a:List (List Nat)}(h:(a.all fun k=>oU ⟨k.toArray⟩)=true):∀k∈a,fa k:=by intro k b;have:=List.all_eq_true.mp h k b;unfold oU at this;simp only[NV,Ox,Rl]at this;exact⟨by simpa using this.1,fun c d=>this.2 c (by simpa using d)⟩
theorem AE{c d e:Type}{a:Option c}{b:Option d}{f:c->d->e}{m:e}(h:(a.bind fun x=>b.map fun y=>f x y)=some m):∃x y,a=some x/\b=some y/\m=f x y:=by apply bc;intro g;refine bE h fun x i h=>?_;refine cn h fun y j h=>?_;apply g;exact⟨x,y,i,j,h.symm⟩
theorem yy{d e g i:Type}{a:Option d}{b:Option e}{c:Option i}{f:d->e->i->g}{m:g}(h:(a.bind fun x=>b.bind fun y=>c.map fun z=>f x y z)=some m):∃x y z,a=some x/\b=some y/\c=some z/\m=f x y z:=by apply bc;intro j;refine bE h fun x k h=>?_;obtain⟨y,z,l,n,h⟩:=AE h;apply j;exact⟨x,y,z,k,l,n,h⟩
theorem kD{G:Expr->ME->Prop}{R:Rc}(u:R sc .v=bo ml n sc .v)(iv:∀e m,bo ml n sc .v e=some m->SV d sc e m){l:Expr}{f:List UF}{t:List Expr}{p:Pos}{m:ME}(h:qv R sc l f t=some m)
  (g1:∀{i l r a b},SV d sc l a->SV d sc r b->Ru i r=false->G (.Compare l [i] [r] p) (.cmp i a b))
  (g2:∀{l j r a b c},SV d sc l a->SV d sc j b->SV d sc r c->Ru .LtE r=false->G (.Compare l [.LtE,.LtE] [j,r] p) (.cmp2 a b c)):G (.Compare l f t p) m:=by
 unfold qv at h;rw[u]at h;cases o:cF f with
 |some i=>rw[o]at h;refine bE h fun r q h=>?_;obtain⟨a,b,s,k,rfl⟩:=AE h;obtain rfl:=aR o;obtain rfl:=aR q;exact g1 (iv l a s) (iv r b k) (qD k)
 |none=>rw[o]at h;apply bc;intro w;refine fB h fun x h=>?_;refine bE h fun y q h=>?_;obtain⟨j,r⟩:=y;obtain⟨a,b,c,s,k,g,rfl⟩:=yy h;apply w;obtain rfl:=beq_iff_eq.mp x;obtain rfl:=iF q;exact g2 (iv l a s) (iv j b k) (iv r c g) (qD g)
section
variable(iv:∀e m,bo ml n sc .v e=some m->SV d sc e m)
include iv
theorem vk(c:bV sc x=true)(h:Bk (bo ml n) sc x as=some m):SV d sc (.Call (.Name x p) as [] pos) m:=by apply bc;intro e;refine bE h fun b f h=>?_;refine cn h fun ms a g=>?_;subst g;apply e;exact sW c f a (cG iv as ms a)
theorem pk(j:bV sc "isinstance"=true)(h:oY (bo ml n) sc as=some m):SV d sc (.Call (.Name "isinstance" p) as [] pos) m:=by
 refine bE h fun k l o=>?_;obtain⟨e,t⟩:=k;refine bE o fun y r s=>?_;refine fB s fun a c=>?_;obtain⟨q,u⟩:=cu r;subst u;obtain rfl:=iF l;by_cases f:(y==("str":Str))=true
 .rw[M8 f]at c;refine cn c fun g b i=>?_;subst i;exact m' (st:=true) (by decide+kernel) f j a b (iv e g b)
 .rw[M5 f]at c;refine fB c fun v w=>?_;refine cn w fun g b i=>?_;subst i;exact m' (st:=false) (by decide+kernel) v j a b (iv e g b)
theorem nk(h:iK (bo ml n) sc x as=some m):SV d sc (.Call (.Name x p) as [] pos) m:=by
 refine fB h fun c h=>?_;cases g:fF.lookup x with
 |some a=>rw[g]at h;refine cn h fun ms f i=>?_;subst i;exact sU c g f (cG iv as ms f)
 |none=>
  rw[g]at h;have h:(if(x==("isinstance":Str))=true then oY (bo ml n) sc as else _)=some m:=h;by_cases j:(x==("isinstance":Str))=true
  .rw[M8 j]at h;obtain rfl:=beq_iff_eq.mp j;exact pk iv c h
  .rw[M5 j]at h;have h:(match(if(x==("sorted":Str))=true then(cF as).bind (km sc "set")else none)with|some z=>(bo ml n sc .v z).map fun z=>ME.calB .sortset [z]|none=>Bk (bo ml n) sc x as)=some m:=h;cases b:(if(x==("sorted":Str))=true then(cF as).bind (km sc "set")else none)with
   |none=>rw[b]at h;exact vk iv c h
   |some z=>rw[b]at h;refine fB b fun hs b=>?_;obtain rfl:=beq_iff_eq.mp hs;refine bE b fun e l b=>?_;obtain rfl:=aR l;obtain⟨p1,o,rfl,k⟩:=mM b;refine cn h fun q f i=>?_;subst i;exact ni iv c k f
theorem pn{f:Expr}{pos:Pos}{as:List Expr}{m:ME}(h:gW (bo ml n) sc f as pos=some m):SV d sc (.Call f as [] pos) m:=by
 unfold gW at h;cases a:j0 f with
 |some q=>rw[a]at h;rw[gi a];exact nk iv h
 |none=>rw[a]at h;apply bc;intro g;refine bE h fun q j h=>?_;refine fB h fun b h=>?_;refine bE h fun k c h=>?_;obtain⟨i,ms,l,e,rfl⟩:=AE h;apply g;rw[jf j];exact sY (iv _ k c) c l (cD b).1 (NW (cD b).2) e (cG iv as ms e)
theorem jx(h:oW (bo ml n) sc o=some m):SP d sc o m:=by
 cases o with
 |none=>injection h with z0;subst z0;exact yh
 |some x=>exact yj (iv x m h)
theorem tg{o a:Expr}{p:Pos}{m:ME}(h:ux (bo ml n) sc o a=some m):SV d sc (.Subscript o a p) m:=by
 unfold ux at h;cases b:Bi a with
 |some q=>rw[b]at h;refine fB h fun hs h=>?_;obtain⟨c,g,l,e,f,i,rfl⟩:=yy h;rw[xQ b,Option.isNone_iff_eq_none.mp hs];exact yk (iv o c e) (jx iv f) (jx iv i)
 |none=>rw[b]at h;apply bc;intro j;obtain⟨c,k,e,f,rfl⟩:=AE h;apply j;exact yg (iv o c e) (iv a k f)
end
theorem jy(w:∀c,(∀e m,bo ml n c .v e=some m->SV d c e m)/\(∀e m,bo ml n c .t e=some m->ST d c e m)/\(∀e m,bo ml n c .i e=some m->SI d c e m)){G:Expr->ME->Prop}{f:Expr}{k:List Wf}{isc:NL}{pos:Pos}{m:ME}(h:uy ml (bo ml n) c f k isc pos=some m)
  (g:∀{l iter:Expr}{j:List Expr}{u:List Nat}{o:List (Option Nat)}{q r:ME}{s:List ME},SI d c iter r->(∀env x,PL iter env x=OD x)->dM (bW c isc) l=some u->SV d (bW c isc) f q->(∀(i:Nat)(e:Expr)(m:ME),j[i]? =some e->s[i]? =some m->ST d (bW c isc) e m)->j.length=s.length->
   kl c isc=some o->bA isc=true->bA (bW c isc)=true->(∀x∈isc.names,x.2≠.cell)->G (.ListComp f [⟨l,iter,j,0⟩] isc pos) (.comp (!ml.contains pos.line) o u q r s)):G (.ListComp f k isc pos) m:=by
 apply bc;intro C;refine bE h fun D E h=>?_;obtain⟨l,iter,j,F⟩:=D;obtain rfl:=aR E;refine fB h fun p h=>?_;simp only[NV,Rl,bne_iff_ne,ne_eq,Qh]at p;obtain⟨rfl,p⟩:=p;refine bE h fun r y h=>?_;refine bE h fun u H h=>?_;obtain⟨o,q,s,K,L,z,rfl⟩:=yy h;apply C;have A:=w (bW c isc);exact g ((w c).2.2 iter r y) (nj (md:= .i) y) H (A.1 f q L) (fun i e m a b=>A.2.1 e m (iO z i e m a b)) (fo z).symm K p.1.1 p.1.2 (fun x M=>p.2 x M)
theorem th(H:∀q,(∀e m,bo ml n q .v e=some m->SV d q e m)/\(∀e m,bo ml n q .t e=some m->ST d q e m)/\(∀e m,bo ml n q .i e=some m->SI d q e m)){e:Expr}{m:ME}(h:LP ml (bo ml n) q e=some m):SV d q e m:=by
 obtain⟨iv,L,ii⟩:=H q;cases e
 case Constant c k p=>exact sK h
 case Name x p=>exact u1 h
 case Tuple es k p=>
  refine fB (show(if es.length<=1000 then _ else none)=some m from h) fun F h=>?_;refine cn h fun ms y D=>?_;subst D;exact sM (cG iv es ms y) F
 case List es p=>
  apply bc;intro E;refine fB (show(if es.length<=1000 then _ else none)=some m from h) fun F h=>?_;refine cn h fun ms y D=>?_;subst D;apply E;exact u2 (cG iv es ms y) F
 case Dict ks vs p=>
  apply bc;intro E;refine bE h fun O u h=>?_;refine bE h fun vs' z h=>?_;refine fB h fun K h=>?_;injection h with z0;subst z0
  simp only[NV,Qh,Ox]at K;obtain⟨⟨P,V⟩,W⟩:=K;apply E;exact vb u (fun i e m a b=>iv e m (iO z i e m a b)) (fo z).symm P V (EK W)
 case BinOp l op r p=>
  obtain⟨a,b,u,z,rfl⟩:=AE h;exact sN (iv l a u) (iv r b z)
 case UnaryOp op x p=>
  have h:(if(op== .USub)=true then(bo ml n q .v x).map .neg else if(op== .Not)=true then(bo ml n q .v x).map .nt else none)=some m:=h;by_cases u:(op== .USub)=true
  .rw[M8 u]at h;obtain rfl:=beq_iff_eq.mp u;refine cn h fun a y D=>?_;subst D;exact x8 (iv x a y)
  .rw[M5 u]at h;refine fB h fun z h=>?_;obtain rfl:=beq_iff_eq.mp z;refine cn h fun a y D=>?_;subst D;exact x9 (iv x a y)
 case BoolOp op vs p=>
  refine fB (show(if 2<=vs.length then _ else none)=some m from h) fun F h=>?_;refine cn h fun ms y D=>?_;subst D;intro C A Y env Z σ fz s Q X S w;show Nm C.M A (Ud p op (Tw vs env)) _ _ s;exact pd rfl vs ms (fun i e m a b=>iv e m (iO y i e m a b)) (fo y).symm (fun e=>by subst e;simp at F) C A Y env Z σ fz s Q X S w
 case IfExp c a b p=>
  apply bc;intro E;obtain⟨mc,ma,mb,u,z,h3,rfl⟩:=yy h;apply E;exact sO (L c mc u) (iv a ma z) (iv b mb h3)
 case Compare l ops rs p=>exact kD (G:=SV d q) rfl iv h (fun a b c=>x_ a b c) (fun a b c e=>u3 a b c e)
 case Attribute o a p=>
  apply bc;intro E;obtain⟨mo,i,u,z,rfl⟩:=AE h;apply E;exact u6 (iv o mo u) u z
 case Subscript o sl p=>exact tg iv h
 case Call f as kws pos=>
  refine fB (show(if kws.isEmpty then gW (bo ml n) q f as pos else none)=some m from h) fun hk h=>?_;obtain rfl:=List.isEmpty_iff.mp hk;exact pn iv h
 case ListComp Zm gens isc pos=>exact jy (G:=SV d q) H h (fun a b c e f g h i j k=>vj a b c e f g h i j k)
 all_goals exact aj h
theorem ti(IH:∀sc,(∀e m,bo ml n sc .v e=some m->SV d sc e m)/\(∀e m,bo ml n sc .t e=some m->ST d sc e m)/\(∀e m,bo ml n sc .i e=some m->SI d sc e m)){e:Expr}{m:ME}(h:LT (bo ml n) sc e=some m):ST d sc e m:=by
 obtain⟨iv,it,ii⟩:=IH sc;have plain:∀{e:Expr}{m:ME},(bo ml n sc .v e).map ME.tru=some m->(∀(env:Env)(whole:Sem M4),isTrue e env whole=(do let v ←whole;U4 e.pos;Th [v] (Uc v)))->ST d sc e m:=fun h he=>by refine cn h fun a hw e0=>?_;subst e0;exact yb (iv _ a hw) he
 cases e
 case UnaryOp op x p=>
  have h:(if(op== .Not)=true then(bo ml n sc .t x).map .nt else(bo ml n sc .v (.UnaryOp op x p)).map .tru)=some m:=h;by_cases h1:(op== .Not)=true
  .rw[M8 h1]at h;obtain rfl:=beq_iff_eq.mp h1;refine cn h fun a hw e0=>?_;subst e0;exact ya (it x a hw)
  .rw[M5 h1]at h;exact plain h fun _ _=>by cases op<;>first|rfl|exact absurd rfl h1
 case BoolOp op vs p=>
  refine cn h fun ms hw e0=>?_;subst e0;intro C A FR env ρ σ fz s Q X S w;exact wpAny_isTrue_BoolOp (yc rfl vs ms (fun i e m a b=>it e m (iO hw i e m a b)) (fo hw).symm C A FR env ρ σ fz s Q X S w)
 case IfExp c a b p=>
  apply bc;intro qK;obtain⟨mc,ma,mb,h1,h2,h3,rfl⟩:=yy h;apply qK;exact sP (it c mc h1) (it a ma h2) (it b mb h3)
 case Compare l ops rs p=>exact kD (G:=ST d sc) rfl iv h (fun a b c=>x' a b c) (fun a b c e=>u4 a b c e)
 all_goals exact plain h fun _ _=>rfl
theorem tj(j:∀b,(∀e m,bo ml n b .v e=some m->SV d b e m)/\(∀e m,bo ml n b .t e=some m->ST d b e m)/\(∀e m,bo ml n b .i e=some m->SI d b e m))(h:HB (bo ml n) b e=some m):SI d b e m:=by
 obtain⟨iv,l,o⟩:=j b;unfold HB at h;cases f:km b "range" e with
 |none=>rw[f]at h;refine cn h fun a c g=>?_;subst g;exact BD (iv e a c)
 |some x=>rw[f]at h;obtain⟨p,q,rfl,k⟩:=mM f;refine cn h fun a c g=>?_;subst g;exact BF (by decide+kernel) k c (iv x a c)
theorem eT(n:Nat):∀a:NL,(∀e m,bo ml n a .v e=some m->SV d a e m)/\(∀e m,bo ml n a .t e=some m->ST d a e m)/\(∀e m,bo ml n a .i e=some m->SI d a e m):=by
 induction n with
 |zero=>exact fun a=>⟨fun e m h=>(aj h),fun e m h=>(aj h),fun e m h=>(aj h)⟩
 |succ n b=>exact fun a=>⟨fun e m h=>th b h,fun e m h=>ti b h,fun e m h=>tj b h⟩
end
set_option tactic.hygienic false
theorem GS.exc{C:Cx}{σ a:aa}{fz c:Fz}{s s₁ s':M7}(g:GS C d σ fz s a c s₁)(U:List Nw)(k:∀u∈U,s.heap.get? u=none/\σ u=none/\a u=none/\c u=none/\u∉d)
 (m:∀b o,b∉d->b∉U->s₁.heap.get? b=some o->s'.heap.get? b=some o) (p:∀b∈d,∀o,s₁.heap.get? b=some o->∃w,s'.heap.get? b=some {o with slots:=w})
 (z:s'.gens=s₁.gens:=by rfl) (t:s'.os=s₁.os:=by rfl):GS C d σ fz s a c s':=by
 have A:∀b o,s.heap.get? b=some o->b∉U:=fun b o h e=>by have:=(k b e).1;rw[this]at h;exact aj h
 have D:∀b∈d,b∉U:=fun b h e=>(k b e).2.2.2.2 h;refine⟨⟨g.1.fzk,fun b o h q r=>m b o r (A b o h) (g.1.keep b o h q r),fun b h o v=>?_,fun b h=>?_,g.1.ledn,g.1.fzn,z.trans g.1.gens,t.trans g.1.os⟩,
  g.2.base,fun b o h=>?_,fun b h=>?_,fun b E h=>?_⟩
 .apply bc;intro f;obtain⟨w,e⟩:=g.1.frk b h o v;obtain⟨i,j⟩:=p b h _ e;apply f;exact⟨i,j⟩
 .apply bc;intro f;obtain⟨o',e⟩:=g.1.lk b h;apply f;have q:b∉U:=fun j=>h (k b j).2.1;by_cases r:b∈d
  .obtain⟨i,j⟩:=p b r _ e;exact⟨_,j⟩
  .exact⟨o',m b o' r q e⟩
 .have q:b∉U:=fun e=>by rw[(k b e).2.2.2.1]at h;exact aj h
  have r:b∉d:=fun e=>by rw[(g.2.fr b e).1]at h;exact aj h
  exact m b o r q (g.2.sub b o h)
 .apply bc;intro f;obtain⟨x,y,o',es,n,e,F⟩:=g.2.fr b h;obtain⟨i,j⟩:=p b h _ e;apply f;exact⟨x,y,_,es,n,j,F⟩
 .have q:b∉U:=fun e=>by rw[(k b e).2.2.1]at h;exact aj h
  have r:b∉d:=fun e=>by rw[(g.2.fr b e).l]at h;exact aj h
  apply bc;intro f;obtain⟨x,o',e,H⟩:=g.2.led b E h;apply f;exact⟨x,o',m b o' r q e,H⟩
section
variable{M:Model}{A:NN}{E:M4->M7->Prop}{s:M7}
theorem cU{p:Og}{env:Env}{c:List Env}{L e:Nw}{t:Obj}{vs:Array M4}{head:M4}{g:Bool}{Q:Unit->M7->Prop}
  (v:A.frames=some (env::c)) (H:s.heap.FunFrames p (env::c)) (V:env.frame=some L)
  (K:s.heap.get? e=some t) (w:t.data= .fields vs) (x:1<vs.size)
  (h:∀h' T O P,(∀b o,b∉(env::c).filterMap (·.frame)->b≠e->s.heap.get? b=some o->h'.get? b=some o)->(∀b o,b∈(env::c).filterMap (·.frame)->s.heap.get? b=some o->∃y,h'.get? b=some {o with slots:=y})->
   h'.get? e=some (t.mapFields (·.setIfInBounds 1 (.ref T)))->s.heap.get? T=none->T≠e->h'.get? T=some O->O.data= .fields P->4<=P.size->Q () {s with heap:=h'}):
  Nm M A (do let a ←frameOf env;let pl ←entryPlaceOf L g;let b ←EntryCells.newEntry head a .none (Pn L) .none pl;RH (.ref e) 1 b) Q E s:=by
 have k:e∉(env::c).filterMap (·.frame):=fun W=>by apply bc;intro z;obtain⟨_,o,u,C⟩:=H.mem W;apply z;rw[K]at u;injection u with u;subst u;exact C vs w
 refine M2 (wpAny_frameOf_fun v H V fun d f=>?_);refine M2 (wpAny_entryPlaceOf fun pl D=>?_);unfold EntryCells.newEntry newFields;refine M2 (Pi ?_ (D.sizeOk5 _ _ _ _ _));have i:d.get? e=some t:=(f.2.1 e k).trans K;have j:=Ng (h:=d) {cls:= .type "traceback",dict:=none,data:= .fields ([head,.ref L,.none,Pn L,.none]++(if pl.isEmpty then Nz 6 Om else pl)).toArray} i;refine Qn j w x ?_;have r:d.objs.size≠e:=Rv (Oi i);have l:=On w (·.setIfInBounds 1 (Oz d.objs.size));refine h _ d.objs.size _ _ (fun b o F m n=>?_) (fun b o F n=>?_) (NU _ j (Px l)) ?_ r ((NX _ _ (NT r)).trans (NC d rfl)) rfl (by simp only[Uk,M3,Nt,N5]<;>exact Nat.le_add_right_of_le (by decide))
 .rw[NX _ _ (NT m)];exact Ng _ ((f.2.1 b F).trans n)
 .apply bc;intro z;obtain⟨y,X⟩:=f.2.2 b o n;apply z;have m:b≠e:=fun q=>k (q▸F);exact⟨y,by rw[NX _ _ (NT m)];exact Ng _ X⟩
 .rw[f.1];exact fresh s.heap
end
theorem fX{C:Cx}{σ:aa}{fz:Fz}{h:Og}{c:List Nw}:∀{b:List Env},(∀a∈c,GF fz σ h a)->(∀a∈b.filterMap (·.frame),a∈c)->(∀env∈b,env.scope.kind= .function/\env.frame.isSome=true)->h.FunFrames ⟨#[],{}⟩ b
 |[],_,_,_=>trivial
 |env::r,g,i,j=>by apply bc;intro k;obtain⟨l,m⟩:=j env (by simp);refine DL m fun L d=>?_;have f:L∈c:=i L (by rw[O5,d];simp);obtain⟨_,_,o,es,n,p,q⟩:=g L f;apply k;refine⟨by rw[l];decide,⟨L,o,d,rfl,p,fun vs e=>by rw[q]at e;cases e⟩,fX (C:=C) g (fun a s=>i a ?_) fun e t=>j e (Nb _ t)⟩;rw[O5,d];exact Nb _ s
inductive lz(s:M7)(FR:List Nw)(σ:aa)(fz:Fz)(h:Og)(c:Nat)(e:M4):Prop
 |mk (ea:Nw) (oe:Obj) (vs:Array M4) (T:Nw) (oT:Obj) (ts:Array M4) (q1:e= .ref ea) (q2:s.heap.get? ea=none) (q3:h.get? ea=some oe) (q4:oe.cls= .ref (rV c)) (q5:oe.data= .fields vs) (q6:2<=vs.size) (q7:σ ea=none) (q8:fz ea=none) (q9:ea∉FR)
  (r1:vs[1]? =some (.ref T)) (r2:T≠ea) (r3:s.heap.get? T=none) (r4:h.get? T=some oT) (r5:oT.data= .fields ts) (r6:4<=ts.size) (r7:σ T=none) (r8:fz T=none) (r9:T∉FR)
theorem lz.r{s:M7}{σ:aa}{fz:Fz}{h:Og}(x:lz s a σ fz h c e):jZ s a σ fz h c e:=by obtain⟨b,d,vs,T,f,g,i,j,k,l,m,n,o,p,q,t,u,v,w,y,z,A,C,D⟩:=x;exact⟨b,d,vs,i,j,k,l,m,n,o,p,q,.inr ⟨T,f,g,t,u,v,w,y,z,A,C,D⟩⟩
section
variable{C:Cx}{A:NN}{FR:List Nw}{σ Z_:aa}{fz Z9:Fz}{s s₁:M7}{E:M4->M7->Prop}{env:Env}{ZM:List Env}{c:Nat}{e:M4}{d:Nat}
structure BJ(A:NN)(FR:List Nw)(env:Env):Prop where
 fr:∃ZM L,A.frames=some (env::ZM)/\env.frame=some L/\(env::ZM).filterMap (·.frame)=FR/\∀x∈env::ZM,x.scope.kind= .function/\x.frame.isSome=true
theorem vl(T1:BJ A FR env)(hF:∀a,s.heap.get? a=none->σ a=none)(g:GS C FR σ fz s Z_ Z9 s₁)(x:jZ s FR Z_ Z9 s₁.heap c e){Q:Unit->M7->Prop}
  (hQ:∀h',GS C FR σ fz s Z_ Z9 {s₁ with heap:=h'}->lz s FR Z_ Z9 h' c e->Q () {s₁ with heap:=h'}):Nm C.M A (Sd e env) Q E s₁:=by
 obtain⟨l,L,H,hf,m,hk⟩:=T1.fr;obtain⟨D,oe,vs,rfl,p,K,h4,r,O,P,V,W,t⟩:=x;have ff:∀{h:Og},(∀a∈FR,GF Z9 Z_ h a)->h.FunFrames ⟨#[],{}⟩ (env::l):=fun hh=>fX (C:=C) hh (fun a F=>m▸F) hk;unfold Sd;simp only[hf];rcases t with t|⟨T,oT,ts,t1,t2,t3,t4,t5,t6,t7,t8,t9⟩
 .refine M2 (PQ K r t ?_);rw[M5 (by decide)];refine cU H (ff g.2.fr) hf K r (O) fun h' f v w X Y k3 k k5 k6 k7 k8=>?_;rw[m]at X Y;have z:=g.2.free k;have nT:=g.1.gone k;have g':GS C FR σ fz s Z_ Z9 {s₁ with heap:=h'}:=g.exc [D] (fun u d=>by simp at d;subst d;exact⟨p,hF _ p,P,V,W⟩) (fun b o i d j=>X b o i (by simpa using d) j) (fun b i o j=>Y b o i j);exact hQ h' g' ⟨D,_,_,f,v,w,rfl,p,k3,(Q_ _ _).trans h4,On r _,by simpa using O,P,V,W,by simp[show 1<vs.size by lia],k5,nT,k6,k7,k8,z.2.1,z.1,z.2.2⟩
 .refine M2 (PQ K r t1 ?_);rw[M8 (show(Oz T != Om)=true from by simp)];obtain⟨y,hy⟩:∃y,ts[3]? =some y:=⟨ts[3],by simp[show 3<ts.size by lia]⟩
  refine M2 (PQ t4 t5 hy ?_);by_cases hr:(y==Pn L)=true
  .rw[M8 hr];exact Nf (hQ s₁.heap g ⟨D,oe,vs,T,oT,ts,rfl,p,K,h4,r,O,P,V,W,t1,t2,t3,t4,t5,t6,t7,t8,t9⟩)
  .rw[M5 hr];refine M2 (Qn t4 t5 (t6) ?_);have Z:∀b,b≠T->(s₁.heap.update T (OM (·.setIfInBounds 3 Om))).get? b=s₁.heap.get? b:=fun b i=>NX _ _ (NT i);have a0:∀a∈FR,a≠T:=fun a F q=>t9 (q▸F);refine cU (s:={s₁ with heap:=s₁.heap.update T (OM (·.setIfInBounds 3 Om))}) H (ff fun a F=>let ⟨x,y,o,es,n,j,hd⟩:=g.2.fr a F;⟨x,y,o,es,n,(Z a (a0 a F)).trans j,hd⟩) hf ((Z D (NT t2)).trans K) r (O) fun h' f v w X Y k3 k k5 k6 k7 k8=>?_;rw[m]at X Y;have c3:f≠T:=fun q=>by subst q;have:(s₁.heap.update f (OM (·.setIfInBounds 3 Om))).get? f=some _:=NU _ t4 (Px (On t5 _));have k:(s₁.heap.update f (OM (·.setIfInBounds 3 Om))).get? f=none:=k;rw[this]at k;exact ba k
   have a1:s₁.heap.get? f=none:=(Z f c3).symm.trans k;have z:=g.2.free a1;have nT:=g.1.gone a1;have g':GS C FR σ fz s Z_ Z9 {s₁ with heap:=h'}:=g.exc [D,T] (fun u d=>by
     simp at d;rcases d with rfl|rfl
     .exact⟨p,hF _ p,P,V,W⟩
     .exact⟨t3,hF _ t3,t7,t8,t9⟩)
    (fun b o i d j=>by
     simp at d;exact X b o i d.1 ((Z b d.2).trans j)) (fun b i o j=>Y b o i ((Z b (a0 b i)).trans j))
   exact hQ h' g' ⟨D,_,_,f,v,w,rfl,p,k3,(Q_ _ _).trans h4,On r _,by simpa using O,P,V,W,by simp[show 1<vs.size by lia],k5,nT,k6,k7,k8,z.2.1,z.1,z.2.2⟩
theorem jz(D:∀a,s.heap.get? a=none->σ a=none)(g:GS C FR σ fz s Z_ Z9 s₁)(x:lz s FR Z_ Z9 s₁.heap c e)(fr:Option Nw){Q:Unit->M7->Prop}
  (F:∀h',GS C FR σ fz s Z_ Z9 {s₁ with heap:=h'}->lz s FR Z_ Z9 h' c e->Q () {s₁ with heap:=h'}):Nm C.M A (S5 e fr) Q E s₁:=by
 obtain⟨n,H,vs,T,Y,Z,rfl,K,p,L,r,O,P,V,W,t1,t,i,v,j,w,y,z,k⟩:=x;unfold S5;refine M2 (PQ p r t1 ?_);rw[M8 (show(Oz T != Om)=true from by simp)];refine Qn v j (w) ?_;have l:∀b,b≠T->(s₁.heap.update T (OM (·.setIfInBounds 3 (fr.elim Om fun f=>Pn f)))).get? b=s₁.heap.get? b:=fun b d=>NX _ _ (NT d);have X:=NU (OM (·.setIfInBounds 3 (fr.elim Om fun f=>Pn f))) v (Px (On j _));refine F _ (g.exc [T] (fun u h=>by simp at h;subst h;exact⟨i,D _ i,y,z,k⟩) (fun b o d h m=>(l b (by simpa using h)).trans m) fun b d o m=>⟨o.slots,(l b (fun q=>k (q▸d))).trans m⟩) ?_;exact⟨n,H,vs,T,_,_,rfl,K,(l n (NT t)).trans p,L,r,O,P,V,W,t1,t,i,X,On j _,by simpa using w,y,z,k⟩
end
noncomputable def d0:MO:= .lst []
noncomputable def cH(env:Env):List Nw:=env.locals::env.cells.map (·.2)
noncomputable def mk(σ:aa)(b:List Nw):aa:=fun a=>if a∈b then some d0 else σ a
structure GT(C:Cx)(env:Env)(Z7:List Nw)(σ:aa)(fz:Fz)(s:M7)(Z6:aa)(fz':Fz)(s':M7):Prop where
 stp:oM Z7 (mk σ (cH env)) fz s (mk Z6 (cH env)) fz' s'
 good:aw C Z6 fz' (env.locals::Z7) s'.heap
noncomputable def oB(env:Env)(s:M7):Prop:=∀c∈cH env,∃o,s.heap.get? c=some o
section
variable{C:Cx}{env:Env}{Z7:List Nw}{σ Z_ Z2:aa}{fz Z9 ZL:Fz}{s s₁ Z4 s':M7}
theorem iP{σ:aa}(h:mk σ b a=none):a∉b/\σ a=none:=by
 unfold mk at h;by_cases e:a∈b
 .rw[M8 e]at h;exact ba h
 .rw[M5 e]at h;exact⟨e,h⟩
theorem qJ{σ:aa}(h:a∈b):mk σ b a≠none:=by unfold mk;rw[M8 h];simp
theorem cv{σ:aa}(h:a∉b):mk σ b a=σ a:=by unfold mk;rw[M5 h]
theorem pq(env:Env):env.locals∈cH env:=by unfold cH;simp
theorem GT.oG(b:oB env s)(g:GS C (env.locals::Z7) σ fz s Z_ Z9 s₁):GT C env Z7 σ fz s Z_ Z9 s₁:=by
 refine⟨⟨g.1.fzk,fun a o h q r=>?_,fun a h o e=>g.1.frk a (Nb _ h) o e,fun a q=>?_,fun a q=>?_,fun a q=>?_,g.1.gens,g.1.os⟩,g.2⟩
 .obtain⟨c,d⟩:=iP q;exact g.1.keep a o h d (by have:a≠env.locals:=fun e=>c (e▸pq env);simp[this,r])
 .by_cases e:a∈cH env
  .obtain⟨o,f⟩:=b a e;exact g.1.there f
  .rw[cv e]at q;exact g.1.lk a q
 .by_cases e:a∈cH env
  .exact .inl (qJ e)
  .rw[cv e]at q⊢;exact g.1.ledn a q
 .by_cases e:a∈cH env
  .exact .inr (.inl (qJ e))
  .rw[cv e];exact g.1.fzn a q
theorem GT.trans(x:GT C env Z7 σ fz s Z_ Z9 s₁)(y:GT C env Z7 Z_ Z9 s₁ Z2 ZL Z4):GT C env Z7 σ fz s Z2 ZL Z4:=⟨x.1.trans y.1,y.2⟩
theorem GT.mks(a:oB env s)(x:GT C env Z7 σ fz s Z_ Z9 s₁):oB env s₁:=fun c b=>let ⟨_,d⟩:=a c b;x.1.there d
theorem oB.step(a:oB env s)(x:oM b σ fz s Z_ Z9 s₁):oB env s₁:=fun c d=>let ⟨_,e⟩:=a c d;x.there e
theorem GT.refl(a:oB env s)(G:aw C σ fz (env.locals::Z7) s.heap):GT C env Z7 σ fz s σ fz s:= .oG a ⟨.refl G,G⟩
theorem GT.store(j:oB env s)(G:aw C σ fz (env.locals::Z7) s.heap)(k:env.locals∉Z7)(x:LS env s s'):GT C env Z7 σ fz s σ fz s':=by
 apply bc;intro c;obtain⟨f,g,_⟩:=G.fr env.locals (by simp);apply c;refine⟨⟨fun _ _ h=>h,fun a o h q r=>x.keep a o (fun e=>(iP q).1 (e▸pq env)) h,fun a h o e=>⟨o.slots,x.keep a o (fun q=>k (q▸h)) e⟩,fun a q=>?_,fun _ h=> .inl h,fun _ h=> .inl h,x.gens,x.os⟩,
  G.base,fun a o h=>x.keep a o (fun q=>by rw[q,f]at h;exact aj h) (G.sub a o h),fun a h=>?_,fun a m h=>?_⟩
 .by_cases e:a=env.locals
  .subst e;obtain⟨o,_,_,b,_⟩:=x.dict;exact⟨o,b⟩
  .by_cases i:a∈cH env
   .apply bc;intro c;obtain⟨o,b⟩:=j a i;apply c;exact⟨o,x.keep a o e b⟩
   .rw[cv i]at q;apply bc;intro c;obtain⟨o,b⟩:=G.there a q;apply c;exact⟨o,x.keep a o e b⟩
 .by_cases e:a=env.locals
  .subst e;obtain⟨o,es,n,b,d⟩:=x.dict;exact⟨f,g,o,es,n,b,d⟩
  .apply bc;intro c;obtain⟨y,z,o,es,n,b,d⟩:=G.fr a h;apply c;exact⟨y,z,o,es,n,x.keep a o e b,d⟩
 .apply bc;intro c;obtain⟨y,o,b,r⟩:=G.led a m h;apply c;exact⟨y,o,x.keep a o (fun q=>by rw[q,g]at h;exact aj h) b,r⟩
theorem GT.cell(t:oB env s)(G:aw C σ fz (env.locals::Z7) s.heap)(j:c∈cH env)(u:σ c=none)(v:fz c=none)(k:c∉env.locals::Z7){o:Obj}(l:s'.heap.get? c=some o)(f:∀b o,b≠c->s.heap.get? b=some o->s'.heap.get? b=some o)
 (w:s'.gens=s.gens:=by rfl) (i:s'.os=s.os:=by rfl):GT C env Z7 σ fz s σ (fz.ext c o) s':=by
 have ex:∀b o',fz b=some o'->fz.ext c o b=some o':=fun b o' h=>by
  have:b≠c:=fun e=>by rw[e,v]at h;exact aj h
  simp[Fz.ext,this,h]
 refine⟨⟨ex,fun a o' h q r=>f a o' (fun e=>(iP q).1 (e▸j)) h,fun a h o' e=>⟨o'.slots,f a o' (fun q=>k (q▸Nb _ h)) e⟩,fun a q=>?_,fun _ h=> .inl h,fun a h=>?_,w,i⟩,
  fun a o' h=>ex a o' (G.base a o' h),fun a o' h=>?_,fun a h=>?_,fun a m h=>?_⟩
 .by_cases e:a=c
  .exact⟨o,e▸l⟩
  .by_cases p:a∈cH env
   .apply bc;intro g;obtain⟨o',d⟩:=t a p;apply g;exact⟨o',f a o' e d⟩
   .rw[cv p]at q;apply bc;intro g;obtain⟨o',d⟩:=G.there a q;apply g;exact⟨o',f a o' e d⟩
 .by_cases e:a=c
  .exact .inr (.inl (e▸qJ j))
  .simp only[Fz.ext,e,RI]at h;exact .inl h
 .by_cases e:a=c
  .subst e;simp[Fz.ext]at h;subst h;exact l
  .simp only[Fz.ext,e,RI]at h;exact f a o' e (G.sub a o' h)
 .apply bc;intro g;obtain⟨y,z,o',es,n,d,x⟩:=G.fr a h;apply g;have e:a≠c:=fun e=>k (e▸h);exact⟨by simp[Fz.ext,e,y],z,o',es,n,f a o' e d,x⟩
 .apply bc;intro g;obtain⟨y,o',d,r⟩:=G.led a m h;apply g;have e:a≠c:=fun e=>by rw[e,u]at h;exact aj h
  exact⟨by simp[Fz.ext,e,y],o',f a o' e d,r.mono ex⟩
theorem GT.exc(g:GT C env Z7 σ fz s Z_ Z9 s₁)(w:oB env s)(U:List Nw)(f:∀u∈U,s.heap.get? u=none/\σ u=none/\Z_ u=none/\Z9 u=none/\u∉env.locals::Z7)
  (i:∀b o,b∉env.locals::Z7->b∉U->s₁.heap.get? b=some o->s'.heap.get? b=some o) (j:∀b∈env.locals::Z7,∀o,s₁.heap.get? b=some o->∃t,s'.heap.get? b=some {o with slots:=t})
  (z:s'.gens=s₁.gens:=by rfl) (k:s'.os=s₁.os:=by rfl):GT C env Z7 σ fz s Z_ Z9 s':=by
 have A:∀b o,s.heap.get? b=some o->b∉U:=fun b o h e=>by have:=(f b e).1;rw[this]at h;exact aj h
 refine⟨⟨g.1.fzk,fun b o h q r=>i b o (by have:b≠env.locals:=fun e=>(iP q).1 (e▸pq env);simp[this,r]) (A b o h) (g.1.keep b o h q r),fun b h o m=>?_,fun b h=>?_,g.1.ledn,g.1.fzn,z.trans g.1.gens,k.trans g.1.os⟩,
  g.2.base,fun b o h=>?_,fun b h=>?_,fun b D h=>?_⟩
 .apply bc;intro a;obtain⟨t,e⟩:=g.1.frk b h o m;obtain⟨c,d⟩:=j b (Nb _ h) _ e;apply a;exact⟨c,d⟩
 .apply bc;intro a;obtain⟨o',e⟩:=g.1.lk b h;have q:b∉U:=fun d=>by
   have:=f b d;have p:b∉cH env:=fun q=>by obtain⟨o,v⟩:=w b q;rw[this.1]at v;exact aj v
   rw[cv p]at h;exact h this.2.1
  apply a;by_cases r:b∈env.locals::Z7
  .obtain⟨c,d⟩:=j b r _ e;exact⟨_,d⟩
  .exact⟨o',i b o' r q e⟩
 .have q:b∉U:=fun e=>by rw[(f b e).2.2.2.1]at h;exact aj h
  have r:b∉env.locals::Z7:=fun e=>by rw[(g.2.fr b e).1]at h;exact aj h
  exact i b o r q (g.2.sub b o h)
 .apply bc;intro a;obtain⟨x,y,o',es,n,e,E⟩:=g.2.fr b h;obtain⟨c,d⟩:=j b h _ e;apply a;exact⟨x,y,_,es,n,d,E⟩
 .have q:b∉U:=fun e=>by rw[(f b e).2.2.1]at h;exact aj h
  have r:b∉env.locals::Z7:=fun e=>by rw[(g.2.fr b e).l]at h;exact aj h
  apply bc;intro a;obtain⟨x,o',e,F⟩:=g.2.led b D h;apply a;exact⟨x,o',i b o' r q e,F⟩
theorem GT.leave{s0:M7}(g:GT C env Z7 σ fz s Z_ Z9 s₁)(f:∀c∈cH env,s0.heap.get? c=none)(m:aw C σ fz Z7 s0.heap)(i:∀b o,s0.heap.get? b=some o->s.heap.get? b=some o)(j:s.gens=s0.gens)(k:s.os=s0.os)
  :GS C Z7 σ fz s0 Z_ Z9 s₁:=by
 have fL:=g.2.fr env.locals (by simp);have l:∀a o,s0.heap.get? a=some o->a∉cH env:=fun a o h e=>by rw[f a e]at h;exact aj h
 have d:∀a,s.heap.get? a=none->s0.heap.get? a=none:=fun a u=>by
  cases z:s0.heap.get? a with
  |none=>rfl
  |some o=>rw[i a o z]at u;exact ba u
 refine⟨⟨g.1.fzk,fun a o h q r=>g.1.keep a o (i a o h) (by rw[cv (l a o h)];exact q) r,fun a h o e=>g.1.frk a h o (i a o e),fun a q=>?_,fun a q=>?_,fun a q=>?_,g.1.gens.trans j,g.1.os.trans k⟩,
  g.2.base,g.2.sub,fun a h=>g.2.fr a (Nb _ h),g.2.led⟩
 .refine g.1.lk a ?_;by_cases e:a∈cH env
  .exact qJ e
  .rw[cv e];exact q
 .by_cases e:a∈cH env
  .exact .inr (f a e)
  .rcases g.1.ledn a (by rw[cv e];exact q)with u|u
   .rw[cv e]at u;exact .inl u
   .exact .inr (d a u)
 .by_cases e:a∈cH env
  .exact .inr (.inr (f a e))
  .rcases g.1.fzn a q with u|u|u
   .exact .inl u
   .rw[cv e]at u;exact .inr (.inl u)
   .exact .inr (.inr (d a u))
end
section
variable{C:Cx}{A:NN}{ZX:Env}{Z7:List Nw}{σ Z_:aa}{fz Z9:Fz}{s s₁:M7}{E:M4->M7->Prop}{env:Env}{ZM:List Env}{c:Nat}{e:M4}{d:Nat}
theorem kE(hm:oB ZX s)(T1:BJ A (ZX.locals::Z7) env)(hF:∀a,s.heap.get? a=none->σ a=none)(g:GT C ZX Z7 σ fz s Z_ Z9 s₁)(x:jZ s (ZX.locals::Z7) Z_ Z9 s₁.heap c e){Q:Unit->M7->Prop}
  (hQ:∀h',GT C ZX Z7 σ fz s Z_ Z9 {s₁ with heap:=h'}->lz s (ZX.locals::Z7) Z_ Z9 h' c e->Q () {s₁ with heap:=h'}):Nm C.M A (Sd e env) Q E s₁:=by
 obtain⟨l,L,H,hf,m,hk⟩:=T1.fr;obtain⟨D,oe,vs,rfl,p,K,h4,r,O,P,V,W,t⟩:=x;have ff:∀{h:Og},(∀a∈(ZX.locals::Z7),GF Z9 Z_ h a)->h.FunFrames ⟨#[],{}⟩ (env::l):=fun hh=>fX (C:=C) hh (fun a F=>m▸F) hk;unfold Sd;simp only[hf];rcases t with t|⟨T,oT,ts,t1,t2,t3,t4,t5,t6,t7,t8,t9⟩
 .refine M2 (PQ K r t ?_);rw[M5 (by decide)];refine cU H (ff g.2.fr) hf K r (O) fun h' f v w X Y k3 k k5 k6 k7 k8=>?_;rw[m]at X Y;have z:=g.2.free k;have nT:=g.1.gone k;have g':GT C ZX Z7 σ fz s Z_ Z9 {s₁ with heap:=h'}:=GT.exc g hm [D] (fun u d=>by simp at d;subst d;exact⟨p,hF _ p,P,V,W⟩) (fun b o i d j=>X b o i (by simpa using d) j) (fun b i o j=>Y b o i j);exact hQ h' g' ⟨D,_,_,f,v,w,rfl,p,k3,(Q_ _ _).trans h4,On r _,by simpa using O,P,V,W,by simp[show 1<vs.size by lia],k5,nT,k6,k7,k8,z.2.1,z.1,z.2.2⟩
 .refine M2 (PQ K r t1 ?_);rw[M8 (show(Oz T != Om)=true from by simp)];obtain⟨y,hy⟩:∃y,ts[3]? =some y:=⟨ts[3],by simp[show 3<ts.size by lia]⟩
  refine M2 (PQ t4 t5 hy ?_);by_cases hr:(y==Pn L)=true
  .rw[M8 hr];exact Nf (hQ s₁.heap g ⟨D,oe,vs,T,oT,ts,rfl,p,K,h4,r,O,P,V,W,t1,t2,t3,t4,t5,t6,t7,t8,t9⟩)
  .rw[M5 hr];refine M2 (Qn t4 t5 (t6) ?_);have Z:∀b,b≠T->(s₁.heap.update T (OM (·.setIfInBounds 3 Om))).get? b=s₁.heap.get? b:=fun b i=>NX _ _ (NT i);have a0:∀a∈(ZX.locals::Z7),a≠T:=fun a F q=>t9 (q▸F);refine cU (s:={s₁ with heap:=s₁.heap.update T (OM (·.setIfInBounds 3 Om))}) H (ff fun a F=>let ⟨x,y,o,es,n,j,hd⟩:=g.2.fr a F;⟨x,y,o,es,n,(Z a (a0 a F)).trans j,hd⟩) hf ((Z D (NT t2)).trans K) r (O) fun h' f v w X Y k3 k k5 k6 k7 k8=>?_;rw[m]at X Y;have c3:f≠T:=fun q=>by subst q;have:(s₁.heap.update f (OM (·.setIfInBounds 3 Om))).get? f=some _:=NU _ t4 (Px (On t5 _));have k:(s₁.heap.update f (OM (·.setIfInBounds 3 Om))).get? f=none:=k;rw[this]at k;exact ba k
   have a1:s₁.heap.get? f=none:=(Z f c3).symm.trans k;have z:=g.2.free a1;have nT:=g.1.gone a1;have g':GT C ZX Z7 σ fz s Z_ Z9 {s₁ with heap:=h'}:=GT.exc g hm [D,T] (fun u d=>by
     simp at d;rcases d with rfl|rfl
     .exact⟨p,hF _ p,P,V,W⟩
     .exact⟨t3,hF _ t3,t7,t8,t9⟩)
    (fun b o i d j=>by
     simp at d;exact X b o i d.1 ((Z b d.2).trans j)) (fun b i o j=>Y b o i ((Z b (a0 b i)).trans j))
   exact hQ h' g' ⟨D,_,_,f,v,w,rfl,p,k3,(Q_ _ _).trans h4,On r _,by simpa using O,P,V,W,by simp[show 1<vs.size by lia],k5,nT,k6,k7,k8,z.2.1,z.1,z.2.2⟩
theorem h8(D:oB ZX s)(F:∀a,s.heap.get? a=none->σ a=none)(g:GT C ZX Z7 σ fz s Z_ Z9 s₁)(x:lz s (ZX.locals::Z7) Z_ Z9 s₁.heap c e)(fr:Option Nw){Q:Unit->M7->Prop}
  (H:∀h',GT C ZX Z7 σ fz s Z_ Z9 {s₁ with heap:=h'}->lz s (ZX.locals::Z7) Z_ Z9 h' c e->Q () {s₁ with heap:=h'}):Nm C.M A (S5 e fr) Q E s₁:=by
 obtain⟨n,K,vs,T,Z,ts,rfl,L,p,O,r,P,V,W,X,t1,t,i,v,j,w,y,z,k⟩:=x;unfold S5;refine M2 (PQ p r t1 ?_);rw[M8 (show(Oz T != Om)=true from by simp)];refine Qn v j (w) ?_;have l:∀b,b≠T->(s₁.heap.update T (OM (·.setIfInBounds 3 (fr.elim Om fun f=>Pn f)))).get? b=s₁.heap.get? b:=fun b d=>NX _ _ (NT d);have Y:=NU (OM (·.setIfInBounds 3 (fr.elim Om fun f=>Pn f))) v (Px (On j _));refine H _ (GT.exc g D [T] (fun u h=>by simp at h;subst h;exact⟨i,F _ i,y,z,k⟩) (fun b o d h m=>(l b (by simpa using h)).trans m) fun b d o m=>⟨o.slots,(l b (fun q=>k (q▸d))).trans m⟩) ?_;exact⟨n,K,vs,T,_,_,rfl,L,(l n (NT t)).trans p,O,r,P,V,W,X,t1,t,i,Y,On j _,by simpa using w,y,z,k⟩
end
structure SB(C:Cx)(A:NN)(Z7:List Nw)(d:Nat)(sc:NL)(env:Env)(ρ:ar)(σ:aa)(fz:Fz)(s:M7):Prop where
 st:St C A (env.locals::Z7) d sc env ρ σ fz s
 top:BJ A (env.locals::Z7) env
 no:env.locals∉Z7
 int:Rq env=false
 mks:oB env s
 fn:env.func≠none
noncomputable def HP(P:Nk)(fz:Fz):Option PV->V8->Prop
 |none,.next=>True
 |some pv,.ret v=>VR P fz pv v
 |_,_=>False
inductive PF(C:Cx)(Z7:List Nw)(env:Env)(σ:aa)(fz:Fz)(s:M7)(K:QS)(f:V8)(s':M7):Prop
 |mk (o:Option PV) (ZY:ar) (Z6:aa) (fz':Fz) (g:GT C env Z7 σ fz s Z6 fz' s') (l:LR C (env.locals::Z7) env ZY Z6 fz' s'.heap) (f:HP C.P fz' o f) (k:K o ZY Z6)
inductive jX(C:Cx)(env:Env)(Z7:List Nw)(σ:aa)(fz:Fz)(s:M7)(X:QX)(e:M4)(s':M7):Prop
 |mk (c:Nat) (Z6:aa) (fz':Fz) (g:GT C env Z7 σ fz s Z6 fz' s') (x:jZ s (env.locals::Z7) Z6 fz' s'.heap c e) (q:X c Z6)
noncomputable def SS(d:Nat)(c:NL)(st:OJ)(m:MS):Prop:=∀(C:Cx)(A:NN)(a:List Nw)(env:Env)(b:ar)(σ:aa)(fz:Fz)(s:M7)(K:QS)(X:QX),
 SB C A a d c env b σ fz s->Hx d m b σ K X->Nm C.M A (exec st env) (PF C a env σ fz s K) (jX C env a σ fz s X) s
noncomputable def xl(d:Nat)(c:NL)(rT:List OJ)(ms:List MS):Prop:=∀(C:Cx)(A:NN)(a:List Nw)(env:Env)(b:ar)(σ:aa)(fz:Fz)(s:M7)(K:QS)(X:QX),
 SB C A a d c env b σ fz s->ai d ms b σ K X->Nm C.M A (execs rT env) (PF C a env σ fz s K) (jX C env a σ fz s X) s
section
variable{C:Cx}{A:NN}{Z7:List Nw}{σ Z_:aa}{fz Z9:Fz}{s s₁:M7}{env:Env}{ρ ZW:ar}{sc:NL}{d:Nat}
theorem jZ.gone{s s₁:M7}{b:aa}{fz':Fz}{h:Og}(k:∀a,s₁.heap.get? a=none->s.heap.get? a=none)(x:jZ s₁ f b fz' h c e):jZ s f b fz' h c e:=by obtain⟨g,i,vs,j,l,m,n,o,p,q,r,t,d⟩:=x;refine⟨g,i,vs,j,k _ l,m,n,o,p,q,r,t,d.imp id ?_⟩;rintro⟨T,u,v,w,y,z,A,C,D,E,F,H⟩;exact⟨T,u,v,w,y,k _ z,A,C,D,E,F,H⟩
theorem PF.via{K:QS}{s':M7}(g:GT C env Z7 σ fz s Z_ Z9 s₁)(x:PF C Z7 env Z_ Z9 s₁ K f s'):PF C Z7 env σ fz s K f s':=
 let ⟨o,a,b,fz',c,d,e,h⟩:=x;⟨o,a,b,fz',g.trans c,d,e,h⟩
theorem jX.via{X:QX}{s':M7}(g:GT C env Z7 σ fz s Z_ Z9 s₁)(x:jX C env Z7 Z_ Z9 s₁ X e s'):jX C env Z7 σ fz s X e s':=
 let ⟨c,a,fz',b,d,f⟩:=x;⟨c,a,fz',g.trans b,d.gone fun _=>g.1.gone,f⟩
theorem jX.oX(b:oB env s){X:QX}{s':M7}(x:PX C (env.locals::Z7) σ fz s X e s'):jX C env Z7 σ fz s X e s':=
 let ⟨c,a,fz',d,f,g⟩:=x;⟨c,a,fz',.oG b d,f,g⟩
theorem SB.step(S:SB C A Z7 d sc env ρ σ fz s)(g:GS C (env.locals::Z7) σ fz s Z_ Z9 s₁):SB C A Z7 d sc env ρ Z_ Z9 s₁:=⟨S.st.step g,S.top,S.no,S.int,S.mks.step g.1,S.fn⟩
theorem SB.at(S:SB C A Z7 d sc env ρ σ fz s)(g:GT C env Z7 σ fz s Z_ Z9 s₁)(a:LR C (env.locals::Z7) env ZW Z_ Z9 s₁.heap):SB C A Z7 d sc env ZW Z_ Z9 s₁:=
 ⟨⟨S.st.fit,S.st.scE,S.st.gl,S.st.bi,S.st.ok,g.2,a⟩,S.top,S.no,S.int,g.mks S.mks,S.fn⟩
theorem dF(e:oB env s){c d:Type}{R:Fz->d->c->Prop}{Q:d->aa->Prop}{X:QX}{t:Sem c}{Q':c->M7->Prop}(h:Nm C.M A t (PK C (env.locals::Z7) σ fz s R Q) (PX C (env.locals::Z7) σ fz s X) s)
  (h':∀v s' b a fz',GS C (env.locals::Z7) σ fz s a fz' s'->R fz' b v->Q b a->Q' v s'):Nm C.M A t Q' (jX C env Z7 σ fz s X) s:=
 Nj h (fun v s' ⟨b,a,fz',g,r,q⟩=>h' v s' b a fz' g r q) fun _ _ z=> .oX e z
theorem BK:xl d sc [] []:=by intro C A a env b σ fz s K X S w;exact PB ⟨none,b,σ,fz,.refl S.mks S.st.good,S.st.lr,trivial,w⟩
theorem yz{st:OJ}{rT:List OJ}{m:MS}{ms:List MS}(h:SS d sc st m)(hs:xl d sc rT ms):xl d sc (st::rT) (m::ms):=by
 intro C A e env l σ fz s K X S w;refine Ps (Nj (h C A e env l σ fz s _ X S w) (fun f s₁ n=>?_) fun _ _ z=>z);obtain⟨o,a,b,c,g,j,i,k⟩:=n;cases o with
 |none=>cases f<;>simp only[HP]at i;exact Nj (hs C A e env a b c s₁ K X (S.at g j) k) (fun _ _ z=>z.via g) fun _ _ z=>z.via g
 |some v=>cases f<;>simp only[HP]at i;exact⟨some v,a,b,c,g,j,i,k⟩
theorem tm{e:Expr}{m:ME}{pos:Pos}(f:SV d sc e m):SS d sc (.Return (some e) pos) (.ret m):=by intro C A h env c σ fz s K X S w;refine SJ (dF S.mks (f C A _ env c σ fz s _ X S.st w) fun v s' b a fz' g r q=>?_);exact⟨some b,c,a,fz',.oG S.mks g,S.st.lr.step g,r,q⟩
theorem EM{c:Expr}{i:ME}{t e:List OJ}{j k:List MS}{pos:Pos}(l:ST d sc c i)(m:xl d sc t j)(n:xl d sc e k):SS d sc (.If c t e pos) (.ite i j k):=by
 intro C A a env h σ fz s K X S w;refine wpAny_If (dF S.mks (l C A _ env h σ fz s _ X S.st w) fun v s' b f fz' g r q=>?_);unfold sq at r;subst r;cases b with
 |true=>exact Nj (m C A a env h f fz' s' K X (S.step g) q) (fun _ _ z=>z.via (.oG S.mks g)) fun _ _ z=>z.via (.oG S.mks g)
 |false=>exact Nj (n C A a env h f fz' s' K X (S.step g) q) (fun _ _ z=>z.via (.oG S.mks g)) fun _ _ z=>z.via (.oG S.mks g)
theorem BL{x:Str}{p pos:Pos}{e:Expr}{m:ME}{i:Nat}(hi:sc.names[i]? =some (x,.local)) (f:SV d sc e m) (hs:∀env:Env,Qi e (some (.Name x p)) pos.line env=OD false):SS d sc (.Assign [.Name x p] e pos) (.asg i m):=by intro C A h env j σ fz s K X S w;refine Rp (dF S.mks (f C A _ env j σ fz s _ X S.st w) fun v s' b a fz' g r q=>?_) (hs env);refine dc (S.st.lr.step g) S.st.scE (ko S.st.ok) hi r fun c k l=>?_;exact⟨none,_,a,fz',(GT.oG S.mks g).trans (.store (S.mks.step g.1) g.2 S.no k),l,trivial,q⟩
end
section
variable{C:Cx}{A:NN}{FR Z7:List Nw}{σ Z_:aa}{fz Z9:Fz}{s s₁:M7}{env:Env}{ρ ZW:ar}{sc:NL}{d:Nat}{E:M4->M7->Prop}
theorem yA(e:Expr)(pos:Pos)(v:M4):j0 e=none->Vm e pos v=Vm (.List [] default) pos v:=by cases e<;>first|exact ba|(intro _;kernel_rfl)
theorem qL{w:OU}{A:NN}{E:M4->M7->Prop}{s:M7}{Q:V8->M7->Prop}(h:Q .next s):Nm (N6 prog w) A (Vm e pos v) Q E s:=by
 cases q:j0 e with
 |some n=>rw[gi q];exact Nf h
 |none=>
  rw[yA e pos v q];cases v with
  |ref _=>exact M2 (O0 (M2 (Tq (O6 entry_let_go (show Nm _ _ (ret .none) _ _ s from Nf (Nf h))))))
  |_=>exact Nf h
theorem aL.setAt{P:Nk}{fz:Fz}{p:PV}{x:M4}(h:VR P fz p x){vs:List PV}{ws:List M4}(j:Nat)(c:aL P fz vs ws):aL P fz (vs.set j p) (ws.set j x):=
 c.ind (m:=fun vs ws=>∀j,aL P fz (vs.set j p) (ws.set j x)) (fun _=> .nil) (fun a b d j=>j.casesOn (.cons h b) fun j=> .cons a (d j)) j
theorem j_{l:Nw}{o:Obj}{a:Array M4}{n:Nat}{k:Int}{t:Tok}{v:M4}{Q:Unit->M7->Prop}(c:s.heap.get? l=some o)(g:o.cls= .type "list")(e:o.data= .seq a n)(h0:0<=k)(b:k<2^63)(h:k<a.size)
  (f:Q () {s with heap:=s.heap.update l (O4 (·.setIfInBounds k.toNat v))}):Nm C.M A (U6 (.ref l) (.int k t) v) Q E s:=by
 have ty:s.TypeIs (.ref l) "list":=⟨_,c,g⟩
 unfold U6
 try with_reducible refine OA ?_
 first|refine M2 (Nf ?_)|skip
 refine M2 (wpAny_sequenceKey ty (by decide) ?_);refine M2 (T4 (name:=NB "__setitem__") ty U5 (QC U5 ty entry_list_setitem ?_ (args_list_setitem _ _ _)));show Nm _ _ (VM (.int k t)>>=_) _ _ s;refine M2 (wpAny_listSubscript_int (fitsIndex_of h0 b) ?_);clear b;obtain⟨j,rfl⟩:=Po h0;have i:j<a.size:=Int.ofNat_le.mp h;have d:a[j]? =some a[j]:=Array.getElem?_eq_getElem i;show Nm _ _ ((seqItemAt l j>>=fun r=>OD (r.map (j,·)))>>=_) _ _ s;refine M2 (M2 (wpAny_seqItemAt c e (Nf ?_)));rw[d];show Nm _ _ (setSeqItemAt l j v>>=_) _ _ s;refine M2 (wpAny_setSeqItemAt c e ?_)
 first
  |exact M2 (Nf (Nf ⟨.none,rfl,Nf f⟩))
  |exact Nf ⟨.none,rfl,Nf f⟩
theorem yB{σ:aa}{K:aa->Prop}(h:qn o i v σ K):(∃a k vs,o= .ref a/\i= .int k/\σ a=some (.lst vs)/\0<=k/\k.toNat<vs.length/\K (σ.upd a (.lst (vs.set k.toNat v))))\/∃a k kvs,o= .ref a/\i= .str k/\σ a=some (.dct kvs)/\kvs.length<1048576/\K (σ.upd a (.dct (rX kvs k v))):=by
 cases o with
 |ref a=>
  cases i with
  |int k=>
   have h:(match σ a with|some (.lst vs)=>0<=k/\k.toNat<vs.length/\K (σ.upd a (.lst (vs.set k.toNat v)))|_=>False):=h
   left
   refine⟨a,k,?_⟩;cases q:σ a with
   |none=>rw[q]at h;exact h.elim
   |some m=>rw[q]at h;cases m with
    |lst vs=>exact⟨vs,rfl,rfl,rfl,h⟩
    |_=>exact h.elim
  |str k=>
   have h:(match σ a with|some (.dct kvs)=>kvs.length<1048576/\K (σ.upd a (.dct (rX kvs k v)))|_=>False):=h
   right
   refine⟨a,k,?_⟩;cases q:σ a with
   |none=>rw[q]at h;exact h.elim
   |some m=>rw[q]at h;cases m with
    |dct kvs=>exact⟨kvs,rfl,rfl,rfl,h⟩
    |_=>exact h.elim
  |_=>exact h.elim
 |_=>exact h.elim
theorem BM{kvs:List (List Nat×PV)}{k:List Nat}{v:PV}(f:kvs.length<1048576)(a:∀x∈kvs,fa x.1)(d:fa k):fb (rX kvs k v)/\∀x∈rX kvs k v,fa x.1:=by
 unfold rX;by_cases c:(kvs.any fun kv=>decide (kv.1=k))=true
 .rw[M8 c];refine⟨M1 (ND (M6 _)) (NQ f),fun x b=>?_⟩;refine i8 b fun y g h=>?_;subst h;by_cases e:y.1=k
  .rw[M8 e];exact a y g
  .rw[M5 e];exact a y g
 .rw[M5 c];exact⟨M1 (ND M3) f,fun x b=>(List.mem_append.mp b).elim (a x) fun b=>List.mem_singleton.mp b▸d⟩
theorem vm(G:aw C σ fz FR s.heap){o i v:PV}{H iv j:M4}(L:VR C.P fz o H)(O:VR C.P fz i iv)(V:VR C.P fz v j){K:aa->Prop}(h:qn o i v σ K){Q:Unit->M7->Prop}
  (W:∀d fz' s',GS C FR σ fz s d fz' s'->K d->Q () s'):Nm C.M A (U6 H iv j) Q E s:=by
 rcases yB h with⟨a,k,vs,rfl,rfl,hs,h0,g,l⟩|⟨a,k,kvs,rfl,rfl,hs,g,l⟩
 .cases L.inv;apply bc;intro f;obtain⟨X,rfl⟩:=O.inv;obtain⟨ws,n,Y,m,c⟩:=fm G hs;apply f;have hi:k<(ws.toArray.size:Int):=by rw[show ws.toArray.size=vs.length from m.length];exact Op h0▸Int.ofNat_lt.mpr g
  refine j_ Y rfl rfl h0 (TK hi (jr m.length c)) hi ?_;exact W _ fz _ (gt G hs Y (ws':=ws.set k.toNat j) (kZ (Array.toList_setIfInBounds ..)) (m.setAt V k.toNat) (M1 (ND List.length_set) c)) l
 .cases L.inv;apply bc;intro f;obtain⟨X,rfl,p⟩:=O.inv;obtain⟨r,hr,Z,c,t,a1⟩:=dZ G hs;apply f;refine wpAny_setItem_pairs (knd:=strKind pw C.w) (k:=aq k) (Pw pw C.w _ X) hr (fun h' u x=>?_) (by rw[Z.len];exact M1 (NQ g) (M1 (by decide) aA));apply bc;intro f;obtain⟨y,z⟩:=BM (v:=v) g t p;obtain⟨o',D,F⟩:=k9 (C:=C) (fz:=fz) u (Z.stored V) y z;apply f;exact W _ fz _ (.ledUpd G (fun q=>aj (q.symm.trans hs)) (fun b o hb e=>(x.2 b hb).trans e) D F) l
theorem yC{f:List Expr}{k:Nat}{h pos:Pos}{e:Expr}{m:ME}{a:List Nat}(y:dM sc (.Tuple f k h)=some a)(D:SV d sc e m)(t:2<=a.length)
  (hs:∀env:Env,Qi e (some (.Tuple f k h)) pos.line env=OD false) (E:∀env:Env,Wa [.Tuple f k h] e env=OD none):SS d sc (.Assign [.Tuple f k h] e pos) (.asgT a m):=by
 intro C A F env u σ fz s K X S w;refine Assign_Tuple (dF S.mks (D C A _ env u σ fz s _ X S.st w) fun v s' b l fz' g r q=>?_) (hs env) (E env);apply bc;intro n;obtain⟨vs,o,rfl,c,H⟩:=q;apply n;have p:oP u a (.tup vs)=some o:=by
  cases a with
  |nil=>cases t
  |cons i a=>cases a with
   |nil=>exact absurd t (TW 1)
   |cons j a=>exact c
 refine Nj (lx (S.st.step g) y r p) (fun _ x L=>?_) fun _ _ z=>z;apply bc;intro n;obtain⟨M,O⟩:=L;apply n;exact⟨none,_,l,fz',(GT.oG S.mks g).trans (.store (S.mks.step g.1) g.2 S.no M),O,trivial,H⟩
theorem yD{o e:Expr}{L m:ME}{a:Str}{i:Nat}{p pos:Pos}(hi:aC i=a)(Q:SV d sc o L)(V:SV d sc e m)(hs:∀env:Env,Qi e (some (.Attribute o a p)) pos.line env=OD false):
  SS d sc (.Assign [.Attribute o a p] e pos) (.asgA L i m):=by
 intro C A u env D σ fz s K X S w;subst hi;refine Qu (dF S.mks (V C A _ env D σ fz s _ X S.st w) fun v s₁ b c f g r q=>?_) (hs env);refine Nj (dF (S.step g).mks (Q':=fun E j=>Nm C.M A (U7 E (aC i) v) (fun _=>PF C u env c f s₁ K .next) (jX C env u c f s₁ X) j) (Q C A _ env D c f s₁ _ X (S.st.step g) q) fun E j O F H h x y=>?_) (fun E j z=>?_) fun _ _ z=>z.via (.oG S.mks g)
 .refine uC h.2 x (r.mono h.1.fzk) y fun n t P l k=>?_;exact⟨none,D,n,t,.oG (S.step g).mks (h.trans l),((S.st.lr.step g).step h).step l,trivial,k⟩
 .exact Nj z (fun _ _ z=>z.via (.oG S.mks g)) fun _ _ z=>z.via (.oG S.mks g)
theorem yE{o i e:Expr}{Y Z m:ME}{p pos:Pos}(io:SV d sc o Y)(ii:SV d sc i Z)(ie:SV d sc e m)(hs:∀env:Env,Qi e (some (.Subscript o i p)) pos.line env=OD false):
  SS d sc (.Assign [.Subscript o i p] e pos) (.asgS Y Z m):=by
 intro C A t env P σ fz s K X S w;refine wpAny_Assign_Subscript (dF S.mks (ie C A _ env P σ fz s _ X S.st w) fun v s₁ b a c g r q=>?_) (hs env);refine Nj (dF (S.step g).mks (Q':=fun Q h=>Nm C.M A (QU i env) (fun iv l=>Nm C.M A (U6 Q iv v) (fun _=>PF C t env a c s₁ K .next) (jX C env t a c s₁ X) l) (jX C env t a c s₁ X) h) (io C A _ env P a c s₁ _ X (S.st.step g) q) fun Q h a0 u x f E F=>?_) (fun Q h z=>?_) fun _ _ z=>z.via (.oG S.mks g)
 .refine Nj (ii C A _ env P u x h _ X ((S.st.step g).step f) F) (fun iv l zz=>?_) fun _ _ z=>(jX.oX ((S.step g).step f).mks z).via (.oG (S.step g).mks f);obtain⟨a1,V,W,j,H,L⟩:=zz;have O:=f.trans j;refine vm j.2 (E.mono j.1.fzk) H (r.mono O.1.fzk) L fun y D a2 n k=>?_;exact⟨none,P,y,D,.oG (S.step g).mks (O.trans n),((((S.st.lr.step g).step f).step j).step n),trivial,k⟩
 .refine Nj z (fun iv l z=>?_) fun _ _ z=>z.via (.oG S.mks g);exact Nj z (fun _ _ z=>z.via (.oG S.mks g)) fun _ _ z=>z.via (.oG S.mks g)
theorem yF{e:Expr}{m:ME}{pos:Pos}(h:SV d sc e m)(hs:∀env:Env,Qi e none pos.line env=OD false):SS d sc (.Expr e pos) (.expr m):=by
 intro C A a env f σ fz s K X S w;rw[exec_Expr env e pos S.int (hs env)];refine M2 (O0 (M2 (dF S.mks (h C A _ env f σ fz s _ X S.st w) fun v s' b c fz' g r q=>?_)));have done:PF C a env σ fz s K .next s':=⟨none,f,c,fz',.oG S.mks g,S.st.lr.step g,trivial,q⟩
 exact qL done
end
section
variable{C:Cx}{A:NN}{Z7:List Nw}{σ Z_:aa}{fz Z9:Fz}{s s₁:M7}{env:Env}{ρ ZW:ar}{sc:NL}{d:Nat}{E:M4->M7->Prop}
inductive BN(C:Cx)(env:Env)(Z7:List Nw)(σ:aa)(fz:Fz)(s:M7)(X:QX)(e:M4)(s':M7):Prop
 |mk (c:Nat) (Z6:aa) (fz':Fz) (g:GT C env Z7 σ fz s Z6 fz' s') (x:lz s (env.locals::Z7) Z6 fz' s'.heap c e) (q:X c Z6)
theorem BN.t{X:QX}{s':M7}(x:BN C env Z7 σ fz s X e s'):jX C env Z7 σ fz s X e s':=by
 cases x with
 |mk c a fz' b d f=>exact⟨c,a,fz',b,d.r,f⟩
theorem jA(S:SB C A Z7 d sc env ρ σ fz s){X:QX}{s':M7}{E:M4->M7->Prop}(f:∀e s',BN C env Z7 σ fz s X e s'->E e s')(h:jX C env Z7 σ fz s X e s'):SM C.M A env E e s':=by obtain⟨c,b,fz',g,x,q⟩:=h;exact kE S.mks S.top (fun a i=>(S.st.good.free i).2.1) g x fun h' j k=>f _ _ ⟨c,b,fz',j,k,q⟩
theorem yG(S:SB C A Z7 d sc env ρ σ fz s){X:QX}{s':M7}{E:M4->M7->Prop}(f:∀e s',BN C env Z7 σ fz s X e s'->E e s')(h:BN C env Z7 σ fz s X e s'):UT C.M A env E e s':=by obtain⟨c,b,fz',g,x,q⟩:=h;have i:=x;obtain⟨p,r,vs,T,t,u,rfl,v,j,w,k,y,z,D,F,l,H,K,L,O,P,Q,V,W⟩:=x;unfold UT;refine M2 (PQ j k l ?_);rw[M5 (show ¬(Oz T==Om)=true from Pm)];exact h8 S.mks (fun a m=>(S.st.good.free m).2.1) g i _ fun h' n o=>f _ _ ⟨c,b,fz',n,o,q⟩
theorem vn(S:SB C A Z7 d sc env ρ σ fz s){X:QX}{s':M7}{Q:Unit->M7->Prop}{E:M4->M7->Prop}(k:∀s',BN C env Z7 σ fz s X e s'->Q () s')(h:jX C env Z7 σ fz s X e s'):Nm C.M A (Wk env e) Q E s':=by obtain⟨c,b,fz',g,x,q⟩:=h;unfold Wk;refine M2 (kE S.mks S.top (fun a f=>(S.st.good.free f).2.1) g x fun h' i j=>?_);exact h8 S.mks (fun a f=>(S.st.good.free f).2.1) i j _ fun h' i j=>k _ ⟨c,b,fz',i,j,q⟩
noncomputable def PR(C:Cx)(a:List Nw)(env:Env)(σ:aa)(fz:Fz)(s:M7)(K:QS)(X:QX)(r:R9)(s':M7):Prop:=match r with
 |.ok f=>PF C a env σ fz s K f s'
 |.error e=>BN C env a σ fz s X e s'
theorem qM(S:SB C A Z7 d sc env ρ σ fz s){K:QS}{X:QX}(h:PY C.M A c (PR C Z7 env σ fz s K X) s₁):
  PY C.M A c (fun r s'=>match r with|.ok f=>PF C Z7 env σ fz s K f s'|.error e=>UT C.M A env (jX C env Z7 σ fz s X) e s') s₁:=
 SO h fun r s' z=>by
  cases r with
  |ok f=>exact z
  |error e=>exact yG S (fun _ _ z=>z.t) z
inductive WI(C:Cx)(env:Env)(Z7:List Nw)(σ:aa)(fz:Fz)(s:M7)(d:Nat)(mc:ME)(mb:List MS)(K:QS)(X:QX)(k:Nat)(s':M7):Prop
 |mk (ZY:ar) (Z6:aa) (fz':Fz) (g:GT C env Z7 σ fz s Z6 fz' s') (lr:LR C (env.locals::Z7) env ZY Z6 fz' s'.heap) (w:bD (fun ρ σ K'=>fT d mc ρ σ K' X) (fun ρ σ K'=>ai d mb ρ σ K' X) k ZY Z6 K)
theorem vo(ic:ST d sc c mc)(ib:xl d sc b mb):SS d sc (.While c b [] pos) (.whl mc mb):=by
 intro C A Z7 env ρ σ fz s K X S w;obtain⟨n,w⟩:=w;refine wpAny_While (qM S ?_);refine codeAny_whileLoop (WI C env Z7 σ fz s d mc mb K X) ?_ n ⟨ρ,σ,fz,.refl S.mks S.st.good,S.st.lr,w⟩;intro k s₁ z;cases z with
 |mk ZW Z_ Z9 g lr w=>
 cases k with
 |zero=>exact False.elim w
 |succ k=>
  have Zw:=S.at g lr;refine Nj (ic C A _ env ZW Z_ Z9 s₁ _ X Zw.st w) (fun t Z4 zz=>?_) fun e s' z=>jA S (fun _ _ z=>z) ((jX.oX Zw.mks z).via g);clear w;cases zz with
  |mk pt Z2 ZL ZU rt q=>
  have e:pt=t:=rt;subst e;have S₂:=Zw.step ZU;have g02:=g.trans (.oG Zw.mks ZU);clear Zw ZU g lr rt;cases pt with
  |false=>exact PB ⟨none,ZW,Z2,ZL,g02,S₂.st.lr,trivial,q⟩
  |true=>
   refine Nj (ib C A Z7 env ZW Z2 ZL Z4 _ X S₂ q) (fun f s₃ z=>?_) fun e s' z=>jA S (fun _ _ z=>z) (z.via g02);cases z with
   |mk o ρ₃ ZD fz₃ Zr lr₃ hf q₃=>
   cases o with
   |none=>cases f<;>first|exact hf.elim|exact⟨k,NR _,ρ₃,ZD,fz₃,g02.trans Zr,lr₃,q₃⟩
   |some v=>cases f<;>first|exact hf.elim|exact⟨some v,ρ₃,ZD,fz₃,g02.trans Zr,lr₃,hf,q₃⟩
theorem GT.touch(i:oB env s)(g:GT C env Z7 σ fz s Z_ Z9 s₁){I:Nw}(j:s.heap.get? I=none)(h0:σ I=none)(a:bX I (env.locals::Z7) Z_ Z9 s₁.heap){h':Og}{tk:Nat}(d:∀b o,b≠I->s₁.heap.get? b=some o->h'.get? b=some o):
  GT C env Z7 σ fz s Z_ Z9 {s₁ with heap:=h',toks:=tk}:=
 g.exc (s':={s₁ with heap:=h',toks:=tk}) i [I] (fun u h=>by simp at h;subst h;exact⟨j,h0,a.s,a.f,a.r⟩) (fun b o _ c e=>d b o (by simpa using c) e) fun b c o e=>⟨o.slots,d b o (fun q=>a.r (q▸c)) e⟩
theorem LR.butI{c:List Nw}{I:Nw}{h':Og}(x:LR C c env ρ σ fz s.heap)(a:I≠env.locals)(d:∀o v,s.heap.get? I=some o->o.data≠.cell v)(e:∀b o,b≠I->s.heap.get? b=some o->h'.get? b=some o):LR C c env ρ σ fz h':=x.but a (.inr d) e
theorem pr{I:Nw}(hn:I∉cH env){s':M7}{Z6:aa}{fz':Fz}(h:bX I (env.locals::Z7) σ fz s.heap)(g:GT C env Z7 σ fz s Z6 fz' s'):bX I (env.locals::Z7) Z6 fz' s'.heap/\∀o,s.heap.get? I=some o->s'.heap.get? I=some o:=by
 apply bc;intro qK;obtain⟨o,ho⟩:=h.t;apply qK;have hno:I∉Z7:=fun e=>h.r (by simp[e]);have hu:(mk σ (cH env)) I=none:=by rw[cv hn];exact h.s
 refine⟨⟨?_,?_,h.r,⟨o,g.1.keep I o ho hu hno⟩⟩,fun o h'=>g.1.keep I o h' hu hno⟩
 .cases z:Z6 I with
  |none=>rfl
  |some m=>
   rcases g.1.ledn I (by rw[cv hn,z];simp)with e|e
   .exact absurd hu e
   .rw[ho]at e;exact ba e
 .cases z:fz' I with
  |none=>rfl
  |some m=>
   rcases g.1.fzn I (by rw[z];simp)with e|e|e
   .exact absurd h.f e
   .exact absurd hu e
   .rw[ho]at e;exact ba e
inductive FI(C:Cx)(env:Env)(Z7:List Nw)(σ:aa)(fz:Fz)(s:M7)(d:Nat)(mb:List MS)(is:List Nat)(Z8:List PV)(ZZ:Nat->Og->Prop)(Z9:Fz)(I:Nw)(K:QS)(X:QX)(k:Nat)(s':M7):Prop
 |mk (i:Nat) (ZY:ar) (Z6:aa) (fz':Fz) (e:k=Z8.length+1-i) (hi:i<=Z8.length) (g:GT C env Z7 σ fz s Z6 fz' s') (lr:LR C (env.locals::Z7) env ZY Z6 fz' s'.heap) (st:ZZ i s'.heap) (hfz:∀a o,Z9 a=some o->fz' a=some o)
  (oI:bX I (env.locals::Z7) Z6 fz' s'.heap) (w:bt (fun ρ σ K'=>ai d mb ρ σ K' X) is (Z8.drop i) ZY Z6 K)
theorem WK.cell{fz:Fz}{a:List PV}{I:Nw}{b:Nat->Og->Prop}(W:WK C A fz a I b){i:Nat}{h:Og}(st:b i h)(o:Obj)(v:Option M4)(d:h.get? I=some o):o.data≠.cell v:=by obtain⟨o',_,c,_,_,e⟩:=W.k _ _ st;have i0:=d.symm.trans c;injection i0 with z0;subst z0;exact e v
theorem BO(ht:dM sc c4=some is)(ii:SI d sc it mi)(ib:xl d sc b mb)(c5:∀(env:Env)x,PL it env x=OD x):
  SS d sc (.For c4 it b [] pos) (.forl is mi mb):=by
 intro C A D env ρ σ fz s K X S w;refine wpAny_For ?_ (c5 env);refine ii C A _ env ρ σ fz s _ X _ _ S.st w (fun e s' z=> .oX S.mks z) fun it e8 j a9 n s₁ H c6 a6=>?_;apply bc;intro qK;obtain⟨I,c7,rfl,c8,gI,oI,W,c9⟩:=c6;apply qK;have L:=H.trans gI;have a4:s.heap.get? I=none:=H.1.gone c8;have a7:σ I=none:=(S.st.good.free a4).2.1;have d3:I≠env.locals:=fun e=>oI.r (e▸M_);have d4:I∉cH env:=fun e=>by obtain⟨o,M⟩:=S.mks I e;exact aj (a4.symm.trans M)
 refine qM S ?_;refine codeAny_forLoop_any (FI C env D σ fz s d mb is j c7 n I K X) ?_ (j.length+1-0) ⟨0,ρ,a9,n,rfl,NJ _,.oG S.mks L,S.st.lr.step L,c9,fun _ _ h=>h,oI,by rw[RT];exact a6⟩;clear a6 oI c9 L gI H c8 w ii;intro k q z;cases z with
 |mk i b7 E fz' e hi g lr st O F w=>
 subst e;by_cases P:i<j.length
 .rw[OS P]at w;apply bc;intro qK;obtain⟨Q,d5,w⟩:=w;apply qK;refine W.next (fz':=fz') O st P fun v pv l tk d6 rv a5 hk=>?_;obtain rfl:=(Na (d6.symm.trans (Nu P)))
  have t:=g.touch S.mks a4 a7 F (h':=l) (tk:=tk) hk;have V:LR C (env.locals::D) env b7 E fz' l:=LR.butI (s:=q) lr d3 (W.cell st) hk;have Y:bX I (env.locals::D) E fz' l:=⟨F.s,F.f,F.r,by obtain⟨o,_,M,_⟩:=W.k _ _ a5;exact⟨o,M⟩⟩
  have u:SB C A D d sc env b7 E fz' {q with heap:=l,toks:=tk}:=S.at t V;refine vh W (i:=i+1) a5 ?_;refine Nj (lx u.st ht rv d5) (fun _ Z zz=>?_) fun _ _ z=>z;apply bc;intro qK;obtain⟨ls,b8⟩:=zz;have gs:=GT.store u.mks u.st.good S.no ls;have c:=t.trans gs;have d7:SB C A D d sc env Q E fz' Z:=S.at c b8;obtain⟨b9,a0⟩:=pr d4 (s:={q with heap:=l,toks:=tk}) Y gs;apply qK;have c0:c7 (i+1) Z.heap:=W.frame a5 a0 (fun a o M=>c.2.sub a o (O a o M)) fun a o M=>t.2.sub a o (O a o M);clear a0 gs ls u Y V t hk a5 rv d6 F lr st g;refine Nj (ib C A D env Q E fz' Z _ X d7 w) (fun f f2 z=>?_) fun e s' z=>jA S (fun _ _ z=>z) (z.via c);cases z with
  |mk o a1 a2 p m a3 hf a8=>
  cases o with
  |none=>apply bc;intro qK;obtain⟨c1,c2⟩:=pr d4 b9 m;apply qK;have y:∀a o,n a=some o->p a=some o:=fun a o h=>m.1.fzk a o (O a o h);cases f<;>first|exact hf.elim|exact⟨j.length+1-(i+1),by rw[TP,Vq hi];exact NR _,i+1,a1,a2,p,rfl,P,c.trans m,a3,W.frame c0 c2 (fun a o M=>m.2.sub a o (y a o M)) (fun a o M=>c.2.sub a o (O a o M)),y,c1,a8⟩
  |some v=>cases f<;>first|exact hf.elim|exact⟨some v,a1,a2,p,c.trans m,a3,hf,a8⟩
 .obtain rfl:=QH hi (Nat.not_lt.mp P);rw[Rk]at w;refine W.done st fun h' tk hk=>?_;exact PB ⟨none,b7,E,fz',g.touch S.mks a4 a7 F (h':=h') (tk:=tk) hk,LR.butI (s:=q) lr d3 (W.cell st) hk,trivial,w⟩
theorem bX.ext{o:Obj}{h:Og}(x:bX b c σ fz h)(a:b≠D):bX b c σ (fz.ext D o) h:=⟨x.s,by simp[Fz.ext,a,x.f],x.r,x.t⟩
theorem bX.upd{h:Og}(x:bX b c σ fz h)(a:b≠D):bX b c (σ.upd D m) fz h:=⟨by rw[aa.uN _ _ a];exact x.s,x.f,x.r,x.t⟩
theorem pu{x:Str}{p pos cp:Pos}{u y iter:Expr}{n:List Expr}{isc:NL}{i:Nat}{is:List Nat}{me mt:ME}{mi:List ME}{V:List (Option Nat)}{fr:Bool}(hi:sc.names[i]? =some (x,.local))
  (b7:SI d sc iter mt) (W:∀(env:Env)x,PL iter env x=OD x)
  (ht:dM (bW sc isc) u=some is) (ie:SV d (bW sc isc) y me) (ii:∀(i:Nat)(e:Expr)(m:ME),n[i]? =some e->mi[i]? =some m->ST d (bW sc isc) e m) (Y:n.length=mi.length)
  (Z:kl sc isc=some V) (b8:bA isc=true) (a0:bA (bW sc isc)=true) (b9:∀x∈isc.names,x.2≠.cell)
  (hs:∀env:Env,env.scope=sc->Qi (.ListComp y [⟨u,iter,n,0⟩] isc cp) (some (.Name x p)) pos.line env=OD true):
  SS d sc (.Assign [.Name x p] (.ListComp y [⟨u,iter,n,0⟩] isc cp) pos) (.asg i (.comp fr V is me mt mi)):=by
 intro C A k env ρ σ fz s K X S w;rw[exec_Assign_Name_used x p _ pos (hs env S.st.scE)];refine M2 (O0 (M2 ?_));show Nm C.M A (do let _ ←Wb (.ListComp y [⟨u,iter,n,0⟩] isc cp) isc env _ (Wj []) _ _ (some (V2 (.Name x p) env))) _ _ s;apply M2;refine kA (E:=jX C env k σ fz s X) (X:=X) S.st b7 W ht ie ii Y Z b8 a0 b9 w (fun _ _ h=> .oX S.mks h) fun D O acc e3 fz' s' z F a1 g Q oL hn hD hl hq=>?_;apply bc;intro qK;obtain⟨m,hm⟩:=hn;obtain⟨ws,n',a3,hv⟩:=hD;have d6:=(S.st.good.free z).2.1;have a4:=(S.st.good.free F).2.1;have q:O≠env.locals:=fun e=>oL.r (by simp[e]);have c1:O∉cH env:=fun e=>by obtain⟨o,ho⟩:=S.mks O e;rw[F]at ho;exact aj ho
 apply qK;have fin:∀(pv:PV)(c:aa)(j:Fz),GS C (env.locals::k) σ fz s c j s'->bX O (env.locals::k) c j s'.heap->VR C.P j pv (.ref D)->K none (ρ.set i (some pv)) c->
   V0 C.M A (jX C env k σ fz s X) (some (V2 (.Name x p) env)) (fun _ s'=>Nm C.M A (OD ()) (fun _ s'=>Nm C.M A (OD Flow.next) (PF C k env σ fz s K) (jX C env k σ fz s X) s') (jX C env k σ fz s X) s') (.ref D) O (.ok .next) s':=by
  intro pv c j l H rv hk;refine SH (dc (S.st.lr.step l) S.st.scE (ko S.st.ok) hi rv fun t ls lr=>?_);refine⟨m,hm.extBut ls.keep q,fun h' c3=>?_⟩;have gs:=GT.store (S.mks.step l.1) l.2 S.no ls;have a5:=(GT.oG S.mks l).trans gs;apply bc;intro qK;obtain⟨L,_⟩:=pr c1 H gs;apply qK;have kp:∀b o,b≠O->t.heap.get? b=some o->h'.get? b=some o:=fun b o hb e=>(c3.2 b hb).trans e;have a6:=a5.touch S.mks F a4 L (h':=h') (tk:=t.toks) kp;refine Nf (Nf ⟨none,_,c,j,a6,?_,trivial,hk⟩);refine LR.butI (s:=t) lr q (fun o v ho=>?_) kp;apply bc;intro qK;obtain⟨o',es,ep,a7,c4,_⟩:=hm.extBut ls.keep q;apply qK;rw[ho]at a7;injection a7 with z0;subst z0;rw[c4];intro e;cases e
 cases fr with
 |true=>
  have ga:=GS.adoptF (s₁:=s') g z Q a3;exact fin _ _ _ ga (oL.ext (NT a1)) (.lst (M8 rfl) hl (hv.mono fun a o h=>by
   have:a≠D:=fun e=>by rw[e,Q.f]at h;exact aj h
   simp[Fz.ext,this,h])) hq
 |false=>have ga:=GS.adopt (s₁:=s') (s':=s') g z Q.s Q.f Q.r (.refl _ _) a3 (.lst hl hv);exact fin _ _ _ ga (oL.upd (NT a1)) (.ref _) (hq D Q.s)
theorem nq:∀(l:List (Str×Od))(i j:Nat)(a b:Str),(l.filter (·.2== .cell)).length<=1->l[i]? =some (a,.cell)->l[j]? =some (b,.cell)->i=j
 |[],i,_,_,_,_,h,_=>by simp at h
 |x::l,0,0,_,_,_,_,_=>rfl
 |x::l,0,j+1,a,b,h,c,d=>by simp at c;subst c;have e:(b,Ow)∈l.filter (·.2== .cell):=List.mem_filter.mpr ⟨Ok (by simpa using d),rfl⟩;have:=Tl e;rw[N_ (by rfl),Nt]at h;exact absurd h (Nat.not_lt.mpr this)
 |x::l,i+1,0,a,b,h,c,d=>by simp at d;subst d;have e:(a,Ow)∈l.filter (·.2== .cell):=List.mem_filter.mpr ⟨Ok (by simpa using c),rfl⟩;have:=Tl e;rw[N_ (by rfl),Nt]at h;exact absurd h (Nat.not_lt.mpr this)
 |x::l,i+1,j+1,a,b,h,c,d=>by have:(l.filter (·.2== .cell)).length<=1:=M1 (by rw[List.filter_cons];split<;>simp) h;rw[nq l i j a b this (by simpa using c) (by simpa using d)]
theorem jB{d:Type}:∀{l:List (Str×d)}{n:Str}{c:d},l.lookup n=some c->c∈l.map (·.2)
 |[],_,_,h=>by simp at h
 |(a,b)::r,n,c,h=>by
  rw[OH]at h;split at h
  .injection h with z0;subst z0;simp
  .exact Nb _ (jB h)
theorem yH{x:Str}{p pos:Pos}{e:Expr}{m:ME}{i:Nat}(hi:sc.names[i]? =some (x,.cell)) (ie:SV d sc e m) (hs:∀env:Env,Qi e (some (.Name x p)) pos.line env=OD false):
  SS d sc (.Assign [.Name x p] e pos) (.asgc i m):=by
 intro C A a1 env z σ fz s K X S w;have hf:=S.fn;refine Rp (dF S.mks (ie C A _ env z σ fz s _ X S.st w) fun v s' b D fz' g r q=>?_) (hs env);apply bc;intro l;obtain⟨q0,hk⟩:=q;have F:=ko S.st.ok;have E:=S.step g;obtain⟨⟨mm,hm,hv⟩,l0,l1,l2,l3⟩:=E.st.lr;apply l;have t:env.scope.names[i]? =some (x,.cell):=by rw[S.st.scE];exact hi
 apply bc;intro l;obtain⟨c,H,⟨o,c2,c3⟩,c4,V,c6,W⟩:=l3 hf i x q0 t;apply l;have kO:env.kindOf x=some .cell:=by unfold Pu;rw[S.st.scE];exact aF F.nd hi
 refine wpAny_storeName_cell (by rw[S.st.scE];exact F.kind) kO H ⟨o,c2,c3⟩ fun h' L M=>?_;apply bc;intro l;obtain⟨o',O,P⟩:=L;apply l;have Y:∀b o,b≠c->s'.heap.get? b=some o->h'.get? b=some o:=fun b o hb e=>(M.2 b hb).trans e;have Q:c∈cH env:=Nb _ (jB H);have gc:=GT.cell (s':={s' with heap:=h'}) E.mks E.st.good Q c4 V c6 O Y;have ex:∀b f,fz' b=some f->fz'.ext c o' b=some f:=fun b f h=>by
  have:b≠c:=fun e=>by rw[e,V]at h;exact aj h
  simp[Fz.ext,this,h]
 refine⟨none,z.set i (some b),D,_,(GT.oG S.mks g).trans gc,⟨⟨mm,hm.extBut Y (NT W),fun j Z k=>?_⟩,l0,l1,by simp[Fz.ext,NT W,l2],fun _ j n' k u=>?_⟩,trivial,hk⟩
 .by_cases e:j=i
  .subst e;have n:j<z.length:=by
    have:=(List.getElem?_eq_some_iff.mp k).1
    simpa using this
   have:b=Z:=by rw[Qg n]at k;simpa using k
   subst this;exact⟨x,.cell,t,.inr ⟨.inl rfl,c,o',v,H,by simp[Fz.ext],P,r.mono ex⟩⟩
  .rw[RS (NT e)]at k;apply bc;intro l;obtain⟨n1,k1,h1,h2⟩:=hv j Z k;apply l;exact⟨n1,k1,h1,h2.imp (fun⟨a,y,b,c⟩=>⟨a,y,b,c.mono ex⟩) fun⟨a,c',f,y,b1,b2,b3,b4⟩=>⟨a,c',f,y,b1,ex _ _ b2,b3,b4.mono ex⟩⟩
 .by_cases e:j=i
  .subst e;have n:j<z.length:=by
    have:=(List.getElem?_eq_some_iff.mp k).1
    simpa using this
   rw[Qg n]at k;cases k
  .rw[S.st.scE]at u;exact absurd (nq _ _ _ _ _ F.one u hi) e
end
noncomputable def Le(b c:aa):Prop:=∀a m,b a=some m->c a=some m
theorem Le.rfl{σ:aa}:Le σ σ:=fun _ _ h=>h
inductive aZ(Q:PV->aa->Prop):PV->aa->Prop
 |val {v:PV} {Z_ Z2:aa} (h:Le Z2 Z_) (q:Q v Z2):aZ Q v Z_
 |frz {a:Nw} {vs:List PV} {Z_ Z2:aa} (hs:Z_ a=some (.lst vs)) (h:Le Z2 (Z_.del a)) (q:Q (.lst vs) Z2):aZ Q (.ref a) Z_
 |frz2 {a:Nw} {v:PV} {vs:List PV} {Z_ Z2:aa} (hs:Z_ a=some (.lst vs)) (h:Le Z2 (Z_.del a)) (q:Q (.tup [v,.lst vs]) Z2):aZ Q (.tup [v,.ref a]) Z_
noncomputable def ao(X:QX):QX:=fun c b=>∃a,Le a b/\X c a
section
variable{C:Cx}{A:NN}{FR Z7:List Nw}{σ Z_:aa}{fz Z9:Fz}{s s₁:M7}{env:Env}{ρ ZW:ar}{sc:NL}{d:Nat}{E:M4->M7->Prop}
theorem vp(G:aw C σ fz FR s.heap)(hs:σ a=some (.lst vs)):∃o,s.heap.get? a=some o/\VR C.P (fz.ext a o) (.lst vs) (.ref a)/\(∀b o',fz b=some o'->fz.ext a o b=some o'):=by apply bc;intro c;obtain⟨d,o,f,g⟩:=G.led a _ hs;obtain⟨ws,n,rfl,i,j⟩:=g.inv;apply c;have ex:∀b o',fz b=some o'->fz.ext a (bG "list" ws.toArray n) b=some o':=fun b o' h=>(M5 fun e=>aj (d.symm.trans (e▸h))).trans h;exact⟨_,f,.lst (M8 rfl) i (j.mono ex),ex⟩
theorem lA(g:GS C FR σ fz s Z_ Z9 s₁){Q:PV->aa->Prop}(r:VR C.P Z9 pv v)(h:aZ Q pv Z_):PK C FR σ fz s (VR C.P) Q v s₁:=by
 cases h with
 |val h q=>exact⟨_,_,Z9,g.trans (.drop g.2 h),r,q⟩
 |frz hs h q=>cases r.inv;apply bc;intro qK;obtain⟨o,ho,rv,ex⟩:=vp g.2 hs;apply qK;have g2:=GS.freeze g.2 (fun e=>aj (e.symm.trans hs)) ho;exact⟨_,_,_,(g.trans g2).trans (.drop g2.2 h),rv,q⟩
 |frz2 hs h q=>apply bc;intro qK;obtain⟨_,_,_,rfl,ha,hl,hv⟩:=r.inv;obtain⟨x,y,rfl,h1,h2⟩:=x3 hv;cases h2.inv;obtain⟨o,ho,rv,ex⟩:=vp g.2 hs;apply qK;have g2:=GS.freeze g.2 (fun e=>aj (e.symm.trans hs)) ho;exact⟨_,_,_,(g.trans g2).trans (.drop g2.2 h),.tup (ex _ _ ha) (Ni rfl) (.cons (h1.mono ex) (.cons rv .nil)),q⟩
theorem BP(g:GS C FR σ fz s Z_ Z9 s₁){X:QX}(x:jZ s FR Z_ Z9 s₁.heap c e)(h:ao X c Z_):PX C FR σ fz s X e s₁:=by
 apply bc;intro j;obtain⟨b,d,q⟩:=h;obtain⟨k,l,vs,n,o,p,r,t,u,v,w,y,f⟩:=x;apply j;have i:∀a,Z_ a=none->b a=none:=fun a A=>by
  cases z:b a with
  |none=>rfl
  |some m=>exact aj (A.symm.trans (d a m z))
 refine⟨c,b,Z9,g.trans (.drop g.2 d),⟨k,l,vs,n,o,p,r,t,u,i _ v,w,y,f.imp id ?_⟩,q⟩;rintro⟨T,D,E,F,H,K,L,M,O,P,Q,V⟩;exact⟨T,D,E,F,H,K,L,M,O,i _ P,Q,V⟩
theorem h9{a:Type}(ps:List Str):∀(l:List a),((ps.zip l).map (·.1)).Sublist ps:=by
 induction ps with
 |nil=>exact fun _=> .slnil
 |cons p ps b=>exact fun l=>l.casesOn (List.nil_sublist _) fun x l=>(b l).cons₂ _
theorem kF{α:Type}{l:List (Str×α)}{n:Str}{v:α}(hn:(l.map (·.1)).Nodup)(h:(n,v)∈l):l.lookup n=some v:=by
 induction l with
 |nil=>cases h
 |cons a r ih=>
  rw[NO,Pd]at hn;rw[OH];rcases List.mem_cons.mp h with rfl|h
  .rw[Nx]
  .rw[beq_eq_false_iff_ne.mpr fun e:n=a.1=>hn.1 (e▸List.mem_map.mpr ⟨(n,v),h,rfl⟩)];exact ih hn.2 h
theorem nr{fz:Fz}{P:Nk}{n:Str}{ps:List Str}:∀{a:List PV}{vs:List M4}{pv:PV},aL P fz a vs->(ps.zip a).lookup n=some pv->∃v,(n,v)∈ps.zip vs/\VR P fz pv v:=by
 induction ps with
 |nil=>intro a vs pv _;exact aj
 |cons p ps c=>
  intro a vs pv b h;cases a with
  |nil=>exact aj h
  |cons q a=>
   obtain⟨x,xs,rfl,d,f⟩:=b.inv;rw[List.zip_cons_cons,OH]at h;cases e:n==p with
   |true=>rw[e]at h;injection h with z0;subst z0;obtain rfl:=beq_iff_eq.mp e;exact⟨x,M_,d⟩
   |false=>rw[e]at h;obtain⟨v,g,b⟩:=c f h;exact⟨v,Nb _ g,b⟩
noncomputable def iz(b:NL)(ps:List Str)(a:List PV):ar:=b.names.map fun x=>(ps.zip a).lookup x.1
theorem rU.deeper(F:rU A FR (d+1)){env:Env}(c:env.frame=some L)(e:env.scope.kind= .function):rU (A.deeper env) (L::FR) d:=by
 obtain⟨f,⟨a,g,h,i⟩,j,k⟩:=F;refine⟨f,⟨env::a,RE g,?_,?_⟩,?_,?_⟩
 .rw[O5,c,h]
 .intro x b;rcases List.mem_cons.mp b with rfl|b
  .exact⟨e,by rw[c];rfl⟩
  .exact i x b
 .show A.depth+1+2*d+4<=_;lia
 .show A.units+3+12*d+200<=_;lia
structure BQ(f:Nat)(sc:NL)(body:List OJ)(ps:List Str)(fd:Nk->Qb):Prop where
 at_:∀P,∃o,(H1 P).get? f=some o/\o.data= .func (fd P)
 body:∀P,(fd P).body= .stmts body
 scope:∀P,(fd P).scope=sc
 globals:∀P,(fd P).globals=3
 builtins:∀P,(fd P).builtins=0
 closure:∀P,(fd P).closure=[]
 code:∀P,∃c o vs t,(fd P).code= .ref c/\(H1 P).get? c=some o/\o.data= .fields vs/\vs[1]? =some (.str (fd P).qualname t)
 ok:bA sc=true
 nd:ps.Nodup
 loc:∀x∈ps,sc.names.lookup x=some .local
theorem vq{k:NN}(S:SB C k FR d sc env ρ σ fz s₁)(l:∀b o,s.heap.get? b=some o->s₁.heap.get? b=some o)(lv:∀{f fz' s'},GT C env FR σ fz s₁ f fz' s'->GS C FR σ fz s f fz' s'){X:QX}{s':M7}(z:jX C env FR σ fz s₁ (ao X) e s'):
  Nm C.M k (Wk env e) (fun _ i=>PX C FR σ fz s X e i) E s':=by
 refine vn S (fun i m=>?_) z;obtain⟨c,f,fz',g,x,q⟩:=m;have n:=x.r.gone (s:=s) (fun a p=>by
  cases z:s.heap.get? a with
  |none=>rfl
  |some o=>exact aj (p.symm.trans (l a o z)))
 obtain⟨t,u,vs,v,w,y,A,D,F,H,K,L,j⟩:=n;refine BP (lv g) ⟨t,u,vs,v,w,y,A,D,F,H,K,fun h=>L (Nb _ h),j.imp id ?_⟩ q;rintro⟨T,O,P,Q,V,W,Y,Z,r6,r7,r8,r9⟩;exact⟨T,O,P,Q,V,W,Y,Z,r6,r7,r8,fun h=>r9 (Nb _ h)⟩
theorem jC{f:Nat}{body:List OJ}{ps:List Str}{fd:Nk->Qb}(j:BQ f sc body ps fd)(D:∀x∈sc.names,x.2≠.cell){y pargs:List PV}{ms:List MS}(hb:xl d sc body ms)
  (E:∀(C:Cx)(r:List Nw)(σ:aa)(fz:Fz)(s:M7)(vals:List M4),aw C σ fz r s.heap->aL C.P fz y vals->∃b,Un s (fd C.P) ⟨vals,[]⟩ (ps.zip b)/\aL C.P fz pargs b)
  {Q:PV->aa->Prop} {X:QX} (w:ai d ms (iz sc ps pargs) σ (fun o _ t=>aZ Q (o.getD .none) t) (ao X)):af (d+1) (.ref f) y σ Q X:=by
 intro C A r fz s vals F G hv;apply bc;intro u;obtain⟨o,ho,hd⟩:=j.at_ C.P;obtain⟨b,a3,a4⟩:=E C r σ fz s vals G hv;obtain⟨cc,co,a5,ct,c1,c2,c3,c4⟩:=j.code C.P;apply u;have H:=ko j.ok;have a6:∀l:List M4,((ps.zip l).map (·.1)).Nodup:=fun l=>by exact j.nd.sublist (h9 ps l)
 refine Vn (by have:=F.depth;lia) (aJ C ho G).2 hd (k_ C G) ⟨cc,co,a5,ct,c1,(aJ C c2 G).2,c3,c4⟩ (j.body C.P) a3 (by rw[j.scope];exact D) (fun x K=>?_) (fun m O p=>?_) (by rw[j.scope];exact H.cor) (by rw[j.scope];exact H.gen) (by rw[j.scope];exact H.kind)
 .rw[j.scope];exact j.loc _ (Qz K).1
 generalize hL:s.heap.objs.size=L at *;have V:s.heap.get? L=none:=hL▸fresh s.heap;have fL:=G.free V;have eL:(Q7 (fd C.P) L f).locals=L:=rfl;have eF:(Q7 (fd C.P) L f).frame=some L:=rfl;have eC:(Q7 (fd C.P) L f).cells=[]:=j.closure C.P;have M:(Q7 (fd C.P) L f).scope=sc:=j.scope C.P;have W:cH (Q7 (fd C.P) L f)=[L]:=by unfold cH;rw[eC];rfl
 have F':rU (A.deeper (Q7 (fd C.P) L f)) (L::r) d:=F.deeper eF (by rw[M];exact H.kind);have gk:GS C r σ fz s σ fz {s with heap:=m,toks:=s.toks+(ps.zip b).length}:= .keep G p;apply bc;intro u;obtain⟨oL,a7,a8,Y,hdL,e3⟩:=id O;apply u;have G':aw C σ fz (L::r) m:=⟨gk.2.base,gk.2.sub,fun a ha=>by
  rcases List.mem_cons.mp ha with rfl|ha
  .exact⟨fL.1,fL.2.1,oL,a7,a8,Y,hdL⟩
  .exact gk.2.fr a ha,gk.2.led⟩
 have lr:LR C (L::r) (Q7 (fd C.P) L f) (iz sc ps pargs) σ fz m:=by
  refine⟨⟨_,O,fun i v hi=>?_⟩,fun i n hi=>?_,fL.2.1,fL.1,fun _ i n _ hi=>?_⟩
  .unfold iz at hi;rw[Os]at hi;apply bc;intro u;refine cn hi fun y0 h1 h2=>?_;obtain⟨n,k⟩:=y0;obtain⟨x,hm,K⟩:=nr a4 h2;apply u;have hk:sc.names.lookup n=some k:=aF H.nd h1;have b7:=j.loc n (Qz hm).1;have i0:=hk.symm.trans b7;injection i0 with z0;subst z0
   refine⟨n,.local,by rw[M];exact h1,.inl ⟨rfl,x,?_,K⟩⟩;refine kF ?_ (List.mem_reverse.mpr hm);rw[List.map_reverse];exact List.pairwise_reverse.mpr ((a6 b).imp fun h=>h.symm)
  .rw[M]at hi;exact absurd rfl (D _ (Ok hi))
  .rw[M]at hi;exact absurd rfl (D _ (Ok hi))
 have S:SB C (A.deeper (Q7 (fd C.P) L f)) r d sc (Q7 (fd C.P) L f) (iz sc ps pargs) σ fz {s with heap:=m,toks:=s.toks+(ps.zip b).length}:=by
  refine⟨⟨F',M,j.globals C.P,j.builtins C.P,j.ok,G',lr⟩,?_,fL.2.2,?_,fun c Z=>?_,by intro e;exact ba e⟩
  .apply bc;intro u;obtain⟨a0,h2,h3,h4⟩:=F.frames;apply u;refine⟨a0,L,RE h2,eF,?_,?_⟩
   .rw[O5,eF,h3];rfl
   .intro x K;rcases List.mem_cons.mp K with rfl|K
    .exact⟨by rw[M];exact H.kind,by rw[eF];rfl⟩
    .exact h4 x K
  .unfold Rq;rw[M,H.kind];rfl
  .rw[W]at Z;obtain rfl:=List.mem_singleton.mp Z;exact⟨oL,Y⟩
 have lv:∀{t fz' s'},GT C (Q7 (fd C.P) L f) r σ fz {s with heap:=m,toks:=s.toks+(ps.zip b).length} t fz' s'->GS C r σ fz s t fz' s':=fun g=>
  g.leave (s0:=s) (fun c Z=>by rw[W]at Z;obtain rfl:=List.mem_singleton.mp Z;exact V) G p rfl rfl
 refine Nj (hb C _ r _ _ σ fz _ _ _ S w) (fun fl s' z=>?_) fun e s' z=>?_
 .apply bc;intro u;obtain⟨o,f0,t,fz',g,f1,hf,q⟩:=z;apply u;cases o with
  |none=>cases fl<;>first|exact hf.elim|exact lA (lv g) .none q
  |some v=>cases fl<;>first|exact hf.elim|exact lA (lv g) hf q
 .exact vq S p lv z
end
theorem jD(lo:Nat)(m:Str)(k:Od)(r:List (Str×Od))(acc:List (Str×Nw))(a:(k==Ow)=true):RK lo ((m,k)::r) acc=RK (lo+1) r ((m,lo)::acc):=M8 a
theorem jE(lo:Nat)(m:Str)(k:Od)(r:List (Str×Od))(acc:List (Str×Nw))(a:¬(k==Ow)=true):RK lo ((m,k)::r) acc=RK lo r acc:=M5 a
theorem px(names:List (Str×Od)):∀(lo:Nat)(acc:List (Str×Nw))(n:Str),((n,Ow)∈names\/(acc.lookup n).isSome=true)->((RK lo names acc).lookup n).isSome=true:=by
 induction names with
 |nil=>exact fun lo acc n h=>h.elim (fun h=>absurd h Nq) id
 |cons p r b=>
  intro lo acc n h;obtain⟨m,k⟩:=p;by_cases a:(k==Ow)=true
  .rw[jD _ _ _ _ _ a];refine b _ _ n ?_;rw[OH];cases e:n==m with
   |true=>exact .inr rfl
   |false=>exact h.imp (fun h=>(List.mem_cons.mp h).resolve_left fun q=>by injection q with z0 z1;subst z0 z1;exact df ((Nx n).symm.trans e)) id
  .rw[jE _ _ _ _ _ a];exact b _ _ n (h.imp (fun h=>(List.mem_cons.mp h).resolve_left fun q=>by injection q with z0 z1;subst z0 z1;exact a rfl) id)
theorem vt(names:List (Str×Od)):∀(lo:Nat)(acc:List (Str×Nw)),(names.map (·.1)).Nodup->(acc.map (·.1)).Nodup->(∀n∈acc.map (·.1),n∉names.map (·.1))->((RK lo names acc).map (·.1)).Nodup:=by
 induction names with
 |nil=>exact fun _ _ _ h _=>h
 |cons p r c=>
  intro lo acc a d b;obtain⟨m,k⟩:=p;rw[NO,Pd]at a;by_cases e:(k==Ow)=true
  .rw[jD _ _ _ _ _ e];exact c _ _ a.2 (List.nodup_cons.mpr ⟨fun q=>b m q M_,d⟩) (List.forall_mem_cons.mpr ⟨a.1,fun n h q=>b n h (Nb _ q)⟩)
  .rw[jE _ _ _ _ _ e];exact c _ _ a.2 d fun n h q=>b n h (Nb _ q)
theorem tn(k:Str->Option Od)(a:List (Str×M4)):∀(m:Str->Option M4)(n:Str),n∉a.map (·.1)->bindL k a m n=m n:=by
 induction a with
 |nil=>exact fun _ _ _=>rfl
 |cons p r b=>
  intro m n h;rw[NO,Rb,not_or]at h;unfold bindL;rw[b _ n h.2];split
  .exact M5 h.1
  .rfl
theorem to(k:Str->Option Od)(bs:List (Str×M4)):∀(m:Str->Option M4)(n:Str)(v:M4),(bs.map (·.1)).Nodup->(∀x∈bs,k x.1=some .local)->(n,v)∈bs->bindL k bs m n=some v:=by
 induction bs with
 |nil=>exact fun _ _ _ _ _ h=>absurd h Nq
 |cons p r ih=>
  intro m n v hn hk h;rw[NO,Pd]at hn;unfold bindL;rw[M8 (hk p M_)];rcases List.mem_cons.mp h with rfl|h
  .rw[tn k r _ _ hn.1];exact M8 rfl
  .exact ih _ n v hn.2 (fun x hx=>hk x (Nb _ hx)) h
theorem pz(k:Str->Option Od)(a:List (Str×M4)):∀(m:Str->Option M4),(∀x∈a,k x.1=some .local)->bindC k a m=m:=by
 induction a with
 |nil=>exact fun _ _=>rfl
 |cons p r c=>intro m b;unfold bindC;rw[M8 (b p M_)];exact c m fun x d=>b x (Nb _ d)
section
variable{d:Nat}{sc:NL}
theorem nu{f:Nat}{body:List OJ}{ps:List Str}{fd:Nk->Qb}(m:BQ f sc body ps fd){K pargs:List PV}{ms:List MS}(hb:xl d sc body ms)
  (Y:∀(P:Nk)(fz:Fz)(vals:List M4),aL P fz K vals->∃b,UB (fd P) ⟨vals,[]⟩=OD (ps.zip b)/\aL P fz pargs b)
  {σ:aa} {Q:PV->aa->Prop} {X:QX} (w:ai d ms (iz sc ps pargs) σ (fun o _ D=>aZ Q (o.getD .none) D) (ao X)):af (d+1) (.ref f) K σ Q X:=by
 intro C A M fz s vals F G hv;apply bc;intro p;obtain⟨o,ho,hd⟩:=m.at_ C.P;obtain⟨b,b7,b8⟩:=Y C.P fz vals hv;obtain⟨cc,co,b9,ct,c1,c2,c3,c4⟩:=m.code C.P;apply p;have O:=ko m.ok;have V:∀x∈ps.zip b,sc.names.lookup x.1=some .local:=fun x E=>m.loc _ (Qz E).1;refine codeAny_call_cells (by have:=F.depth;lia) (aJ C ho G).2 hd (k_ C G) ⟨cc,co,b9,ct,c1,(aJ C c2 G).2,c3,c4⟩ (m.body C.P) b7 (m.closure C.P) (fun x E=>by rw[m.scope];exact .inl (V x E)) (fun s₁ x=>?_) (by rw[m.scope];exact O.cor) (by rw[m.scope];exact O.gen) (by rw[m.scope];exact O.kind);generalize hL:s.heap.objs.size=L at *;have a3:s.heap.get? L=none:=hL▸fresh s.heap;have fL:=G.free a3;generalize Z:callEnvC (fd C.P) L f=env at *;have u:env.locals=L:=by rw[←Z];rfl
 have eF:env.frame=some L:=by rw[←Z];rfl
 have eC:env.cells=RK (L+1) sc.names []:=by rw[←Z,←m.scope C.P];rfl
 have W:env.scope=sc:=by rw[←Z];exact m.scope C.P
 have eG:env.globals=3:=by rw[←Z];exact m.globals C.P
 have eB:env.builtins=0:=by rw[←Z];exact m.builtins C.P
 have c0:env.func≠none:=by rw[←Z];intro e;exact ba e
 have a4:∀x∈ps.zip b,env.kindOf x.1=some .local:=fun x E=>by unfold Pu;rw[W];exact V x E
 apply bc;intro p;obtain⟨⟨⟨j,tk,rfl⟩,a0,r,_⟩,t,_,l⟩:=x;rw[u]at a0 l;rw[pz _ _ _ a4]at t;have c5:∀n c,env.cells.lookup n=some c->L<c:=fun n c h=>l n c (mem_of_lookup h);have H:∀c,L<=c->s.heap.get? c=none:=fun c h=>RV (M1 (ND hL) h);have F':rU (A.deeper env) (L::M) d:=F.deeper eF (by rw[W];exact O.kind);have gk:GS C M σ fz s σ fz {s with heap:=j,toks:=tk}:= .keep G r;obtain⟨oL,c6,c7,a5,hdL,f9⟩:=id a0;apply p;have G':aw C σ fz (L::M) j:=⟨gk.2.base,gk.2.sub,fun a ha=>by
  rcases List.mem_cons.mp ha with rfl|ha
  .exact⟨fL.1,fL.2.1,oL,c6,c7,a5,hdL⟩
  .exact gk.2.fr a ha,gk.2.led⟩
 have cs:∀(i:Nat)(n:Str),sc.names[i]? =some (n,Ow)->(env.cells.lookup n).isSome=true:=fun i n h=>by rw[eC];exact px _ _ _ _ (.inl (Ok h))
 have c9:((ps.zip b).map (·.1)).Nodup:=m.nd.sublist (h9 ps b);have lr:LR C (L::M) env (iz sc ps pargs) σ fz j:=by
  refine⟨⟨_,by rw[u];exact a0,fun i v hi=>?_⟩,fun i n hi=>cs i n (by rw[←W];exact hi),by rw[u];exact fL.2.1,by rw[u];exact fL.1,fun _ i n _ hi=>?_⟩
  .unfold iz at hi;rw[Os]at hi;apply bc;intro p;refine cn hi fun y0 h1 h2=>?_;obtain⟨n,k⟩:=y0;obtain⟨x,hm,E⟩:=nr b8 h2;apply p;have hk:sc.names.lookup n=some k:=aF O.nd h1;have d5:=m.loc n (Qz hm).1;have i0:=hk.symm.trans d5;injection i0 with z0;subst z0
   exact⟨n,.local,by rw[W];exact h1,.inl ⟨rfl,x,to _ _ _ n x c9 a4 hm,E⟩⟩
  .apply bc;intro p;refine DL (cs i n (by rw[←W];exact hi)) fun c y=>?_;have a1:=c5 n c y;have fc:=G.free (H c (NQ a1));obtain⟨o,a2,d7⟩:=t n c y;apply p;refine⟨c,y,⟨o,a2,d7⟩,fc.2.1,fc.1,?_,by rw[u];exact Rv a1⟩;intro q;rcases List.mem_cons.mp q with q|q
   .exact absurd q (Rv a1)
   .exact fc.2.2 q
 have a7:∀c∈cH env,s.heap.get? c=none/\∃o,j.get? c=some o:=fun c y=>by
  unfold cH at y;rcases List.mem_cons.mp y with rfl|y
  .exact⟨by rw[u];exact a3,oL,by rw[u];exact a5⟩
  .apply bc;intro p;refine i8 y fun y0 h1 e0=>?_;obtain⟨n,c'⟩:=y0;subst e0;apply p;refine⟨H c' (NQ (l n c' h1)),?_⟩;have nd:(env.cells.map (·.1)).Nodup:=by rw[eC];exact vt _ _ _ O.nd .nil (fun n h=>absurd h Nq)
   apply bc;intro p;obtain⟨o,a2,_⟩:=t n c' (kF nd h1);apply p;exact⟨o,a2⟩
 have S:SB C (A.deeper env) M d sc env (iz sc ps pargs) σ fz {s with heap:=j,toks:=tk}:=by
  refine⟨⟨by rw[u];exact F',W,eG,eB,m.ok,by rw[u];exact G',by rw[u];exact lr⟩,?_,by rw[u];exact fL.2.2,?_,fun c y=>(a7 c y).2,c0⟩
  .apply bc;intro p;obtain⟨a8,h2,h3,h4⟩:=F.frames;apply p;refine⟨a8,L,RE h2,eF,?_,?_⟩
   .rw[O5,eF,h3,u]
   .intro x E;rcases List.mem_cons.mp E with rfl|E
    .exact⟨by rw[W];exact O.kind,by rw[eF];rfl⟩
    .exact h4 x E
  .unfold Rq;rw[W,O.kind];rfl
 have lv:∀{D fz' s'},GT C env M σ fz {s with heap:=j,toks:=tk} D fz' s'->GS C M σ fz s D fz' s':=fun g=>
  g.leave (s0:=s) (fun c y=>(a7 c y).1) G r rfl rfl
 refine Nj (hb C _ M _ _ σ fz _ _ _ S w) (fun fl s' z=>?_) fun e s' z=>vq S r lv z;apply bc;intro p;obtain⟨o,h6,D,fz',g,h7,hf,q⟩:=z;apply p;cases o with
 |none=>cases fl<;>first|exact hf.elim|exact lA (lv g) .none q
 |some v=>cases fl<;>first|exact hf.elim|exact lA (lv g) hf q
end
theorem EN(P:Nk):∃nm q d b e sub f c g h i j k l a,(H1 P).get? 87=some (PU nm q 87 86 d [.ref 74,.type "Exception",.type "BaseException",.type "object"] b e sub f c g h i j k l a):=
 ⟨_,_,_,_,_,_,_,_,_,_,_,_,_,_,_,rfl⟩
theorem EO(P:Nk):∃nm q d b e sub f c g h i j k l a,(H1 P).get? 99=some (PU nm q 99 98 d [.ref 74,.type "Exception",.type "BaseException",.type "object"] b e sub f c g h i j k l a):=
 ⟨_,_,_,_,_,_,_,_,_,_,_,_,_,_,_,rfl⟩
section
variable{C:Cx}{A:NN}{FR:List Nw}{σ:aa}{fz:Fz}{s:M7}{E:M4->M7->Prop}
theorem tp(G:aw C σ fz FR s.heap){l:Obj}(m:s.heap.get? k=some l)(f:l.cls= .ref (rV c)){Q:Bool->M7->Prop}(n:Q true s):Nm C.M A (excMatches (.ref k) (.ref (rV c))) Q E s:=by
 apply bc;intro b;obtain⟨h,g,d,t,D⟩:=s;apply b;unfold rV at f⊢;split at f
 .apply bc;intro b;obtain⟨nm,q,o,e,p,sub,r,i,u,v,w,x,y,z,a,j⟩:=EN C.P;apply b;exact TL (aJ C j G).2 m f (by decide) n
 .apply bc;intro b;obtain⟨nm,q,o,e,p,sub,r,i,u,v,w,x,y,z,a,j⟩:=EO C.P;apply b;exact TL (aJ C j G).2 m f (by decide) n
theorem nv(c:fF.lookup x=some a)(b:a=87\/a=99):rV (eq a)=a:=by rcases b with rfl|rfl<;>rfl
theorem vu{env:Env}{sc:NL}(S:SB C A Z7 d sc env ρ σ fz s)(hg:bV sc x=true)(hx:fF.lookup x=some a)(ha:a=87\/a=99)
 {Z_:aa} {Z9:Fz} {s₁:M7} (g:GS C (env.locals::Z7) σ fz s Z_ Z9 s₁) (ex:jZ s (env.locals::Z7) Z_ Z9 s₁.heap (eq a) e) {Q:V8->M7->Prop}
 (hQ:∀h' E',GS C (env.locals::Z7) σ fz s Z_ Z9 {s₁ with heap:=h'}->Nm C.M (A.mark (some e)) (exec b₀ env) (fun f s'=>Q f s') E' {s₁ with heap:=h'}):
  Nm C.M A (Sd e env) (fun _ Z4=>Nm C.M A (S5 e none) (fun _ s₃=>Nm C.M A (handleBy e env [.ExceptHandler (some (.Name x np)) none [b₀] hpos]) Q E s₃) E Z4) E s₁:=by
 have fr:∀a,s.heap.get? a=none->σ a=none:=fun a ha=>(S.st.good.free ha).2.1;refine vl S.top fr g ex fun Zy Zt x₁=>?_;refine jz fr Zt x₁ none fun ZB ZU x₂=>?_;obtain⟨ea,oe,vs,T,oT,ts,rfl,q2,q3,q4,q5,q6,q7,q8,q9,r1,r2,r3,r4,r5,r6,r7,r8,r9⟩:=id x₂;have ee:=nv hx ha;refine wpAny_handleBy_cons (codeAny_handlers_test ?_) (by intro q;cases q);have F:=ko S.st.ok;refine QY (by rw[S.st.scE];exact F.kind) (by unfold Pu;rw[S.st.scE];exact bg hg) (U8 (by rw[S.st.gl];exact xZ ZU.2) (li hx C.P).1 ?_) (ju hx);have key:∀{Q:Bool->M7->Prop}{E:M4->M7->Prop},Q true {s₁ with heap:=ZB}->Nm C.M (A.mark (some (.ref ea))) (excMatches (.ref ea) (.ref a)) Q E {s₁ with heap:=ZB}:=by
  intro Q E hq;have:=tp (C:=C) (A:=A.mark (some (.ref ea))) (E:=E) (Q:=Q) (c:=eq a) (s:={s₁ with heap:=ZB}) ZU.2 q3 q4 hq
  rwa [ee]at this
 apply key;apply codeAny_handlers_suite;refine jz fr ZU x₂ none fun h₃ Zr x₃=>?_;exact Ps (Nj (hQ h₃ _ Zr) (fun f s' z=>by cases f<;>first|exact PB z|exact z) fun _ _ z=>z)
end
section
variable{sc:NL}{d:Nat}
theorem yI(t:SV d sc e m)(u:bV sc c=true)(y:fF.lookup c=some a)(D:a=87\/a=99):
  SS d sc (.Try [.Return (some e) k] [.ExceptHandler (some (.Name c l)) none [.Return (some (.Constant .none p n)) o] h] [] [] pos) (.tryR m (eq a)):=by
 intro C A E env i σ fz s K X S w;refine Vg (Ps (SJ (Nj (t C A _ env i σ fz s _ _ S.st w) (fun v s' ⟨b,f,fz',g,r,q⟩=>?_) fun x s' z=>?_)))
 .exact⟨some b,i,f,fz',.oG S.mks g,S.st.lr.step g,r,q⟩
 .apply bc;intro F;obtain⟨H,f,fz',g,x,rfl,q⟩:=z;apply F;refine vu S u y D g x fun h' L j=>?_;exact SJ (Nf ⟨some .none,i,f,fz',.oG S.mks j,S.st.lr.step j,.none,q⟩)
theorem yJ{e:Expr}{m:ME}{o p q t u y h pos:Pos}{c x:Str}{D:Nat}{a i:Nat}(hi:sc.names[i]? =some (x,.local)) (E:SV d sc e m) (hs:∀env:Env,Qi e (some (.Name x p)) o.line env=OD false) (F:bV sc c=true) (H:fF.lookup c=some a) (L:a=87\/a=99):
  SS d sc (.Try [.Assign [.Name x p] e o] [.ExceptHandler (some (.Name c t)) none [.Assign [.Name x q] (.Constant .none D u) y] h] [] [] pos) (.tryA i m (eq a)):=by
 intro C A M env O σ fz s K X S w;refine Vg (Ps (Rp (Nj (E C A _ env O σ fz s _ _ S.st w) (fun v s' ⟨b,f,fz',g,r,q⟩=>?_) fun x s' z=>?_) (hs env)))
 .refine dc (S.st.lr.step g) S.st.scE (ko S.st.ok) hi r fun j l n=>?_;exact PB (PB ⟨none,_,f,fz',(GT.oG S.mks g).trans (.store (S.mks.step g.1) g.2 S.no l),n,trivial,q⟩)
 .apply bc;intro P;obtain⟨Q,f,fz',g,x,rfl,q⟩:=z;apply P;refine vu S F H L g x fun h' V k=>?_;refine Rp (Nf ?_);refine dc (pv:= .none) (S.st.lr.step k) S.st.scE (ko S.st.ok) hi .none fun j l n=>?_;exact⟨none,_,f,fz',(GT.oG S.mks k).trans (.store (S.mks.step k.1) k.2 S.no l),n,trivial,q⟩
end
set_option backward.match.sparseCases true
set_option tactic.hygienic true
section
open PySem.Builtin.ObjectAttr
noncomputable abbrev kG:List M4:=[.ref 74,.type "Exception",.type "BaseException",.type "object"]
structure BR(P:Nk)(c:Nat):Prop where
 obj:∀{G:Prop},(∀nm q N bs ZE sn sub ab Zg dd k0 k1 k2 k3 k5,(H1 P).get? c=some (PU nm q c N bs kG ZE sn sub ab Zg dd k0 k1 k2 k3 k5 "Exception.__new__")->G)->G
 ini:QE (KK P) (.ref c) "__init__"=some (some (.ref 64))
 sa:QE (KK P) (.ref c) "__setattr__"=some (some (.builtin "object.__setattr__"))
 hd:(UA (KK P) c).any (·.hasDict)=true
 tw:SK (KK P) c "what"=some none
 ta:SK (KK P) c "at"=some none
theorem vv(P:Nk)(h:c=87\/c=99):BR P c:=by
 rcases h with rfl|rfl
 .exact⟨fun k=>k _ _ _ _ _ _ _ _ _ _ _ _ _ _ _ rfl,by kernel_rfl,by kernel_rfl,by kernel_rfl,by kernel_rfl,by kernel_rfl⟩
 .exact⟨fun k=>k _ _ _ _ _ _ _ _ _ _ _ _ _ _ _ rfl,by kernel_rfl,by kernel_rfl,by kernel_rfl,by kernel_rfl,by kernel_rfl⟩
theorem HQ(P:Nk):UO (KK P) (.ref 64)=some (.type "function"):=by kernel_rfl
section
variable{prog:Pr}{w:OU}{A:NN}{R:R9->M7->Prop}{E:M4->M7->Prop}{h:Og}{g:Array SZ}{d:Vd}{t:Nat}{os:O9}
variable{nm q:Str}{C N:Nw}{bs:List M4}{ZE:Bool}{sn:List Str}{sub:List M4}{ab:Bool}{Zg:Option Bool}{dd:Option Nw}{k0 k1 k2 k3 k5:Option M4}
theorem gY(x:M4)(r:Bool)(e:kG.contains x=r)(a:(x==Oz C)=false):(Oz C::kG).contains x=r:=by rw[Ua,e,a];rfl
theorem yK(a:h.get? C=some (PU nm q C N bs kG ZE sn sub ab Zg dd k0 k1 k2 k3 k5 "Exception.__new__"))
 (k:R (.ok (.ret (.ref (h.objs.size+1)))) ⟨(h.push {cls:= .type "tuple",data:= .seq rest.toArray}).push
 {cls:= .ref C,data:= .fields #[.ref h.objs.size,.none,.none,.none,.bool false,.none]},g,d,t,os⟩) (b:rest.length<=PT):
  PY (N6 prog w) A (.builtin "Exception.__new__" ⟨.ref C::rest,[]⟩) R ⟨h,g,d,t,os⟩:=by
 have F:=PySem.F.excBase_Exception;have c:=F.ends;have e:(Oz C::kG).contains (.type "Exception")=true:=gY _ _ (by decide) rfl;have f:(Oz C::kG).contains (.type "AttributeError")=false:=gY _ _ (by decide) rfl;have i:(Oz C::kG).contains (.type "NameError")=false:=gY _ _ (by decide) rfl;refine PySem.codeAny_builtinAt F.entry ?_;unfold QR.«BaseException.__new__»;refine PySem.wpAt_bind ?_;show PySem.wpAt _ _ _ (stack>>=_) _ _ _;refine PySem.wpAt_bind (PySem.wpAt_stack fun p j=>PySem.wpAt_of_wpAny ?_);wp_walk;refine PySem.wpAt_of_wpAny ?_;rw[F.owner]
 repeat (first|with_reducible refine wpAny_madeHere_exc F.canon a ?_|with_reducible refine OE a ?_|(with_reducible refine P4 a ?_;first|rw[e]|rw[f]|rw[i])|wp_step)
 show R _ _;rw[PG];exact k
theorem yL{Q:Bool->M7->Prop}(c:h.get? C=some (PU nm q C N bs kG ZE sn sub ab Zg dd k0 k1 k2 k3 k5 "Exception.__new__"))(e:(Oz C::kG).contains a=b)
 (f:Q b ⟨h,g,d,t,os⟩):Nm (N6 prog w) A (Vk (.ref C) a) Q E ⟨h,g,d,t,os⟩:=P4 c (e.symm▸f)
theorem tq{Q:Unit->M7->Prop}(b:h.get? C=some (PU nm q C N bs kG ZE sn sub ab Zg dd k0 k1 k2 k3 k5 "Exception.__new__"))
 (f:Q () ⟨h,g,d,t,os⟩):Nm (N6 prog w) A (RJ "Exception.__new__" ⟨.ref C::rest,[]⟩) Q E ⟨h,g,d,t,os⟩:=by
 have F:=PySem.F.excBase_Exception;have a:(Oz C::kG).contains (.type "Exception")=true:=gY _ _ (by decide) rfl;have c:=F.noStar;delta RJ;refine M2 (m:=isType (.ref C)) ?_;refine M2 (m:=loadHead C) ?_;refine OE b ?_;apply Nf;refine M2 (m:=Vk (.ref C) (.type "Exception")) ?_;refine yL b a ?_;refine M2 (m:=Bind.staticBase (.ref C)) (wpAny_staticBase_exc b ?_);refine M2 (m:=Bind.madeBy (.ref C)) (Ve b ?_);refine wpAny_ite_false (NK fun h=>aK ((bne_self_eq_false _).symm.trans h)) ?_;show Nm _ _ (match Manifest.signature? "Exception.__new__" with|some e=>Bind.checkArgs _ e _|none=>OD ()) _ _ _;rw[F.newRow]
 repeat wp_step
 exact f
noncomputable abbrev nw(h:Og)(C:Nw)(rest:List M4):Og:=(h.push {cls:= .type "tuple",data:= .seq rest.toArray}).push {cls:= .ref C,data:= .fields #[.ref h.objs.size,.none,.none,.none,.bool false,.none]}
theorem dO{o:Obj}(e:h.get? b=some o):(nw h C rest).get? b=some o:=Ng _ (Ng _ e)
theorem qN:(nw h C rest).get? (h.objs.size+1)=some {cls:= .ref C,data:= .fields #[.ref h.objs.size,.none,.none,.none,.bool false,.none]}:=by heap_get
theorem j'{P:Nk}(X:(KK P).In h)(l:BR P C){rest:List M4}{Q:PySem.Fin->M7->Prop}(i:h.get? C=some (PU nm q C N bs kG ZE sn sub ab Zg dd k0 k1 k2 k3 k5 "Exception.__new__"))
  (m:Nm (N6 prog w) A (PZ (.ref 64) (.ref (h.objs.size+1)::rest)) (fun r s'=>r= .none/\Q (.done (.ret (.ref (h.objs.size+1)))) s') E ⟨nw h C rest,g,d,t,os⟩) (c:rest.length<=PT):
  Nm (N6 prog w) A (QR.«type.__call__» ⟨.ref C::rest,[]⟩) Q E ⟨h,g,d,t,os⟩:=by
 have F:=PySem.F.excBase_Exception
 repeat (first|with_reducible refine OE i ?_|with_reducible refine Ve i ?_|wp_step)
 refine codeAny_call_builtin_code (R6 _ F.quiet) (tq i ?_);refine yK i ?_ c;show Nm _ _ _ _ _ ⟨nw h C rest,g,d,t,os⟩;have f:=dO (C:=C) (rest:=rest) i;have b:(KK P).In (nw h C rest):=fun a o e=>dO (X a o e);have j:=qN (h:=h) (C:=C) (rest:=rest);have k:(Oz C::kG).contains (.ref C)=true:=by simp
 unfold isInstance
 repeat (first|with_reducible refine OE j ?_|(with_reducible refine P4 f ?_;rw[k])|wp_step)
 show Nm _ _ (Rg (.ref C) _) _ _ _;refine(SN b l.ini).here ?_;refine OA (M2 ((bind_fn b _ (HQ P)).here ?_));refine M2 (Nj m (fun r s' n=>?_) fun _ _ x=>x);obtain⟨rfl,p⟩:=n;wp_walk;exact p
theorem vw{P:Nk}(X:(KK P).In h)(c:BR P C){rest:List M4}{Q:M4->M7->Prop}(b:h.get? C=some (PU nm q C N bs kG ZE sn sub ab Zg dd k0 k1 k2 k3 k5 "Exception.__new__"))
  (e:Nm (N6 prog w) (A.under (.builtin "type.__call__" ⟨.ref C::rest,[]⟩)) (PZ (.ref 64) (.ref (h.objs.size+1)::rest)) (fun r s'=>r= .none/\Q (.ref (h.objs.size+1)) s') E ⟨nw h C rest,g,d,t,os⟩) (a:rest.length<=PT):
  Nm (N6 prog w) A (PZ (.ref C) rest) Q E ⟨h,g,d,t,os⟩:=by
 have f:=tc_lookup;have i:=tc_bind (.ref C);have j:(⟨h,g,d,t,os⟩:M7).TypeIs (.ref C) "type":=⟨_,b,rfl⟩
 refine Sx (Tg ?_);show Nm _ _ (callAny (.ref C) _) _ _ _
 repeat (any_goals (first|assumption|with_reducible refine OE b ?_|wp_step))
 refine⟨rfl,?_⟩;refine codeAny_call_builtin_at (R6 _ (by decide+kernel)) entry_typeCall (wpAny_check_type_call_sub b (j' X c b ?_ a));exact e
end
section
variable{prog:Pr}{w:OU}{A:NN}{E:M4->M7->Prop}{s:M7}{K:Frag}
theorem lB{T:String}{name:Str}{v:M4}{pl:Sem Bool}{Q:M4×List M4->M7->Prop}(X:K.In s.heap)(c:typeOf (.type T)=OD (.type "type"))(hs:Manifest.isStub T=false)
  (e:findCls K (.type T) (.type "type") name=some (.val v)) (hh:VX v=true) (h:Q (v,[]) {s with toks:=s.toks+1}):Nm (N6 prog w) A (Q9 (.type T) name pl) Q E s:=by
 have a:Vj (.type T)=OD none:=by unfold Vj;dsimp only;rw[hs];rfl
 have L0:Va (N6 prog w) s.heap (typeOf (.type T)) (.type "type"):=Pg c;have b:QE K (.type "type") "__getattribute__"=some (some (.builtin "type.__getattribute__")):=type_tga;unfold Q9 specialOf;refine M2 (M2 (L0.here ((SN X b).here ?_)));dsimp only;rw[M8 canon_tga];refine M2 (Nj (Q:=fun v=>Q (v,[])) (E:=E) ?_ (fun _ _ z=>Nf z) fun _ _ z=>z);refine cls_open X (Pg a) L0 b (looks_hook X (r:=none) (by rfl)) (by show subIn K _ _=_;rfl) e
  (Nf (by show Nm _ _ (handedOut v) _ _ _;rw[handedOut_of hh];exact Nf h))
end
section
variable{prog:Pr}{w:OU}{A:NN}{E:M4->M7->Prop}{s:M7}
theorem ka{e C:Nw}{m:M4}{t0:Nw}{Q:M4->M7->Prop}{nm q:Str}{N:Nw}{u:List M4}{c:Bool}{v:List Str}{sub:List M4}{y:Bool}{i:Option Bool}{z:Option Nw}{D H K L M:Option M4}{h:Og}{g:Array SZ}{d:Vd}{t:Nat}{l:O9}
  (p:h.get? C=some (PU nm q C N u kG c v sub y i z D H K L M "Exception.__new__"))
  (r:h.get? e=some {cls:= .ref C,data:= .fields #[.ref t0,.none,.none,.none,.bool false,.none]})
  (O:∀h',h'.get? e=some {cls:= .ref C,data:= .fields #[.ref h.objs.size,.none,.none,.none,.bool false,.none]}->(∀b o,b≠e->h.get? b=some o->h'.get? b=some o)->Q .none ⟨h',g,d,t,l⟩):
  Nm (N6 prog w) A (PZ (.builtin "Exception.__init__") [.ref e,m]) Q E ⟨h,g,d,t,l⟩:=by
 have F:=PySem.F.excBase_Exception;have j:(Oz C::kG).contains (.type "Exception")=true:=gY _ _ (by decide) rfl;have f:=F.noStar;refine Sx (R8 F.init.plain F.initEntry ?_);simp only[RJ,F.initKind,F.initSplit,F.initRow];have s:∀(a b:String)(n:Nat),Bind.check ⟨.positional,"*","Exception",.self,[⟨"args",.varPos,false⟩]⟩ a b n (Wd (fun x=>x.fst) ({pos:=[Oz e,m]}:Args).kw)=OD ():=fun a b n=>check_star_args _ _ _ _ _ _
 repeat (first|(with_reducible refine OE r ?_)|with_reducible refine OE p ?_|(with_reducible refine P4 p ?_;rw[j])|wp_step)
 have k:=Ng {cls:= .type "tuple",data:= .seq [m].toArray} r;wp_walk;refine O _ ?_ fun b o s P=>?_
 .rw[NU _ k rfl];rfl
 .rw[NX _ _ (NT s)];exact Ng _ P
theorem pA(self:M4)(c:Nw):refuseLoop self "__setattr__" (.ref c::kG)=OD ():=by rw[VS,VS];kernel_rfl
theorem vx(P:Nk):([87,99].all fun c=>(UA (KK P) c).any fun a=>a.mro== .ref c::kG&&a.hasDict)=true:=by kernel_rfl
theorem yM(P:Nk)(d:c=87\/c=99):∃a,UA (KK P) c=some a/\a.mro= .ref c::kG/\a.hasDict=true:=by have:=List.all_eq_true.mp (vx P) c (by rcases d with rfl|rfl<;>simp);obtain⟨a,e,b⟩:=V3 this;rw[NV,Qh]at b;exact⟨a,e,b⟩
theorem Mx(h:(⟨c,d,a,b⟩:Obj).isFreed=false):(⟨c,e,a,b⟩:Obj).isFreed=false:=by cases a<;>first|rfl|exact h
theorem tr{o:Obj}(h:∀c,o.data≠.cls c):notCls o=true:=by
 obtain⟨d,e,a,b⟩:=o;cases a with
 |cls c=>exact absurd rfl (h c)
 |_=>rfl
theorem ny{h:Og}{b:Nw}{m:Str->Option M4}{ns:List Str}{name:Str}{v:M4}{Q:PySem.Fin->M7->Prop}{g:Array SZ}{d:Vd}{t k:Nat}{l:O9}(c:h.Ns1 b m)(n:Within m ns)(e:ns.length<=10)
  (o:∀h',h'.Ns1 b (fun y=>if y=name then some v else m y)->QQ b h h'->Q (.done (.ret .none)) ⟨h',g,d,k+1,l⟩):Nm (N6 prog w) A (storeInDict b (.str name t) name v) Q E ⟨h,g,d,k,l⟩:=by
 unfold storeInDict newKeyGuard;refine M2 (Nf (M2 (wpAny_nsSet1 c fun h' a hs=>?_)));obtain⟨r,p,q,f,i,j⟩:=a.count (Within.cons name v n);refine M2 (Vf f (by rw[i];exact Vi (M1 j (M1 (Ny e) (sizeLine_eq▸(by decide))))) ?_);exact Nf (o h' a hs)
noncomputable abbrev BS:Obj:={cls:= .type "dict",data:= .dict #[]}
theorem vy{h:Og}{x C:Nw}{P:Nk}{o:Obj}{y:ClassData}{Q:Option Nw->M7->Prop}{g:Array SZ}{d:Vd}{t:Nat}{m:O9}(X:(KK P).In h)(p:UA (KK P) C=some y)(q:y.hasDict=true)(i:h.get? x=some o)(H:o.cls= .ref C)
  (r:∀c,o.data≠.cls c) (z:∀n,o.dict=some n->Q (some n) ⟨h,g,d,t,m⟩)
  (D:o.dict=none->∀h',h'.get? x=some {o with dict:=some h.objs.size}->h'.get? h.objs.size=some BS->(∀b ob,b≠x->h.get? b=some ob->h'.get? b=some ob)->Q (some h.objs.size) ⟨h',g,d,t,m⟩):
  Nm (N6 prog w) A (Wl x true) Q E ⟨h,g,d,t,m⟩:=by
 obtain⟨L,s,j,u⟩:=o;subst H;have f:(h.push BS).get? x=some ⟨.ref C,s,j,u⟩:=Ng _ i;have v:x≠h.objs.size:=NY (Oi i);have l:=(Heap.get?_some_iff.mp i).2;have F:s=none->Nm (N6 prog w) A (do
    let d ←alloc BS
    update x fun o=>{o with dict:=some d}
    dictMade (.ref C) x d) Q E ⟨h,g,d,t,m⟩:=fun e=>by
  subst e;refine M2 (wpAny_alloc' ?_);refine M2 (wpAny_update' f ?_);refine Nf (a:=some h.objs.size) (D rfl _ (NU _ f ?_) ?_ fun b ob K e=>(T3 _ _ _ _ K).trans (Ng _ e))
  .exact Mx l
  .exact(T3 _ _ _ _ v.symm).trans (Heap.get?_push_at rfl rfl)
 unfold Wl;refine M2 (OE i ?_);refine M2 ((Uy (M:=N6 prog w) (h:=h) X p).here ?_);rw[q];cases s with
 |some n=>exact Nf (z n rfl)
 |none=>
  have k:=F rfl;clear i f l z D F;cases j with
  |cls c=>exact absurd rfl (r c)
  |_=>exact k
theorem tx{x C:Nw}{P:Nk}{ns:List Str}{mA:Str->Option M4}(X:(KK P).In s.heap)(M:C=87\/C=99){name:Str}(ht:SK (KK P) C name=some none){v:M4}{Q:Unit->M7->Prop}
  (I:s.heap.Inst x C mA) (hw:Within mA ns) (O:ns.length<=10)
  (hq:∀h' a1,h'.Inst x C (fun y=>if y=name then some v else mA y)->
   (∀b o,b≠x->(∀c i,s.heap.get? x=some c->c.dict=some i->b≠i)->s.heap.get? b=some o->h'.get? b=some o)->
   (∀c,s.heap.get? x=some c->∃j,h'.get? x=some j/\j.cls=c.cls/\j.data=c.data/\(∀i,j.dict=some i->c.dict=some i\/s.heap.get? i=none))->Q () {s with heap:=h',toks:=a1}):
  Nm (N6 prog w) A (U7 (.ref x) name v) Q E s:=by
 apply bc;intro qK;obtain⟨h,g,d,t,os⟩:=s;obtain⟨o,z,V,r,hd⟩:=I;obtain⟨cd,D,u,a3⟩:=yM P M;obtain⟨k,ha,hr⟩:=Option.bind_eq_some_iff.mp ht;have nc:=tr r;have K:∃od,InstAt h x o C od:=by
  rcases hd with⟨l,_⟩|⟨i,f,_,n⟩
  .exact⟨none,z,V,nc,by rw[l];trivial⟩
  .obtain⟨od,_,_,ho,_⟩:=n;exact⟨some od,z,V,nc,by rw[f];exact ho⟩
 obtain⟨od,K⟩:=K;have W:=PySem.F.store_object;have sub:Va (N6 prog w) h (isInstance (.ref x) (.type "object")) true:=K.type.andThen (looks_mroIn X (by unfold mroIn;rw[D,PD,u];rfl));have hm:Va (N6 prog w) h (mroOf (.ref C)) cd.mro:=(Uy X D).andThen .now;have L2:Va (N6 prog w) h (Rg (.ref C) name) k:=SN X ha;have L3:Va (N6 prog w) h (storeTaker? k) none:=by
  cases k with
  |none=>cases hr;exact .now
  |some a=>refine cn hr fun b L a4=>?_;refine(looks_takesIn X L).andThen ?_;cases b<;>first|exact .now|exact ba a4
 have a5:∀i,o.dict=some i->i≠x/\h.Ns1 i mA:=fun i e=>by
  rcases hd with⟨l,_⟩|⟨dy,f,p,n⟩
  .exact aj (l.symm.trans e)
  .have i0:=f.symm.trans e;injection i0 with z0;subst z0;exact⟨p,n⟩
 have a6:o.dict=none->(fun _=>none)=mA:=fun e=>by
  rcases hd with⟨_,h⟩|⟨dy,f,_⟩
  .exact(funext h).symm
  .exact aj (e.symm.trans f)
 have Y:x≠h.objs.size:=NY (Oi z);have a7:=(vv P M).sa;refine qK (set_plain X K a7 ?_);refine R8 W.slot.plain W.entry (@check_slot (N6 prog w) _ _ ⟨h,g,d,t+1,os⟩ "object.__setattr__" "object" "__setattr__" (.ref x) [.str name t,v] [] _ W.kind W.split sub (W.args (.ref x) (.str name t) v) ?_);rw[osa_eq,refuse_eq];refine M2 (M2 (K.type.here (M2 (hm.here ?_))));rw[u,pA];refine Nf (M2 (K.type.here (M2 (L2.here (M2 (L3.here ?_))))));refine M2 (Nf (M2 (vy X D a3 z V r (fun i f=>?_) fun l h1 a8 a9 k1=>?_)))
 .obtain⟨p,n⟩:=a5 i f;exact ny n hw O fun h' H hs=>hq h' _ ⟨o,(hs.2 x p.symm).trans z,V,r,.inr ⟨i,f,p,H⟩⟩ (fun b ob _ b6 L=>(hs.2 b (b6 o i z f)).trans L)
   fun c q=>⟨c,(hs.2 x p.symm).trans q,rfl,rfl,fun _ e=> .inl e⟩
 .refine ny (m:=mA) (a6 l▸Heap.Ns1.of_empty ⟨_,#[],_,a9,rfl,fun e he=>absurd he (by simp),fun _=>rfl⟩) hw O fun h' H hs=>?_;have Z:=(hs.2 x Y).trans a8;exact hq h' _ ⟨_,Z,V,r,.inr ⟨h.objs.size,rfl,Y.symm,H⟩⟩ (fun b ob b7 _ L=>(hs.2 b (NY (Oi L))).trans (k1 b ob b7 L))
   fun c q=>by obtain rfl:o=c:=Na (z.symm.trans q);exact⟨_,Z,rfl,rfl,fun i e=> .inr (Na e▸fresh h)⟩
end
noncomputable def My:Qb:=xh (aB 0) "x" "x" 0 [] .none .none .none .none none .none .none 0
noncomputable def bd(f:Nat)(P:Nk):Qb:=match(H1 P).get? f with
 |some ⟨_,_,.func fd,_⟩=>fd
 |_=>My
theorem BU{G:List OJ->Prop}(k:∀p1 a c d b e f g h i j l m n,(Pos.endLine a==Pos.line b)=true->G [
  .Expr (.Call (.Attribute (.Name "Exception" p1) "__init__" a) [.Name "self" c,.Name "what" d] [] b) e,
  .Assign [.Attribute (.Name "self" f) "what" g] (.Name "what" h) i,
  .Assign [.Attribute (.Name "self" j) "at" l] (.Name "at" m) n]):G (ay 3 0).2.1:=k _ _ _ _ _ _ _ _ _ _ _ _ _ _ rfl
theorem yN:((ay 3 0).2.2.names.lookup (NB "self")==some NameKind.local&&(ay 3 0).2.2.names.lookup (NB "what")==some NameKind.local&&(ay 3 0).2.2.names.lookup (NB "at")==some NameKind.local&&(ay 3 0).2.2.names.lookup (NB "Exception")==some SY&&(ay 3 0).2.2.names.all (fun x=>x.2 != Ow)&&bA (ay 3 0).2.2)=true:=by kernel_rfl
theorem BV:(ay 3 0).2.2.names.lookup (NB "self")=some NameKind.local/\(ay 3 0).2.2.names.lookup (NB "what")=some NameKind.local/\(ay 3 0).2.2.names.lookup (NB "at")=some NameKind.local/\(ay 3 0).2.2.names.lookup (NB "Exception")=some SY/\(ay 3 0).2.2.names.all (fun x=>x.2 != Ow)=true/\bA (ay 3 0).2.2=true:=by obtain⟨h,a⟩:=cD yN;obtain⟨h,b⟩:=cD h;obtain⟨h,c⟩:=cD h;obtain⟨h,d⟩:=cD h;obtain⟨e,f⟩:=cD h;exact⟨beq_iff_eq.mp e,beq_iff_eq.mp f,beq_iff_eq.mp d,beq_iff_eq.mp c,b,a⟩
theorem EP(P:Nk){G:Prop}(k:∀o T a n,(H1 P).get? 64=some o->o.data= .func (bd 64 P)->(bd 64 P).defaults= .ref T->(H1 P).get? T=some a->a.data= .seq #[.none] n->G):G:=k _ _ _ _ rfl rfl rfl rfl rfl
theorem BW(P:Nk):∃c o vs t,(bd 64 P).code= .ref c/\(H1 P).get? c=some o/\o.data= .fields vs/\vs[1]? =some (.str (bd 64 P).qualname t):=⟨_,_,_,_,rfl,rfl,rfl,rfl⟩
theorem HR(P:Nk):((Ov (gj P) "Exception").isNone&&Ov (qy P) "Exception"==some (.type "Exception"))=true:=by kernel_rfl
theorem HS(P:Nk){G:Prop}(k:∀n q c cl d e a f g h i b,bd 64 P=xh (ay 3 0) n q c cl d e a f g h i b->G):G:=k _ _ _ _ _ _ _ _ _ _ _ _ rfl
noncomputable def kS(fd:Qb)(pos:List M4):{k:Option (Array M4)->Sem (List (Str×M4)) // UB fd ⟨pos,[]⟩=T5 fd.defaults>>=k}:=⟨_,rfl⟩
theorem jF{s:M7}{fd:Qb}{pos:List M4}{a:List (Str×M4)}{T:Nw}{o:Obj}{b:Array M4}{n:Nat}(c:fd.defaults= .ref T)(d:s.heap.get? T=some o)(hs:o.data= .seq b n)(h:(kS fd pos).1 (some b)=OD a):Un s fd ⟨pos,[]⟩ a:=
 BindsTo.of_defaults c d hs (kS fd pos).2 h
theorem BX(s:M7){T:Nw}{a:Obj}{k:Nat}(c:s.heap.get? T=some a)(hs:a.data= .seq #[.none] k)(e m:M4)(n q gl cl kV doc pm an cd ct b):
  Un s (xh (ay 3 0) n q gl cl (.ref T) kV doc pm an cd ct b) ⟨[e,m],[]⟩ [("self",e),("what",m),("at",.none)]:=jF rfl c hs (by kernel_rfl)
theorem yO(P:Nk):findCls (KK P) (.type "Exception") (.type "type") "__init__"=some (.val (.builtin "Exception.__init__")):=by kernel_rfl
theorem yP:typeOf (.type "Exception")=OD (.type "type"):=by first|rfl|kernel_rfl
theorem yQ:Manifest.isStub "Exception"=false:=by decide+kernel
theorem BY:((NB "Exception")==("__debug__":Str))=false:=by decide+kernel
theorem vz{w:OU}{A:NN}{E:M4->M7->Prop}{P:Nk}{h:Og}{Q:M4×List M4->M7->Prop}(X:(KK P).In h)(b:Q (.builtin "Exception.__init__",[]) ⟨h,g,d,t+1,a⟩):
  Nm (N6 prog w) A (Q9 (.type "Exception") "__init__" pl) Q E ⟨h,g,d,t,a⟩:=
 lB (s:=⟨h,g,d,t,a⟩) X yP yQ (yO P) rfl b
theorem pB{prog:Pr}{w:OU}{A:NN}{E:M4->M7->Prop}{s:M7}{env:Env}{e:Expr}{pos:Pos}{Q:V8->M7->Prop}(hi:Rq env=false)(hs:Qi e none pos.line env=OD false)
  (h:Nm (N6 prog w) A (QU e env) (fun v s'=>v= .none/\Q .next s') E s):Nm (N6 prog w) A (exec (.Expr e pos) env) Q E s:=by
 rw[exec_Expr env e pos hi hs];refine M2 (O0 (M2 (Nj h (fun v s' a=>?_) fun _ _ z=>z)));obtain⟨e,z⟩:=a;subst e;exact qL z
section
variable{C:Cx}{A:NN}{E:M4->M7->Prop}{s:M7}
noncomputable abbrev EQ(c t1:Nw):Obj:={cls:= .ref c,data:= .fields #[.ref t1,.none,.none,.none,.bool false,.none]}
inductive EA(h₀ h':Og)(e c:Nw):Prop
 |mk (o:Obj) (t1:Nw) (at_:h'.get? e=some o) (cls:o.cls= .ref c) (data:o.data= .fields #[.ref t1,.none,.none,.none,.bool false,.none]) (dic:∀dx,o.dict=some dx->h₀.get? dx=none)
theorem ER(b:∀a o,(H1 C.P).get? a=some o->s.heap.get? a=some o)(e:M4)(c:∃m,rest=[m]\/∃x,rest=[m,x]):∃m x,Un s (bd 64 C.P) ⟨e::rest,[]⟩ [("self",e),("what",m),("at",x)]:=by
 refine EP C.P fun d T l n g1 g2 g3 g4 g5=>?_;refine HS C.P fun a1 f a3 g h i a7 a8 a9 a10 a11 a12 j=>?_;rw[j]at g3⊢;have k:h= .ref T:=g3;subst k;obtain⟨m,rfl|⟨x,rfl⟩⟩:=c
 .exact⟨m,.none,BX s (b _ _ g4) g5 _ _ a1 f a3 g i a7 a8 a9 a10 a11 a12⟩
 .exact⟨m,x,BindsTo.of_defaults rfl (b _ _ g4) g5 rfl rfl⟩
noncomputable abbrev qO(e m x:M4):Str->Option M4:=fun y=>Vs y [("at",x),("what",m),("self",e)]
theorem gZ{A:NN}{env:Env}{a h':Og}{tk:Nat}{e:Nw}{ev m x v:M4}{y:Str}{p:Pos}{Q:M4->M7->Prop}{E:M4->M7->Prop}(f:env.scope=(ay 3 0).2.2)(c:a.Ns env.locals (qO ev m x))(d:env.locals≠e)
  (g:∀b o,b≠e->a.get? b=some o->h'.get? b=some o) (h:(ay 3 0).2.2.names.lookup y=some .local) (i:qO ev m x y=some v) (j:(y==("__debug__":Str))=false) (k:Q v {s with heap:=h',toks:=tk}):
  Nm C.M A (QU (.Name y p) env) Q E {s with heap:=h',toks:=tk}:=by
 have l:env.scope.kind= .function:=f▸(ko BV.2.2.2.2.2).kind;obtain⟨o,es,n,q,r⟩:=c;exact wpAny_Name (Uu l (by unfold Pu;rw[f];exact h) (m:=qO ev m x) ⟨o,es,n,g _ _ d q,r⟩ i k) j
theorem vA{A:NN}{d:Og}(K:∀a o,(H1 C.P).get? a=some o->d.get? a=some o){e:Nw}(n:(H1 C.P).get? e=none){c:Nat}(p:c=87\/c=99){h':Og}{j:Nat}{mA:Str->Option M4}{v:M4}{Q':Unit->M7->Prop}{L:M4->M7->Prop}{nm:Str}{ns:List Str}
  (r:∀b o,b≠e->d.get? b=some o->h'.get? b=some o) (O:SK (KK C.P) c nm=some none) (k:EA d h' e c) (Q:h'.Inst e c mA) (V:Within mA ns) (W:ns.length<=10)
  (X:∀f g,(∀b o,b≠e->d.get? b=some o->f.get? b=some o)->EA d f e c->f.Inst e c (fun y=>if y=nm then some v else mA y)->Q' () {s with heap:=f,toks:=g}):
  Nm C.M A (U7 (.ref e) nm v) Q' L {s with heap:=h',toks:=j}:=by
 obtain⟨o,t1,k,t,u,l⟩:=k;have Y:∀{a o},(H1 C.P).get? a=some o->a≠e:=fun h q=>aj (n.symm.trans (q▸h));refine tx (s:={s with heap:=h',toks:=j}) (fi _ _ (fun a o h=>r a o (Y h) (K a o h)) _) p O Q V W fun f g w x D=>X f g (fun b ob F hh=>x b ob F (fun H i Z e2 q=>?_) (r b ob F hh)) ?_ w
 .obtain rfl:=Na (k.symm.trans Z);exact aj ((l i e2).symm.trans (q▸hh))
 .obtain⟨m,a1,a2,a3,a4⟩:=D o k;refine⟨m,t1,a1,a2.trans t,a3.trans u,fun i E=>(a4 i E).elim (l i) fun q=>?_⟩;cases z:d.get? i with
  |none=>rfl
  |some y=>exact aj ((show h'.get? i=none from q).symm.trans (r i y (fun z'=>aj ((show h'.get? i=none from q).symm.trans (z'▸k))) z))
theorem tz{A:NN}{d:Og}{env:Env}(j:env.scope=(ay 3 0).2.2)(eG:env.globals=3)(F:env.builtins=0)(r:∀a o,(H1 C.P).get? a=some o->d.get? a=some o){e t0:Nw}(t:(H1 C.P).get? e=none){c:Nat}(l:c=87\/c=99)(he:d.get? e=some (EQ c t0)){m x:M4}
  (f:d.Ns env.locals (qO (.ref e) m x)) (g:env.locals≠e) {tk:Nat} {Q:V8->M7->Prop} {E:M4->M7->Prop}
  (hq:∀h' tk,(∀b o,b≠e->d.get? b=some o->h'.get? b=some o)->EA d h' e c->Q .next {s with heap:=h',toks:=tk}):Nm C.M A (execs (ay 3 0).2.1 env) Q E {s with heap:=d,toks:=tk}:=by
 obtain⟨H,V,n3,n4,n5,n6⟩:=BV;have W:env.scope.kind= .function:=j▸(ko n6).kind;have ei:Rq env=false:=by unfold Rq;rw[W];rfl
 have X:(KK C.P).In d:=fi _ _ r _;have K:=HR C.P;rw[NV,PH,Qh]at K;obtain⟨gn,gh⟩:=EB C.P;obtain⟨bn,bh⟩:=EC C.P;have T:=vv C.P l;have k:(("what":Str)==("__debug__":Str))=false:=by decide+kernel
 have i:(("self":Str)==("__debug__":Str))=false:=by decide+kernel
 have u:(("at":Str)==("__debug__":Str))=false:=by decide+kernel
 refine T.obj fun nm q N bs Y sn sub ab b8 dd k0 k1 k2 k3 k5 hC=>?_;have L:=r _ _ hC;refine BU (G:=fun b=>Nm C.M A (execs b env) Q E _) fun p1 p2 Z p4 D p6 p7 p8 p9 q1 q2 q3 q4 q5 n=>?_;have v:Sq true (.Name "Exception" p1) env p2 D=OD D:=by unfold Sq;simp[n]
 refine Ps (pB ei rfl ?_);rw[Wc,show ∀w:Sem M4,Sr (.Name "Exception" p1) "__init__" env w=w from fun _=>rfl];refine M2 (QY W (by unfold Pu;rw[j];exact n4) (UR (by rw[eG];exact⟨_,_,_,r _ _ gh,rfl,d8 (uE C.P),fun _=>rfl⟩) K.1 (by rw[F];exact⟨_,_,_,r _ _ bh,rfl,d8 (uF C.P),fun _=>rfl⟩) K.2 ?_) BY);refine M2 (O0 ?_);unfold methodCall;rw[show Tu ([Expr.Name "self" Z,Expr.Name "what" p4].length+([]:List Vb).length) (Ue D (Qo [.Name "self" Z,.Name "what" p4] env)) (backToKw D (keywordEach [] env))=true from rfl];refine M2 (OA ?_);show Nm C.M A (Q9 (.type "Exception") "__init__" _) _ _ _;refine vz X ?_;refine M2 (QT v ?_);refine QW (P:=fun _=>True) rfl (fun h _=>⟨.machine,.inr (.inl rfl),Pg rfl⟩) ?_;refine PC (Pq (gZ j f g (fun _ _ _ h=>h) H rfl i (Pq (gZ j f g (fun _ _ _ h=>h) V rfl k (Q6 ⟨trivial,?_⟩)))));show Nm C.M A (PZ (.builtin "Exception.__init__") [.ref e,m]) _ _ _;refine ka L he fun a1 y K1=>⟨rfl,?_⟩
 refine Ps (Qu (gZ j f g K1 V rfl k ?_) rfl);refine gZ j f g K1 H rfl i ?_;refine vA r t l (mA:=fun _=>none) (ns:=[]) K1 T.tw ⟨_,_,y,rfl,rfl,fun dx h=>aj h⟩ ⟨_,y,rfl,(fun _ h=>Ql h),.inl ⟨rfl,fun _=>rfl⟩⟩ PySem.Within.nil (NJ _) fun a2 O K2 o2 I2=>?_;refine Ps (Qu (gZ j f g K2 n3 rfl u ?_) rfl);refine gZ j f g K2 H rfl i ?_;refine vA r t l (ns:=["what"]) K2 T.ta o2 I2 (PySem.Within.cons _ _ PySem.Within.nil) (by decide) fun z p K3 o3 I3=>?_;exact PB (hq z p K3 o3)
theorem tA(j:∀a o,(H1 C.P).get? a=some o->s.heap.get? a=some o){e t0:Nw}(k:(H1 C.P).get? e=none)(i:s.heap.NoLimit)(f:A.depth<Tt){c:Nat}(l:c=87\/c=99)(u:s.heap.get? e=some (EQ c t0))
  {rest:List M4} (w:∃m,rest=[m]\/∃x,rest=[m,x]) {Q:M4->M7->Prop}
  (z:∀h' tk,(∀b o,b≠e->s.heap.get? b=some o->h'.get? b=some o)->(∃o t1,h'.get? e=some o/\o.cls= .ref c/\o.data= .fields #[.ref t1,.none,.none,.none,.bool false,.none])->Q .none {s with heap:=h',toks:=tk}):
  Nm C.M A (PZ (.ref 64) (.ref e::rest)) Q E s:=by
 refine EP C.P fun D T ot n g1 g2 g3 g4 g5=>?_;obtain⟨F,co,p,H,L,O,V,W⟩:=BW C.P;obtain⟨X,Y,Z,n4,n5,n6⟩:=BV;have q:=ko n6;obtain⟨m,x,g⟩:=ER j (.ref e) w;have r:s.heap.objs.size≠e:=NT (NY (Oi u));refine Sx (Vn f (j _ _ g1) g2 i ⟨F,co,p,H,L,j _ _ O,V,W⟩ (show(bd 64 C.P).body= .stmts (ay 3 0).2.1 from rfl) g ?_ ?_ ?_ (show(ay 3 0).2.2.isCoroutine=false from q.cor) (show(ay 3 0).2.2.isGenerator=false from q.gen) (show(ay 3 0).2.2.kind= .function from q.kind))
 .exact fun y hy=>bne_iff_ne.mp (List.all_eq_true.mp n5 y hy)
 .exact List.forall_mem_cons.mpr ⟨X,List.forall_mem_cons.mpr ⟨Y,List.forall_mem_cons.mpr ⟨Z,fun _ h=>absurd h Nq⟩⟩⟩
 .intro v t d;refine tz (env:=Q7 (bd 64 C.P) s.heap.objs.size 64) rfl rfl rfl (fun a o h=>d a o (j a o h)) k l (d _ _ u) t r fun h' tk K o3=>?_;obtain⟨o,t1,a1,a2,a3,_⟩:=o3;exact z h' tk (fun b o hb h=>K b o hb (d b o h)) ⟨o,t1,a1,a2,a3⟩
end
section
variable{C:Cx}{A:NN}{E:M4->M7->Prop}{env:Env}
theorem pC(i:c=87\/c=99)(hh:A.handled=none){s:M7}{Q:V8->M7->Prop}
 (h:Nm C.M A x (fun v s₁=>∃e o t1,v= .ref e/\(∀a o,(H1 C.P).get? a=some o->s₁.heap.get? a=some o)/\s₁.heap.get? e=some o/\o.cls= .ref c/\o.data= .fields #[.ref t1,.none,.none,.none,.bool false,.none]/\E (.ref e) s₁) E s):
  Nm C.M A (raiseStmt env (some x) none) Q E s:=by
 refine(vv C.P i).obj fun nm q N z k D sub F n H K L O V W f=>?_;have j:(Oz c::kG).contains (.type "BaseException")=true:=gY _ _ (by decide) rfl;unfold raiseStmt;refine M2 (Nj h (fun v s₁ b=>?_) fun _ _ x=>x);apply bc;intro p;obtain⟨e,o,t1,rfl,r,t,l,m,u⟩:=b;have f:=r _ _ f;obtain⟨X,g,d,tk,Y⟩:=s₁;obtain⟨Z,od,w,y⟩:=o;apply p;simp only at l m;subst l m
 repeat (first|with_reducible refine OE t ?_|with_reducible refine OE f ?_|(with_reducible refine P4 f ?_;rw[j])|wp_step)
 exact wpAny_raiseNew_none hh u
theorem vB(f:c=87\/c=99){σ:aa}{fz:Fz}{s:M7}(G:aw C σ fz n s.heap)(i:A.depth+1<Tt)(p:∃m,rest=[m]\/∃x,rest=[m,x]){Q:M4->M7->Prop}
 (u:∀e h' tk,s.heap.get? e=none->(∀b o,s.heap.get? b=some o->h'.get? b=some o)->(∃o t1,h'.get? e=some o/\o.cls= .ref c/\o.data= .fields #[.ref t1,.none,.none,.none,.bool false,.none])->Q (.ref e) {s with heap:=h',toks:=tk}):
  Nm C.M A (PZ (.ref c) rest) Q E s:=by
 refine(vv C.P f).obj fun nm q N H r K sub L v O V W X Y Z w=>?_;have j:∀a o,(H1 C.P).get? a=some o->s.heap.get? a=some o:=fun a o h=>(aJ C h G).2;obtain⟨h,g,d,t,k⟩:=s;refine vw (AA G) (vv C.P f) (j _ _ w) ?_ (by have:=aA;rcases p with⟨m,rfl|⟨x,rfl⟩⟩<;>simp<;>exact Nr ..);have l:h.get? (h.objs.size+1)=none:=RV (Oc _);have y:(H1 C.P).get? (h.objs.size+1)=none:=by
  cases z:(H1 C.P).get? (h.objs.size+1)with
  |none=>rfl
  |some o=>have:=j _ _ z;rw[l]at this;exact aj this
 refine tA (s:=⟨nw h c rest,g,d,t,k⟩) (fun a o e=>dO (j a o e)) y ?_ ?_ f qN p fun h' tk D F=>⟨rfl,?_⟩
 .have g1:GS C n σ fz ⟨h,g,d,t,k⟩ σ fz ⟨nw h c rest,g,d,t,k⟩:= .keep G fun b o e=>dO e;exact k_ C g1.2
 .show A.depth+Vx (.builtin "type.__call__" _)<_;exact i
 .refine u (h.objs.size+1) h' tk l (fun b o e=>D b o ?_ (dO e)) F;intro q;rw[q,l]at e;exact aj e
end
section
variable{sc:NL}{d:Nat}{ml:List Nat}
theorem vC(Y:bV sc x=true)(l:fF.lookup x=some a)(q:a=87\/a=99)(H:dh (bo ml n sc .v) as=some ms)(u:xY d sc as ms):
  SS d sc (.Raise (some (.Call (.Name x p) as [] F)) none pos) (.rai a ms):=by
 intro C A D env ρ σ fz s K X S w;apply bc;intro j;obtain⟨Z,h2⟩:=li l C.P;apply j;rw[arm_exec_Raise];refine M2 (O0 (pC q S.st.fit.hand ?_));refine M2 (Nj (Pt (js S.st (bg Y) Z ?_ (ju l))) (fun v L k=>M2 (O0 (Nf k))) fun _ _ x=>x);refine QW (P:=(KA C.P).In) (by rw[dw as ms H F env];rfl) (dE.of_ref h2).keep ?_;refine Nj (jt H u (f:= .ref a) S.st w) (fun v s₁ z=>?_) fun _ _ z=> .oX S.mks z;apply bc;intro j;obtain⟨vs,c,i,g,⟨r,rk⟩,q1,_,⟨m,r',rfl,q3⟩,q4⟩:=z;apply j;refine⟨Bo g.2,?_⟩;rw[rk];have hr:∃m,v.pos=[m]\/∃x,v.pos=[m,x]:=by
  apply bc;intro j;obtain⟨y,ys,e,_,t⟩:=r.inv;apply j;rw[e];cases r' with
  |nil=>cases t.inv;exact⟨y,.inl rfl⟩
  |cons z E=>
   apply bc;intro j;obtain⟨y',a6,rfl,_,t1⟩:=t.inv;apply j;cases E with
   |nil=>cases t1.inv;exact⟨y,.inr ⟨y',rfl⟩⟩
   |cons _ _=>exact absurd q3 (fun h=>Qw _ (NI h))
 show Nm C.M A (PZ (.ref a) ([]++v.pos)) _ _ s₁;refine vB q g.2 (by have:=S.st.fit.depth;lia) hr fun e h' tk O Q zz=>?_;apply bc;intro j;obtain⟨o,t1,o1,V,W⟩:=zz;apply j;refine⟨e,o,t1,rfl,fun b ob hb=>Q b ob (aJ C hb g.2).2,o1,V,W,?_⟩;have gk:GS C (env.locals::D) c i s₁ c i {s₁ with heap:=h',toks:=tk}:= .keep g.2 Q;apply bc;intro j;obtain⟨f1,f2,f3⟩:=g.2.free O;apply j;exact⟨eq a,c,i,.oG S.mks (g.trans gk),⟨e,o,_,rfl,g.1.gone O,o1,by rw[V,nv l q],W,by simp,f2,f1,f3,.inl rfl⟩,q4⟩
end
end
set_option backward.match.sparseCases false
noncomputable def dk(e:Expr):Bool:=by cases e with|ListComp=>exact true|SetComp=>exact true|DictComp=>exact true|_=>exact false
theorem bQ(t:Option Expr)(n:Nat)(env:Env):dk e=false->Qi e t n env=OD false:=by cases e<;>first|exact df|exact fun _=>rfl
theorem tB(t:Expr)(env:Env):mL e=none->Wa [t] e env=OD none:=by cases t<;>first|exact fun _=>rfl|(cases e<;>first|exact ba|exact fun _=>rfl)
noncomputable def HT(e:Expr):Option (NL×Pos):=by cases e with|ListComp _ _ isc p=>exact some (isc,p)|_=>exact none
noncomputable def vD(e:Expr):Option (Expr×Expr):=by cases e with|Subscript o i _=>exact some (o,i)|_=>exact none
noncomputable def nA(s:OJ):Option (Option Expr×Pos):=by cases s with|Return o p=>exact some (o,p)|_=>exact none
theorem nF{s:OJ}{q:Option Expr×Pos}:nA s=some q->s= .Return q.1 q.2:=by cases s<;>first|exact aj|exact fun h=>by injection h with z0;subst z0;rfl
noncomputable def qP(s:OJ):Option (List Expr×Expr×Pos):=by cases s with|Assign ts e p=>exact some (ts,e,p)|_=>exact none
theorem nG{s:OJ}{q:List Expr×Expr×Pos}:qP s=some q->s= .Assign q.1 q.2.1 q.2.2:=by cases s<;>first|exact aj|exact fun h=>by injection h with z0;subst z0;rfl
theorem vE{e:Expr}{q:Expr×Expr}:vD e=some q->∃p,e= .Subscript q.1 q.2 p:=by cases e<;>first|exact aj|exact fun h=>by injection h with z0;subst z0;exact⟨_,rfl⟩
theorem vF:mL e=some es->∃k p,e= .Tuple es k p:=by cases e<;>first|exact aj|exact fun h=>by injection h with z0;subst z0;exact⟨_,_,rfl⟩
theorem yR{d:NL}{t:Expr}{c:List Nat}(e:j0 t=none)(h:dM d t=some c):∃es k p,t= .Tuple es k p/\2<=c.length:=by
 unfold dM at h;cases a:mL t with
 |none=>rw[a]at h;apply bc;intro b;refine cn h fun i hi _=>?_;refine bE hi fun x f _=>?_;refine cn f fun q g _=>?_;apply b;exact aj (e.symm.trans g)
 |some es=>rw[a]at h;apply bc;intro b;obtain⟨k,p,rfl⟩:=vF a;refine fB h fun j l=>?_;apply b;exact⟨es,k,p,rfl,fo l▸j⟩
noncomputable def BZ(a:NL)(x:Str):Option (Nat×Od):=(oS a.names x).bind fun i=>(a.names[i]?).map fun p=>(i,p.2)
theorem nH{a:NL}{x:Str}{p:Nat×Od}(h:BZ a x=some p):a.names[p.1]? =some (x,p.2):=by
 refine bE h fun i hi h=>?_;refine cn h fun q b d=>?_;subst d;obtain⟨k,c⟩:=m7 hi;rw[c]at b;injection b with z0;subst z0
 exact c
noncomputable def iQ(e:Expr):Bool:=match lg e with
 |some .none=>true
 |_=>false
theorem jG(h:iQ e=true):∃k p,e= .Constant .none k p:=by
 unfold iQ at h;cases a:lg e with
 |none=>rw[a]at h;exact aK h
 |some c=>rw[a]at h;cases c<;>first|exact kj a|exact aK h
noncomputable def qQ(b:NL)(c:Str):Option Nat:=if bV b c then(fF.lookup c).bind fun a=>if a==87||a==99 then some a else none else none
theorem nJ{d:NL}(h:qQ d c=some a):bV d c=true/\fF.lookup c=some a/\(a=87\/a=99):=by
 refine fB h fun e h=>?_;refine bE h fun b f h=>?_;refine fB h fun g h=>?_;injection h with z0;subst z0
 exact⟨e,f,by simpa using g⟩
noncomputable def B1(x:Str)(p:Pos)(e:Expr):Bool:=match HT e with
 |some q=>p.line==q.2.line&& !(q.1.names.any fun(n,k)=>n==x&&(k== .local||k== .cell))
 |none=>false
noncomputable def vG(E:Rc)(a:NL)(x:Str)(p:Pos)(e:Expr):Option MS:=(BZ a x).bind fun q=>if q.2== .local then(if dk e&& !B1 x p e then none else(E a .v e).map (.asg q.1))else if q.2== .cell then(if dk e then none else(E a .v e).map (.asgc q.1))else none
noncomputable def vH(E:Rc)(a:NL)(t e:Expr):Option MS:=match j0 t with
 |some q=>vG E a q.1 q.2 e
 |none=>if dk e then none else match qt t with
  |some q=>(iw f_ q.2.1).bind fun i=>(E a .v q.1).bind fun b=>(E a .v e).map fun m=> .asgA b i m
  |none=>match vD t with
   |some q=>(E a .v q.1).bind fun b=>(E a .v q.2).bind fun c=>(E a .v e).map fun m=> .asgS b c m
   |none=>if(mL e).isSome then none else(dM a t).bind fun d=>(E a .v e).map fun m=> .asgT d m
noncomputable def yS(E:Rc)(b:NL)(e:Expr):Option MS:=(je e).bind fun q=>if q.2.2.isEmpty then(eN q.1.1).bind fun x=>(qQ b x).bind fun a=>(dh (E b .v) q.2.1).map (.rai a)else none
noncomputable def LW:ExceptHandler->Option (Str×OJ)
 |.ExceptHandler ty nm b _=>if nm.isNone then(ty.bind eN).bind fun c=>(cF b).map fun s=>(c,s)else none
theorem B2{h:ExceptHandler}{x:Str×OJ}(e:LW h=some x):∃p q,h= .ExceptHandler (some (.Name x.1 p)) none [x.2] q:=by
 cases h with
 |ExceptHandler ty nm b q=>apply bc;intro qK;refine fB (show(if nm.isNone then _ else none)=some x from e) fun h1 e=>?_;refine bE e fun c hc e=>?_;refine cn e fun s hs e0=>?_;subst e0;refine bE hc fun y hy hc=>?_;obtain⟨p,rfl⟩:=cu hc;apply qK;rw[PH]at h1;obtain rfl:=aR hs;exact⟨p,q,by rw[h1,hy]⟩
noncomputable def lC(s:OJ):Bool:=((nA s).bind (·.1)).elim false iQ
noncomputable def lD(x:Str)(s:OJ):Bool:=(qP s).elim false fun q=>(cF q.1).bind eN==some x&&iQ q.2.1
noncomputable def vI(E:Rc)(b:NL)(s hs:OJ)(a:Nat):Option MS:=match nA s with
 |some q=>if lC hs then q.1.bind fun e=>(E b .v e).map (.tryR · (eq a))else none
 |none=>(qP s).bind fun q=>((cF q.1).bind eN).bind fun x=>if lD x hs&& !dk q.2.1 then(BZ b x).bind fun r=>if r.2== .local then(E b .v q.2.1).map (.tryA r.1 · (eq a))else none else none
noncomputable def ES(E:Rc)(R:OJ->Option MS)(f:NL)(st:OJ):Option MS:=match st with
 |.Assign m e _=>(cF m).bind fun t=>vH E f t e
 |.Expr e _=>if dk e then none else(E f .v e).map .expr
 |.If c t e _=>(E f .t c).bind fun j=>(dh R t).bind fun n=>(dh R e).map fun p=> .ite j n p
 |.While c b d _=>if d.isEmpty then(E f .t c).bind fun j=>(dh R b).map fun k=> .whl j k else none
 |.For l q b d _=>if d.isEmpty then(dM f l).bind fun r=>(E f .i q).bind fun u=>(dh R b).map fun k=> .forl r u k else none
 |.Return o _=>match o with
  |some e=>(E f .v e).map .ret
  |none=>some (.ret (.lit .none))
 |.Raise ex g _=>if g.isNone then ex.bind fun e=>yS E f e else none
 |.Try b hs d fin _=>if d.isEmpty&&fin.isEmpty then(cF b).bind fun s=>((cF hs).bind LW).bind fun h=>(qQ f h.1).bind fun a=>vI E f s h.2 a else none
 |_=>none
noncomputable def qR(ml:List Nat):Nat->NL->OJ->Option MS
 |0=>fun _ _=>none
 |n+1=>fun a st=>ES (bo ml n) (qR ml n a) a st
section
variable{sc:NL}{d:Nat}{ml:List Nat}
theorem d_(c:∀st m,qR ml n sc st=some m->SS d sc st m)(rT:List OJ):∀(ms:List MS),dh (qR ml n sc) rT=some ms->xl d sc rT ms:=by
 induction rT with
 |nil=>intro ms h;injection h with z0;subst z0;exact BK
 |cons st rT a=>intro ms h;refine uw h fun m b e f g=>?_;subst g;exact yz (c st m e) (a b f)
theorem pD:SS d sc (.Return none pos) (.ret (.lit .none)):=by intro C A a env b σ fz s K X S w;exact wpAny_Return_none ⟨some .none,b,σ,fz,.refl S.mks S.st.good,S.st.lr,.none,w⟩
theorem tC(h:iw f_ a=some i):aC i=a:=by unfold iw at h;rw[Oo]at h;obtain⟨b,c,_⟩:=h;unfold aC;rw[Oy,Nu b];exact beq_iff_eq.mp c
theorem qS{e:Type}{c:Prop}[Re c]{a:Option e}{b:e}(h:(if c then none else a)=some b):¬c/\a=some b:=by
 by_cases d:c
 .rw[M8 d]at h;exact aj h
 .rw[M5 d]at h;exact⟨d,h⟩
theorem ET{d:Type}{c p:Prop}[Re c]{a:Option d}{b:d}(h:(if c then none else a)=some b)(k:¬c->a=some b->p):p:=k (qS h).1 (qS h).2
theorem kb(Z0:bA sc=true)(hn:sc.names[i]? =some (x,.local)) (hc:dk e=true) (ho:B1 x p e=true) (h:bo ml n sc .v e=some m):SS d sc (.Assign [.Name x p] e pos) (.asg i m):=by
 cases n with
 |zero=>exact aj h
 |succ n=>
  cases e
  case ListComp Zm gens isc cp=>
   refine jy (G:=fun e m=>SS d sc (.Assign [.Name x p] e pos) (.asg i m)) (eT (d:=d) n) h fun{ZK iter ifs is Zp me mt mi} a b c e f g h j k l=>?_;refine pu hn a b c e f g h j k l fun env hs=>?_;refine qm (show(p.line==cp.line&& !(isc.names.any fun(n,k)=>n==x&&(k== .local||k== .cell)))=true from ho) fun ho1 ho2=>?_;have F:=ko Z0;have k1:env.blockKind= .function:=by unfold Env.blockKind;rw[hs,F.kind];rfl
   have k2:env.kindOf x=some .local:=by unfold Pu;rw[hs];exact aF F.nd hn
   show(OD (env.blockKind== .function&&env.kindOf x==some .local&&p.line==cp.line&& !(isc.names.any fun(n,k)=>n==x&&(k== .local||k== .cell))):Sem Bool)=OD true;rw[k1,k2,ho1,ho2];rfl
  all_goals exact aK ho
theorem pE{n:Nat}(g:bA sc=true){x:Str}{p pos:Pos}{e:Expr}{m:MS}(h:vG (bo ml n) sc x p e=some m):SS d sc (.Assign [.Name x p] e pos) m:=by
 have ex:=eT (ml:=ml) (d:=d) n sc;refine bE h fun t b s=>?_;obtain⟨i,k⟩:=t;have b:=nH b;by_cases j:(k==NameKind.local)=true
 .have l:(if(dk e&& !B1 x p e)=true then none else(bo ml n sc .v e).map (MS.asg i))=some m:=by rw[←s];exact(M8 j).symm
  obtain rfl:=beq_iff_eq.mp j;refine ET l fun o q=>?_;refine cn q fun a f r=>?_;subst r;by_cases c:dk e=true
  .exact kb g b c (by simpa [c]using o) f
  .exact BL b (ex.1 e a f) fun env=>bQ _ _ env (PN _▸c)
 .have l:(if(k==Ow)=true then(if dk e=true then none else(bo ml n sc .v e).map (MS.asgc i))else none)=some m:=by rw[←s];exact(M5 j).symm
  refine fB l fun c q=>?_;obtain rfl:=beq_iff_eq.mp c;refine ET q fun o u=>?_;refine cn u fun a f r=>?_;subst r;exact yH b (ex.1 e a f) fun env=>bQ _ _ env (PN _▸o)
theorem tD{n:Nat}(j:bA sc=true){t e:Expr}{pos:Pos}{m:MS}(h:vH (bo ml n) sc t e=some m):SS d sc (.Assign [t] e pos) m:=by
 have ex:=(eT (ml:=ml) (d:=d) n sc).1;unfold vH at h;cases a:j0 t with
 |some q=>rw[a]at h;rw[gi a];exact pE j h
 |none=>
  rw[a]at h;refine ET h fun c h=>?_;have c:dk e=false:=PN _▸c;cases l:qt t with
  |some q=>rw[l]at h;apply bc;intro o;obtain⟨i,r,f,a,g,b,rfl⟩:=yy h;apply o;rw[jf l];exact yD (tC a) (ex _ r g) (ex e f b) fun env=>bQ _ _ env c
  |none=>
   rw[l]at h;cases g:vD t with
   |some q=>rw[g]at h;obtain⟨r,u,f,b,s,v,rfl⟩:=yy h;obtain⟨p,rfl⟩:=vE g;exact yE (ex _ r b) (ex _ u s) (ex e f v) fun env=>bQ _ _ env c
   |none=>rw[g]at h;apply bc;intro o;refine ET h fun w h=>?_;obtain⟨y,f,b,s,rfl⟩:=AE h;obtain⟨es,k,z,rfl,x⟩:=yR a b;apply o;exact yC b (ex e f s) x (fun env=>bQ _ _ env c) fun env=>tB _ env (Option.not_isSome_iff_eq_none.mp w)
theorem pF(h:lC s=true):∃k p q,s= .Return (some (.Constant .none k p)) q:=by
 unfold lC at h;cases a:nA s with
 |none=>rw[a]at h;exact aK h
 |some q=>
  rw[a]at h;rw[nF a];cases b:q.1 with
  |none=>rw[PD,b]at h;exact aK h
  |some e=>rw[PD,b]at h;obtain⟨k,p,e⟩:=jG h;exact⟨k,p,q.2,by rw[e]⟩
theorem pG(h:lD x s=true):∃p k a q,s= .Assign [.Name x p] (.Constant .none k a) q:=by
 unfold lD at h;cases b:qP s with
 |none=>rw[b]at h;exact aK h
 |some q=>rw[b]at h;apply bc;intro c;refine qm h fun d f=>?_;refine bE (beq_iff_eq.mp d) fun t g i=>?_;obtain⟨p,rfl⟩:=cu i;obtain⟨k,a,e⟩:=jG f;apply c;exact⟨p,k,a,q.2.2,by rw[nG b,e,aR g]⟩
theorem tE(C:qQ sc c=some a)(h:vI (bo ml n) sc s hs a=some m):SS d sc (.Try [s] [.ExceptHandler (some (.Name c A)) none [hs] b] [] [] pos) m:=by
 have ex:=(eT (ml:=ml) (d:=d) n sc).1;apply bc;intro f;obtain⟨w,y,z⟩:=nJ C;apply f;unfold vI at h;cases j:nA s with
 |some q=>rw[j]at h;apply bc;intro f;refine fB h fun g h=>?_;refine bE h fun e D h=>?_;refine cn h fun l o u=>?_;subst u;obtain⟨k,E,F,rfl⟩:=pF g;apply f;rw[nF j,D];exact yI (ex e l o) w y z
 |none=>rw[j]at h;apply bc;intro f;refine bE h fun q H h=>?_;refine bE h fun x v h=>?_;refine bE v fun t K v=>?_;refine fB h fun g h=>?_;refine bE h fun r i h=>?_;refine fB h fun L h=>?_;refine cn h fun l o u=>?_;subst u;obtain⟨p,k,E,F,rfl⟩:=pG (cD g).1;obtain⟨M,rfl⟩:=cu v;apply f;rw[nG H,aR K];have i:=nH i;rw[beq_iff_eq.mp L]at i;exact yJ i (ex _ l o) (fun env=>bQ _ _ env (Sk _▸(cD g).2)) w y z
theorem g6(n:Nat):∀(st:OJ)(m:MS),qR ml n sc st=some m->(∀e:bA sc=true,SS d sc st m):=by
 induction n with
 |zero=>exact fun _ _ h=>(aj h)
 |succ n IH=>
  intro st m h0 Z0;have ex:=eT (ml:=ml) (d:=d) n sc;have IH':∀st m,qR ml n sc st=some m->SS d sc st m:=fun st m h=>IH st m h Z0;have h:ES (bo ml n) (qR ml n sc) sc st=some m:=h0;clear h0;cases st
  case Assign ts e pos=>
   refine bE h fun t ht h=>?_;obtain rfl:=aR ht;exact tD Z0 h
  case Expr e pos=>
   refine ET (show(if dk e=true then none else _)=some m from h) fun hc h=>?_;refine cn h fun a hw e0=>?_;subst e0;exact yF (ex.1 e a hw) fun env=>bQ _ _ env (PN _▸hc)
  case If c t e pos=>
   obtain⟨mc,mt,me,h1,h2,h3,rfl⟩:=yy h;exact EM (ex.2.1 c mc h1) (d_ IH' t mt h2) (d_ IH' e me h3)
  case While c b els pos=>
   refine fB (show(if els.isEmpty then _ else none)=some m from h) fun he h=>?_;obtain rfl:=List.isEmpty_iff.mp he;obtain⟨mc,mb,h1,h2,rfl⟩:=AE h;exact vo (ex.2.1 c mc h1) (d_ IH' b mb h2)
  case For ZK it b els pos=>
   refine fB (show(if els.isEmpty then _ else none)=some m from h) fun he h=>?_;obtain rfl:=List.isEmpty_iff.mp he;obtain⟨is,mi,mb,h1,h2,h3,rfl⟩:=yy h;exact BO h1 (ex.2.2 it mi h2) (d_ IH' b mb h3) (nj (md:= .i) h2)
  case Return o pos=>
   cases o with
   |none=>injection h with z0;subst z0;exact pD
   |some e=>refine cn h fun a hw e0=>?_;subst e0;exact tm (ex.1 e a hw)
  case Raise ex' cause pos=>
   refine fB (show(if cause.isNone then _ else none)=some m from h) fun hc h1=>?_;rw[PH]at hc;refine bE h1 fun e he h2=>?_;clear h h1;subst hc he;refine bE h2 fun q hq h=>?_;refine fB h fun hk h=>?_;refine bE h fun x hx h=>?_;refine bE h fun a ha h=>?_;refine cn h fun ms hm e0=>?_;subst e0;obtain⟨p,hp⟩:=cu hx;obtain⟨c1,c2,c3⟩:=nJ ha;rw[gV hq,hp,List.isEmpty_iff.mp hk];exact vC c1 c2 c3 hm (cG ex.1 q.2.1 ms hm)
  case Try b hs els fin pos=>
   refine fB (show(if els.isEmpty&&fin.isEmpty then _ else none)=some m from h) fun he h=>?_;rw[NV,Uq,Uq]at he;refine bE h fun s hs1 h1=>?_;refine bE h1 fun y0 hh h2=>?_;obtain⟨c,hb⟩:=y0;refine bE hh fun h0 hh0 hh=>?_;refine bE h2 fun a ha h3=>?_;obtain⟨rfl,rfl⟩:=he;obtain⟨np,hpos,rfl⟩:=B2 hh;obtain rfl:=aR hs1;obtain rfl:=aR hh0;exact tE ha h3
  all_goals exact aj h
end
set_option tactic.hygienic false
noncomputable def h_:List Nat:=[229,340,420,421,551,552,646,787,801]
noncomputable abbrev v0:ME:= .loc 0
noncomputable abbrev v1:ME:= .loc 1
noncomputable abbrev v2:ME:= .loc 2
noncomputable abbrev v3:ME:= .loc 3
noncomputable abbrev v4:ME:= .loc 4
noncomputable abbrev v5:ME:= .loc 5
noncomputable abbrev v6:ME:= .loc 6
noncomputable abbrev v7:ME:= .loc 7
noncomputable abbrev v8:ME:= .loc 8
noncomputable abbrev v9:ME:= .loc 9
noncomputable abbrev LY:ME:= .loc 10
noncomputable abbrev GK:ME:= .loc 11
noncomputable abbrev DN:ME:= .loc 12
noncomputable abbrev AF:ME:= .loc 13
noncomputable abbrev AG:ME:= .loc 14
noncomputable abbrev DO:ME:= .loc 15
noncomputable abbrev GL:ME:= .loc 16
noncomputable abbrev B3:ME:= .loc 17
noncomputable abbrev B5:ME:= .loc 18
noncomputable abbrev HU:ME:= .loc 19
noncomputable abbrev HV:ME:= .loc 20
noncomputable abbrev HW:ME:= .loc 21
noncomputable abbrev GN:ME:= .loc 22
noncomputable abbrev LZ:ME:= .loc 23
noncomputable abbrev L1:ME:= .loc 24
noncomputable abbrev L4:ME:= .loc 25
noncomputable abbrev Mz:ME:= .loc 26
noncomputable abbrev yi(i:Int):ME:= .lit (.int i)
noncomputable abbrev ys(s:List Nat):ME:= .lit (.str s)
noncomputable abbrev yt:ME:= .lit (.bool true)
noncomputable abbrev yf:ME:= .lit (.bool false)
noncomputable abbrev yn:ME:= .lit .none
noncomputable abbrev zE:ME->ME->ME:= .cmp .Eq
noncomputable abbrev zN:ME->ME->ME:= .cmp .NotEq
noncomputable abbrev zL:ME->ME->ME:= .cmp .Lt
noncomputable abbrev zG:ME->ME->ME:= .cmp .Gt
noncomputable abbrev zM:ME->ME->ME:= .cmp .LtE
noncomputable abbrev zH:ME->ME->ME:= .cmp .GtE
noncomputable abbrev zI:ME->ME->ME:= .cmp .Is
noncomputable abbrev zA:ME->ME->ME:= .bin .Add
noncomputable abbrev zS:ME->ME->ME:= .bin .Sub
noncomputable abbrev zU:ME->ME->ME:= .bin .Mult
noncomputable def MA:List MS:=[.asgA v0 0 v1,.asgA v0 1 v2]
noncomputable def HX:List MS:=[.asg 1 (.calB .ord [v0]),.ite (.cmp2 (yi 48) v1 (yi 57)) [.ret (zS v1 (yi 48))] [],.ite (.cmp2 (yi 97) v1 (yi 102)) [.ret (zS v1 (yi 87))] [],.ite (.cmp2 (yi 65) v1 (yi 70)) [.ret (zS v1 (yi 55))] [],.ret (yi 16)]
noncomputable def HY:List MS:=[.asg 1 (.calB .ord [v0]),.ret (.bop false [.cmp2 (yi 97) v1 (yi 122),.cmp2 (yi 65) v1 (yi 90)])]
noncomputable def HZ:List MS:=[.ret (.bop false [.calF 115 [v0],zE v0 (ys [95]),zE v0 (ys [46])])]
noncomputable def H0:List MS:=[.asg 1 (.calB .ord [v0]),.ret (.bop false [.cmp2 (yi 48) v1 (yi 57),.cmp2 (yi 97) v1 (yi 122),.cmp2 (yi 65) v1 (yi 90),zE v0 (ys [95]),zE v0 (ys [46]),zE v0 (ys [36])])]
noncomputable def yT:List MS:=[.ite (zH (zA v1 (yi 1)) (.calB .len [v0])) [.ret (.tup [.neg (yi 1),zA v1 (yi 1)])] [],.asg 2 (.idx v0 (zA v1 (yi 1))),.asg 3 (yi 0),.asg 4 (zA v1 (yi 1)),.ite (zL (.calF 108 [v2]) (yi 8)) [.whl (.bop true [zL v4 (.calB .len [v0]),zL v4 (zA v1 (yi 4)),zL (.calF 108 [.idx v0 v4]) (yi 8)]) [.asg 3 (zA (zU v3 (yi 8)) (.calF 108 [.idx v0 v4])),.asg 4 (zA v4 (yi 1))],.ret (.tup [.bin .Mod v3 (yi 256),v4])] [],.ite (zE v2 (ys [120])) [.asg 4 (zA v4 (yi 1)),.whl (.bop true [zL v4 (.calB .len [v0]),zL (.calF 108 [.idx v0 v4]) (yi 16)]) [.asg 3 (.bin .Mod (zA (zU v3 (yi 16)) (.calF 108 [.idx v0 v4])) (yi 256)),.asg 4 (zA v4 (yi 1))],.ite (zE v4 (zA v1 (yi 2))) [.ret (.tup [.neg (yi 1),zA v1 (yi 1)])] [],.ret (.tup [v3,v4])] [],.forl [5] (.rng (.calB .len [.glb 1])) [.ite (zE (.idx (.glb 1) v5) v2) [.ret (.tup [.calB .ord [.idx (.glb 2) v5],zA v1 (yi 2)])] []],.ret (.tup [.neg (yi 1),zA v1 (yi 1)])]
noncomputable def H2:List MS:=[.ite (.bop false [zH (zA v1 (yi 1)) (.calB .len [v0]),zE (.idx v0 (zA v1 (yi 1))) (ys [10])]) [.ret (.tup [.neg (yi 1),zA v1 (yi 1)])] [],.asg 2 (.calB .ord [.idx v0 (zA v1 (yi 1))]),.asg 3 (zA v1 (yi 2)),.ite (zE (.idx v0 (zA v1 (yi 1))) (ys [92])) [.asgT [2,3] (.calF 136 [v0,zA v1 (yi 1)])] [.ite (.bop false [zL v2 (yi 32),zG v2 (yi 126)]) [.asg 2 (.neg (yi 1))] []],.ite (.bop true [zH v2 (yi 0),zL v3 (.calB .len [v0]),zE (.idx v0 v3) (ys [39])]) [.asg 3 (zA v3 (yi 1))] [],.ret (.tup [v2,v3])]
noncomputable def yU:List MS:=[.asg 1 (yi 10),.asg 2 (yi 0),.ite (.bop true [zG (.calB .len [v0]) (yi 1),zE (.idx v0 (yi 0)) (ys [48])]) [.asg 1 (yi 8),.asg 2 (yi 1),.ite (.bop false [zE (.idx v0 (yi 1)) (ys [120]),zE (.idx v0 (yi 1)) (ys [88])]) [.asg 1 (yi 16),.asg 2 (yi 2)] [.ite (.bop false [zE (.idx v0 (yi 1)) (ys [98]),zE (.idx v0 (yi 1)) (ys [66])]) [.asg 1 (yi 2),.asg 2 (yi 2)] []]] [],.ite (zE v2 (.calB .len [v0])) [.ret (.neg (yi 1))] [],.asg 3 (yi 0),.forl [4] (.itm (.sli v0 v2 yn)) [.asg 5 (.calF 108 [v4]),.ite (zH v5 v1) [.ret (.neg (yi 1))] [],.asg 3 (zA (zU v3 v1) v5)],.ret v3]
noncomputable def B6:List MS:=[.ite (.bop false [zL (.calB .len [v0]) (yi 2),.bop true [zN (.idx v0 (.neg (yi 1))) (ys [98]),zN (.idx v0 (.neg (yi 1))) (ys [102])]]) [.ret (.neg (yi 1))] [],.asg 1 (yi 0),.forl [2] (.itm (.sli v0 yn (.neg (yi 1)))) [.ite (zG (.calF 108 [v2]) (yi 9)) [.ret (.neg (yi 1))] [],.asg 1 (zA (zU v1 (yi 10)) (.calF 108 [v2]))],.ret v1]
noncomputable def H4:List MS:=[.asgA v0 2 v1,.asgA v0 3 v2,.asgA v0 4 v3,.asgA v0 5 v4]
noncomputable def H5:List MS:=[.ret (.bop true [zE (.att v0 2) (ys [115,105,103,110]),zE (.att v0 3) v1])]
noncomputable def H6:List MS:=[.ret (.tup [.att v0 2,.att v0 4])]
noncomputable def H7:List MS:=[.asgA v0 3 v1,.asgA v0 0 v2,.asgA v0 5 (yi 0)]
noncomputable def H8:List MS:=[.ret (.calF 45 [.att v0 0,zA v1 (yi 1)])]
noncomputable def yV:List MS:=[.whl (.bop true [zL (.att v0 5) (.calB .len [.att v0 3]),.cmp .In (.idx (.att v0 3) (.att v0 5)) (.tup [ys [32],ys [9],ys [13]])]) [.asgA v0 5 (zA (.att v0 5) (yi 1))],.ret (.bop false [zH (.att v0 5) (.calB .len [.att v0 3]),zE (.idx (.att v0 3) (.att v0 5)) (ys [35])])]
noncomputable def H9:List MS:=[.asg 2 (.att v0 5),.asgA v0 5 v1,.ret (.sli (.att v0 3) v2 v1)]
noncomputable def yW:List MS:=[.asg 2 v1,.whl (.bop true [zL v2 (.calB .len [.att v0 3]),.tru (.calF 129 [.idx (.att v0 3) v2])]) [.asg 2 (zA v2 (yi 1))],.ret v2]
noncomputable def H_:List MS:=[.asg 1 (.calM v0 8 [.att v0 5]),.asg 2 (.calM v0 10 [.calM v0 11 [.att v0 5]]),.asg 3 (.calF 150 [v2]),.ite (zG v3 (.glb 3)) [.rai 87 [ys [110,117,109,98,101,114,32,116,111,111,32,108,97,114,103,101],v1]] [],.ite (zH v3 (yi 0)) [.ret (.calF 195 [ys [110,117,109,98,101,114],v2,v3,v1])] [],.asg 3 (.calF 157 [v2]),.ite (zH v3 (yi 0)) [.ret (.calF 195 [ys [108,111,99,97,108],v2,v3,v1])] [],.rai 87 [zA (ys [98,97,100,32,110,117,109,98,101,114,32]) v2,v1]]
noncomputable def H':List MS:=[.asg 1 (.calM v0 8 [.att v0 5]),.asgT [2,3] (.calF 143 [.att v0 3,.att v0 5]),.ite (zL v2 (yi 0)) [.rai 87 [ys [98,97,100,32,99,104,97,114,97,99,116,101,114,32,99,111,110,115,116,97,110,116],v1]] [],.ret (.calF 195 [ys [110,117,109,98,101,114],.calM v0 10 [v3],v2,v1])]
noncomputable def Ia:List MS:=[.asg 1 (.calM v0 8 [.att v0 5]),.ite (.cmp .NotIn (.idx (.att v0 3) (.att v0 5)) (.glb 0)) [.rai 87 [ys [98,97,100,32,115,105,103,110],v1]] [],.asg 2 (.sli (.att v0 3) (.att v0 5) (zA (.att v0 5) (yi 2))),.asg 3 (.calM v0 10 [.ite (.bop false [zE v2 (ys [60,60]),zE v2 (ys [62,62])]) (zA (.att v0 5) (yi 2)) (zA (.att v0 5) (yi 1))]),.ret (.calF 195 [ys [115,105,103,110],v3,v3,v1])]
noncomputable def Ib:List MS:=[.asg 1 (.idx (.att v0 3) (.att v0 5)),.ite (.tru (.calF 122 [v1])) [.asg 2 (.calM v0 8 [.att v0 5]),.asg 3 (.calM v0 10 [.calM v0 11 [.att v0 5]]),.ret (.calF 195 [ys [110,97,109,101],v3,v3,v2])] [],.ite (zL (.calF 108 [v1]) (yi 10)) [.ret (.calM v0 12 [])] [],.ite (zE v1 (ys [39])) [.ret (.calM v0 13 [])] [],.ite (zE v1 (ys [34])) [.ret (.calM v0 14 [])] [],.ite (.bop true [zE v1 (ys [37]),zL (zA (.att v0 5) (yi 1)) (.calB .len [.att v0 3]),.tru (.calF 115 [.idx (.att v0 3) (zA (.att v0 5) (yi 1))])]) [.ret (.calM v0 15 [])] [],.ret (.calM v0 16 [])]
noncomputable def yX:List MS:=[.asg 2 (.calF 286 [v0,v1]),.asg 3 (.lst false []),.whl (.nt (.tru (.calM v2 9 []))) [.expr (.calM v3 0 [.calM v2 17 []])],.expr (.calM v3 0 [.calF 195 [ys [101,110,100],ys [],ys [],.calM v2 8 [.att v2 5]]]),.ret v3]
noncomputable def Ic:List MS:=[.asgA v0 6 v1,.asgA v0 5 (yi 0)]
noncomputable def Id:List MS:=[.ret (.idx (.att v0 6) (.att v0 5))]
noncomputable def Ie:List MS:=[.asg 1 (.idx (.att v0 6) (.att v0 5)),.ite (zN (.att v1 2) (ys [101,110,100])) [.asgA v0 5 (zA (.att v0 5) (yi 1))] [],.ret v1]
noncomputable def Ig:List MS:=[.ret (.calM (.idx (.att v0 6) (.att v0 5)) 7 [v1])]
noncomputable def Ih:List MS:=[.ret (zE (.att (.idx (.att v0 6) (.att v0 5)) 2) (ys [101,110,100]))]
noncomputable def Ii:List MS:=[.ite (.tru (.calM v0 7 [v1])) [.asgA v0 5 (zA (.att v0 5) (yi 1)),.ret yt] [],.ret yf]
noncomputable def Ij:List MS:=[.ite (.nt (.tru (.calM v0 21 [v1]))) [.rai 87 [zA (ys [101,120,112,101,99,116,101,100,32]) v1,.calM v0 24 []]] []]
noncomputable def Ik:List MS:=[.ite (.nt (.tru (.calM v0 20 []))) [.rai 87 [zA (ys [117,110,101,120,112,101,99,116,101,100,32]) (.att (.calM v0 18 []) 3),.calM v0 24 []]] []]
noncomputable def Il:List MS:=[.ret (.att (.idx (.att v0 6) (.att v0 5)) 5)]
noncomputable def Im:List MS:=[.asgA v0 2 (ys [110,117,109,98,101,114]),.asgA v0 4 v1]
noncomputable def Io:List MS:=[.ret (.tup [ys [110,117,109,98,101,114],.att v0 4])]
noncomputable def Ip:List MS:=[.asgA v0 2 (ys [115,121,109,98,111,108]),.asgA v0 7 v1]
noncomputable def Iq:List MS:=[.ret (.tup [ys [115,121,109,98,111,108],.att v0 7])]
noncomputable def Ir:List MS:=[.asgA v0 2 (ys [104,101,114,101])]
noncomputable def It:List MS:=[.asgA v0 2 (ys [117,110,97,114,121]),.asgA v0 8 v1,.asgA v0 9 v2]
noncomputable def Iu:List MS:=[.ret (.tup [ys [117,110,97,114,121],.att v0 8,.calM (.att v0 9) 6 []])]
noncomputable def Iv:List MS:=[.asgA v0 2 (ys [98,105,110,97,114,121]),.asgA v0 8 v1,.asgA v0 10 v2,.asgA v0 11 v3]
noncomputable def EU:List MS:=[.asgT [1,2] (.calF 553 [v0]),.asg 3 (.calM v1 6 []),.forl [4] (.itm v2) [.asg 3 (.tup [ys [98,105,110,97,114,121],.att v4 8,v3,.calM (.att v4 11) 6 []])],.ret v3]
noncomputable def vJ:List MS:=[.asg 1 (.lst false []),.asg 2 v0,.whl (zE (.att v2 2) (ys [98,105,110,97,114,121])) [.expr (.calM v1 0 [v2]),.asg 2 (.att v2 10)],.expr (.calM v1 3 []),.ret (.tup [v2,v1])]
noncomputable def Iw:List MS:=[.ite (.bop false [zE v0 (ys [43]),zE v0 (ys [45])]) [.ret (yi 1)] [],.ite (.bop false [zE v0 (ys [124]),zE v0 (ys [38]),zE v0 (ys [94])]) [.ret (yi 2)] [],.ite (.bop false [zE v0 (ys [42]),zE v0 (ys [47]),zE v0 (ys [37]),zE v0 (ys [60,60]),zE v0 (ys [62,62])]) [.ret (yi 3)] [],.ret (yi 0)]
noncomputable def Ix:List MS:=[.ite (zN (.att v0 2) (ys [115,105,103,110])) [.ret (yi 0)] [],.ret (.calF 560 [.att v0 3])]
noncomputable def kc:List MS:=[.asg 2 (.calM v0 18 []),.ite (zG v1 (.glb 4)) [.rai 87 [ys [101,120,112,114,101,115,115,105,111,110,32,110,101,115,116,101,100,32,116,111,111,32,100,101,101,112],.att v2 5]] [],.ite (zE (.att v2 2) (ys [110,117,109,98,101,114])) [.expr (.calM v0 19 []),.ret (.calF 447 [.att v2 4])] [],.ite (zE (.att v2 2) (ys [110,97,109,101])) [.expr (.calM v0 19 []),.ite (zE (.att v2 3) (ys [46])) [.ret (.calF 492 [])] [],.ret (.calF 473 [.att v2 3])] [],.ite (.bop false [.tru (.calM v2 7 [ys [45]]),.tru (.calM v2 7 [ys [126]]),.tru (.calM v2 7 [ys [33]])]) [.expr (.calM v0 19 []),.ret (.calF 518 [.att v2 3,.calF 574 [v0,zA v1 (yi 1)]])] [],.ite (.tru (.calM v2 7 [ys [40]])) [.expr (.calM v0 19 []),.asg 3 (.calF 581 [v0,yi 1,zA v1 (yi 1)]),.expr (.calM v0 22 [ys [41]]),.ret v3] [],.rai 87 [ys [101,120,112,101,99,116,101,100,32,97,110,32,101,120,112,114,101,115,115,105,111,110],.att v2 5]]
noncomputable def yY:List MS:=[.asg 3 (.calF 574 [v0,v2]),.asg 4 (.calF 567 [.calM v0 18 []]),.whl (zH v4 v1) [.asg 5 (.att (.calM v0 19 []) 3),.asg 3 (.calF 544 [v5,v3,.calF 581 [v0,zA v4 (yi 1),v2]]),.asg 4 (.calF 567 [.calM v0 18 []])],.ret v3]
noncomputable def Iy:List MS:=[.ret (.calF 581 [v0,yi 1,yi 0])]
noncomputable def Iz:List MS:=[.asg 1 (.calF 391 [.calF 297 [v0,yi 1]]),.asg 2 (.calF 588 [v1]),.expr (.calM v1 23 []),.ret v2]
noncomputable def yZ:List MS:=[.asgA v0 4 v1,.asgA v0 12 (.ite (zN v2 v3) v2 (ys [])),.asgA v0 13 (.ite (zN v2 v3) v3 (ys []))]
noncomputable def IA:List MS:=[.ret (.tup [.att v0 4,.att v0 12,.att v0 13])]
noncomputable def IB:List MS:=[.ret (.bop true [zE (.att v0 12) (ys []),zE (.att v0 13) (ys [])])]
noncomputable def IC:List MS:=[.ret (.bop true [zN (.att v0 12) (ys []),zE (.att v0 13) (ys [])])]
noncomputable def ID:List MS:=[.ret (.calF 655 [.neg (.att v0 4),.att v0 13,.att v0 12])]
noncomputable def IE:List MS:=[.ret (.calF 664 [zA (.att v0 4) (.att v1 4),.lst true [.att v0 12,.att v1 12],.lst true [.att v0 13,.att v1 13]])]
noncomputable def y3:List MS:=[.asg 4 (.comp false [none,none] [1] v1 (.itm v1) [zN v1 (ys [])]),.asg 5 (.lst false []),.forl [3] (.itm v2) [.ite (.bop true [zN v3 (ys []),.cmp .In v3 v4]) [.expr (.calM v4 2 [v3])] [.ite (zN v3 (ys [])) [.expr (.calM v5 0 [v3])] []]],.ite (.bop false [zG (.calB .len [v4]) (yi 1),zG (.calB .len [v5]) (yi 1)]) [.rai 99 [ys [110,111,116,32,97,32,110,117,109,98,101,114,32,112,108,117,115,32,111,110,101,32,115,121,109,98,111,108,32,108,101,115,115,32,97,110,111,116,104,101,114]]] [],.ret (.calF 655 [v0,.ite (zN v4 (.lst true [])) (.idx v4 (yi 0)) (ys []),.ite (zN v5 (.lst true [])) (.idx v5 (yi 0)) (ys [])])]
noncomputable def EV:List MS:=[.asgA v0 14 (.ite (zI v1 yn) (.dct [] []) v1)]
noncomputable def IF:List MS:=[.asgS (.att v0 14) v1 v2]
noncomputable def IG:List MS:=[.ret (.calM v0 31 [.calF 655 [yi 0,v1]])]
noncomputable def y4:List MS:=[.asg 2 (zU (.calB .len [.att v0 14]) (zA (.calB .len [.att v0 14]) (yi 2))),.asg 3 v1,.whl (.bop false [.cmp .In (.att v3 12) (.att v0 14),.cmp .In (.att v3 13) (.att v0 14)]) [.ite (zE v2 (yi 0)) [.rai 99 [ys [115,121,109,98,111,108,115,32,116,104,97,116,32,115,116,97,110,100,32,102,111,114,32,116,104,101,109,115,101,108,118,101,115]]] [],.asg 2 (zS v2 (yi 1)),.ite (.cmp .In (.att v3 12) (.att v0 14)) [.asg 3 (.calM (.calF 655 [.att v3 4,ys [],.att v3 13]) 28 [.idx (.att v0 14) (.att v3 12)])] [.asg 3 (.calM (.calF 655 [.att v3 4,.att v3 12]) 28 [.calM (.idx (.att v0 14) (.att v3 13)) 27 []])]],.ret v3]
noncomputable def II:List MS:=[.ite (zE v1 (yi 0)) [.rai 99 [ys [100,105,118,105,115,105,111,110,32,98,121,32,122,101,114,111]]] [],.ite (zN (zL v0 (yi 0)) (zL v1 (yi 0))) [.ret (.neg (.bin .FloorDiv (.calB .abs [v0]) (.calB .abs [v1])))] [],.ret (.bin .FloorDiv (.calB .abs [v0]) (.calB .abs [v1]))]
noncomputable def IJ:List MS:=[.ite (.bop false [zL v2 (yi 0),zG v2 (.glb 5)]) [.rai 99 [ys [115,104,105,102,116,32,99,111,117,110,116]]] [],.ite (zE v0 (ys [60,60])) [.ret (.bin .LShift v1 v2)] [],.ret (.bin .RShift v1 v2)]
noncomputable def IK:List MS:=[.ite (zE v0 (ys [42])) [.ret (zU v1 v2)] [],.ite (zE v0 (ys [47])) [.ret (.calF 714 [v1,v2])] [],.ite (zE v0 (ys [37])) [.ret (zS v1 (zU v2 (.calF 714 [v1,v2])))] [],.ite (zE v0 (ys [124])) [.ret (.bin .BitOr v1 v2)] [],.ite (zE v0 (ys [38])) [.ret (.bin .BitAnd v1 v2)] [],.ite (zE v0 (ys [94])) [.ret (.bin .BitXor v1 v2)] [],.ret (.calF 721 [v0,v1,v2])]
noncomputable def IL:List MS:=[.ite (zE v0 (ys [43])) [.ret (.calM v1 28 [v2])] [],.ite (zE v0 (ys [45])) [.ret (.calM v1 28 [.calM v2 27 []])] [],.ite (.bop false [.nt (.tru (.calM v1 25 [])),.nt (.tru (.calM v2 25 []))]) [.rai 99 [zA (ys [110,111,32,110,117,109,98,101,114,32,98,101,115,105,100,101,32]) v0]] [],.ret (.calF 655 [.calF 728 [v0,.att v1 4,.att v2 4]])]
noncomputable def IM:List MS:=[.ite (zE v0 (ys [45])) [.ret (.calM v1 27 [])] [],.ite (.nt (.tru (.calM v1 25 []))) [.rai 99 [zA (ys [110,111,32,110,117,109,98,101,114,32,98,101,104,105,110,100,32]) v0]] [],.ite (zE v0 (ys [126])) [.ret (.calF 655 [zS (.neg (yi 1)) (.att v1 4)])] [],.ret (.calF 655 [.ite (zE (.att v1 4) (yi 0)) (yi 1) (yi 0)])]
noncomputable def tF:List MS:=[.asgT [3,4] (.calF 553 [v0]),.ite (zE (.att v3 2) (ys [110,117,109,98,101,114])) [.asg 5 (.calF 655 [.att v3 4])] [.ite (zE (.att v3 2) (ys [115,121,109,98,111,108])) [.asg 5 (.calM v1 30 [.att v3 7])] [.ite (zE (.att v3 2) (ys [117,110,97,114,121])) [.asg 5 (.calF 742 [.att v3 8,.calF 750 [.att v3 9,v1,v2]])] [.ite (zE v2 (ys [])) [.rai 99 [ys [110,111,32,112,111,105,110,116,32,104,101,114,101]]] [.asg 5 (.calF 655 [yi 0,v2])]]]],.forl [6] (.itm v4) [.asg 5 (.calF 735 [.att v6 8,v5,.calF 750 [.att v6 11,v1,v2]])],.ret v5]
noncomputable def IN:List MS:=[.asg 2 (.calF 750 [v0,v1]),.ite (.nt (.tru (.calM v2 25 []))) [.rai 99 [ys [110,111,116,32,97,32,110,117,109,98,101,114]]] [],.ret (.att v2 4)]
noncomputable def IO:List MS:=[.ite (.bop true [zE (.att v0 2) (ys [98,105,110,97,114,121]),zL (.calF 560 [.att v0 8]) v1]) [.ret (zA (zA (ys [40]) (.calF 778 [v0])) (ys [41]))] [],.ret (.calF 778 [v0])]
noncomputable def IP:List MS:=[.ite (zE (.att v0 2) (ys [110,117,109,98,101,114])) [.ret (.calB .str [.att v0 4])] [],.ite (zE (.att v0 2) (ys [115,121,109,98,111,108])) [.ret (.att v0 7)] [],.ite (zE (.att v0 2) (ys [104,101,114,101])) [.ret (ys [46])] [],.ret (zA (.att v0 8) (.calF 764 [.att v0 9,yi 4]))]
noncomputable def EW:List MS:=[.asgT [1,2] (.calF 553 [v0]),.asg 3 (.calF 771 [v1]),.asg 4 (yi 4),.forl [5] (.itm v2) [.asg 6 (.calF 560 [.att v5 8]),.ite (zL v4 v6) [.asg 3 (zA (zA (ys [40]) v3) (ys [41]))] [],.asg 3 (zA (zA (zA (zA v3 (ys [32])) (.att v5 8)) (ys [32])) (.calF 764 [.att v5 11,zA v6 (yi 1)])),.asg 4 v6],.ret v3]
noncomputable def EX:List MS:=[.ite (zE (.att v0 12) (ys [])) [.asg 1 (.calB .str [.att v0 4])] [.ite (zG (.att v0 4) (yi 0)) [.asg 1 (zA (zA (.att v0 12) (ys [32,43,32])) (.calB .str [.att v0 4]))] [.ite (zL (.att v0 4) (yi 0)) [.asg 1 (zA (zA (.att v0 12) (ys [32,45,32])) (.calB .str [.neg (.att v0 4)]))] [.asg 1 (.att v0 12)]]],.ite (zN (.att v0 13) (ys [])) [.asg 1 (zA (zA v1 (ys [32,45,32])) (.att v0 13))] [],.ret v1]
noncomputable def vK:List MS:=[.asg 1 (.lst false []),.asg 2 (.lst false [v0]),.whl (zN v2 (.lst true [])) [.asg 3 (.calM v2 1 []),.ite (.bop true [zE (.att v3 2) (ys [115,121,109,98,111,108]),.cmp .NotIn (.att v3 7) v1]) [.expr (.calM v1 0 [.att v3 7])] [],.ite (zE (.att v3 2) (ys [117,110,97,114,121])) [.expr (.calM v2 0 [.att v3 9])] [],.ite (zE (.att v3 2) (ys [98,105,110,97,114,121])) [.expr (.calM v2 0 [.att v3 10]),.expr (.calM v2 0 [.att v3 11])] []],.ret (.calB .sorted [v1])]
noncomputable def B7:List MS:=[.asgT [1,2] (.calF 553 [v0]),.ite (.bop false [zE (.att v1 2) (ys [104,101,114,101]),.bop true [zE (.att v1 2) (ys [117,110,97,114,121]),.tru (.calF 799 [.att v1 9])]]) [.ret yt] [],.forl [3] (.itm v2) [.ite (.tru (.calF 799 [.att v3 11])) [.ret yt] []],.ret yf]
noncomputable def IR:List MS:=[.ret (.dct [[42],[47],[37],[60,60],[62,62],[124],[38],[94],[43],[45]] [yi 3,yi 3,yi 3,yi 3,yi 3,yi 2,yi 2,yi 2,yi 1,yi 1])]
noncomputable def IS:List MS:=[.asg 2 (.idx v0 (yi 0)),.asg 3 (.idx v0 (yi 1)),.asgS v0 (yi 1) (zA v3 (yi 1)),.ret (.bin .Mod (zA (.idx v2 (.bin .Mod v3 (.calB .len [v2]))) (zU (yi 11) (.bin .FloorDiv v3 (.calB .len [v2])))) v1)]
noncomputable def IT:List MS:=[.asg 1 (.calF 816 [v0,yi 5]),.ite (zL v1 (yi 2)) [.ret (.tup [ys [110,117,109,98,101,114],.calF 816 [v0,yi 12]])] [],.ite (zE v1 (yi 2)) [.ret (.tup [ys [110,117,109,98,101,114],.calF 816 [v0,.bin .LShift (yi 1) (yi 64)]])] [],.ite (zE v1 (yi 3)) [.ret (.tup [ys [115,121,109,98,111,108],.idx (.glb 6) (.calF 816 [v0,yi 6])])] [],.ret (.tup [ys [104,101,114,101]])]
noncomputable def IU:List MS:=[.ite (.bop true [zE (.calF 816 [v0,yi 3]) (yi 2),zG v1 (yi 0)]) [.ret (zA (zA (.lst true [ys [40]]) (.calF 837 [v0,zS v1 (yi 1)])) (.lst true [ys [41]]))] [],.ret (.lst true [.calF 823 [v0]])]
noncomputable def IV:List MS:=[.asg 2 (.calF 816 [v0,yi 9]),.ite (.bop false [zL v2 (yi 4),zE v1 (yi 0)]) [.ret (.lst true [.calF 823 [v0]])] [],.ite (zE v2 (yi 4)) [.asg 3 (.idx (.glb 8) (.calF 816 [v0,yi 3])),.ret (zA (.lst true [v3]) (.calF 830 [v0,zS v1 (yi 1)]))] [],.ite (zE v2 (yi 5)) [.ret (zA (zA (.lst true [ys [40]]) (.calF 837 [v0,zS v1 (yi 1)])) (.lst true [ys [41]]))] [],.asg 4 (.calF 837 [v0,zS v1 (yi 1)]),.asg 3 (.idx (.glb 7) (.calF 816 [v0,yi 10])),.ret (zA (zA v4 (.lst true [v3])) (.calF 837 [v0,zS v1 (yi 1)]))]
noncomputable def lE:List MS:=[.asg 2 (ys []),.asg 3 v0,.whl (.bop false [zG v3 (yi 0),zE v2 (ys [])]) [.asg 2 (zA (.idx (ys [48,49,50,51,52,53,54,55,56,57,97,98,99,100,101,102]) (.bin .Mod v3 v1)) v2),.asg 3 (.bin .FloorDiv v3 v1)],.ret v2]
noncomputable def B8:List MS:=[.ite (.tru (.isin v1 true)) [.ret v1] [],.ite (zE (.idx v1 (yi 0)) (ys [115,121,109,98,111,108])) [.ret (.idx v1 (yi 1))] [],.ite (zE (.idx v1 (yi 0)) (ys [104,101,114,101])) [.ret (ys [46])] [],.asg 2 (.idx v1 (yi 1)),.asg 3 (.calF 816 [v0,yi 6]),.ite (zE v3 (yi 1)) [.ret (zA (ys [48,120]) (.calF 844 [v2,yi 16]))] [],.ite (zE v3 (yi 2)) [.ret (zA (ys [48,88]) (.calM (.calF 844 [v2,yi 16]) 5 []))] [],.ite (.bop true [zE v3 (yi 3),zL v2 (yi 4096)]) [.ret (zA (ys [48,98]) (.calF 844 [v2,yi 2]))] [],.ite (zE v3 (yi 4)) [.ret (zA (ys [48]) (.calF 844 [v2,yi 8]))] [],.ite (.bop true [zE v3 (yi 5),.cmp2 (yi 32) v2 (yi 126)]) [.asg 4 (.ite (.cmp .In v2 (.tup [yi 34,yi 39,yi 92])) (ys [92]) (ys [])),.ret (zA (zA (zA (ys [39]) v4) (.calB .chr [v2])) (ys [39]))] [],.ret (.calF 844 [v2,yi 10])]
noncomputable def pH:List MS:=[.asg 2 (ys []),.forl [3] (.rng (.calB .len [v1])) [.asg 4 (.calF 816 [v0,yi 3]),.ite (.bop true [zE v4 (yi 0),zG v3 (yi 0)]) [.asg 5 (.bop true [.isin (.idx v1 v3) false,.isin (.idx v1 (zS v3 (yi 1))) false]),.ite (.bop false [.tru v5,zE (.idx v1 (zS v3 (yi 1))) (ys [37])]) [.asg 4 (yi 1)] []] [],.asg 2 (zA (zA v2 (zU (ys [32]) v4)) (.calF 851 [v0,.idx v1 v3]))],.ret v2]
noncomputable def iA:List MS:=[.asg 1 (.lst false []),.asg 2 yf,.forl [3] (.itm v0) [.ite (.bop false [.tru (.isin v3 false),zE v3 (ys [41])]) [.ite (zG (.calB .len [v1]) (yi 10)) [.ret yt] [],.ite (.bop true [zE v3 (ys [41]),.cmp .In (ys [40]) v1]) [.whl (zN (.calM v1 1 []) (ys [40])) [.asg 2 yt]] [],.whl (.bop true [zN v1 (.lst true []),zN (.idx v1 (.neg (yi 1))) (ys [40])]) [.expr (.calM v1 1 [])],.asg 2 yt] [.ite (.bop false [zE v3 (ys [40]),.nt (.tru v2)]) [.expr (.calM v1 0 [v3]),.asg 2 yf] [.asg 2 yf]]],.ret yf]
noncomputable def tG:List MS:=[.ite (zE v0 (.lst true [])) [.ret yn] [],.asg 1 (yi 0),.asg 2 yf,.asg 3 (.neg (yi 1)),.asg 4 (yi 3),.forl [5] (.rng (.calB .len [v0])) [.asg 6 (.idx v0 v5),.ite (.tru (.isin v6 false)) [.asg 2 yt] [.ite (zE v6 (ys [40])) [.asg 1 (zA v1 (yi 1)),.asg 2 yf] [.ite (zE v6 (ys [41])) [.asg 1 (zS v1 (yi 1)),.asg 2 yt,.ite (.bop false [zL v1 (yi 0),.bop true [zE v1 (yi 0),zL v3 (yi 0),zE (.idx v0 (yi 0)) (ys [40]),zL v5 (zS (.calB .len [v0]) (yi 1)),.cmp .NotIn (.idx v0 (zA v5 (yi 1))) (.glb 7)]]) [.ret yn] []] [.ite (.bop true [.tru v2,zE v1 (yi 0),.cmp .In v6 (.calF 808 []),zM (.idx (.calF 808 []) v6) v4]) [.asg 3 v5,.asg 4 (.idx (.calF 808 []) v6)] [],.asg 2 yf]]]],.ite (zN v1 (yi 0)) [.ret yn] [],.ite (zH v3 (yi 0)) [.asg 7 (.calF 872 [.sli v0 yn v3]),.asg 8 (.calF 872 [.sli v0 (zA v3 (yi 1)) yn]),.ite (.bop false [zI v7 yn,zI v8 yn]) [.ret yn] [],.ret (.tup [ys [98,105,110,97,114,121],.idx v0 v3,v7,v8])] [],.ite (.tru (.isin (.idx v0 (yi 0)) false)) [.ret (.ite (zE (.calB .len [v0]) (yi 1)) (.idx v0 (yi 0)) yn)] [],.ite (zE (.idx v0 (yi 0)) (ys [40])) [.ret (.ite (zE (.idx v0 (.neg (yi 1))) (ys [41])) (.calF 872 [.sli v0 (yi 1) (.neg (yi 1))]) yn)] [],.ite (.cmp .NotIn (.idx v0 (yi 0)) (.glb 8)) [.ret yn] [],.asg 9 (.calF 872 [.sli v0 (yi 1) yn]),.ite (zI v9 yn) [.ret yn] [],.ret (.tup [ys [117,110,97,114,121],.idx v0 (yi 0),v9])]
noncomputable def EY:List MS:=[.asgc 3 (.calB .dict [.idx v0 (yi 1)]),.forl [4,5] (.itm (.idx v1 (yi 1))) [.asgS v3 v4 (zA (.calM v3 4 [v4,yi 0]) (zU v2 v5))],.asg 6 (.calB .tuple [.comp true [none,none,some 3] [1] (.tup [v1,.idx v2 v1]) (.itm (.calB .sorted [v3])) [zN (.idx v2 v1) (yi 0)]]),.ite (.bop false [zG (.calB .sum [.comp true [none,none,none] [1,2] v2 (.itm v6) [zG v2 (yi 0)]]) (yi 1),zL (.calB .sum [.comp true [none,none,none] [1,2] v2 (.itm v6) [zL v2 (yi 0)]]) (.neg (yi 1))]) [.ret yn] [],.ret (.tup [zA (.idx v0 (yi 0)) (zU v2 (.idx v1 (yi 0))),v6])]
noncomputable def IW:List MS:=[.ite (.cmp .In v0 (.tup [ys [47],ys [37]])) [.ite (zE v2 (yi 0)) [.ret yn] [],.asgT [3,4] (.calB .divmod [v1,v2]),.ite (.bop true [zN v4 (yi 0),zN (zL v1 (yi 0)) (zL v2 (yi 0))]) [.asg 3 (zA v3 (yi 1))] [],.ret (.ite (zE v0 (ys [47])) v3 (zS v1 (zU v2 v3)))] [],.ite (.cmp .In v0 (.tup [ys [60,60],ys [62,62]])) [.ite (.bop false [zL v2 (yi 0),zG v2 (yi 63)]) [.ret yn] [],.ret (.ite (zE v0 (ys [60,60])) (zU v1 (.bin .Pow (yi 2) v2)) (.bin .FloorDiv v1 (.bin .Pow (yi 2) v2)))] [],.ite (zE v0 (ys [42])) [.ret (zU v1 v2)] [],.ite (zE v0 (ys [124])) [.ret (zS (zA v1 v2) (.bin .BitAnd v1 v2))] [],.ite (zE v0 (ys [38])) [.ret (.bin .BitAnd v1 v2)] [],.ret (zS (zA v1 v2) (zU (yi 2) (.bin .BitAnd v1 v2)))]
noncomputable def IX:List MS:=[.ite (zE (.idx v0 (yi 0)) (ys [110,117,109,98,101,114])) [.ret (.tup [.idx v0 (yi 1),.tup []])] [],.ite (zE (.idx v0 (yi 0)) (ys [115,121,109,98,111,108])) [.ret (.ite (.cmp .In (.idx v0 (yi 1)) v1) (.idx v1 (.idx v0 (yi 1))) (.tup [yi 0,.tup [.tup [.idx v0 (yi 1),yi 1]]]))] [],.ite (zE (.idx v0 (yi 0)) (ys [104,101,114,101])) [.ret (.ite (zN v2 (ys [])) (.tup [yi 0,.tup [.tup [v2,yi 1]]]) yn)] [],.ite (zE (.idx v0 (yi 0)) (ys [117,110,97,114,121])) [.asg 3 (.calF 891 [.idx v0 (yi 2),v1,v2]),.ite (zI v3 yn) [.ret yn] [],.ite (zE (.idx v0 (yi 1)) (ys [45])) [.ret (.calF 877 [.tup [yi 0,.tup []],v3,.neg (yi 1)])] [],.ite (zN (.idx v3 (yi 1)) (.tup [])) [.ret yn] [],.ite (zE (.idx v0 (yi 1)) (ys [126])) [.ret (.tup [zS (.neg (.idx v3 (yi 0))) (yi 1),.tup []])] [],.ret (.tup [.calB .int [zE (.idx v3 (yi 0)) (yi 0)],.tup []])] [],.asg 4 (.calF 891 [.idx v0 (yi 2),v1,v2]),.asg 5 (.calF 891 [.idx v0 (yi 3),v1,v2]),.ite (.bop false [zI v4 yn,zI v5 yn]) [.ret yn] [],.ite (.cmp .In (.idx v0 (yi 1)) (.tup [ys [43],ys [45]])) [.ret (.calF 877 [v4,v5,.ite (zE (.idx v0 (yi 1)) (ys [43])) (yi 1) (.neg (yi 1))])] [],.ite (.bop false [zN (.idx v4 (yi 1)) (.tup []),zN (.idx v5 (yi 1)) (.tup [])]) [.ret yn] [],.asg 6 (.calF 884 [.idx v0 (yi 1),.idx v4 (yi 0),.idx v5 (yi 0)]),.ret (.ite (zI v6 yn) yn (.tup [v6,.tup []]))]
noncomputable def IY:List MS:=[.tryR (.calF 595 [v0]) 0]
noncomputable def IZ:List MS:=[.tryR (.calF 757 [v0,v1]) 1]
noncomputable def I0:List MS:=[.ite (zE (.idx v0 (yi 0)) (ys [117,110,97,114,121])) [.ret (.calF 912 [.idx v0 (yi 2)])] [],.ite (zE (.idx v0 (yi 0)) (ys [98,105,110,97,114,121])) [.ret (zA (.calF 912 [.idx v0 (yi 2)]) (.calF 912 [.idx v0 (yi 3)]))] [],.ret (.lst true [v0])]
noncomputable def tH:List MS:=[.asg 3 (yi 0),.asg 4 v1,.whl (.bop false [zG v3 (yi 0),zE v4 v1]) [.asg 3 (zS (zA v3 (.calB .int [zE (.idx v0 v4) (ys [40])])) (.calB .int [zE (.idx v0 v4) (ys [41])])),.asg 4 (zA v4 (yi 1))],.asg 5 (.calF 898 [zA (zA (.sli v0 yn v1) (.sli v0 (zA v1 (yi 1)) (zS v4 (yi 1)))) (.sli v0 v4 yn)]),.ret (.bop true [.cmp .IsNot v5 yn,zE (.calM v5 6 []) v2])]
noncomputable def cV:List MS:=[.asg 1 (.comp true [none,none,none] [1] (.calB .int [v1]) (.itm (.sli v0 yn (yi 60))) []),.asgc 2 (.lst false [.ite (.tru v1) v1 (.lst false [yi 0]),yi 0]),.asg 4 (.comp true [none,none,none,some 2] [1] (zS (.calF 816 [v3,yi 2001]) (yi 1000)) (.rng (yi 4)) []),.asg 5 (.ite (zG (.calF 816 [v2,yi 3]) (yi 0)) (ys [72]) (ys [])),.asg 6 (.calF 837 [v2,yi 3]),.ite (zE (.calF 816 [v2,yi 6]) (yi 5)) [.forl [3] (.rng (.calF 816 [v2,yi 13])) [.asg 7 (.idx (.tup [ys [40],ys [45],ys [126],ys [33]]) (.calF 816 [v2,yi 4])),.asg 6 (.ite (zE v7 (ys [40])) (zA (zA (.lst true [ys [40]]) v6) (.lst true [ys [41]])) (zA (.lst true [v7]) v6))]] [],.ite (zE (.calF 816 [v2,yi 4]) (yi 3)) [.asg 8 (.calF 816 [v2,.calB .len [v6]]),.asg 9 (.calF 816 [v2,yi 3]),.asg 7 (.idx (.tup [ys [40],ys [41],ys [45],ys [126],ys [60,60],ys [43],.tup [ys [115,121,109,98,111,108],ys [97]]]) (.calF 816 [v2,yi 7])),.asg 6 (zA (zA (.sli v6 yn v8) (.idx (.tup [.lst true [],.lst true [.idx v6 v8,.idx v6 v8],.lst true [v7]]) v9)) (.sli v6 (zA v8 (yi 1)) yn))] [],.asg 10 (.calF 858 [v2,v6]),.asg 11 (.lst false []),.forl [12] (.itm v6) [.ite (.tru (.isin DN true)) [.expr (.calM GK 0 [.tup [ys [115,105,103,110],DN]])] [.ite (zE (.idx DN (yi 0)) (ys [110,117,109,98,101,114])) [.expr (.calM GK 0 [DN])] [.expr (.calM GK 0 [.tup [ys [110,97,109,101],.ite (zE (.idx DN (yi 0)) (ys [115,121,109,98,111,108])) (.idx DN (yi 1)) (ys [46])]])]]],.ite (zN (.comp true [none,none] [1] (.calM v1 6 []) (.itm (.calF 297 [LY,yi 1])) []) (zA GK (.lst true [.tup [ys [101,110,100],ys []]]))) [.ret yf] [],.asg 13 (.ite (.tru (.calF 865 [v6])) yn (.calF 872 [v6])),.asg 14 (.calF 898 [LY]),.ite (.bop false [zI AF yn,zI AG yn]) [.ret (.bop true [zI AF yn,zI AG yn])] [],.ite (zN (.calM AG 6 []) AF) [.ret yf] [],.asg 15 (.calF 703 []),.expr (.calM DO 29 [ys [99],.calF 655 [.idx v4 (yi 1),ys [98]]]),.expr (.calM DO 29 [ys [98],.calF 655 [.idx v4 (yi 0),ys [97]]]),.expr (.calM DO 29 [ys [100],.calF 655 [.idx v4 (yi 2),ys [97],ys [101]]]),.expr (.calM DO 29 [ys [95,110,46,49,36],.calF 655 [.idx v4 (yi 3)]]),.asg 16 (.dct [[98],[99]] [.tup [.idx v4 (yi 0),.tup [.tup [ys [97],yi 1]]],.tup [zA (.idx v4 (yi 0)) (.idx v4 (yi 1)),.tup [.tup [ys [97],yi 1]]]]),.asgS GL (ys [100]) (.tup [.idx v4 (yi 2),.tup [.tup [ys [97],yi 1],.tup [ys [101],.neg (yi 1)]]]),.asgS GL (ys [95,110,46,49,36]) (.tup [.idx v4 (yi 3),.tup []]),.asg 17 (.calF 891 [AF,GL,v5]),.tryA 18 (.calF 750 [AG,DO,v5]) 1,.ite (.bop false [zI B3 yn,zI B5 yn]) [.ite (.bop false [.cmp .IsNot B3 yn,.cmp .IsNot B5 yn]) [.ret yf] []] [.asg 19 (.comp true [none,none,none] [1,2] v1 (.itm (.idx B3 (yi 1))) [zG v2 (yi 0)]),.asg 20 (.comp true [none,none,none] [1,2] v1 (.itm (.idx B3 (yi 1))) [zL v2 (yi 0)]),.ite (zN (.calM B5 6 []) (.tup [.idx B3 (yi 0),.ite (.tru HU) (.idx HU (yi 0)) (ys []),.ite (.tru HV) (.idx HV (yi 0)) (ys [])])) [.ret yf] [],.ite (.bop false [zN (.calM B5 26 []) (.bop true [zN HU (.lst true []),zE HV (.lst true [])]),zN (.calM B5 25 []) (zE (.idx B3 (yi 1)) (.tup []))]) [.ret yf] [],.ite (.bop true [zL (.calB .abs [.idx B3 (yi 0)]) (.bin .LShift (yi 1) (yi 64)),zN (.calM (.calF 750 [.calF 595 [.calF 785 [B5]],.calF 703 []]) 6 []) (.calM B5 6 [])]) [.ret yf] []],.asg 21 (.calF 891 [AF,GL,ys []]),.ite (zN (.calF 905 [AG,DO]) (.ite (.bop true [.cmp .IsNot HW yn,zE (.idx HW (yi 1)) (.tup [])]) (.idx HW (yi 0)) yn)) [.ret yf] [],.asg 22 (.calF 778 [AG]),.asg 23 (.calF 898 [GN]),.ite (.bop false [zI LZ yn,zN (.calM LZ 6 []) AF]) [.ret yf] [],.forl [24] (.rng (.calB .len [GN])) [.ite (.bop true [zE (.idx GN L1) (ys [40]),.tru (.calF 919 [GN,L1,AF])]) [.ret yf] []],.asg 25 (.calF 912 [AF]),.asg 26 (.calB .sortset [.comp true [none,none] [1] (.idx v1 (yi 1)) (.itm L4) [zE (.idx v1 (yi 0)) (ys [115,121,109,98,111,108])]]),.ret (.bop true [zE (.calF 792 [AG]) Mz,zE (.calF 799 [AG]) (.cmp .In (.tup [ys [104,101,114,101]]) L4)])]
set_option tactic.hygienic true
noncomputable def EZ(d:Data):Option (Array M4):=by cases d with|fields vs=>exact some vs|_=>exact none
theorem y5:EZ d=some vs->d= .fields vs:=by cases d<;>first|exact aj|exact fun h=>Np Data.fields (Na h)
noncomputable def E0(v:M4):Option Str:=by cases v with|str q _=>exact some q|_=>exact none
theorem y6:E0 v=some q->∃t,v= .str q t:=by cases v<;>first|exact aj|exact fun h=>by injection h with z0;subst z0;exact⟨_,rfl⟩
noncomputable def AH(o:Option Obj):Option Str:=o.bind fun o=>(EZ o.data).bind fun vs=>(vs[1]?).bind E0
theorem vL(e:AH o=some q):∃o' vs t,o=some o'/\o'.data= .fields vs/\vs[1]? =some (.str q t):=by apply bc;intro a;refine bE e fun o' b c=>?_;refine bE c fun vs d f=>?_;refine bE f fun v g h=>?_;obtain⟨t,rfl⟩:=y6 h;apply a;exact⟨o',vs,t,b,y5 d,g⟩
noncomputable def E2(v:M4):Option Nw:=by cases v with|ref c=>exact some c|_=>exact none
theorem y7:E2 v=some c->v= .ref c:=by cases v<;>first|exact aj|exact fun h=>Np Oz (Na h)
noncomputable def vM(h:Og)(fd:Qb):Bool:=((E2 fd.code).bind fun c=>AH (h.get? c))==some fd.qualname
theorem vN{h:Og}{fd:Qb}(e:vM h fd=true):∃c o vs t,fd.code= .ref c/\h.get? c=some o/\o.data= .fields vs/\vs[1]? =some (.str fd.qualname t):=by apply bc;intro a;refine bE (beq_iff_eq.mp e) fun c b e=>?_;obtain⟨o,vs,t,d,f,g⟩:=vL e;apply a;exact⟨c,o,vs,t,y7 b,d,f,g⟩
structure mx(f:Nat)(x:NS×List OJ×NL)(ps:List Str):Prop where
 h1:∀P,(H1 P).get? f=some ⟨.type "function",none,.func (bd f P),#[]⟩
 h2:∀P,bd f P=xh x (bd f P).name (bd f P).qualname 3 [] (bd f P).defaults (bd f P).kwdefaults (bd f P).doc (bd f P).pyModule (bd f P).annotations (bd f P).code (bd f P).closureTuple 0
 hc:∀P,vM (H1 P) (bd f P)=true
 h3:(bA x.2.2&&decide ps.Nodup&&ps.all fun p=>x.2.2.names.lookup p==some .local)=true
theorem mx.at{f:Nat}{x:NS×List OJ×NL}{ps:List Str}(K:mx f x ps):BQ f x.2.2 x.2.1 ps (bd f):=by obtain⟨c,a,d,b⟩:=K;simp only[NV,Ox,Rl,Qh]at b;exact⟨fun P=>⟨_,c P,rfl⟩,fun P=>by rw[a P],fun P=>by rw[a P],fun P=>by rw[a P],fun P=>by rw[a P],fun P=>by rw[a P],fun P=>vN (d P),b.1.1,b.1.2,b.2⟩
noncomputable def jH(a:NL):Bool:=a.names.all (·.2 != .cell)
theorem kH{a:NL}(h:jH a=true):∀x∈a.names,x.2≠.cell:=fun x b=>by simpa using List.all_eq_true.mp h x b
noncomputable abbrev I1(x:NS×List OJ×NL)(b:M4)(vals:List M4)(c:List (Str×M4)):Prop:=∀(n q:Str)(d a e:M4)(f:Option Nw)(g h:M4),UB (xh x n q 3 [] b d a e f g h 0) ⟨vals,[]⟩=OD c
theorem fu{d f:Nat}{x:NS×List OJ×NL}{ps:List Str}(K:mx f x ps)(g:∀P,(bd f P).defaults= .none)(i:jH x.2.2=true){ms:List MS}(j:dh (qR h_ 40 x.2.2) x.2.1=some ms){a:List PV}{e:ar}(b:iz x.2.2 ps a=e)
  (k:∀(P:Nk)(fz:Fz)(vals:List M4),aL P fz a vals->I1 x .none vals (ps.zip vals))
  {σ:aa} {Q:PV->aa->Prop} {X:QX} (w:ai d ms e σ (fun o _ c=>aZ Q (o.getD .none) c) (ao X)):af (d+1) (.ref f) a σ Q X:=
 jC K.at (kH i) (d_ (fun st m h=>g6 40 st m h K.at.ok) _ _ j) (fun C l σ fz s vals G h=>⟨vals,by rw[K.h2 C.P,g C.P];exact BindsTo.of_eq (k _ _ _ h _ _ _ _ _ _ _ _),h⟩) (b▸w)
theorem nK{d f:Nat}{x:NS×List OJ×NL}{ps:List Str}(K:mx f x ps)(g:∀P,(bd f P).defaults= .none){ms:List MS}(i:dh (qR h_ 40 x.2.2) x.2.1=some ms){a:List PV}{e:ar}(b:iz x.2.2 ps a=e)
  (j:∀(P:Nk)(fz:Fz)(vals:List M4),aL P fz a vals->I1 x .none vals (ps.zip vals))
  {σ:aa} {Q:PV->aa->Prop} {X:QX} (w:ai d ms e σ (fun o _ c=>aZ Q (o.getD .none) c) (ao X)):af (d+1) (.ref f) a σ Q X:=
 nu K.at (d_ (fun st m h=>g6 40 st m h K.at.ok) _ _ i) (fun P fz vals h=>⟨vals,by rw[K.h2 P,g P];exact j _ _ _ h _ _ _ _ _ _ _ _,h⟩) (b▸w)
theorem b0{P:Nk}{fz:Fz}(h:aL P fz [] vals):vals=[]:=h.inv
theorem b1{P:Nk}{fz:Fz}(h:aL P fz [a] vals):∃x,vals=[x]:=by obtain⟨w,_,rfl,_,t⟩:=h.inv;cases t.inv;exact⟨w,rfl⟩
theorem b2{P:Nk}{fz:Fz}(h:aL P fz [a,b] vals):∃x y,vals=[x,y]:=by obtain⟨w,_,rfl,_,t⟩:=h.inv;obtain⟨y,rfl⟩:=b1 t;exact⟨w,y,rfl⟩
theorem b3{P:Nk}{fz:Fz}(h:aL P fz [a,b,c] vals):∃x y z,vals=[x,y,z]:=by obtain⟨w,_,rfl,_,t⟩:=h.inv;obtain⟨y,z,rfl⟩:=b2 t;exact⟨w,y,z,rfl⟩
theorem b4{P:Nk}{fz:Fz}(h:aL P fz [a,b,c,d] vals):∃x y z u,vals=[x,y,z,u]:=by obtain⟨w,_,rfl,_,t⟩:=h.inv;obtain⟨y,z,u,rfl⟩:=b3 t;exact⟨w,y,z,u,rfl⟩
theorem b5{P:Nk}{fz:Fz}(h:aL P fz [a,b,c,d,e] vals):∃x y z u v,vals=[x,y,z,u,v]:=by obtain⟨w,_,rfl,_,t⟩:=h.inv;obtain⟨y,z,u,v,rfl⟩:=b4 t;exact⟨w,y,z,u,v,rfl⟩
noncomputable def fL(f:Nat)(P:Nk):(Option Obj×Qb)×Bool×M4:=(((H1 P).get? f,bd f P),vM (H1 P) (bd f P),(bd f P).defaults)
noncomputable def fR(f:Nat)(x:NS×List OJ×NL)(P:Nk):(Option Obj×Qb)×Bool×M4:=((some ⟨.type "function",none,.func (bd f P),#[]⟩,xh x (bd f P).name (bd f P).qualname 3 [] (bd f P).defaults (bd f P).kwdefaults (bd f P).doc (bd f P).pyModule (bd f P).annotations (bd f P).code (bd f P).closureTuple 0),true,.none)
noncomputable def sL(x:NS×List OJ×NL)(ps:List Str):Bool×Option (List MS):=(bA x.2.2&&decide ps.Nodup&&ps.all fun p=>x.2.2.names.lookup p==some .local,dh (qR h_ 40 x.2.2) x.2.1)
noncomputable def sR(b:List MS):Bool×Option (List MS):=(true,some b)
noncomputable def rL(x:NS×List OJ×NL)(ps:List Str)(as:List PV):ar:=iz x.2.2 ps as
noncomputable def rR(as:List PV)(n:Nat):ar:=as.map some++Nz n none
noncomputable def bL(x:NS×List OJ×NL)(b:List M4)(n q:Str)(c a d:M4)(e:Option Nw)(f g:M4):Sem (List (Str×M4)):=UB (xh x n q 3 [] .none c a d e f g 0) ⟨b,[]⟩
noncomputable def bR(ps:List Str)(a:List M4):Sem (List (Str×M4)):=OD (ps.zip a)
theorem mx.of(h:∀P,fL f P=fR f x P)(t:sL x ps=sR b):mx f x ps:=⟨fun P=>Np (·.1.1) (h P),fun P=>Np (·.1.2) (h P),fun P=>Np (·.2.1) (h P),Np (·.1) t⟩
theorem eU(h:∀P,fL f P=fR f x P)(P:Nk):(bd f P).defaults= .none:=Np (·.2.2) (h P)
theorem ia{x:NS×List OJ×NL}{ps:List Str}{b:List MS}(t:sL x ps=sR b):dh (qR h_ 40 x.2.2) x.2.1=some b:=Np (·.2) t
noncomputable def P0:Nk:={strHash:=fun _=>0,shareClass:=fun _=>0,mergeTok:=id,idOf:=fun _=>0,idOfShared:=fun _ _=>0,followText:=fun _=>false,idOfImm:=fun _=>0}
noncomputable def gL(f:Nat)(x:NS×List OJ×NL)(ps:List Str)(z:Bool)(P:Nk)(as:List PV)(b:List M4)(n q:Str)(c a d:M4)(e:Option Nw)(g h:M4):=(fL f P,sL x ps,z||jH x.2.2,rL x ps as,bL x b n q c a d e g h)
noncomputable def gR(f:Nat)(x:NS×List OJ×NL)(ps:List Str)(b:List MS)(m:Nat)(P:Nk)(as:List PV)(a:List M4):=(fR f x P,sR b,true,rR as m,bR ps a)
noncomputable abbrev gE(f:Nat)(x:NS×List OJ×NL)(ps:List Str)(z:Bool)(b:List MS)(m:Nat)(as:List PV)(c:List M4):Prop:=∀(P:Nk)(n q:Str)(d a e:M4)(g:Option Nw)(h i:M4),gL f x ps z P as c n q d a e g h i=gR f x ps b m P as c
section
variable{f m:Nat}{x:NS×List OJ×NL}{ps:List Str}{z:Bool}{b:List MS}{as:List PV}{us:List M4}
theorem gK(h:gE f x ps z b m as us):∀P,fL f P=fR f x P:=fun P=>Np (·.1) (h P "" "" .none .none .none none .none .none)
theorem gS(P:Nk)(h:gE f x ps z b m as us):sL x ps=sR b:=Np (·.2.1) (h P "" "" .none .none .none none .none .none)
theorem gN(P:Nk)(h:gE f x ps z b m as us):(z||jH x.2.2)=true:=Np (·.2.2.1) (h P "" "" .none .none .none none .none .none)
theorem gA(P:Nk)(h:gE f x ps z b m as us):rL x ps as=rR as m:=Np (·.2.2.2.1) (h P "" "" .none .none .none none .none .none)
theorem gB(P:Nk)(h:gE f x ps z b m as us):I1 x .none us (ps.zip us):=fun n q c a d e g i=>Np (·.2.2.2.2) (h P n q c a d e g i)
end
noncomputable abbrev W0(f:Nat)(b:List MS)(n:Nat):Prop:=∀{d:Nat}{σ:aa}{Q:QV}{X:QX},ai d b (Nz n none) σ (fun o _ a=>aZ Q (o.getD .none) a) (ao X)->af (d+1) (.ref f) [] σ Q X
noncomputable def MB(f:Nat)(x:NS×List OJ×NL)(ps:List Str)(z:Bool):=fun(P:Nk) (b q:Str) (c a d:M4) (e:Option Nw) (g h:M4)=>gL f x ps z P [] [] b q c a d e g h
noncomputable def MC(f:Nat)(x:NS×List OJ×NL)(ps:List Str)(b:List MS)(n:Nat):=fun(P:Nk) (c q:Str) (d a e:M4) (g:Option Nw) (h i:M4)=>gR f x ps b n P [] []
theorem g0(x:NS×List OJ×NL)(ps:List Str)(H:MB f x ps false=MC f x ps b n):W0 f b n:=by have H:∀(P:Nk)(c q:Str)(d a e:M4)(g:Option Nw)(i j:M4),gL f x ps false P [] [] c q d a e g i j=gR f x ps b n P [] []:=fun P c q d a e g i j=>Nn (Nn (Nn (Nn (Nn (Nn (Nn (Nn (Nn H P) c) q) d) a) e) g) i) j;intro _ _ _ _ w;exact fu (mx.of (gK H) (gS P0 H)) (eU (gK H)) (gN P0 H) (ia (gS P0 H)) (gA P0 H) (fun P fz vals h=>by obtain rfl:=b0 h;exact gB P H) w
noncomputable abbrev W1(f:Nat)(b:List MS)(n:Nat):Prop:=∀{d:Nat}{a0:PV}{σ:aa}{Q:QV}{X:QX},ai d b (some a0::Nz n none) σ (fun o _ a=>aZ Q (o.getD .none) a) (ao X)->af (d+1) (.ref f) [a0] σ Q X
noncomputable def L5(f:Nat)(x:NS×List OJ×NL)(ps:List Str)(z:Bool):=fun(a0:PV) (b:M4) (P:Nk) (c q:Str) (d a e:M4) (g:Option Nw) (h i:M4)=>gL f x ps z P [a0] [b] c q d a e g h i
noncomputable def L6(f:Nat)(x:NS×List OJ×NL)(ps:List Str)(b:List MS)(n:Nat):=fun(a0:PV) (a:M4) (P:Nk) (d q:Str) (e c g:M4) (h:Option Nw) (i j:M4)=>gR f x ps b n P [a0] [a]
theorem g1(x:NS×List OJ×NL)(ps:List Str)(H:L5 f x ps false=L6 f x ps b n):W1 f b n:=by have H:∀(a0:PV)(c:M4)(P:Nk)(d q:Str)(e a g:M4)(i:Option Nw)(j k:M4),gL f x ps false P [a0] [c] d q e a g i j k=gR f x ps b n P [a0] [c]:=fun a0 c P d q e a g i j k=>Nn (Nn (Nn (Nn (Nn (Nn (Nn (Nn (Nn (Nn (Nn H a0) c) P) d) q) e) a) g) i) j) k;intro _ _ _ _ _ w;exact fu (mx.of (gK (H .none .none)) (gS P0 (H .none .none))) (eU (gK (H .none .none))) (gN P0 (H .none .none)) (ia (gS P0 (H .none .none))) (gA P0 (H _ .none)) (fun P fz vals h=>by obtain⟨c,rfl⟩:=b1 h;exact gB P (H .none c)) w
theorem MD(x:NS×List OJ×NL)(ps:List Str)(H:L5 f x ps true=L6 f x ps b n):W1 f b n:=by have H:∀(a0:PV)(c:M4)(P:Nk)(d q:Str)(e a g:M4)(i:Option Nw)(j k:M4),gL f x ps true P [a0] [c] d q e a g i j k=gR f x ps b n P [a0] [c]:=fun a0 c P d q e a g i j k=>Nn (Nn (Nn (Nn (Nn (Nn (Nn (Nn (Nn (Nn (Nn H a0) c) P) d) q) e) a) g) i) j) k;intro _ _ _ _ _ w;exact nK (mx.of (gK (H .none .none)) (gS P0 (H .none .none))) (eU (gK (H .none .none))) (ia (gS P0 (H .none .none))) (gA P0 (H _ .none)) (fun P fz vals h=>by obtain⟨c,rfl⟩:=b1 h;exact gB P (H .none c)) w
noncomputable abbrev W2(f:Nat)(b:List MS)(n:Nat):Prop:=∀{d:Nat}{a0 a1:PV}{σ:aa}{Q:QV}{X:QX},ai d b (some a0::some a1::Nz n none) σ (fun o _ a=>aZ Q (o.getD .none) a) (ao X)->af (d+1) (.ref f) [a0,a1] σ Q X
noncomputable def MF(f:Nat)(x:NS×List OJ×NL)(ps:List Str)(z:Bool):=fun(a0 a1:PV) (b c:M4) (P:Nk) (d q:Str) (e a g:M4) (h:Option Nw) (i j:M4)=>gL f x ps z P [a0,a1] [b,c] d q e a g h i j
noncomputable def MG(f:Nat)(x:NS×List OJ×NL)(ps:List Str)(b:List MS)(n:Nat):=fun(a0 a1:PV) (a c:M4) (P:Nk) (e q:Str) (g d h:M4) (i:Option Nw) (j k:M4)=>gR f x ps b n P [a0,a1] [a,c]
theorem g2(x:NS×List OJ×NL)(ps:List Str)(H:MF f x ps false=MG f x ps b n):W2 f b n:=by have H:∀(a0 a1:PV)(c d:M4)(P:Nk)(e q:Str)(g a i:M4)(j:Option Nw)(k l:M4),gL f x ps false P [a0,a1] [c,d] e q g a i j k l=gR f x ps b n P [a0,a1] [c,d]:=fun a0 a1 c d P e q g a i j k l=>Nn (Nn (Nn (Nn (Nn (Nn (Nn (Nn (Nn (Nn (Nn (Nn (Nn H a0) a1) c) d) P) e) q) g) a) i) j) k) l;intro _ _ _ _ _ _ w;exact fu (mx.of (gK (H .none .none .none .none)) (gS P0 (H .none .none .none .none))) (eU (gK (H .none .none .none .none))) (gN P0 (H .none .none .none .none)) (ia (gS P0 (H .none .none .none .none))) (gA P0 (H _ _ .none .none)) (fun P fz vals h=>by obtain⟨c,d,rfl⟩:=b2 h;exact gB P (H .none .none c d)) w
noncomputable abbrev W3(f:Nat)(b:List MS)(n:Nat):Prop:=∀{d:Nat}{a0 a1 c:PV}{σ:aa}{Q:QV}{X:QX},ai d b (some a0::some a1::some c::Nz n none) σ (fun o _ a=>aZ Q (o.getD .none) a) (ao X)->af (d+1) (.ref f) [a0,a1,c] σ Q X
noncomputable def L7(f:Nat)(x:NS×List OJ×NL)(ps:List Str)(z:Bool):=fun(a0 a1 b:PV) (c d e:M4) (P:Nk) (g q:Str) (h a i:M4) (j:Option Nw) (k l:M4)=>gL f x ps z P [a0,a1,b] [c,d,e] g q h a i j k l
noncomputable def L8(f:Nat)(x:NS×List OJ×NL)(ps:List Str)(b:List MS)(n:Nat):=fun(a0 a1 a:PV) (c d e:M4) (P:Nk) (h q:Str) (i g j:M4) (k:Option Nw) (l m:M4)=>gR f x ps b n P [a0,a1,a] [c,d,e]
theorem g3(x:NS×List OJ×NL)(ps:List Str)(H:L7 f x ps false=L8 f x ps b n):W3 f b n:=by have H:∀(a0 a1 g:PV)(c d e:M4)(P:Nk)(i q:Str)(j a k:M4)(l:Option Nw)(m o:M4),gL f x ps false P [a0,a1,g] [c,d,e] i q j a k l m o=gR f x ps b n P [a0,a1,g] [c,d,e]:=fun a0 a1 g c d e P i q j a k l m o=>Nn (Nn (Nn (Nn (Nn (Nn (Nn (Nn (Nn (Nn (Nn (Nn (Nn (Nn (Nn H a0) a1) g) c) d) e) P) i) q) j) a) k) l) m) o;intro _ _ _ _ _ _ _ w;exact fu (mx.of (gK (H .none .none .none .none .none .none)) (gS P0 (H .none .none .none .none .none .none))) (eU (gK (H .none .none .none .none .none .none))) (gN P0 (H .none .none .none .none .none .none)) (ia (gS P0 (H .none .none .none .none .none .none))) (gA P0 (H _ _ _ .none .none .none)) (fun P fz vals h=>by obtain⟨c,d,e,rfl⟩:=b3 h;exact gB P (H .none .none .none c d e)) w
theorem MH(x:NS×List OJ×NL)(ps:List Str)(H:L7 f x ps true=L8 f x ps b n):W3 f b n:=by have H:∀(a0 a1 g:PV)(c d e:M4)(P:Nk)(i q:Str)(j a k:M4)(l:Option Nw)(m o:M4),gL f x ps true P [a0,a1,g] [c,d,e] i q j a k l m o=gR f x ps b n P [a0,a1,g] [c,d,e]:=fun a0 a1 g c d e P i q j a k l m o=>Nn (Nn (Nn (Nn (Nn (Nn (Nn (Nn (Nn (Nn (Nn (Nn (Nn (Nn (Nn H a0) a1) g) c) d) e) P) i) q) j) a) k) l) m) o;intro _ _ _ _ _ _ _ w;exact nK (mx.of (gK (H .none .none .none .none .none .none)) (gS P0 (H .none .none .none .none .none .none))) (eU (gK (H .none .none .none .none .none .none))) (ia (gS P0 (H .none .none .none .none .none .none))) (gA P0 (H _ _ _ .none .none .none)) (fun P fz vals h=>by obtain⟨c,d,e,rfl⟩:=b3 h;exact gB P (H .none .none .none c d e)) w
noncomputable abbrev W4(f:Nat)(b:List MS)(n:Nat):Prop:=∀{d:Nat}{a0 a1 c a3:PV}{σ:aa}{Q:QV}{X:QX},ai d b (some a0::some a1::some c::some a3::Nz n none) σ (fun o _ a=>aZ Q (o.getD .none) a) (ao X)->af (d+1) (.ref f) [a0,a1,c,a3] σ Q X
noncomputable def MI(f:Nat)(x:NS×List OJ×NL)(ps:List Str)(z:Bool):=fun(a0 a1 b a3:PV) (c d e g:M4) (P:Nk) (h q:Str) (i a j:M4) (k:Option Nw) (l m:M4)=>gL f x ps z P [a0,a1,b,a3] [c,d,e,g] h q i a j k l m
noncomputable def MJ(f:Nat)(x:NS×List OJ×NL)(ps:List Str)(b:List MS)(n:Nat):=fun(a0 a1 a a3:PV) (c d e g:M4) (P:Nk) (i q:Str) (j h k:M4) (l:Option Nw) (m o:M4)=>gR f x ps b n P [a0,a1,a,a3] [c,d,e,g]
theorem g4(x:NS×List OJ×NL)(ps:List Str)(H:MI f x ps false=MJ f x ps b n):W4 f b n:=by have H:∀(a0 a1 i a3:PV)(c d e g:M4)(P:Nk)(j q:Str)(k a l:M4)(m:Option Nw)(o p:M4),gL f x ps false P [a0,a1,i,a3] [c,d,e,g] j q k a l m o p=gR f x ps b n P [a0,a1,i,a3] [c,d,e,g]:=fun a0 a1 i a3 c d e g P j q k a l m o p=>Nn (Nn (Nn (Nn (Nn (Nn (Nn (Nn (Nn (Nn (Nn (Nn (Nn (Nn (Nn (Nn (Nn H a0) a1) i) a3) c) d) e) g) P) j) q) k) a) l) m) o) p;intro _ _ _ _ _ _ _ _ w;exact fu (mx.of (gK (H .none .none .none .none .none .none .none .none)) (gS P0 (H .none .none .none .none .none .none .none .none))) (eU (gK (H .none .none .none .none .none .none .none .none))) (gN P0 (H .none .none .none .none .none .none .none .none)) (ia (gS P0 (H .none .none .none .none .none .none .none .none))) (gA P0 (H _ _ _ _ .none .none .none .none)) (fun P fz vals h=>by obtain⟨c,d,e,g,rfl⟩:=b4 h;exact gB P (H .none .none .none .none c d e g)) w
noncomputable abbrev W5(f:Nat)(b:List MS)(n:Nat):Prop:=∀{d:Nat}{a0 a1 c a3 e:PV}{σ:aa}{Q:QV}{X:QX},ai d b (some a0::some a1::some c::some a3::some e::Nz n none) σ (fun o _ a=>aZ Q (o.getD .none) a) (ao X)->af (d+1) (.ref f) [a0,a1,c,a3,e] σ Q X
noncomputable def MK(f:Nat)(x:NS×List OJ×NL)(ps:List Str)(z:Bool):=fun(a0 a1 b a3 c:PV) (d e g h i:M4) (P:Nk) (j q:Str) (k a l:M4) (m:Option Nw) (n o:M4)=>gL f x ps z P [a0,a1,b,a3,c] [d,e,g,h,i] j q k a l m n o
noncomputable def ML(f:Nat)(x:NS×List OJ×NL)(ps:List Str)(b:List MS)(n:Nat):=fun(a0 a1 a a3 c:PV) (d e g h i:M4) (P:Nk) (k q:Str) (l j m:M4) (o:Option Nw) (p r:M4)=>gR f x ps b n P [a0,a1,a,a3,c] [d,e,g,h,i]
theorem g5(x:NS×List OJ×NL)(ps:List Str)(H:MK f x ps false=ML f x ps b n):W5 f b n:=by have H:∀(a0 a1 j a3 k:PV)(c d e g i:M4)(P:Nk)(l q:Str)(m a o:M4)(p:Option Nw)(r s:M4),gL f x ps false P [a0,a1,j,a3,k] [c,d,e,g,i] l q m a o p r s=gR f x ps b n P [a0,a1,j,a3,k] [c,d,e,g,i]:=fun a0 a1 j a3 k c d e g i P l q m a o p r s=>Nn (Nn (Nn (Nn (Nn (Nn (Nn (Nn (Nn (Nn (Nn (Nn (Nn (Nn (Nn (Nn (Nn (Nn (Nn H a0) a1) j) a3) k) c) d) e) g) i) P) l) q) m) a) o) p) r) s;intro _ _ _ _ _ _ _ _ _ w;exact fu (mx.of (gK (H .none .none .none .none .none .none .none .none .none .none)) (gS P0 (H .none .none .none .none .none .none .none .none .none .none))) (eU (gK (H .none .none .none .none .none .none .none .none .none .none))) (gN P0 (H .none .none .none .none .none .none .none .none .none .none)) (ia (gS P0 (H .none .none .none .none .none .none .none .none .none .none))) (gA P0 (H _ _ _ _ _ .none .none .none .none .none)) (fun P fz vals h=>by obtain⟨c,d,e,g,i,rfl⟩:=b5 h;exact gB P (H .none .none .none .none .none c d e g i)) w
theorem MM:W3 35 MA 0:=@g3 _ _ _ (ay 2 0) ["self","line","column"] (by kernel_rfl)
theorem I4:W1 108 HX 2:=@g1 _ _ _ (aB 11) ["sign"] (by kernel_rfl)
theorem I5:W1 115 HY 2:=@g1 _ _ _ (aB 12) ["sign"] (by kernel_rfl)
theorem I6:W1 122 HZ 1:=@g1 _ _ _ (aB 13) ["sign"] (by kernel_rfl)
theorem I7:W1 129 H0 2:=@g1 _ _ _ (aB 14) ["sign"] (by kernel_rfl)
theorem I8:W2 136 yT 10:=@g2 _ _ _ (aB 15) ["text","at"] (by kernel_rfl)
theorem E3:W2 143 H2 5:=@g2 _ _ _ (aB 16) ["text","at"] (by kernel_rfl)
theorem I9:W1 150 yU 7:=@g1 _ _ _ (aB 17) ["word"] (by kernel_rfl)
theorem I_:W1 157 B6 4:=@g1 _ _ _ (aB 18) ["word"] (by kernel_rfl)
theorem I':W5 171 H4 0:=@g5 _ _ _ (ay 19 0) ["self","kind","text","worth","at"] (by kernel_rfl)
theorem Ja:W2 178 H5 0:=@g2 _ _ _ (ay 19 1) ["self","text"] (by kernel_rfl)
theorem Jb:W1 192 H6 0:=@g1 _ _ _ (ay 19 3) ["self"] (by kernel_rfl)
theorem Jc:W3 213 H7 0:=@g3 _ _ _ (ay 20 0) ["self","text","line"] (by kernel_rfl)
theorem Jd:W2 220 H8 1:=@g2 _ _ _ (ay 20 1) ["self","at"] (by kernel_rfl)
theorem Je:W1 227 yV 1:=@g1 _ _ _ (ay 20 2) ["self"] (by kernel_rfl)
theorem Jf:W2 234 H9 1:=@g2 _ _ _ (ay 20 3) ["self","end"] (by kernel_rfl)
theorem Jg:W2 241 yW 3:=@g2 _ _ _ (ay 20 4) ["self","at"] (by kernel_rfl)
theorem Jh:W1 248 H_ 8:=@g1 _ _ _ (ay 20 5) ["self"] (by kernel_rfl)
theorem Ji:W1 255 H' 6:=@g1 _ _ _ (ay 20 6) ["self"] (by kernel_rfl)
theorem Jj:W1 276 Ia 6:=@g1 _ _ _ (ay 20 9) ["self"] (by kernel_rfl)
theorem E5:W1 283 Ib 8:=@g1 _ _ _ (ay 20 10) ["self"] (by kernel_rfl)
theorem Jk:W2 297 yX 4:=@g2 _ _ _ (aB 21) ["text","line"] (by kernel_rfl)
theorem Jl:W2 311 Ic 0:=@g2 _ _ _ (ay 22 0) ["self","tokens"] (by kernel_rfl)
theorem Jm:W1 318 Id 0:=@g1 _ _ _ (ay 22 1) ["self"] (by kernel_rfl)
theorem Jn:W1 332 Ie 1:=@g1 _ _ _ (ay 22 3) ["self"] (by kernel_rfl)
theorem Jo:W2 339 Ig 0:=@g2 _ _ _ (ay 22 4) ["self","text"] (by kernel_rfl)
theorem Jp:W1 346 Ih 0:=@g1 _ _ _ (ay 22 5) ["self"] (by kernel_rfl)
theorem Jq:W2 353 Ii 0:=@g2 _ _ _ (ay 22 6) ["self","text"] (by kernel_rfl)
theorem Jr:W2 367 Ij 1:=@g2 _ _ _ (ay 22 8) ["self","text"] (by kernel_rfl)
theorem E6:W1 374 Ik 1:=@g1 _ _ _ (ay 22 9) ["self"] (by kernel_rfl)
theorem Js:W1 388 Il 0:=@g1 _ _ _ (ay 22 11) ["self"] (by kernel_rfl)
theorem Jt:W2 437 Im 0:=@g2 _ _ _ (ay 27 0) ["self","worth"] (by kernel_rfl)
theorem Ju:W1 444 Io 0:=@g1 _ _ _ (ay 27 1) ["self"] (by kernel_rfl)
theorem Jv:W2 463 Ip 0:=@g2 _ _ _ (ay 28 0) ["self","name"] (by kernel_rfl)
theorem Jw:W1 470 Iq 0:=@g1 _ _ _ (ay 28 1) ["self"] (by kernel_rfl)
theorem Jx:W1 489 Ir 0:=@g1 _ _ _ (ay 29 0) ["self"] (by kernel_rfl)
theorem Jy:W3 508 It 0:=@g3 _ _ _ (ay 30 0) ["self","sign","body"] (by kernel_rfl)
theorem Jz:W1 515 Iu 0:=@g1 _ _ _ (ay 30 1) ["self"] (by kernel_rfl)
theorem JA:W4 534 Iv 0:=@g4 _ _ _ (ay 31 0) ["self","sign","left","right"] (by kernel_rfl)
theorem JB:W1 541 EU 5:=@g1 _ _ _ (ay 31 1) ["self"] (by kernel_rfl)
theorem JC:W1 553 vJ 2:=@g1 _ _ _ (aB 32) ["node"] (by kernel_rfl)
theorem JD:W1 560 Iw 0:=@g1 _ _ _ (aB 33) ["sign"] (by kernel_rfl)
theorem E7:W1 567 Ix 1:=@g1 _ _ _ (aB 34) ["token"] (by kernel_rfl)
theorem JE:W2 574 kc 10:=@g2 _ _ _ (aB 35) ["cursor","depth"] (by kernel_rfl)
theorem JF:W3 581 yY 7:=@g3 _ _ _ (aB 36) ["cursor","least","depth"] (by kernel_rfl)
theorem JG:W1 588 Iy 1:=@g1 _ _ _ (aB 37) ["cursor"] (by kernel_rfl)
theorem JH:W1 595 Iz 5:=@g1 _ _ _ (aB 38) ["text"] (by kernel_rfl)
theorem JI:W1 617 IA 0:=@g1 _ _ _ (ay 39 1) ["self"] (by kernel_rfl)
theorem JJ:W1 624 IB 0:=@g1 _ _ _ (ay 39 2) ["self"] (by kernel_rfl)
theorem JK:W1 631 IC 0:=@g1 _ _ _ (ay 39 3) ["self"] (by kernel_rfl)
theorem JL:W1 638 ID 1:=@g1 _ _ _ (ay 39 4) ["self"] (by kernel_rfl)
theorem JM:W2 645 IE 1:=@g2 _ _ _ (ay 39 5) ["self","other"] (by kernel_rfl)
theorem JN:W3 664 y3 6:=@g3 _ _ _ (aB 40) ["worth","pluses","minuses"] (by kernel_rfl)
theorem JO:W3 686 IF 0:=@g3 _ _ _ (ay 41 1) ["self","name","affine"] (by kernel_rfl)
theorem JP:W2 693 IG 1:=@g2 _ _ _ (ay 41 2) ["self","name"] (by kernel_rfl)
theorem JQ:W2 700 y4 5:=@g2 _ _ _ (ay 41 3) ["self","affine"] (by kernel_rfl)
theorem JR:W2 714 II 2:=@g2 _ _ _ (aB 42) ["one","other"] (by kernel_rfl)
theorem JS:W3 721 IJ 2:=@g3 _ _ _ (aB 43) ["sign","one","count"] (by kernel_rfl)
theorem JT:W3 728 IK 2:=@g3 _ _ _ (aB 44) ["sign","one","other"] (by kernel_rfl)
theorem JU:W3 735 IL 3:=@g3 _ _ _ (aB 45) ["sign","left","right"] (by kernel_rfl)
theorem JV:W2 742 IM 2:=@g2 _ _ _ (aB 46) ["sign","affine"] (by kernel_rfl)
theorem JW:W2 757 IN 3:=@g2 _ _ _ (aB 48) ["node","scope"] (by kernel_rfl)
theorem vO:W2 764 IO 2:=@g2 _ _ _ (aB 49) ["node","least"] (by kernel_rfl)
theorem y8:W1 771 IP 2:=@g1 _ _ _ (aB 50) ["node"] (by kernel_rfl)
theorem JX:W1 778 EW 10:=@g1 _ _ _ (aB 51) ["node"] (by kernel_rfl)
theorem JY:W1 785 EX 2:=@g1 _ _ _ (aB 52) ["affine"] (by kernel_rfl)
theorem JZ:W1 792 vK 4:=@g1 _ _ _ (aB 53) ["node"] (by kernel_rfl)
theorem J0:W1 799 B7 5:=@g1 _ _ _ (aB 54) ["node"] (by kernel_rfl)
theorem J1:W0 808 IR 0:=@g0 _ _ _ (aB 58) [] (by kernel_rfl)
theorem J2:W2 816 IS 3:=@g2 _ _ _ (aB 60) ["source","limit"] (by kernel_rfl)
theorem J3:W1 823 IT 3:=@g1 _ _ _ (aB 61) ["source"] (by kernel_rfl)
theorem E8:W2 830 IU 3:=@g2 _ _ _ (aB 62) ["source","depth"] (by kernel_rfl)
theorem E9:W2 837 IV 9:=@g2 _ _ _ (aB 63) ["source","depth"] (by kernel_rfl)
theorem J4:W2 844 lE 2:=@g2 _ _ _ (aB 64) ["worth","base"] (by kernel_rfl)
theorem y9:W2 851 B8 8:=@g2 _ _ _ (aB 65) ["source","token"] (by kernel_rfl)
theorem J5:W2 858 pH 10:=@g2 _ _ _ (aB 66) ["source","row"] (by kernel_rfl)
theorem J6:W1 865 iA 6:=@g1 _ _ _ (aB 67) ["row"] (by kernel_rfl)
theorem B9:W1 872 tG 17:=@g1 _ _ _ (aB 68) ["row"] (by kernel_rfl)
theorem J7:W3 877 EY 8:=@MH _ _ _ (aB 69) ["one","two","times"] (by kernel_rfl)
theorem J8:W3 884 IW 3:=@g3 _ _ _ (aB 70) ["sign","one","other"] (by kernel_rfl)
theorem vP:W3 891 IX 8:=@g3 _ _ _ (aB 71) ["tree","known","here"] (by kernel_rfl)
theorem J9:W1 898 IY 2:=@g1 _ _ _ (aB 72) ["text"] (by kernel_rfl)
theorem J_:W2 905 IZ 2:=@g2 _ _ _ (aB 73) ["node","scope"] (by kernel_rfl)
theorem vQ:W1 912 I0 1:=@g1 _ _ _ (aB 74) ["tree"] (by kernel_rfl)
theorem J':W3 919 tH 5:=@g3 _ _ _ (aB 75) ["text","at","tree"] (by kernel_rfl)
theorem Ka:W1 924 cV 53:=@MD _ _ _ (aB 76) ["script"] (by kernel_rfl)
theorem B_:mx 610 (ay 39 0) ["self","worth","plus","minus"]:=⟨by intro P;kernel_rfl,by intro P;kernel_rfl,by intro P;kernel_rfl,by kernel_rfl⟩
theorem B':dh (qR h_ 40 (ay 39 0).2.2) (ay 39 0).2.1=some yZ:=by kernel_rfl
theorem Kb:mx 679 (ay 41 0) ["self","equates"]:=⟨by intro P;kernel_rfl,by intro P;kernel_rfl,by intro P;kernel_rfl,by kernel_rfl⟩
theorem Kc:dh (qR h_ 40 (ay 41 0).2.2) (ay 41 0).2.1=some EV:=by kernel_rfl
theorem E_:mx 750 (aB 47) ["node","scope","here"]:=⟨by intro P;kernel_rfl,by intro P;kernel_rfl,by intro P;kernel_rfl,by kernel_rfl⟩
theorem Fa:dh (qR h_ 40 (aB 47).2.2) (aB 47).2.1=some tF:=by kernel_rfl
theorem AI{P:Nk}{fz:Fz}(t:Tok):VR P fz (.str []) (.str (NB "") t):= .str [] t ⟨by simp,fun c h=>absurd h Nq⟩
theorem dP{d f:Nat}{x:NS×List OJ×NL}{ps:List Str}(K:mx f x ps){D:Array M4->Prop}(p:∀P,∃T c e n,(bd f P).defaults= .ref T/\(H1 P).get? T=some c/\c.data= .seq e n/\D e)(r:jH x.2.2=true){ms:List MS}(t:dh (qR h_ 40 x.2.2) x.2.1=some ms){b pargs:List PV}{l:ar}(g:iz x.2.2 ps pargs=l)
  (u:∀(s:M7)(P:Nk)(fz:Fz)(vals:List M4)(T:Nw)(c:Obj)(e:Array M4)(k:Nat),aL P fz b vals->s.heap.get? T=some c->c.data= .seq e k->D e->∃a,aL P fz pargs a/\∀(n q:Str)(v i y:M4)(z:Option Nw)(A E:M4),Un s (xh x n q 3 [] (.ref T) v i y z A E 0) ⟨vals,[]⟩ (ps.zip a))
  {σ:aa} {Q:PV->aa->Prop} {X:QX} (w:ai d ms l σ (fun o _ j=>aZ Q (o.getD .none) j) (ao X)):af (d+1) (.ref f) b σ Q X:=
 jC K.at (kH r) (d_ (fun st m h=>g6 40 st m h K.at.ok) _ _ t) (fun C V σ fz s vals G h=>by
  apply bc;intro F;obtain⟨T,c,e,n,H,L,M,O⟩:=p C.P;obtain⟨a,v1,v2⟩:=u s C.P fz vals T c e n h (aJ C L G).2 M O;apply F;exact⟨a,by rw[K.h2 C.P,H];exact v2 _ _ _ _ _ _ _ _,v1⟩) (g▸w)
noncomputable abbrev d2(a:Array M4):Prop:=∃t1 b,a=#[.str (NB "") t1,.str (NB "") b]
noncomputable abbrev d1(a:Array M4):Prop:=∃t1,a=#[.str (NB "") t1]
theorem Ca(P:Nk):∃T a b n,(bd 610 P).defaults= .ref T/\(H1 P).get? T=some a/\a.data= .seq b n/\d2 b:=⟨_,_,_,_,rfl,rfl,rfl,_,_,rfl⟩
theorem Kd(P:Nk):∃T a b n,(bd 679 P).defaults= .ref T/\(H1 P).get? T=some a/\a.data= .seq b n/\b=#[.none]:=⟨_,_,_,_,rfl,rfl,rfl,rfl⟩
theorem Fb(P:Nk):∃T a b n,(bd 750 P).defaults= .ref T/\(H1 P).get? T=some a/\a.data= .seq b n/\d1 b:=⟨_,_,_,_,rfl,rfl,rfl,_,rfl⟩
section
variable{d:Nat}{a0 a1 a2 a3:PV}{σ:aa}{Q:PV->aa->Prop}{X:QX}
theorem Ke(w:ai d yZ [some a0,some a1,some a2,some a3] σ (fun o _ a=>aZ Q (o.getD .none) a) (ao X)):af (d+1) (.ref 610) [a0,a1,a2,a3] σ Q X:=
 dP B_ Ca (by kernel_rfl) B' (pargs:=[a0,a1,a2,a3]) (by kernel_rfl) (fun s P fz vals T g i k h b c e=>⟨vals,h,fun n q j f l m p r=>by obtain⟨x,y,z,u,rfl⟩:=b4 h;obtain⟨t1,t,rfl⟩:=e;exact jF rfl b c (by kernel_rfl)⟩) w
theorem Cb(w:ai d yZ [some a0,some a1,some a2,some (.str [])] σ (fun o _ a=>aZ Q (o.getD .none) a) (ao X)):af (d+1) (.ref 610) [a0,a1,a2] σ Q X:=
 dP B_ Ca (by kernel_rfl) B' (pargs:=[a0,a1,a2,.str []]) (by kernel_rfl) (fun s P fz vals T i j k h b c e=>by
  obtain⟨t1,f,rfl⟩:=e;exact⟨vals++[.str (NB "") f],h.append (.cons (AI _) .nil),fun n q l g m p r t=>by obtain⟨x,y,z,rfl⟩:=b3 h;exact jF rfl b c (by kernel_rfl)⟩) w
theorem Cc(w:ai d yZ [some a0,some a1,some (.str []),some (.str [])] σ (fun o _ a=>aZ Q (o.getD .none) a) (ao X)):af (d+1) (.ref 610) [a0,a1] σ Q X:=
 dP B_ Ca (by kernel_rfl) B' (pargs:=[a0,a1,.str [],.str []]) (by kernel_rfl) (fun s P fz vals T i j k h b c e=>by
  obtain⟨t1,f,rfl⟩:=e;exact⟨vals++[.str (NB "") t1,.str (NB "") f],h.append (.cons (AI _) (.cons (AI _) .nil)),fun n q l g m p r t=>by obtain⟨x,y,rfl⟩:=b2 h;exact jF rfl b c (by kernel_rfl)⟩) w
theorem Cd(w:ai d EV [some a0,some .none] σ (fun o _ a=>aZ Q (o.getD .none) a) (ao X)):af (d+1) (.ref 679) [a0] σ Q X:=
 dP Kb Kd (by kernel_rfl) Kc (pargs:=[a0,.none]) (by kernel_rfl) (fun s P fz vals T g i k h b c e=>by
  subst e;exact⟨vals++[.none],h.append (.cons .none .nil),fun n q j f l m p r=>by obtain⟨x,rfl⟩:=b1 h;exact jF rfl b c (by kernel_rfl)⟩) w
noncomputable abbrev pI(a0 a1 a:PV):ar:=[some a0,some a1,some a,none,none,none,none,none,none,none,none,none,none]
theorem Kf(w:ai d tF (pI a0 a1 a2) σ (fun o _ a=>aZ Q (o.getD .none) a) (ao X)):af (d+1) (.ref 750) [a0,a1,a2] σ Q X:=
 dP E_ Fb (by kernel_rfl) Fa (pargs:=[a0,a1,a2]) (by kernel_rfl) (fun s P fz vals T g i k h b c e=>⟨vals,h,fun n q j f l m p r=>by obtain⟨x,y,z,rfl⟩:=b3 h;obtain⟨t1,rfl⟩:=e;exact jF rfl b c (by kernel_rfl)⟩) w
theorem Ce(w:ai d tF (pI a0 a1 (.str [])) σ (fun o _ a=>aZ Q (o.getD .none) a) (ao X)):af (d+1) (.ref 750) [a0,a1] σ Q X:=
 dP E_ Fb (by kernel_rfl) Fa (pargs:=[a0,a1,.str []]) (by kernel_rfl) (fun s P fz vals T g i k h b c e=>by
  obtain⟨t1,rfl⟩:=e;exact⟨vals++[.str (NB "") t1],h.append (.cons (AI _) .nil),fun n q j f l m p r=>by obtain⟨x,y,rfl⟩:=b2 h;exact jF rfl b c (by kernel_rfl)⟩) w
end
noncomputable def Kg:List MS:=[.ret (.tup [.att v0 2])]
theorem Kh:W1 416 Kg 0:=@g1 _ _ _ (ay 26 1) ["self"] (by kernel_rfl)
set_option tactic.hygienic false
theorem iR{p:Prop}[Re p]{F:Bool->Prop}(a:p->F true)(b:¬p->F false):∃c,some (decide p)=some c/\F c:=by
 refine⟨decide p,rfl,?_⟩;by_cases h:p
 .rw[NH h];exact a h
 .rw[NK h];exact b h
theorem fG{F:Bool->Prop}(a:b=true->F true)(d:b=false->F false):∃c,some b=some c/\F c:=⟨b,rfl,by cases b;exact d rfl;exact a rfl⟩
theorem tX{c k:Nat}{F:Bool->Prop}(a:c=k->F true)(b:c≠k->F false):∃x,some ([c]==[k])=some x/\F x:=by exact fG (fun h=>a (O2 (beq_iff_eq.mp h)).1) fun h=>b fun e=>by rw[e]at h;exact df ((Nx [k]).symm.trans h)
theorem Fc{c k:Nat}{F:Bool->Prop}(a:c=k->F false)(b:c≠k->F true):∃x,some (!([c]==[k]))=some x/\F x:=by exact fG (fun h=>b fun e=>by rw[e,Nx]at h;exact aK h) fun h=>a (Decidable.byContradiction fun e=>by rw[beq_eq_false_iff_ne.mpr fun z=>e (O2 z).1]at h;exact df h)
theorem ak{F:Bool->Prop}(e:v=some b)(h:F b):∃c,v=some c/\F c:=⟨b,e,h⟩
theorem ah{F:PV->Prop}(e:v=some w)(h:F w):∃c,v=some c/\F c:=⟨w,e,h⟩
theorem ag{Q:QV}{σ:aa}(q:Q v σ):aZ Q v σ:= .val .rfl q
noncomputable def iB(lo hi c:Nat):Bool:=decide (lo<=c)&&decide (c<=hi)
theorem DP{lo hi c:Nat}{F:Bool->Prop}(h:F (iB lo hi c)):∃x,some (decide ((lo:Int)<=c))=some x/\match x with|true=>∃y,some (decide ((c:Int)<=hi))=some y/\F y|false=>F false:=by
 unfold iB at h;refine iR (fun a=>iR (fun b=>?_) fun b=>?_) fun a=>?_
 .rwa [NH (Int.ofNat_le.mp a),NH (Int.ofNat_le.mp b)]at h
 .rwa [NH (Int.ofNat_le.mp a),NK (fun z=>b (Int.ofNat_le.mpr z))]at h
 .rwa [NK (fun z=>a (Int.ofNat_le.mpr z))]at h
theorem GO{lo hi c:Nat}{F:Bool->Prop}(a:iB lo hi c=true->F true)(b:iB lo hi c=false->F false):∃x,some (decide ((lo:Int)<=c))=some x/\match x with|true=>∃y,some (decide ((c:Int)<=hi))=some y/\F y|false=>F false:=
 DP (by cases h:iB lo hi c;exact b h;exact a h)
noncomputable def aD(c:Nat):Int:=if iB 48 57 c then c-48 else if iB 97 102 c then c-87 else if iB 65 70 c then c-55 else 16
theorem tI{d c:Nat}{σ:aa}{Q:QV}{X:QX}(q:Q (.int (aD c)) σ):af (d+1) (.ref 108) [.str [c]] σ Q X:=by
 unfold aD at q;refine I4 (GO (lo:=48) (hi:=57) (fun h=>?_) fun h=>GO (lo:=97) (hi:=102) (fun a=>?_) fun a=>GO (lo:=65) (hi:=70) (fun b=>?_) fun b=>?_)
 .rw[M8 h]at q;exact ag q
 all_goals rw[M5 (by simp[h])]at q
 .rw[M8 a]at q;exact ag q
 all_goals rw[M5 (by simp[a])]at q
 .rw[M8 b]at q;exact ag q
 .rw[M5 (by simp[b])]at q;exact ag q
noncomputable def cM(c:Nat):Bool:=iB 97 122 c||iB 65 90 c
theorem AJ(P:Bool->Prop){σ:aa}{G:PV->aa->Prop}{F:Prop}(q:P (a||r))(b:P true->G (.bool true) σ)(c:P r->F):∃x,eH (.bool a) σ=some x/\if x=false then F else G (.bool a) σ:=by
 cases a
 .exact⟨false,rfl,c q⟩
 .exact⟨true,rfl,b q⟩
theorem Cf(P:Bool->Prop){σ:aa}{G:PV->aa->Prop}{F:Prop}(q:P (a&&r))(b:P false->G (.bool false) σ)(c:P r->F):∃x,eH (.bool a) σ=some x/\if x=true then F else G (.bool a) σ:=by
 cases a
 .exact⟨false,rfl,b q⟩
 .exact⟨true,rfl,c q⟩
theorem Fd{d c:Nat}{σ:aa}{Q:QV}{X:QX}(q:Q (.bool (cM c)) σ):af (d+1) (.ref 115) [.str [c]] σ Q X:=
 I5 (DP (lo:=97) (hi:=122) (AJ (fun b=>Q (.bool b) σ) q ag fun q=>DP (lo:=65) (hi:=90) (ag q)))
noncomputable def dG(c:Nat):Bool:=cM c||([c]==[95]||[c]==[46])
theorem Fe{σ:aa}{Q:QV}{X:QX}(q:Q (.bool (dG c)) σ):af (d+2) (.ref 122) [.str [c]] σ Q X:=
 I6 (Fd (AJ (fun b=>Q (.bool b) σ) q ag fun q=>ak (b:=[c]==[95]) rfl (AJ (fun b=>Q (.bool b) σ) q ag fun q=>ak (b:=[c]==[46]) rfl (ag q))))
noncomputable def am(c:Nat):Bool:=iB 48 57 c||(iB 97 122 c||(iB 65 90 c||([c]==[95]||([c]==[46]||[c]==[36]))))
theorem Ki{d c:Nat}{σ:aa}{Q:QV}{X:QX}(q:Q (.bool (am c)) σ):af (d+1) (.ref 129) [.str [c]] σ Q X:=
 I7 (DP (lo:=48) (hi:=57) (AJ (fun b=>Q (.bool b) σ) q ag fun q=>DP (lo:=97) (hi:=122) (AJ (fun b=>Q (.bool b) σ) q ag fun q=>DP (lo:=65) (hi:=90) (AJ (fun b=>Q (.bool b) σ) q ag fun q=>
  ak (b:=[c]==[95]) rfl (AJ (fun b=>Q (.bool b) σ) q ag fun q=>ak (b:=[c]==[46]) rfl (AJ (fun b=>Q (.bool b) σ) q ag fun q=>ak (b:=[c]==[36]) rfl (ag q)))))))
theorem Ff{k:Int}{n j:Nat}(h0: -1000000000<=k/\k<=1000000000)(J:(if k<0 then k+n else k)=(j:Int))(h:j<n):kY k n=some j:=by unfold kY;rw[M8 h0];show(if(decide (0<=(if k<0 then k+n else k))&&decide ((if k<0 then k+n else k)<(n:Int)))=true then some (if k<0 then k+n else k).toNat else none)=some j;rw[J,NH (NE j),NH (Int.ofNat_lt.mpr h)];rfl
theorem fY{i n:Nat}(h:i<n)(a:n<=1000000):kY (i:Int) n=some i:=
 Ff ⟨OY (by decide) (NE i),OY (Int.ofNat_le.mpr (M1 (NQ h) a)) (by decide)⟩ (M5 (Int.not_lt.mpr (NE i))) h
theorem pJ{i n:Nat}(h:i<n)(a:n<=1000000):kY (-((i:Int)+1)) n=some (n-1-i):=by obtain⟨k,rfl⟩:=Nat.exists_eq_add_of_lt h;have e:i+k+1-1-i=k:=Tj i k;rw[e];refine Ff ⟨Int.neg_le_neg (OY (Int.ofNat_le.mpr (M1 h a)) (by decide)),OY (Int.neg_nonpos_of_nonneg (NE (i+1))) (by decide)⟩ ?_ (Ot (Nr k i));rw[M8 (show -((i:Int)+1)<0 from Int.neg_neg_of_pos (Int.natCast_pos.mpr (Ob i)))];rw[show((i+k+1:Nat):Int)=((i:Int)+1)+k from Np We (P5 i k 1)];exact Tn _ _
theorem eb{a:Type}{s r:List a}{i:Nat}{c:a}(h:s.drop i=c::r):i<s.length:=Ro fun q=>A' ((Tm q).symm.trans h)
theorem nL{a:Type}{s r:List a}{i:Nat}{c:a}(h:s.drop i=c::r):s[i]? =some c:=(List.getElem?_drop (xs:=s) (i:=i) (j:=0)).symm.trans (by rw[h];rfl)
theorem aS{s r:List Nat}{i c:Nat}{σ:aa}(h:s.drop i=c::r)(a:s.length<=1000000):bk (.str s) (.int i) σ=some (.str [c]):=by show((kY (i:Int) s.length).bind fun j=>(s[j]?).map fun c=>PV.str [c])=_;rw[fY (eb h) a,PD,nL h];rfl
theorem aT{s r:List PV}{i:Nat}{c:PV}{σ:aa}(h:s.drop i=c::r)(a:s.length<=1000000):bk (.lst s) (.int i) σ=some c:=by show((kY (i:Int) s.length).bind fun j=>s[j]?)=_;rw[fY (eb h) a,PD,nL h]
theorem ca{a:Type}{s r:List a}{i:Nat}{c:a}(h:s.drop i=c::r):s.drop (i+1)=r:=by rw[←OO,h];rfl
theorem cJ(n i:Nat):OZ n i=min i n:=by
 unfold OZ;rw[M5 (Int.not_lt.mpr (NE i))];rcases Nat.le_total i n with h|h
 .rw[OF h,UK (Int.ofNat_le.mpr h),SC (NE _)];rfl
 .rw[Rn h,Int.min_eq_right (Int.ofNat_le.mpr h),SC (NE _)];rfl
theorem nM{a:Type}(s:List a)(i:Nat):s.drop (min i s.length)=s.drop i:=by
 by_cases h:i<=s.length
 .rw[OF h]
 .have h:=Qs h;rw[Rn h,Rk,Tm h]
theorem vR{a:Type}(s:List a)(h:i<=j):(s.drop i).take (min j s.length-min i s.length)=(s.drop i).take (j-i):=by
 by_cases q:j<=s.length
 .rw[OF q,OF (M1 h q)]
 .have q:=Qs q;rw[Rn q,ON (by rw[N9];exact T7 (QG _ _) _),ON (by rw[N9];exact Nat.sub_le_sub_right q _)]
theorem Cg{s:List Nat}{i j:Nat}{σ:aa}(h:i<=j):fE (.str s) (.int i) (.int j) σ=some (.str ((s.drop i).take (j-i))):=by show some (PV.str ((s.drop (OZ s.length i)).take (OZ s.length j-OZ s.length i)))=_;rw[cJ,cJ,nM,vR s h]
theorem nO{s:List Nat}{i:Nat}{σ:aa}:fE (.str s) (.int i) .none σ=some (.str (s.drop i)):=by show some (PV.str ((s.drop (OZ s.length i)).take (s.length-OZ s.length i)))=_;rw[cJ,ON (ND N9),nM]
theorem vS{s:List Nat}{i n:Nat}{σ:aa}:fE (.str s) (.int i) (.int ↑(i+n)) σ=some (.str ((s.drop i).take n)):=by rw[Cg (Nh i n),Tj]
theorem aG{x:Int}{n:Nat}(h:x.natAbs<2^n)(b:n<=8000):small x:=by
 unfold small Pb;by_cases a:(x==0)=true
 .rw[M8 a];exact NJ _
 .rw[M5 a];exact M1 ((Nat.log2_lt fun e=>a (beq_iff_eq.mpr (Int.natAbs_eq_zero.mp e))).mpr h) b
noncomputable def dQ(b:Int):List Nat->Int->Int
 |[],a=>a
 |c::r,a=>if b<=aD c then -1 else dQ b r (a*b+aD c)
theorem lF{lo hi k c:Nat}(h:iB lo hi c=true)(d:Uo k lo=true)(e:Uo hi (k+16)=true):0<=(c:Int)-k/\(c:Int)-k<=16:=by refine qm h fun a b=>?_;exact⟨Int.sub_nonneg_of_le (Int.ofNat_le.mpr (M1 (Ni d) (NW a))),Int.sub_left_le_of_le_add (Int.ofNat_le.mpr (M1 (NW b) (Ni e)))⟩
theorem kI(c:Nat):0<=aD c/\aD c<=16:=by
 unfold aD;by_cases h:iB 48 57 c=true
 .rw[M8 h];exact lF (k:=48) h rfl rfl
 rw[M5 h];clear h;by_cases h:iB 97 102 c=true
 .rw[M8 h];exact lF (k:=87) h rfl rfl
 rw[M5 h];clear h;by_cases h:iB 65 70 c=true
 .rw[M8 h];exact lF (k:=55) h rfl rfl
 rw[M5 h];decide
theorem Ch{a b:Int}{F:Bool->Prop}(d:a=b->F true)(f:a≠b->F false):∃c,some (a==b)=some c/\F c:=
 fG (fun h=>d (N3 h)) fun h=>f fun e=>by rw[e,Nx]at h;exact df h
theorem ec{a b:Nat}{F:Bool->Prop}(d:a=b->F true)(f:a≠b->F false):∃c,some ((a:Int)==(b:Int))=some c/\F c:=
 Ch (fun h=>d (Pp h)) fun h=>f fun e=>h (Np _ e)
theorem fZ{a b:Nat}{F:Bool->Prop}(d:a<b->F true)(f:b<=a->F false):∃c,some (decide ((a:Int)<b))=some c/\F c:=
 iR (fun h=>d (Int.ofNat_lt.mp h)) fun h=>f (Nat.le_of_not_lt fun e=>h (Int.ofNat_lt.mpr e))
theorem Ci{a b:Nat}{F:Bool->Prop}(d:a<=b->F true)(f:b<a->F false):∃c,some (decide ((a:Int)<=b))=some c/\F c:=
 iR (fun h=>d (Int.ofNat_le.mp h)) fun h=>f (Ro fun e=>h (Int.ofNat_le.mpr e))
noncomputable def ax(l:List MS)(n:Nat):List MS:=match l.drop n with
 |.forl _ _ b::_=>b
 |.whl _ b::_=>b
 |_=>[]
noncomputable def cw(l:List MS)(n:Nat):ME:=match l.drop n with
 |.whl c _::_=>c
 |_=> .lit .none
noncomputable def fH(b:Int)(r:List Nat):Int:=if r=[] then -1 else dQ b r 0
noncomputable def iC(w:List Nat):Int:=match w with
 |c::e::r=>if c=48 then(if e=120\/e=88 then fH 16 r else if e=98\/e=66 then fH 2 r else fH 8 (e::r))else fH 10 w
 |_=>fH 10 w
theorem AK{x b g:Int}{n:Nat}(a:x.natAbs<2^(4*n))(d:0<=b/\b<=16)(h0:0<=x)(f:0<=g/\g<b):(x*b+g).natAbs<2^(4*(n+1))/\0<=x*b+g:=by
 obtain⟨y,rfl⟩:=Po h0;obtain⟨c,rfl⟩:=Po d.1;obtain⟨e,rfl⟩:=Po f.1;have a:y<2^(4*n):=a;have h:c<=16:=Int.ofNat_le.mp d.2;have i:e<c:=Int.ofNat_lt.mp f.2;refine⟨?_,NE (y*c+e)⟩;show y*c+e<_;have j:y*c+e<(y+1)*c:=by rw[Nat.succ_mul];exact QO i _
 have k:(y+1)*c<=2^(4*n)*16:=UW a h;have l:2^(4*(n+1))=2^(4*n)*16:=by rw[Nat.mul_succ,VG]
 rw[l];exact No j k
theorem Cj{d:Nat}{w:PV}{b:Int}{k:PV}{σ:aa}{Q:QV}{X:QX}(f:0<=b/\b<=16)(r:List Nat):∀(a:Int)(n:Nat)(g i:Option PV),0<=a->a.natAbs<2^(4*n)->n+r.length<=2000->Q (.int (dQ b r a)) σ->bt (fun s σ K'=>ai (d+1) (ax yU 5) s σ K' X) [4] (r.map fun c=> .str [c]) [some w,some (.int b),some k,some (.int a),g,i,none,none] σ (fun o j e=>match o with|some v=>aZ Q v e|none=>ai (d+1) (yU.drop 6) j e (fun o _ e=>aZ Q (o.getD .none) e) (ao X)):=by
 induction r with
 |nil=>exact fun a n g i _ _ _ q=>ag q
 |cons c r t=>
  intro a n g i h0 l m q;refine⟨_,rfl,tI (iR (p:=b<=aD c) (fun h=>?_) fun h=>?_)⟩
  .unfold dQ at q;rw[M8 h]at q;exact ag q
  .unfold dQ at q;rw[M5 h]at q;have u:0<=aD c/\aD c<b:=⟨(kI c).1,Int.not_le.mp h⟩
   have:=AK l f h0 u;refine⟨aG l (M1 (Oj 4 (M1 (Nh n _) m)) (by decide)),aG (n:=5) ?_ (by decide),?_⟩
   .exact Int.ofNat_lt.mp (by rw[Qx f.1];exact Sa f.2 (by decide))
   .exact t _ (n+1) _ _ this.2 this.1 (by rw[OX];exact m) q
theorem ig{d:Nat}{w:List Nat}{b:Int}{k:Nat}{σ:aa}{Q:QV}{X:QX}(f:0<=b/\b<=16)(g:w.length<=2000)(i:k<=w.length)(q:Q (.int (fH b (w.drop k))) σ):
  ai (d+1) (yU.drop 3) [some (.str w),some (.int b),some (.int k),none,none,none,none,none] σ (fun o _ c=>aZ Q (o.getD .none) c) (ao X):=by
 unfold fH at q;refine ec (a:=k) (b:=w.length) (fun h=>?_) fun h=>ah nO ⟨_,rfl,?_⟩
 .rw[h,Rk,M8 rfl]at q;exact ag q
 .rw[M5 (fun e=>h (QH i (List.drop_eq_nil_iff.mp e)))]at q;exact Cj f _ 0 0 _ _ (by decide) (by decide) (by rw[N1,N9];exact M1 (Q3 _ _) g) q
theorem de(c e:Nat)(r:List Nat):iC (c::e::r)=if c=48 then(if e=120\/e=88 then fH 16 r else if e=98\/e=66 then fH 2 r else fH 8 (e::r))else fH 10 (c::e::r):=rfl
theorem Kj{d:Nat}{w:List Nat}{σ:aa}{Q:QV}{X:QX}(a:w.length<=2000)(q:Q (.int (iC w)) σ):af (d+2) (.ref 150) [.str w] σ Q X:=by
 apply I9
 match w,a,q with
 |[],a,q=>exact ak (b:=false) rfl <| ig (k:=0) (by decide) a (NJ _) q
 |[c],a,q=>exact ak (b:=false) rfl <| ig (k:=0) (by decide) a (NJ _) q
 |c::e::r,a,q=>
  have f:(c::e::r).length<=1000000:=M1 a (by decide);refine ak (b:=true) (Np some (NH (Int.ofNat_lt.mpr (Qr (Ob _))))) (ah (aS (i:=0) rfl f) (tX (fun h=>?_) fun h=>?_))
  .refine ah (aS (i:=1) rfl f) (tX (fun g=>?_) fun g=>ah (aS (i:=1) rfl f) (tX (fun j=>?_) fun j=>ah (aS (i:=1) rfl f) (tX (fun l=>?_) fun l=>ah (aS (i:=1) rfl f) (tX (fun m=>?_) fun m=>?_))))
   .exact ig (k:=2) (by decide) a (Nr _ _) (by rw[de,M8 h,M8 (.inl g)]at q;exact q)
   .exact ig (k:=2) (by decide) a (Nr _ _) (by rw[de,M8 h,M8 (.inr j)]at q;exact q)
   .exact ig (k:=2) (by decide) a (Nr _ _) (by rw[de,M8 h,M5 fun z=>z.elim g j,M8 (.inl l)]at q;exact q)
   .exact ig (k:=2) (by decide) a (Nr _ _) (by rw[de,M8 h,M5 fun z=>z.elim g j,M8 (.inr m)]at q;exact q)
   .exact ig (k:=1) (by decide) a (Nr _ _) (by rw[de,M8 h,M5 fun z=>z.elim g j,M5 fun z=>z.elim l m]at q;exact q)
  .exact ig (k:=0) (by decide) a (NJ _) (by rw[de,M5 h]at q;exact q)
theorem aa.uU(σ:aa)(a:Nw)(m c:MO):(σ.upd a m).upd a c=σ.upd a c:=by
 funext b;unfold aa.upd;split<;>rfl
theorem aa.del_upd{σ:aa}(m:MO)(h:σ a=none):(σ.upd a m).del a=σ:=by
 funext b
 by_cases e:b=a
 .rw[e,h];exact M8 rfl
 .rw[aa.dN _ e,aa.uN _ _ e]
theorem ed{σ:aa}(m:MO)(h:σ a=none):Le σ (σ.upd a m):=fun b n c=>by
 unfold aa.upd;split
 .rename_i e;rw[e,h]at c;exact aj c
 .exact c
theorem be{c D a:Nat}{as:List Nat}{vs:List PV}{v:PV}{σ:aa}{K:aa->Prop}(b:Uo as.length 100=true)(d:(aO c).contains a=true)(k:K (σ.upd D (.ins c (ge as vs a v).1 (ge as vs a v).2))):mH (.iref c D) a v (σ.upd D (.ins c as vs)) K:=by show(match(σ.upd D (.ins c as vs)) D with|some (.ins e as vs)=>_|_=>_);rw[aa.uS];exact⟨rfl,Ni b,d,by rw[aa.uU];exact k⟩
theorem MN{c D a:Nat}{as:List Nat}{vs:List PV}{v:PV}{σ:aa}{K:aa->Prop}(h:σ D=some (.ins c as vs))(b:Uo as.length 100=true)(d:(aO c).contains a=true)(k:K (σ.upd D (.ins c (ge as vs a v).1 (ge as vs a v).2))):mH (.iref c D) a v σ K:=by show(match σ D with|some (.ins e as vs)=>_|_=>_);rw[h];exact⟨rfl,Ni b,d,k⟩
theorem g7{σ:aa}{Q:QV}(h:σ D=none)(q:Q (.obj c b) σ):aZ (fun v a=>v= .none/\(Q (.iref c D) a\/∃b,a D=some (.ins c (aO c) b)/\Q (.obj c b) (a.del D))) .none (σ.upd D (.ins c (aO c) b)):=
 ag ⟨rfl,.inr ⟨b,aa.uS ..,by rw[aa.del_upd _ h];exact q⟩⟩
section
variable{d:Nat}{a b c e:PV}{σ:aa}{Q:QV}{X:QX}
theorem MP(q:Q (.obj 45 [a,b]) σ):af (d+2) (.ref 45) [a,b] σ Q X:=
 aM (by decide) fun D h=>MM (be rfl rfl (be rfl rfl (g7 h q)))
theorem nP(q:Q (.obj 195 [a,b,c,e]) σ):af (d+2) (.ref 195) [a,b,c,e] σ Q X:=
 aM (by decide) fun D h=>I' (be rfl rfl (be rfl rfl (be rfl rfl (be rfl rfl (g7 h q)))))
theorem Kk(q:Q (.obj 447 [.str [110,117,109,98,101,114],a]) σ):af (d+2) (.ref 447) [a] σ Q X:=
 aM (by decide) fun D h=>Jt (be rfl rfl (be rfl rfl (g7 h q)))
theorem Kl(q:Q (.obj 473 [.str [115,121,109,98,111,108],a]) σ):af (d+2) (.ref 473) [a] σ Q X:=
 aM (by decide) fun D h=>Jv (be rfl rfl (be rfl rfl (g7 h q)))
theorem Km(q:Q (.obj 492 [.str [104,101,114,101]]) σ):af (d+2) (.ref 492) [] σ Q X:=
 aM (by decide) fun D h=>Jx (be rfl rfl (g7 h q))
theorem Kn(q:Q (.obj 518 [.str [117,110,97,114,121],a,b]) σ):af (d+2) (.ref 518) [a,b] σ Q X:=
 aM (by decide) fun D h=>Jy (be rfl rfl (be rfl rfl (be rfl rfl (g7 h q))))
theorem Ko(q:Q (.obj 544 [.str [98,105,110,97,114,121],a,b,c]) σ):af (d+2) (.ref 544) [a,b,c] σ Q X:=
 aM (by decide) fun D h=>JA (be rfl rfl (be rfl rfl (be rfl rfl (be rfl rfl (g7 h q)))))
theorem Kq(q:∀D,σ D=none->Q (.iref 286 D) (σ.upd D (.ins 286 [3,0,5] [a,b,.int 0]))):af (d+2) (.ref 286) [a,b] σ Q X:=
 aM (by decide) fun D h=>Jc (be rfl rfl (be rfl rfl (be rfl rfl (ag ⟨rfl,.inl (q D h)⟩))))
theorem Kr(q:∀D,σ D=none->Q (.iref 391 D) (σ.upd D (.ins 391 [6,5] [a,.int 0]))):af (d+2) (.ref 391) [a] σ Q X:=
 aM (by decide) fun D h=>Jl (be rfl rfl (be rfl rfl (ag ⟨rfl,.inl (q D h)⟩)))
theorem y_(q:Q (.tup [a,c]) σ):af (d+1) (.ref 192) [.obj 195 [a,b,c,e]] σ Q X:=
 Jb (ah rfl (ah rfl (ag q)))
end
theorem vT{σ:aa}{Q:QV}{X:QX}(q:Q (.bool (k==[115,105,103,110]&&w==t)) σ):af (d+1) (.ref 178) [.obj 195 [.str k,.str w,v,p],.str t] σ Q X:=
 Ja (ah rfl (ak (b:=k==[115,105,103,110]) rfl (Cf (fun b=>Q (.bool b) σ) q ag fun q=>ah rfl (ak (b:=w==t) rfl (ag q)))))
theorem aI{c D a:Nat}{as:List Nat}{vs:List PV}{w:PV}{σ:aa}(h:(if(aO c).contains a=true then(as.idxOf? a).bind fun j=>vs[j]? else none)=some w):xw (.iref c D) a (σ.upd D (.ins c as vs))=some w:=by show(match(σ.upd D (.ins c as vs)) D with|some (.ins b as vs)=>(if b=c/\(aO c).contains a=true then(as.idxOf? a).bind fun j=>vs[j]? else none)|_=>none)=_;rw[aa.uS];rw[←h];show(if c=c/\_ then _ else _)=_;simp only[true_and]
theorem dR{σ:aa}(h:(dg c m).isSome=true):xj (.iref c D) m (σ.upd D (.ins c as vs)):=by
 show _/\(match(σ.upd D (.ins c as vs)) D with|some (.ins a _ _)=>a=c|_=>False)
 rw[aa.uS];exact⟨h,rfl⟩
noncomputable abbrev rd(t:List Nat)(ln:PV)(i:Nat):MO:= .ins 286 [3,0,5] [.str t,ln,.int i]
noncomputable abbrev g8:List Nat:=[110,117,109,98,101,114]
noncomputable abbrev nQ:List Nat:=[110,97,109,101]
noncomputable abbrev br:List Nat:=[115,105,103,110]
noncomputable abbrev Ks:List Nat:=[108,111,99,97,108]
noncomputable abbrev ds:List Nat:=[101,110,100]
inductive Tk where
 |num (n:Int)|name (s:List Nat)|sign (s:List Nat)|other|fin
inductive TR:PV->Tk->Prop
 |num {w:List Nat} {n:Int} {p:PV} (h:w.length<=2000):TR (.obj 195 [.str g8,.str w,.int n,p]) (.num n)
 |name {s:List Nat} {p:PV} (h:s.length<=2000):TR (.obj 195 [.str nQ,.str s,.str s,p]) (.name s)
 |sign {s:List Nat} {p:PV} (h:s.length<=2000):TR (.obj 195 [.str br,.str s,.str s,p]) (.sign s)
 |other {w:List Nat} {n:Int} {p:PV} (h:w.length<=2000):TR (.obj 195 [.str Ks,.str w,.int n,p]) .other
 |fin {p:PV}:TR (.obj 195 [.str ds,.str [],.str [],p]) .fin
section
variable{d r:Nat}{t:List Nat}{ln:PV}{i:Nat}{τ:aa}{Q:QV}{X:QX}
theorem vU(q:Q (.obj 45 [ln,.int (n+1)]) (τ.upd r (rd t ln i))):af (d+3) (.ref 220) [.iref 286 r,.int n] (τ.upd r (rd t ln i)) Q X:=
 Jd (ah (aI rfl) (MP (ag q)))
theorem tJ(n:Nat)(q:Q (.str ((t.drop i).take n)) (τ.upd r (rd t ln (i+n)))):af (d+1) (.ref 234) [.iref 286 r,.int ↑(i+n)] (τ.upd r (rd t ln i)) Q X:=
 Jf (ah (aI rfl) (be rfl rfl (ah (aI rfl) (ah vS (ag q)))))
noncomputable def bC:List Nat->Nat
 |[]=>0
 |c::r=>if am c then bC r+1 else 0
theorem Fh(r:List Nat):bC r<=r.length:=by
 induction r with
 |nil=>exact Nc _
 |cons c r a=>unfold bC;split;exact Ny (a);exact NJ _
theorem vV(h:t.drop i=[]):t.length<=i:=List.drop_eq_nil_iff.mp h
theorem nR(h:t.drop i=c::s):(decide ((i:Int)<(t.length:Int)))=true:=NH (Int.ofNat_lt.mpr (eb h))
theorem vW(h:t.drop i=[]):(decide ((i:Int)<(t.length:Int)))=false:=NK (Int.not_lt.mpr (Int.ofNat_le.mpr (vV h)))
theorem Ck(l:t.length<=1000000)(s:List Nat):∀(i j:Nat)(a:PV),t.drop j=s->Q (.int ↑(j+bC s)) (τ.upd r (rd t ln i))->bD (fun g σ K'=>fT (d+1) (cw yW 1) g σ K' (ao X)) (fun g σ K'=>ai (d+1) (ax yW 1) g σ K' (ao X)) (s.length+1) [some (.iref 286 r),some a,some (.int j),none,none] (τ.upd r (rd t ln i)) (fun o k f=>match o with|some v=>aZ Q v f|none=>ai (d+1) (yW.drop 2) k f (fun o _ f=>aZ Q (o.getD .none) f) (ao X)):=by
 induction s with
 |nil=>exact fun i j a h q=>ah (aI rfl) (ak (Np some (vW h)) (ag q))
 |cons c s m=>
  exact fun i j a h q=>ah (aI rfl) (ak (Np some (nR h)) (ah (aI rfl) (ah (aS h l) (Ki (fG (b:=am c) (fun e=>m i (j+1) a (ca h) (by
   unfold bC at q;rw[M8 e,Of _ 1,←N7]at q;exact q)) fun e=>by
   unfold bC at q;rw[M5 (by rw[e];decide)]at q;exact ag q)))))
theorem Fj(a:t.length<=1000000)(q:Q (.int ↑(j+bC (t.drop j))) (τ.upd r (rd t ln i))):af (d+2) (.ref 241) [.iref 286 r,.int j] (τ.upd r (rd t ln i)) Q X:=
 Jg ⟨_,Ck a _ i j _ rfl q⟩
noncomputable def ws(c:Nat):Bool:=[32]==[c]||([9]==[c]||([13]==[c]||false))
noncomputable def dz:List Nat->Nat
 |[]=>0
 |c::r=>if ws c then dz r+1 else 0
noncomputable def dS:List Nat->Bool
 |[]=>true
 |c::r=>if ws c then dS r else [c]==[35]
theorem Cl(j:t.length<=1000000)(s:List Nat):∀(i:Nat),t.drop i=s->Q (.bool (dS s)) (τ.upd r (rd t ln (i+dz s)))->bD (fun f σ K'=>fT d (cw yV 0) f σ K' (ao X)) (fun f σ K'=>ai d (ax yV 0) f σ K' (ao X)) (s.length+1) [some (.iref 286 r),none] (τ.upd r (rd t ln i)) (fun o g a=>match o with|some v=>aZ Q v a|none=>ai d (yV.drop 1) g a (fun o _ a=>aZ Q (o.getD .none) a) (ao X)):=by
 induction s with
 |nil=>exact fun i h q=>ah (aI rfl) (ah (aI rfl) (ak (Np some (vW h)) (ah (aI rfl) (ah (aI rfl) (ak (b:=true) (Np some (NH (Int.ofNat_le.mpr (vV h)))) ⟨true,rfl,ag q⟩)))))
 |cons c s k=>
  exact fun i h q=>ah (aI rfl) (ah (aI rfl) (ak (Np some (nR h)) (ah (aI rfl) (ah (aI rfl) (ah (aS h j) (fG (b:=ws c) (fun e=>ah (aI rfl) (be rfl rfl (k (i+1) (ca h) (by
   unfold dz dS at q;rw[M8 e,M8 e,Of _ 1,←N7]at q;exact q)))) fun e=>ah (aI rfl) (ah (aI rfl) (ak (b:=false) (Np some (NK (Int.not_le.mpr (Int.ofNat_lt.mpr (eb h))))) ⟨false,rfl,ah (aI rfl) (ah (aI rfl) (ah (aS h j) (ak (b:=[c]==[35]) rfl (ag (by
   unfold dz dS at q;rw[M5 (by rw[e];decide),M5 (by rw[e];decide)]at q;exact q)))))⟩))))))))
theorem za(a:t.length<=1000000)(q:Q (.bool (dS (t.drop i))) (τ.upd r (rd t ln (i+dz (t.drop i))))):af (d+1) (.ref 227) [.iref 286 r] (τ.upd r (rd t ln i)) Q X:=
 Je ⟨_,Cl a _ i rfl q⟩
end
theorem tK{σ:aa}{X:QX}(x:X 0 σ):1<=d+1/\(87=87\/87=99)/\(∃a r',[PV.str m,p]= .str a::r'/\r'.length<=1)/\ao X (eq 87) σ:=
 ⟨Nr _ _,.inl rfl,⟨_,_,rfl,Nc _⟩,⟨σ,Le.rfl,x⟩⟩
inductive Lx where
 |un|err|loc (n:Nat)|tok (t:Tk) (n:Nat)
noncomputable def LQ(o:Lx)(t:List Nat)(ln:PV)(i r:Nat)(a:aa)(Q:QV)(X:QX):Prop:=match o with
 |.un=>False
 |.err=>∀j,X 0 (a.upd r (rd t ln j))
 |.loc n=>(∀j,X 0 (a.upd r (rd t ln j)))/\∀v,TR v .other->Q v (a.upd r (rd t ln (i+n)))
 |.tok k n=>∀v,TR v k->Q v (a.upd r (rd t ln (i+n)))
noncomputable def lG(r:List Nat):Lx:=if 18446744073709551615<iC (r.take (bC r))then .err else if 0<=iC (r.take (bC r))then .tok (.num (iC (r.take (bC r)))) (bC r)else .loc (bC r)
noncomputable def qT:List Nat:=[43,45,42,47,37,38,124,94,126,33,40,41,91,93,44,58,36,61,60,62]
noncomputable def iS(c:Nat)(r:List Nat):Lx:=if qT.contains c then(if((c::r).take 2==[60,60]||(c::r).take 2==[62,62])then .tok (.sign ((c::r).take 2)) 2 else .tok (.sign [c]) 1)else .err
section
variable{d r:Nat}{t:List Nat}{ln:PV}{i:Nat}{τ:aa}{Q:QV}{X:QX}
theorem Cm{σ:aa}(s:List Nat):∀(w:PV)(a:Int)(n:Nat)(s2:Option PV),0<=a->a.natAbs<2^(4*n)->n+s.length<=2000->(∀v:Int,Q (.int v) σ)->bt (fun j σ K'=>ai (d+1) (ax B6 2) j σ K' (ao X)) [2] (s.map fun c=> .str [c]) [some w,some (.int a),s2,none,none] σ (fun o f e=>match o with|some v=>aZ Q v e|none=>ai (d+1) (B6.drop 3) f e (fun o _ e=>aZ Q (o.getD .none) e) (ao X)):=by
 induction s with
 |nil=>exact fun w a n s2 _ _ _ q=>ag (q _)
 |cons c s k=>intro w a n s2 h0 g i q;refine⟨_,rfl,tI (iR (p:=(9:Int)<aD c) (fun h=>ag (q _)) fun h=>?_)⟩;have:=AK (b:=10) g (by decide) h0 ⟨(kI c).1,Sa (Int.not_lt.mp h) (by decide)⟩;exact⟨aG g (M1 (Oj 4 (M1 (Nh n _) i)) (by decide)),aG (x:=10) (n:=5) (by decide) (by decide),tI (k w _ (n+1) _ this.2 this.1 (by rw[OX];exact i) q)⟩
theorem Kt{w:List Nat}{σ:aa}(e:w.length<=2000)(q:∀v:Int,Q (.int v) σ):af (d+2) (.ref 157) [.str w] σ Q X:=by
 have n:(w.dropLast.take (w.length-1)).length<=2000:=M1 (List.length_take_le _ _) (M1 (Q3 _ _) e);have hs:fE (.str w) .none (.int (-1)) σ=some (.str (w.take (OZ w.length (-1)-0))):=rfl;have l:(w.take (OZ w.length (-1)-0)).length<=2000:=by rw[OV];exact M1 (Rm _ _) e
 refine I_ (fZ (a:=w.length) (b:=2) (fun _=>ag (q _)) fun h=>?_);have hi:∃c,bk (.str w) (.int (-1)) σ=some (.str [c]):=by have g:0<w.length:=No (by decide) h;have f:w.length-1-0<w.length:=Uh g (by decide);refine⟨w[w.length-1-0],?_⟩;show((kY (-((0:Nat)+1:Int)) w.length).bind fun j=>(w[j]?).map fun c=>PV.str [c])=_;rw[pJ (i:=0) g (M1 e (by decide))];show Ri _ (w[w.length-1-0]?)=_;rw[Nu f];rfl
 obtain⟨c,k⟩:=hi;have z:=Cm (d:=d) (X:=X) _ (.str w) 0 0 none (by decide) (by decide) (by rw[N1];exact l) q;refine ah k (Fc (fun f=>ah hs ⟨_,rfl,z⟩) fun f=>ah k (Fc (fun m=>ah hs ⟨_,rfl,z⟩) fun m=>ag (q _)))
theorem cb{s:List Nat}{n:Nat}(h:s.length<=2000):((s.drop i).take n).length<=2000:=
 M1 (RO _ _) (by rw[N9];exact M1 (Q3 _ _) h)
theorem Ku(a:t.length<=2000)(q:LQ (lG (t.drop i)) t ln i r τ Q X):af (d+4) (.ref 248) [.iref 286 r] (τ.upd r (rd t ln i)) Q X:=by
 unfold lG at q;refine Jh ⟨dR rfl,ah (aI rfl) ⟨_,rfl,vU ⟨dR rfl,⟨dR rfl,ah (aI rfl) ⟨_,rfl,Fj (M1 a (by decide)) ⟨_,rfl,tJ _ (Kj (cb a) (iR (p:=(18446744073709551615:Int)<_) (fun h=>?_) fun h=>?_))⟩⟩⟩⟩⟩⟩
 .rw[M8 h]at q;exact tK (q _)
 .rw[M5 h]at q;refine iR (p:=(0:Int)<=_) (fun b=>?_) fun b=>?_
  .rw[M8 b]at q;exact nP (ag (q _ (.num (cb a))))
  .rw[M5 b]at q;refine Kt (cb a) fun v=>iR (p:=(0:Int)<=_) (fun c=>nP (ag (q.2 _ (.other (cb a))))) fun c=>⟨?_,tK (q.1 _)⟩
   exact M1 (NG (cb a) _) (by decide)
theorem Kv(f:t.drop i=c::s)(a:t.length<=2000)(q:LQ (iS c s) t ln i r τ Q X):af (d+4) (.ref 276) [.iref 286 r] (τ.upd r (rd t ln i)) Q X:=by
 unfold iS at q;have k:t.length<=1000000:=M1 a (by decide);refine Jj ⟨dR rfl,ah (aI rfl) ⟨_,rfl,vU (ah (aI rfl) (ah (aI rfl) (ah (aS f k) (fG (b:= !(qT.contains c)) (fun h=>?_) fun h=>?_))))⟩⟩
 .rw[M5 (by rw[Sk _ |>.mp h];decide)]at q;exact tK (q _)
 .rw[M8 (by cases e:qT.contains c;rw[e]at h;exact df h;rfl)]at q;refine ah (aI rfl) (ah (aI rfl) (ah (aI rfl) (ah (vS (n:=2)) ⟨dR rfl,fG (b:=(t.drop i).take 2==[60,60]) (fun g=>?_) fun g=>fG (b:=(t.drop i).take 2==[62,62]) (fun j=>?_) fun j=>?_⟩)))
  .rw[←f,M8 (by rw[g];rfl)]at q;exact ah (aI rfl) ⟨_,rfl,tJ 2 (nP (ag (q _ (.sign (cb a)))))⟩
  .rw[←f,M8 (by rw[g,j];rfl)]at q;exact ah (aI rfl) ⟨_,rfl,tJ 2 (nP (ag (q _ (.sign (cb a)))))⟩
  .rw[←f,M5 (by rw[g,j];decide)]at q;refine ah (aI rfl) ⟨_,rfl,tJ 1 ?_⟩;rw[f];exact nP (ag (q _ (.sign (Ni rfl))))
end
set_option tactic.hygienic true
section
variable{d r:Nat}{t:List Nat}{ln:PV}{i:Nat}{σ τ:aa}{Q:QV}{X:QX}
theorem bl{k c e:Nat}{s1 s2 s3:Option PV}{S A:PV}{a:List PV}{K:QS}(h:bk (cq 1) (.int k) σ=some (.str [e]))(f:([e]==[c])=false)
  (z:bt (fun b σ K'=>ai d (ax yT 6) b σ K' X) [5] a [some S,some A,some (.str [c]),s1,s2,some (.int k),none,none,none,none,none,none] σ K):
  bt (fun b σ K'=>ai d (ax yT 6) b σ K' X) [5] (.int k::a) [some S,some A,some (.str [c]),s1,s2,s3,none,none,none,none,none,none] σ K:=
 ⟨_,rfl,ah h (ak (Np some f) z)⟩
theorem lH{k c a:Nat}{s1 s2 s3:Option PV}{S:PV}{e:List PV}{K:QS}(h:bk (cq 1) (.int k) σ=some (.str [c]))(g:bk (cq 2) (.int k) σ=some (.str [c]))
  (z:∀f,K (some (.tup [.int c,.int ↑(a+2)])) f σ):
  bt (fun f σ K'=>ai d (ax yT 6) f σ K' X) [5] (.int k::e) [some S,some (.int a),some (.str [c]),s1,s2,s3,none,none,none,none,none,none] σ K:=
 ⟨_,rfl,ah h (ak (b:=true) (Np some (Nx [c])) (ah g (z _)))⟩
theorem Kw{c:Nat}{s:List Nat}(h:t.drop i=92::c::s)(a:c=34\/c=39\/c=92)(j:t.length<=1000000)(q:Q (.tup [.int c,.int ↑(i+2)]) σ):af (d+2) (.ref 136) [.str t,.int i] σ Q X:=by
 have f:=ca h;have l:(decide ((t.length:Int)<=((i:Int)+1)))=false:=NK (Int.not_le.mpr (Int.ofNat_lt.mpr (eb f)));have g5:aD c=16:=by rcases a with rfl|rfl|rfl<;>rfl
 refine I8 (ak (Np some l) (ah (aS (i:=i+1) f j) (tI (ak (b:=false) (by rw[g5];rfl) (tX (fun e=>?_) fun e=>⟨_,rfl,?_⟩)))))
 .subst e;rcases a with e|e|e<;>cases e
 .rcases a with rfl|rfl|rfl
  .exact bl (k:=0) (e:=98) rfl rfl (bl (k:=1) (e:=116) rfl rfl (bl (k:=2) (e:=110) rfl rfl (bl (k:=3) (e:=102) rfl rfl (bl (k:=4) (e:=114) rfl rfl (lH (k:=5) rfl rfl fun g=>ag q)))))
  .exact bl (k:=0) (e:=98) rfl rfl (bl (k:=1) (e:=116) rfl rfl (bl (k:=2) (e:=110) rfl rfl (bl (k:=3) (e:=102) rfl rfl (bl (k:=4) (e:=114) rfl rfl (bl (k:=5) (e:=34) rfl rfl (lH (k:=6) rfl rfl fun g=>ag q))))))
  .exact bl (k:=0) (e:=98) rfl rfl (bl (k:=1) (e:=116) rfl rfl (bl (k:=2) (e:=110) rfl rfl (bl (k:=3) (e:=102) rfl rfl (bl (k:=4) (e:=114) rfl rfl (bl (k:=5) (e:=34) rfl rfl (bl (k:=6) (e:=39) rfl rfl (lH (k:=7) rfl rfl fun g=>ag q)))))))
inductive CC:List Nat->Nat->Nat->Prop
 |esc {c:Nat} {s:List Nat} (h:c=34\/c=39\/c=92):CC (92::c::39::s) c 4
 |raw {c:Nat} {s:List Nat} (h:32<=c/\c<=126/\c≠92):CC (c::39::s) c 3
theorem Kx(hr:t.drop i=39::s)(hc:CC s c n)(ht:t.length<=1000000)(q:Q (.tup [.int c,.int ↑(i+n)]) σ):af (d+3) (.ref 143) [.str t,.int i] σ Q X:=by
 have h1:=ca hr;cases hc with
 |esc h=>have h3:=ca (ca h1);refine E3 (ak (b:=false) (Np some (NK (Int.not_le.mpr (Int.ofNat_lt.mpr (eb h1))))) (ah (aS (i:=i+1) h1 ht) (ak (b:=false) rfl (ah (aS (i:=i+1) h1 ht) (ah (aS (i:=i+1) h1 ht) (ak (b:=true) rfl (Kw (i:=i+1) h1 h ht ⟨_,_,rfl,rfl,?_⟩)))))));exact ak (b:=true) rfl (ak (Np some (nR (i:=i+3) h3)) (ah (aS (i:=i+3) h3 ht) (ak (b:=true) rfl (ag q))))
 |raw h=>
  have h2:=ca h1;refine E3 (ak (b:=false) (Np some (NK (Int.not_le.mpr (Int.ofNat_lt.mpr (eb h1))))) (ah (aS (i:=i+1) h1 ht) (tX (fun e=>?_) fun e=>ah (aS (i:=i+1) h1 ht) (ah (aS (i:=i+1) h1 ht) (tX (fun e=>?_) fun e=>?_)))))
  .subst e;exact absurd h.1 (by decide)
  .exact absurd e h.2.2
  .exact ak (b:=false) (Np some (NK (Int.not_lt.mpr (Int.ofNat_le.mpr h.1)))) (ak (b:=false) (Np some (NK (Int.not_lt.mpr (Int.ofNat_le.mpr h.2.1))))
    (ak (b:=true) rfl (ak (Np some (nR (i:=i+2) h2)) (ah (aS (i:=i+2) h2 ht) (ak (b:=true) rfl (ag q))))))
theorem Ky(e:t.drop i=39::s)(f:CC s c n)(a:t.length<=2000)(q:∀v,TR v (.num c)->Q v (τ.upd r (rd t ln (i+n)))):af (d+4) (.ref 255) [.iref 286 r] (τ.upd r (rd t ln i)) Q X:=
 Ji ⟨dR rfl,ah (aI rfl) ⟨_,rfl,vU (ah (aI rfl) (ah (aI rfl) (Kx e f (M1 a (by decide)) ⟨_,_,rfl,rfl,ak (b:=false) rfl ⟨dR rfl,⟨_,rfl,tJ n (nP (ag (q _ (.num (cb a)))))⟩⟩⟩)))⟩⟩
noncomputable def f6:List Nat->Bool
 |c::_=>cM c
 |_=>false
noncomputable def lI(c:Nat)(s:List Nat):Lx:=if dG c=true then .tok (.name ((c::s).take (bC (c::s)))) (bC (c::s))else if aD c<10 then lG (c::s)else if c=39 then .un else if c=34 then .un
 else if c=37/\f6 s=true then .un else iS c s
inductive LX:List Nat->Lx->Prop
 |c {s:List Nat} {c n:Nat} (h:CC s c n):LX (39::s) (.tok (.num c) n)
 |f {c:Nat} {s:List Nat}:LX (c::s) (lI c s)
theorem LQ.out(q:LQ o t ln i r τ Q X):LQ o t ln i r τ (fun v a=>aZ Q v a) (ao X):=match o,q with
 |.un,q=>q.elim
 |.err,q=>fun j=>⟨_,Le.rfl,q j⟩
 |.loc n,q=>⟨fun j=>⟨_,Le.rfl,q.1 j⟩,fun v h=>ag (q.2 v h)⟩
 |.tok k n,q=>fun v h=>ag (q v h)
theorem Cn(g:t.drop i=s)(y:LX s o)(j:t.length<=2000)(q:LQ o t ln i r τ Q X):af (d+5) (.ref 283) [.iref 286 r] (τ.upd r (rd t ln i)) Q X:=by
 have a:t.length<=1000000:=M1 j (by decide);cases y with
 |c h=>exact E5 (ah (aI rfl) (ah (aI rfl) (ah (aS g a) (Fe (ak (b:=false) rfl (tI (ak (b:=false) rfl (ak (b:=true) rfl ⟨dR rfl,⟨_,rfl,Ky g h j fun v h=>ag (q v h)⟩⟩))))))))
 |f=>
  rename_i c s;unfold lI at q;refine E5 (ah (aI rfl) (ah (aI rfl) (ah (aS g a) (Fe (fG (b:=dG c) (fun h=>?_) fun h=>tI (iR (p:=aD c<10) (fun k=>?_) fun k=>tX (fun l=>?_) fun l=>tX (fun m=>?_) fun m=>?_))))))
  .rw[M8 h]at q;refine⟨dR rfl,ah (aI rfl) ⟨_,rfl,vU ⟨dR rfl,⟨dR rfl,ah (aI rfl) ⟨_,rfl,Fj a ⟨_,rfl,tJ _ (nP (ag ?_))⟩⟩⟩⟩⟩⟩;rw[←g]at q;exact q _ (.name (cb j))
  all_goals rw[M5 (by rw[h];decide)]at q
  .rw[M8 k]at q;exact⟨dR rfl,⟨_,rfl,Ku j (by rw[g];exact q.out)⟩⟩
  all_goals rw[M5 k]at q
  .rw[M8 l]at q;exact q.elim
  all_goals rw[M5 l]at q
  .rw[M8 m]at q;exact q.elim
  rw[M5 m]at q;have mk:¬(c=37/\f6 s=true)->af (d+4) (.ref 276) [.iref 286 r] (τ.upd r (rd t ln i)) (fun v n=>aZ Q v n) (ao X):=fun e=>by rw[M5 e]at q;exact Kv g j q.out
  have u:=ca g;refine tX (fun w=>?_) fun w=>⟨dR rfl,⟨_,rfl,mk fun e=>w e.1⟩⟩
  cases s with
  |nil=>exact ah (aI rfl) (ah (aI rfl) (ak (Np some (vW (i:=i+1) u)) ⟨dR rfl,⟨_,rfl,mk fun e=>aK e.2⟩⟩))
  |cons e s=>refine ah (aI rfl) (ah (aI rfl) (ak (Np some (nR (i:=i+1) u)) (ah (aI rfl) (ah (aI rfl) (ah (aS (i:=i+1) u a) (Fd (fG (b:=cM e) (fun x=>?_) fun x=>⟨dR rfl,⟨_,rfl,mk fun z=>by have z:cM e=true:=z.2;rw[x]at z;exact aK z⟩⟩)))))));rw[M8 ⟨w,x⟩]at q;exact q.elim
end
set_option tactic.hygienic false
inductive gv:List PV->List Tk->Prop
 |nil:gv [] []
 |cons {v:PV} {vs:List PV} {t:Tk} {ts:List Tk} (h:TR v t) (hs:gv vs ts):gv (v::vs) (t::ts)
theorem gv.app{vs:List PV}{a:List Tk}{ws:List PV}{b:List Tk}(h:gv vs a)(k:gv ws b):gv (vs++ws) (a++b):=by
 induction h with
 |nil=>exact k
 |cons h _ c=>exact .cons h c
theorem gv.len{vs:List PV}{ks:List Tk}(h:gv vs ks):vs.length=ks.length:=by
 induction h with
 |nil=>rfl
 |cons _ _ a=>exact Np (·+1) a
theorem lJ{σ:aa}(h:σ f=some (.lst vs))(a:m<4):xj (.ref f) m σ:=by show(match σ f with|some (.lst _)=>m<4|some (.dct _)=>m=4|_=>False);rw[h];exact a
theorem zb{σ:aa}(h:σ f=some (.lst vs)):rY σ (.ref f)=some (f,vs):=by show(match σ f with|some (.lst kvs)=>some (f,kvs)|_=>none)=_;rw[h]
theorem ci{σ:aa}{Q:QV}(h:σ f=some (.lst vs))(k:xy f vs m as σ Q):xi (.ref f) m as σ Q:=by unfold xi;rw[zb h];exact k
theorem GP{σ:aa}(h:r≠f):((σ.upd f m).upd r x).upd f a=(σ.upd f a).upd r x:=by
 funext b
 by_cases e:b=f
 .subst e;rw[aa.uS,aa.uN _ _ (NT h),aa.uS]
 .rw[aa.uN _ _ e];by_cases g:b=r
  .subst g;rw[aa.uS,aa.uS]
  .rw[aa.uN _ _ g,aa.uN _ _ g,aa.uN _ _ e,aa.uN _ _ e]
theorem Fk{σ:aa}(h:r≠f):(σ.upd r x).upd f m=(σ.upd f m).upd r x:=by
 funext b
 by_cases e:b=f
 .subst e;rw[aa.uS,aa.uN _ _ (NT h),aa.uS]
 .rw[aa.uN _ _ e];by_cases g:b=r
  .subst g;rw[aa.uS,aa.uS]
  .rw[aa.uN _ _ g,aa.uN _ _ g,aa.uN _ _ e]
theorem GQ{σ:aa}(c:σ f=none)(d:σ r=none):Le σ ((σ.upd f m).upd r x):=fun b n a=>by
 have e:b≠f:=fun e=>by rw[e,c]at a;exact aj a
 have g:b≠r:=fun e=>by rw[e,d]at a;exact aj a
 rw[aa.uN _ _ g,aa.uN _ _ e];exact a
theorem L9{σ c:aa}(d:σ f=none)(h:Le σ c):Le σ ((c.upd f m).del f):=fun b n a=>by
 have e:b≠f:=fun e=>by rw[e,d]at a;exact aj a
 rw[aa.dN _ e,aa.uN _ _ e];exact h b n a
inductive ch:List Nat->(Option (List Tk)->Prop)->Prop
 |done {s:List Nat} {P:Option (List Tk)->Prop} (h:dS s=true) (p:P (some [])):ch s P
 |err {s:List Nat} {P:Option (List Tk)->Prop} (h:dS s=false) (x:LX (s.drop (dz s)) .err) (p:P none):ch s P
 |loc {s:List Nat} {P:Option (List Tk)->Prop} {n:Nat} (h:dS s=false) (x:LX (s.drop (dz s)) (.loc n)) (hn:0<n) (p:P none) (r:ch (s.drop (dz s+n)) fun o=>P (o.map (.other::·))):ch s P
 |tok {s:List Nat} {P:Option (List Tk)->Prop} {n:Nat} {k:Tk} (h:dS s=false) (x:LX (s.drop (dz s)) (.tok k n)) (hn:0<n) (r:ch (s.drop (dz s+n)) fun o=>P (o.map (k::·))):ch s P
theorem qU{s:List Nat}{n:Nat}(h:dS s=false)(a:0<n):(s.drop (dz s+n)).length<s.length:=by
 cases s with
 |nil=>exact df h
 |cons c s=>rw[N9];exact Uh (Ob _) (No a (Nr _ _))
section
variable{d r f:Nat}{t:List Nat}{ln:PV}{σ:aa}{Q:QV}{X:QX}
theorem Co{vs:List PV}{i:Nat}(a:r≠f)(c:σ f=none)(e:σ r=none)(g:vs.length<aU)(q:∀v,TR v .fin->Q (.lst (vs++[v])) σ):
  ai (d+5) (yX.drop 3) [some (.str t),some ln,some (.iref 286 r),some (.ref f),none,none] ((σ.upd f (.lst vs)).upd r (rd t ln i)) (fun o _ b=>aZ Q (o.getD .none) b) (ao X):=by
 have hs:((σ.upd f (.lst vs)).upd r (rd t ln i)) f=some (.lst vs):=by rw[aa.uN _ _ (NT a),aa.uS]
 exact⟨lJ hs (by decide),⟨dR rfl,ah (aI rfl) ⟨_,rfl,vU (nP (ci hs ⟨g,.frz (aa.uS ..) (L9 c (GQ c e)) (q _ .fin)⟩))⟩⟩⟩
noncomputable abbrev zc(σ:aa)(f r:Nat)(t:List Nat)(ln:PV)(vs:List PV)(i:Nat):aa:=(σ.upd f (.lst vs)).upd r (rd t ln i)
noncomputable abbrev Fl(t:List Nat)(ln:PV)(r f:Nat):ar:=[some (.str t),some ln,some (.iref 286 r),some (.ref f),none,none]
theorem Cp{Y:QX}(ht:t.length<=2000)(hrf:r≠f){s:List Nat}{P:Option (List Tk)->Prop}(L:ch s P):∀i,t.drop i=s->∃n,∀{vs ts K},gv vs ts->vs.length+s.length<=2000->(P none->∀vs j,Y 0 (zc σ f r t ln vs j))->
  (∀ks vs' j,P (some ks)->gv vs' (ts++ks)->vs'.length<=2000->K none (Fl t ln r f) (zc σ f r t ln vs' j))->
  bD (fun ρ σ K'=>fT (d+5) (cw yX 2) ρ σ K' Y) (fun ρ σ K'=>ai (d+5) (ax yX 2) ρ σ K' Y) n (Fl t ln r f) (zc σ f r t ln vs i) K:=by
 have ht1:t.length<=1000000:=M1 ht (by decide);have hs:∀vs i,zc σ f r t ln vs i f=some (.lst vs):=fun vs i=>by show((σ.upd f _).upd r _) f=_;rw[aa.uN _ _ (NT hrf),aa.uS]
 have up:∀{vs:List PV}{v:PV}{s:List Nat}{n:Nat},dS s=false->0<n->vs.length+s.length<=2000->(vs++[v]).length+(s.drop (dz s+n)).length<=2000:=fun h hn hl=>by rw[M3,N7];exact M1 (NG (by rw[Of];exact qU h hn) _) hl
 have lt:∀{vs:List PV}{s:List Nat},vs.length+s.length<=2000->vs.length<aU:=fun hl=>M9 (M1 (Nh _ _) hl) (by decide);induction L with
 |done h p=>intro i hi;exact⟨1,fun{vs ts K} hv hl hX hQ=>⟨dR rfl,⟨_,rfl,za ht1 (ak (b:=true) (by rw[hi,h];rfl) (hQ [] vs _ p (by rw[Nv];exact hv) (M1 (Nh _ _) hl)))⟩⟩⟩
 |err h x p=>intro i hi;exact⟨1,fun hv hl hX hQ=>⟨dR rfl,⟨_,rfl,za ht1 (ak (b:=false) (by rw[hi,h];rfl) ⟨lJ (hs _ _) (by decide),⟨dR rfl,⟨_,rfl,Cn (by rw[←OO,hi]) x ht fun j=>hX p _ j⟩⟩⟩)⟩⟩⟩
 |loc h x hn p r ih=>intro i hi;obtain⟨n,ih⟩:=ih _ (by rw[←hi,OO]);refine⟨n+1,fun{vs ts K} hv hl hX hQ=>⟨dR rfl,⟨_,rfl,za ht1 (ak (b:=false) (by rw[hi,h];rfl) ⟨lJ (hs _ _) (by decide),⟨dR rfl,⟨_,rfl,Cn (by rw[←OO,hi]) x ht ⟨fun j=>hX p _ j,fun v hv'=>ci (hs _ _) ⟨lt hl,?_⟩⟩⟩⟩⟩)⟩⟩⟩;rw[GP hrf,N7];exact ih (hv.app (.cons hv' .nil)) (up h hn hl) hX fun ks vs' j hp ht'=>hQ (.other::ks) vs' j hp (by rw[Nd ts]at ht';exact ht')
 |tok h x hn r ih=>intro i hi;obtain⟨n,ih⟩:=ih _ (by rw[←hi,OO]);refine⟨n+1,fun{vs ts K} hv hl hX hQ=>⟨dR rfl,⟨_,rfl,za ht1 (ak (b:=false) (by rw[hi,h];rfl) ⟨lJ (hs _ _) (by decide),⟨dR rfl,⟨_,rfl,Cn (by rw[←OO,hi]) x ht fun v hv'=>ci (hs _ _) ⟨lt hl,?_⟩⟩⟩⟩)⟩⟩⟩;rw[GP hrf,N7];exact ih (hv.app (.cons hv' .nil)) (up h hn hl) hX fun ks vs' j hp ht'=>hQ (_::ks) vs' j hp (by rw[Nd ts]at ht';exact ht')
theorem Fm{P:Option (List Tk)->Prop}(c:t.length<=2000)(L:ch t P)(h:P none->X 0 σ)(k:∀ks vs,P (some ks)->gv vs (ks++[.fin])->Q (.lst vs) σ):af (d+6) (.ref 297) [.str t,ln] σ Q X:=by
 refine Jk (Kq fun r g f a=>?_);have e:f≠r:=fun e=>by rw[e,aa.uS]at a;exact ba a
 rw[aa.uN _ _ e]at a;obtain⟨n,z⟩:=Cp (σ:=σ) (d:=d) (ln:=ln) (Y:=ao X) c (NT e) L 0 rfl;rw[Fk (NT e)];exact⟨n,z .nil (by rw[N5,N1];exact c) (fun p _ j=>⟨σ,GQ a g,h p⟩) fun ks vs i p l m=>Co (NT e) a g (M9 m (by decide)) fun v b=>k ks _ p (l.app (.cons b .nil))⟩
end
theorem eV{s k:List Nat}{F:Bool->Prop}(a:s=k->F true)(b:s≠k->F false):∃x,some (s==k)=some x/\F x:=
 fG (fun h=>a (N3 h)) fun h=>b fun e=>by rw[e,Nx]at h;exact df h
noncomputable def ae(s:List Nat):Nat:=if s=[43]\/s=[45] then 1 else if s=[124]\/s=[38]\/s=[94] then 2 else if s=[42]\/s=[47]\/s=[37]\/s=[60,60]\/s=[62,62] then 3 else 0
noncomputable def oC:Tk->Nat
 |.sign s=>ae s
 |_=>0
noncomputable def DQ:Tk->List Nat
 |.sign s=>s
 |_=>[]
inductive Tr where
 |num (n:Int)|name (s:List Nat)|here|un (s:List Nat) (b:Tr)|bin (s:List Nat) (l r:Tr)
noncomputable abbrev pK:List Nat:=[115,121,109,98,111,108]
noncomputable abbrev ij:List Nat:=[104,101,114,101]
noncomputable abbrev Fo:List Nat:=[117,110,97,114,121]
noncomputable abbrev Fp:List Nat:=[98,105,110,97,114,121]
noncomputable def tv:Tr->PV
 |.num n=> .obj 447 [.str g8,.int n]
 |.name s=> .obj 473 [.str pK,.str s]
 |.here=> .obj 492 [.str ij]
 |.un s b=> .obj 518 [.str Fo,.str s,tv b]
 |.bin s l r=> .obj 544 [.str Fp,.str s,tv l,tv r]
noncomputable abbrev Rs:=Option (Option (Tr×List Tk))
noncomputable def qV(p:Nat->List Tk->Rs)(l:Nat->Nat->List Tk->Rs)(a:Nat):List Tk->Rs
 |[]=>none
 |k::r=>if 10<a then some none else match k with
  |.num n=>some (some (.num n,r))
  |.name s=>some (some (if s=[46] then .here else .name s,r))
  |.sign s=>if s=[45]\/s=[126]\/s=[33] then(match p (a+1) r with|some (some (t,r'))=>some (some (.un s t,r'))|x=>x)
   else if s=[40] then(match l 1 (a+1) r with|some (some (t,.sign u::r'))=>if u=[41] then some (some (t,r'))else some none|some (some (t,_::_))=>some none|some (some (t,[]))=>none|x=>x)
   else some none
  |_=>some none
noncomputable def cj(l:Nat->Nat->List Tk->Rs)(a b:Nat):Nat->Tr->List Tk->Rs
 |_,_,[]=>none
 |n,t,k::r=>if a<=oC k then(match n with
  |0=>none
  |n+1=>match l (oC k+1) b r with|some (some (u,r'))=>cj l a b n (.bin (DQ k) t u) r'|x=>x)else some (some (t,k::r))
noncomputable def lK(p:Nat->List Tk->Rs)(l:Nat->Nat->List Tk->Rs)(a b:Nat)(ks:List Tk):Rs:=match p b ks with
 |some (some (t,r))=>cj l a b r.length t r
 |x=>x
noncomputable def Pz:Nat->(Nat->List Tk->Rs)×(Nat->Nat->List Tk->Rs)
 |0=>(fun _ _=>none,fun _ _ _=>none)
 |m+1=>(qV (Pz m).1 (Pz m).2,lK (Pz m).1 (Pz m).2)
theorem GR{F:Tr->List Tk->Rs}(h:(match o1 with|some (some (u,r'))=>F u r'|x=>x)=some o){P:Prop}(a:o1=some none->o=none->P)(b:∀{u r'},o1=some (some (u,r'))->F u r'=some o->P):P:=by
 cases o1 with
 |none=>exact aj h
 |some o1=>cases o1 with
  |none=>exact a rfl (Na h).symm
  |some p=>exact b (u:=p.1) (r':=p.2) rfl h
noncomputable abbrev cr(a:List PV)(i:Nat):MO:= .ins 391 [6,5] [.lst a,.int i]
section
variable{d c i:Nat}{ts rs:List PV}{v:PV}{k:Tk}{ks:List Tk}{σ:aa}{Q:QV}{X:QX}
theorem gv.hd(h:gv (ts.drop i) (k::ks)):∃v a,ts.drop i=v::a/\TR v k/\gv (ts.drop (i+1)) ks:=by
 generalize e:ts.drop i=l at h;cases h with
 |cons h hs=>exact⟨_,_,rfl,h,by rw[ca e];exact hs⟩
theorem zd(a:ts.drop i=v::rs)(b:ts.length<=1000000)(q:Q v (σ.upd c (cr ts i))):af (d+1) (.ref 318) [.iref 391 c] (σ.upd c (cr ts i)) Q X:=
 Jm (ah (aI rfl) (ah (aI rfl) (ah (aT a b) (ag q))))
theorem vX(f:ts.drop i= .obj 195 [.str e,.str w,a,p]::rs)(g:(e==ds)=false)(h:ts.length<=1000000)(q:Q (.obj 195 [.str e,.str w,a,p]) (σ.upd c (cr ts (i+1)))):af (d+1) (.ref 332) [.iref 391 c] (σ.upd c (cr ts i)) Q X:=
 Jn (ah (aI rfl) (ah (aI rfl) (ah (aT f h) (ah rfl (ak (b:=true) (by show some (!(e==ds))=_;rw[g];rfl) (ah (aI rfl) (be rfl rfl (ag q))))))))
theorem Cq{s:List Nat}(q:Q (.int (ae s)) σ):af (d+1) (.ref 560) [.str s] σ Q X:=by
 unfold ae at q;refine JD (eV (fun h=>?_) fun a1=>eV (fun h=>?_) fun a=>?_)
 .rw[M8 (.inl h)]at q;exact ag q
 .rw[M8 (.inr h)]at q;exact ag q
 rw[M5 (fun h=>h.elim a1 a)]at q;refine eV (fun h=>?_) fun a1=>eV (fun h=>?_) fun a=>eV (fun h=>?_) fun a3=>?_
 .rw[M8 (.inl h)]at q;exact ag q
 .rw[M8 (.inr (.inl h))]at q;exact ag q
 .rw[M8 (.inr (.inr h))]at q;exact ag q
 rw[M5 (fun h=>h.elim a1 fun h=>h.elim a a3)]at q;refine eV (fun h=>?_) fun a1=>eV (fun h=>?_) fun a=>eV (fun h=>?_) fun a3=>eV (fun h=>?_) fun b=>eV (fun h=>?_) fun c=>?_
 .rw[M8 (.inl h)]at q;exact ag q
 .rw[M8 (.inr (.inl h))]at q;exact ag q
 .rw[M8 (.inr (.inr (.inl h)))]at q;exact ag q
 .rw[M8 (.inr (.inr (.inr (.inl h))))]at q;exact ag q
 .rw[M8 (.inr (.inr (.inr (.inr h))))]at q;exact ag q
 rw[M5 (fun h=>h.elim a1 fun h=>h.elim a fun h=>h.elim a3 fun h=>h.elim b c)]at q;exact ag q
theorem Fq(h:TR v k)(q:Q (.int (oC k)) σ):af (d+2) (.ref 567) [v] σ Q X:=by
 cases h with
 |sign=>exact E7 (ah rfl (ak (b:=false) rfl (ah rfl (Cq (ag q)))))
 |_=>exact E7 (ah rfl (ak (b:=true) rfl (ag q)))
theorem Kz(e:ts.drop i= .obj 195 [.str b,.str w,a,p]::rs)(f:ts.length<=1000000)(q:Q (.bool (b==br&&w==s)) (σ.upd c (cr ts i))):af (d+2) (.ref 339) [.iref 391 c,.str s] (σ.upd c (cr ts i)) Q X:=
 Jo (ah (aI rfl) (ah (aI rfl) (ah (aT e f) ⟨rfl,⟨_,rfl,vT (ag q)⟩⟩)))
theorem KB(f:ts.drop i= .obj 195 [.str e,.str w,a,p]::rs)(g:ts.length<=1000000)(j:e=br->w=s->Q (.bool true) (σ.upd c (cr ts (i+1))))(k:(e==br&&w==s)=false->Q (.bool false) (σ.upd c (cr ts i))):af (d+3) (.ref 353) [.iref 391 c,.str s] (σ.upd c (cr ts i)) Q X:=
 Jq ⟨dR rfl,⟨_,rfl,Kz f g (fG (b:=e==br&&w==s) (fun h=>ah (aI rfl) (be rfl rfl (ag (j (N3 (Bool.and_eq_true_iff.mp h).1) (N3 (Bool.and_eq_true_iff.mp h).2))))) fun h=>ag (k h))⟩⟩
theorem Ft(e:ts.drop i= .obj 195 [.str b,.str w,a,p]::rs)(f:ts.length<=1000000)(q:Q p (σ.upd c (cr ts i))):af (d+1) (.ref 388) [.iref 391 c] (σ.upd c (cr ts i)) Q X:=
 Js (ah (aI rfl) (ah (aI rfl) (ah (aT e f) (ah rfl (ag q)))))
theorem Fu(f:ts.drop i= .obj 195 [.str e,.str w,a,p]::rs)(g:ts.length<=1000000)(q:Q (.bool (e==ds)) (σ.upd c (cr ts i))):af (d+1) (.ref 346) [.iref 391 c] (σ.upd c (cr ts i)) Q X:=
 Jp (ah (aI rfl) (ah (aI rfl) (ah (aT f g) (ah rfl (ak (b:=e==ds) rfl (ag q))))))
theorem TR.sg(h:TR v k){P:Prop}(f:∀{b w a p},v= .obj 195 [.str b,.str w,a,p]->(∀{s},(b==br&&w==s)=true->k= .sign s)->(∀{s},(b==br&&w==s)=false->k≠.sign s)->P):P:=by
 cases h with
 |sign=>exact f rfl (fun h=>by rw[N3 (Bool.and_eq_true_iff.mp h).2]) (fun{s} h e=>by injection e with z0;subst z0;exact df ((Nx s).symm.trans h))
 |_=>exact f rfl (fun h=>aK h) (fun _ e=>Tk.noConfusion e)
theorem Fv(g:gv (ts.drop i) (k::ks))(f:ts.length<=1000000)(j:k= .sign [41]->Q .none (σ.upd c (cr ts (i+1))))(l:k≠.sign [41]->X 0 (σ.upd c (cr ts i))):af (d+4) (.ref 367) [.iref 391 c,.str [41]] (σ.upd c (cr ts i)) Q X:=by apply bc;intro m;obtain⟨v,r,a,n,hs⟩:=g.hd;apply m;refine n.sg fun e a1 o=>?_;rw[e]at a;exact Jr ⟨dR rfl,⟨_,rfl,KB a f (fun p q=>ak (b:=true) rfl (ag (j (a1 (by rw[p,q];rfl))))) fun h=>ak (b:=false) rfl ⟨Ni rfl,⟨dR rfl,⟨_,rfl,Ft a f (tK (l (o h)))⟩⟩⟩⟩⟩
theorem KC(n:gv (ts.drop i) (k::ks))(f:ts.length<=1000000)(o:k= .fin->Q .none (σ.upd c (cr ts i)))(g:k≠.fin->X 0 (σ.upd c (cr ts i))):af (d+2) (.ref 374) [.iref 391 c] (σ.upd c (cr ts i)) Q X:=by
 apply bc;intro q;obtain⟨v,t,j,r,hs⟩:=n.hd;apply q;have l:∀{m w:List Nat}{a p:PV},v= .obj 195 [.str m,.str w,a,p]->w.length<=2000->(m==ds)=false->X 0 (σ.upd c (cr ts i))->af (d+2) (.ref 374) [.iref 391 c] (σ.upd c (cr ts i)) Q X:=fun{m w a p} e s h x=>by subst e;exact E6 ⟨dR rfl,⟨_,rfl,Fu j f (ak (b:=false) (by rw[h];rfl) ⟨dR rfl,⟨_,rfl,zd j f (ah rfl ⟨M1 (NG s _) (Ni rfl),⟨dR rfl,⟨_,rfl,Ft j f (tK x)⟩⟩⟩)⟩⟩)⟩⟩
 cases r with
 |fin=>exact E6 ⟨dR rfl,⟨_,rfl,Fu j f (ak (b:=true) rfl (ag (o rfl)))⟩⟩
 |num h=>exact l rfl h rfl (g fun e=>Tk.noConfusion e)
 |name h=>exact l rfl h rfl (g fun e=>Tk.noConfusion e)
 |sign h=>exact l rfl h rfl (g fun e=>Tk.noConfusion e)
 |other h=>exact l rfl h rfl (g fun e=>Tk.noConfusion e)
end
noncomputable def RQ(o:Option (Tr×List Tk))(c:Nat)(a:List PV)(σ:aa)(Q:QV)(X:QX):Prop:=match o with
 |none=>∀i,X 0 (σ.upd c (cr a i))
 |some (t,ks)=>∀i,gv (a.drop i) ks->Q (tv t) (σ.upd c (cr a i))
section
variable{c:Nat}{ts:List PV}{σ:aa}
structure Pc(c:Nat)(ts:List PV)(σ:aa)(m:Nat):Prop where
 p:∀{i dep ks o}{Q:QV}{X:QX},gv (ts.drop i) ks->(Pz m).1 dep ks=some o->RQ o c ts σ Q X->af (m+6) (.ref 574) [.iref 391 c,.int dep] (σ.upd c (cr ts i)) Q X
 l:∀{i Z5 dep ks o}{Q:QV}{X:QX},1<=Z5->gv (ts.drop i) ks->(Pz m).2 Z5 dep ks=some o->RQ o c ts σ Q X->af (m+6) (.ref 581) [.iref 391 c,.int Z5,.int dep] (σ.upd c (cr ts i)) Q X
theorem jI(h:1<=oC k):k= .sign (DQ k):=by cases k<;>first|rfl|exact(Qw _ h).elim
theorem KD{o1:Rs}{o:Option (Tr×List Tk)}(h:(match o1 with|some (some (t,.sign u::r'))=>if u=[41] then some (some (t,r'))else some none|some (some (t,_::_))=>some none|some (some (t,[]))=>none|x=>x)=some o){P:Prop}(c:o1=some none->o=none->P)(a:∀{t r'},o1=some (some (t,.sign [41]::r'))->o=some (t,r')->P)
  (b:∀{t k r'},o1=some (some (t,k::r'))->k≠.sign [41]->o=none->P):P:=by
 cases o1 with
 |none=>exact aj h
 |some o1=>cases o1 with
  |none=>exact c rfl (Na h).symm
  |some p=>
   obtain⟨u,ks⟩:=p;cases ks with
   |nil=>exact aj h
   |cons k r=>cases k with
    |sign v=>
     by_cases g:v=[41]
     .have i0:=ce g h;injection i0 with z0;subst z0;rw[g]at a;exact a rfl rfl
     .exact b rfl (fun e=>g (by cases e;rfl)) (Na (bU g h)).symm
    |_=>exact b rfl (fun e=>Tk.noConfusion e) (Na h).symm
theorem RQ.map{Q Q':QV}{X:QX}(f:∀v σ,Q v σ->Q' v σ)(q:RQ o c ts σ Q X):RQ o c ts σ Q' X:=by
 cases o with
 |none=>exact q
 |some p=>exact fun i h=>f _ _ (q i h)
theorem RQ.out{Q:QV}{X:QX}(q:RQ o c ts σ Q X):RQ o c ts σ (fun v a=>aZ Q v a) (ao X):=by
 cases o with
 |none=>exact fun i=>⟨_,Le.rfl,q i⟩
 |some p=>exact fun i h=>ag (q i h)
noncomputable def qW(l:List MS)(n:Nat):List MS:=match l.drop n with
 |.ite _ b _::_=>b
 |_=>[]
noncomputable abbrev pL(c a:Nat)(v:PV):ar:=[some (.iref 391 c),some (.int a),some v,none,none,none,none,none,none,none,none,none]
section
variable{m i dep:Nat}{K:QS}{Y:QX}{r:List Tk}{s w kd:List Nat}{a p:PV}{o:Option (Tr×List Tk)}{rs:List PV}
theorem GU(h:(kd==br&&w==s)=false)(e:kd=br):w≠s:=fun a=>by rw[e,a,Nx,Nx]at h;exact df h
theorem vY{f:aa}(g:kd=br->(w=[45]\/w=[126]\/w=[33])->∀{K':QS},(∀v d σ,K (some v) d σ->K' (some v) d σ)->ai (m+6) (qW kc 4) (pL c dep (.obj 195 [.str kd,.str w,a,p])) f K' Y)
  (j:kd=br->¬(w=[45]\/w=[126]\/w=[33])->w=[40]->∀{K':QS},(∀v d σ,K (some v) d σ->K' (some v) d σ)->ai (m+6) (qW kc 5) (pL c dep (.obj 195 [.str kd,.str w,a,p])) f K' Y)
  (k:(kd=br->¬(w=[45]\/w=[126]\/w=[33])/\w≠[40])->Y 0 f):ai (m+6) (kc.drop 4) (pL c dep (.obj 195 [.str kd,.str w,a,p])) f K Y:=by
 have b:∀{s},(kd==br&&w==s)=true->kd=br/\w=s:=fun h=>⟨N3 (Bool.and_eq_true_iff.mp h).1,N3 (Bool.and_eq_true_iff.mp h).2⟩
 refine⟨rfl,⟨_,rfl,vT (fG (fun h=>g (b h).1 (.inl (b h).2) (K':=uj (xk (m+6) (kc.drop 5) Y) K) fun _ _ _ z=>z) fun l=>⟨rfl,⟨_,rfl,vT (fG (fun h=>g (b h).1 (.inr (.inl (b h).2)) (K':=uj (xk (m+6) (kc.drop 5) Y) K) fun _ _ _ z=>z) fun n=>⟨rfl,⟨_,rfl,vT (fG (fun h=>g (b h).1 (.inr (.inr (b h).2)) (K':=uj (xk (m+6) (kc.drop 5) Y) K) fun _ _ _ z=>z) fun o=>?_)⟩⟩)⟩⟩)⟩⟩;have i:kd=br->¬(w=[45]\/w=[126]\/w=[33]):=fun e h=>h.elim (GU l e) fun h=>h.elim (GU n e) (GU o e);exact⟨rfl,⟨_,rfl,vT (fG (fun h=>j (b h).1 (i (b h).1) (b h).2 (K':=uj (xk (m+6) (kc.drop 6) Y) K) fun _ _ _ z=>z) fun q=>ah rfl ⟨Nr 1 _,.inl rfl,⟨_,_,rfl,Nc 1⟩,k fun e=>⟨i e,GU q e⟩⟩)⟩⟩
theorem Fw(g:ts.length<=1000000)(f:Pc c ts σ m)(k:ts.drop i= .obj 195 [.str br,.str s,a,p]::rs)(hs:gv (ts.drop (i+1)) r)(h:(match(Pz m).1 (dep+1) r with|some (some (t,r'))=>some (some (.un s t,r'))|x=>x)=some o)
  (q:RQ o c ts σ (fun v b=>K (some v) (pL c dep (.obj 195 [.str br,.str s,a,p])) b) Y):ai (m+6) (qW kc 4) (pL c dep (.obj 195 [.str br,.str s,a,p])) (σ.upd c (cr ts i)) K Y:=by
 refine⟨dR rfl,⟨_,rfl,vX k rfl g (ah rfl (GR (F:=fun t r'=>some (some (.un s t,r'))) h (fun d e=>f.p hs d ?_) fun d e=>f.p hs d ?_))⟩⟩
 .rw[e]at q;exact q
 .rw[←Na e]at q;exact fun j l=>Kn (q j l)
theorem Cr(f:ts.length<=1000000)(k:Pc c ts σ m)(w:ts.drop i= .obj 195 [.str br,.str s,a,p]::rs)(hs:gv (ts.drop (i+1)) r)
  (h:(match(Pz m).2 1 (dep+1) r with|some (some (t,.sign u::r'))=>if u=[41] then some (some (t,r'))else some none|some (some (t,_::_))=>some none|some (some (t,[]))=>none|x=>x)=some o)
  (q:RQ o c ts σ (fun v n=>∀x,K (some v) ((pL c dep (.obj 195 [.str br,.str s,a,p])).set 3 x) n) Y):ai (m+6) (qW kc 5) (pL c dep (.obj 195 [.str br,.str s,a,p])) (σ.upd c (cr ts i)) K Y:=by
 refine⟨dR rfl,⟨_,rfl,vX w rfl f (KD h (fun b e=>k.l (Nc 1) hs b ?_) (fun b e=>k.l (Nc 1) hs b ?_) fun b g e=>k.l (Nc 1) hs b ?_)⟩⟩<;>rw[e]at q
 .exact q
 .exact fun j d=>⟨dR rfl,⟨_,rfl,Fv d f (fun _=>by obtain⟨_,_,_,_,z⟩:=d.hd;exact q _ z _) fun g=>absurd rfl g⟩⟩
 .exact fun j d=>⟨dR rfl,⟨_,rfl,Fv d f (fun z=>absurd z g) fun _=>q j⟩⟩
end
theorem TR.tok(h:TR v k):∃b w a p,v= .obj 195 [.str b,.str w,a,p]:=h.sg fun e _ _=>⟨_,_,_,_,e⟩
theorem Fx(g:ts.length<=1000000)(u:Pc c ts σ m){Q:QV}{X:QX}(w:gv (ts.drop i) ks)(h:qV (Pz m).1 (Pz m).2 d ks=some o)(q:RQ o c ts σ Q X):
  af (m+7) (.ref 574) [.iref 391 c,.int d] (σ.upd c (cr ts i)) Q X:=by
 cases ks with
 |nil=>exact aj h
 |cons k r=>
  apply bc;intro l;obtain⟨v,A,j,y,hs⟩:=w.hd;apply l;refine JE ⟨dR rfl,⟨_,rfl,zd j g (fZ (a:=10) (b:=d) (fun t=>?_) fun t=>?_)⟩⟩
  .apply bc;intro l;obtain⟨_,_,_,_,e⟩:=y.tok;apply l;rw[←Na (ce t h)]at q;rw[e];exact ah rfl (tK (q _))
  .replace h:=bU (Nat.not_lt.mpr t) h;clear w;cases y with
   |num=>rw[←Na h]at q;exact ah rfl (ak (b:=true) rfl ⟨dR rfl,⟨_,rfl,vX j rfl g (ah rfl (Kk (ag (q _ hs))))⟩⟩)
   |@name s p z=>
    rw[←Na h]at q;refine ah rfl (ak (b:=false) rfl (ah rfl (ak (b:=true) rfl ⟨dR rfl,⟨_,rfl,vX j rfl g (ah rfl (eV (fun e=>?_) fun e=>ah rfl ?_))⟩⟩)))
    .rw[M8 e]at q;exact Km (ag (q _ hs))
    .rw[M5 e]at q;exact Kl (ag (q _ hs))
   |other=>rw[←Na h]at q;exact ah rfl (ak (b:=false) rfl (ah rfl (ak (b:=false) rfl (vY (fun e=>absurd e (by decide)) (fun e=>absurd e (by decide)) fun _=>⟨_,Le.rfl,q _⟩))))
   |fin=>rw[←Na h]at q;exact ah rfl (ak (b:=false) rfl (ah rfl (ak (b:=false) rfl (vY (fun e=>absurd e (by decide)) (fun e=>absurd e (by decide)) fun _=>⟨_,Le.rfl,q _⟩))))
   |@sign s p z=>
    refine ah rfl (ak (b:=false) rfl (ah rfl (ak (b:=false) rfl (vY (fun _ e _ f=>Fw g u j hs (ce e h) (q.out.map fun v _ h=>f v _ _ h)) (fun _ n e _ f=>Cr g u j hs (ce e (bU n h)) (q.out.map fun v _ h x=>f v _ _ h)) fun e=>?_))))
    .rw[←Na (bU (e rfl).2 (bU (e rfl).1 h))]at q;exact⟨_,Le.rfl,q _⟩
end
section
variable{c:Nat}{ts:List PV}{σ:aa}
noncomputable abbrev zf(c a b:Nat)(t:Tr)(lv:Nat)(x:Option PV):ar:=[some (.iref 391 c),some (.int a),some (.int b),some (tv t),some (.int lv),x,none,none,none,none]
theorem Fy(y:ts.length<=1000000)(z:Pc c ts σ m){K:QS}{Y:QX}(C:o=none->∀j,Y 0 (σ.upd c (cr ts j)))(D:gv (ts.drop j) (.sign s::r))
 (h:(match(Pz m).2 (ae s+1) b r with|some (some (u,r'))=>cj (Pz m).2 a b n (.bin s t u) r'|x=>x)=some o)
 (d:∀{A:Tr}{g:Tk}{r':List Tk}{i:Nat}{x:Option PV},gv (ts.drop i) (g::r')->cj (Pz m).2 a b n A (g::r')=some o->K none (zf c a b A (oC g) x) (σ.upd c (cr ts i))):
  lv=ae s->ai (m+6) (ax yY 2) (zf c a b t lv x) (σ.upd c (cr ts j)) K Y:=by
 intro e;subst e;apply bc;intro k;obtain⟨v,O,E,H,hs⟩:=D.hd;apply k;cases H with
 |sign P=>
  refine⟨dR rfl,⟨_,rfl,vX E rfl y (ah rfl (GR (F:=fun u r'=>cj (Pz m).2 a b n (.bin s t u) r') h (fun p e=>z.l (Nr 1 _) hs p (C e)) fun{u r'} p h=>z.l (Nr 1 _) hs p ?_))⟩⟩;cases r' with
  |nil=>cases n<;>exact aj h
  |cons g r'=>refine fun i f=>Ko ⟨dR rfl,⟨_,rfl,?_⟩⟩;apply bc;intro k;obtain⟨Q,L,q,w,M⟩:=f.hd;apply k;exact zd q y (Fq w (d f h))
theorem MQ(q:ts.length<=1000000)(u:1<=d)(v:Pc c ts σ m){K:QS}{Y:QX}(w:o=none->∀j,Y 0 (σ.upd c (cr ts j)))
 (p:∀{t ks j lv x},o=some (t,ks)->gv (ts.drop j) ks->K none (zf c d f t lv x) (σ.upd c (cr ts j))) (n:Nat):∀{t:Tr}{k:Tk}{r:List Tk}{j:Nat}{x:Option PV},
  gv (ts.drop j) (k::r)->cj (Pz m).2 d f n t (k::r)=some o->
  bD (fun i σ K'=>fT (m+6) (cw yY 2) i σ K' Y) (fun i σ K'=>ai (m+6) (ax yY 2) i σ K' Y) (n+1) (zf c d f t (oC k) x) (σ.upd c (cr ts j)) K:=by
 induction n with
 |zero=>exact fun{t k r j x} g h=>Ci (a:=d) (b:=oC k) (fun e=>aj (ce e h)) fun e=>p (Na (bU (Nat.not_le.mpr e) h)).symm g
 |succ n l=>intro t k r j x g h;refine Ci (a:=d) (b:=oC k) (fun e=>?_) fun e=>p (Na (bU (Nat.not_le.mpr e) h)).symm g;have hs:=jI (M1 u e);replace h:=ce e h;generalize DQ k=s at hs h;subst hs;exact Fy q v w g h (fun g h=>l g h) rfl
theorem FA(l:ts.length<=1000000)(f:Pc c ts σ m){Q:QV}{X:QX}(u:1<=a)(n:gv (ts.drop i) ks)(h:lK (Pz m).1 (Pz m).2 a b ks=some o)(q:RQ o c ts σ Q X):
  af (m+7) (.ref 581) [.iref 391 c,.int a,.int b] (σ.upd c (cr ts i)) Q X:=by
 have s:o=none->∀j,ao X 0 (σ.upd c (cr ts j)):=fun e j=>by rw[e]at q;exact⟨_,Le.rfl,q j⟩
 refine JF (GR (F:=fun t r=>cj (Pz m).2 a b r.length t r) (o1:=(Pz m).1 b ks) h (fun g e=>f.p n g (s e)) fun{t r} g h=>f.p n g ?_);cases r with
 |nil=>exact aj h
 |cons k r=>
  refine fun j d=>⟨dR rfl,⟨_,rfl,?_⟩⟩
  apply bc;intro w;obtain⟨v,z,x,y,hs⟩:=d.hd;apply w;exact zd x l (Fq y ⟨_,MQ l u f s (fun e d=>by rw[e]at q;exact ag (q _ d)) _ d h⟩)
theorem Cs(b:ts.length<=1000000)(m:Nat):Pc c ts σ m:=by
 induction m with
 |zero=>exact⟨fun _ h=>aj h,fun _ _ h=>aj h⟩
 |succ m d=>exact⟨fun a h q=>Fx b d a h q,fun e a h q=>FA b d e a h q⟩
end
theorem ch.mono{P:Option (List Tk)->Prop}(L:ch s P):∀{P':Option (List Tk)->Prop},(∀o,P o->(∀ks,o=some ks->ks.length<=s.length)->P' o)->ch s P':=by
 have st:∀{s:List Nat}{n:Nat}{k:Tk}{o:Option (List Tk)},dS s=false->0<n->(∀ks,o=some ks->ks.length<=(s.drop (dz s+n)).length)->∀ks,o.map (k::·)=some ks->ks.length<=s.length:=fun h hn z ks e=>by refine cn e fun ZR e1 e0=>?_;subst e0;exact M9 (z _ e1) (qU h hn)
 induction L with
 |done h p=>exact fun f=> .done h (f _ p fun ks e=>by injection e with z0;subst z0;exact NJ _)
 |err h x p=>exact fun f=> .err h x (f _ p fun ks e=>aj e)
 |loc h x hn p r ih=>exact fun f=> .loc h x hn (f _ p fun ks e=>aj e) (ih fun o po z=>f _ po (st h hn z))
 |tok h x hn r ih=>exact fun f=> .tok h x hn (ih fun o po z=>f _ po (st h hn z))
noncomputable def eW(m:Nat)(ks:List Tk):Option (Option Tr):=match(Pz m).2 1 0 (ks++[.fin])with
 |some (some (t,.fin::_))=>some (some t)
 |some (some (_,_::_))=>some none
 |some (some (_,[]))=>none
 |some none=>some none
 |none=>none
theorem FB{m:Nat}{t:List Nat}{P:Option (List Tk)->Prop}{σ:aa}{Q:QV}{X:QX}(g:t.length<=2000)(L:ch t P)(n:P none->X 0 σ)(q:∀ks,P (some ks)->ks.length<=2000->∃o,eW m ks=some o/\match o with|none=>X 0 σ|some u=>Q (tv u) σ):
  af (m+8) (.ref 595) [.str t] σ Q X:=by
 refine JH (Fm (P:=fun o=>P o/\∀ks,o=some ks->ks.length<=2000) g ?_ (fun h=>⟨_,Le.rfl,n h.1⟩) fun ks vs d i=>Kr fun D f=>?_)
 .exact L.mono fun o p z=>⟨p,fun ks e=>M1 (z ks e) g⟩
 apply bc;intro s;obtain⟨o,a,c⟩:=q ks d.1 (d.2 ks rfl);apply s;have b:vs.length<=1000000:=by rw[i.len,M3];exact M1 (NF (d.2 ks rfl) _) (Ni rfl)
 unfold eW at a;revert a;cases e:(Pz m).2 1 0 (ks++[.fin])with
 |none=>exact fun a=>aj a
 |some o1=>
  refine fun a=>JG ((Cs b m).l (Nc 1) i e ?_);clear e L;cases o1 with
  |none=>rw[←Na a]at c;exact fun j=>⟨_,Le.rfl,⟨σ,ed _ f,c⟩⟩
  |some p=>
   obtain⟨u,r⟩:=p;cases r with
   |nil=>exact aj a
   |cons k r=>
    refine fun j v=>ag ⟨dR rfl,⟨_,rfl,KC v b (fun e=>?_) fun e=>?_⟩⟩
    .rw[e]at a;rw[←Na a]at c;exact .val (ed _ f) c
    .have:o=none:=by cases k<;>first|exact(Na a).symm|exact absurd rfl e
     rw[this]at c;exact⟨σ,ed _ f,c⟩
theorem gw{b:ar->aa->QS->Prop}{K:QS}(h:List PV):∀(f:ar)(σ:aa),bt b e (h++g) f σ K=bt b e h f σ (fun o a c=>match o with|some v=>K (some v) a c|none=>bt b e g a c K):=by
 induction h with
 |nil=>exact fun f σ=>rfl
 |cons v r i=>
  intro f σ;show(∃a,oP f e v=some a/\b a σ fun o d c=>match o with|some v=>K (some v) d c|none=>bt b e (r++g) d c K)=_;simp only[i];show _=(∃a,oP f e v=some a/\b a σ fun o d c=>match o with|some v=>K (some v) d c|none=>bt b e r d c _)
  congr
noncomputable def tt:Tr->PV
 |.num n=> .tup [.str g8,.int n]
 |.name s=> .tup [.str pK,.str s]
 |.here=> .tup [.str ij]
 |.un s b=> .tup [.str Fo,.str s,tt b]
 |.bin s l r=> .tup [.str Fp,.str s,tt l,tt r]
noncomputable def KE:Tr->Nat
 |.num _=>444|.name _=>470|.here=>416|.un _ _=>515|.bin _ _ _=>541
noncomputable def sz:Tr->Nat
 |.un _ b=>sz b+1
 |.bin _ l r=>sz l+sz r+1
 |_=>1
noncomputable def L_:Tr->Nat
 |.bin _ l _=>L_ l+1
 |_=>0
noncomputable def aW:Tr->Tr
 |.bin _ l _=>aW l
 |t=>t
noncomputable def dA:Tr->List Tr
 |.bin s l r=>dA l++[.bin s l r]
 |_=>[]
section
variable{d:Nat}{σ:aa}{Q:QV}{X:QX}
theorem tL(w:af d (.ref (KE t)) [tv t] σ Q X):xj (tv t) 6 σ/\(match tv t with|.obj c _=>∃f,dg c 6=some f/\af d (.ref f) [tv t] σ Q X|.iref c _=>∃f,dg c 6=some f/\af d (.ref f) [tv t] σ Q X|_=>xi (tv t) 6 [] σ Q):=by cases t<;>exact⟨rfl,_,rfl,w⟩
theorem FC{a:Nat}{N:PV}:∀(t:Tr)(acc:List PV),σ a=none->acc.length+sz t<=2000->Q (.tup [tv (aW t),.lst ((dA t).map tv++acc.reverse)]) σ->
  bD (fun f σ K'=>fT d (cw vJ 2) f σ K' (ao X)) (fun f σ K'=>ai d (ax vJ 2) f σ K' (ao X)) (L_ t+1) [some N,some (.ref a),some (tv t)] (σ.upd a (.lst acc))
   (fun o g c=>match o with|some v=>aZ Q v c|none=>ai d (vJ.drop 3) g c (fun o _ c=>aZ Q (o.getD .none) c) (ao X)):=by
 intro t;have fin:∀{t:Tr}{acc:List PV}{V:PV},σ a=none->Q (.tup [V,.lst acc.reverse]) σ->ai d (vJ.drop 3) [some N,some (.ref a),some V] (σ.upd a (.lst acc)) (fun o _ c=>aZ Q (o.getD .none) c) (ao X):=fun h q=>
  ⟨lJ (aa.uS ..) (by decide),ci (aa.uS ..) ⟨rfl,.frz2 (aa.uS ..) (L9 h (ed _ h)) q⟩⟩
 induction t with
 |num n=>exact fun acc h e q=>ah rfl (ak (b:=false) rfl (fin (t:= .here) h q))
 |name n=>exact fun acc h e q=>ah rfl (ak (b:=false) rfl (fin (t:= .here) h q))
 |here=>exact fun acc h e q=>ah rfl (ak (b:=false) rfl (fin (t:= .here) h q))
 |un s b _=>exact fun acc h e q=>ah rfl (ak (b:=false) rfl (fin (t:= .here) h q))
 |bin s l r i _=>
  intro acc h e q;refine ah rfl (ak (b:=true) rfl ⟨lJ (aa.uS ..) (by decide),ci (aa.uS ..) ⟨M9 (M1 (Nh _ _) e) (by decide),ah rfl ?_⟩⟩);rw[aa.uU];have z:=i (acc++[tv (.bin s l r)]) h (by
   rw[M3];exact M1 (by show acc.length+1+sz l<=acc.length+(sz l+sz r+1);rw[N7,Of 1];exact NG (Ny (Nh _ _)) _) e) (by
   have q:Q (.tup [tv (aW l),.lst ((dA l++[Tr.bin s l r]).map tv++acc.reverse)]) σ:=q;rw[NA,Nd]at q;rw[List.reverse_append];exact q)
  exact z
theorem zg(b:sz t<=2000)(q:Q (.tup [tv (aW t),.lst ((dA t).map tv)]) σ):af (d+1) (.ref 553) [tv t] σ Q X:=
 JC fun a h=>⟨_,FC t [] h (by rw[N5,N1];exact b) (by rw[List.reverse_nil,Nv];exact q)⟩
end
theorem dm(t:Tr):0<sz t:=by
 induction t with
 |num _=>exact TV
 |name _=>exact TV
 |here=>exact TV
 |un _ b a=>exact Ob _
 |bin _ l r a c=>exact Ob _
theorem gy(t:Tr):sz (aW t)<=sz t:=by
 induction t with
 |num _=>exact Nc _
 |name _=>exact Nc _
 |here=>exact Nc _
 |un _ _ a=>exact Nc _
 |bin _ l r a b=>exact M1 (a) (M1 (Nh _ _) (Oc _))
section
variable{d:Nat}{σ:aa}{Q:QV}{X:QX}
theorem Ct{N I W:PV}(t:Tr)(H:∀b,sz b<sz t->∀{Q:QV}{X:QX},Q (tt b) σ->af d (.ref (KE b)) [tv b] σ Q X):∀(u:Tr)(K:QS)(a:Option PV),sz u<=sz t->(∀a,K none [some N,some I,some W,some (tt u),a,none] σ)->
  bt (fun g σ K'=>ai d (ax EU 2) g σ K' X) [4] ((dA u).map tv) [some N,some I,some W,some (tt (aW u)),a,none] σ K:=by
 intro u;induction u with
 |bin s l r h _=>
  intro K a e c;show bt _ _ ((dA l++[Tr.bin s l r]).map tv) _ _ _;rw[NA,gw];have f:sz l+sz r<sz (.bin s l r):=NR _;refine h _ _ (M1 (M1 (Nh _ _) (NQ f)) e) fun a=>⟨_,rfl,ah rfl (ah rfl (tL (H r (No (M9 (Nr _ _) f) e) (c _))))⟩
 |_=>exact fun K a _ c=>c _
theorem jJ(n:Nat):∀(t:Tr),sz t<=n->n<=2000->∀{σ:aa}{Q:QV}{X:QX},Q (tt t) σ->af (n+1) (.ref (KE t)) [tv t] σ Q X:=by
 induction n with
 |zero=>exact fun t h _ _ _ _ _=>absurd (dm t) (Nat.not_lt.mpr h)
 |succ n c=>
  intro t0;cases t0 with
  |num _=>exact fun h a σ Q X q=>Ju (ah rfl (ag q))
  |name _=>exact fun h a σ Q X q=>Jw (ah rfl (ag q))
  |here=>exact fun h a σ Q X q=>Kh (ah rfl (ag q))
  |un s b=>exact fun h a σ Q X q=>Jz (ah rfl (ah rfl (tL (c b (NI h) (Nl a) (ag q)))))
  |bin s l r=>
   exact fun h a σ Q X q=>JB (zg (M1 h a) ⟨_,_,rfl,rfl,tL (c (aW l) (NI (M1 (Ny (M1 (gy l) (Nh _ _))) h)) (Nl a)
    ⟨_,rfl,Ct (.bin s l r) (fun e d=>c e (Pf (No d h)) (Nl a)) (.bin s l r) _ _ (Nc _) fun f=>ag q⟩)⟩)
end
theorem iD{s k:List Nat}{F:Bool->Prop}(a:s=k->F false)(b:s≠k->F true):∃x,some (!(s==k))=some x/\F x:=
 fG (fun h=>b fun e=>by rw[e,Nx]at h;exact aK h) fun h=>a (N3 (by cases e:s==k;rw[e]at h;exact df h;rfl))
theorem lL{σ:aa}{X:QX}(x:X 1 σ):1<=d+1/\(99=87\/99=99)/\(∃a r',[PV.str m]= .str a::r'/\r'.length<=1)/\ao X (eq 99) σ:=
 ⟨Nr _ _,.inr rfl,⟨_,_,rfl,NJ _⟩,⟨σ,Le.rfl,x⟩⟩
structure Af where
 w:Int
 p:List Nat
 m:List Nat
noncomputable def av(a:Af):PV:= .obj 655 [.int a.w,.str a.p,.str a.m]
noncomputable def eu(w:Int)(p m:List Nat):Af:=if p=m then⟨w,[],[]⟩ else⟨w,p,m⟩
noncomputable def gz(a:Af):Af:=eu (-a.w) a.m a.p
noncomputable def dH(r:List (List Nat)×List (List Nat))(n:List Nat):List (List Nat)×List (List Nat):=if n≠[]/\n∈r.1 then(r.1.erase n,r.2)else if n≠[] then(r.1,r.2++[n])else r
noncomputable def jK(w:Int)(r:List (List Nat)×List (List Nat)):Option Af:=if 1<r.1.length\/1<r.2.length then none else some (eu w (r.1.headD []) (r.2.headD []))
noncomputable def AL(w:Int)(ps ms:List (List Nat)):Option Af:=jK w (ms.foldl dH (ps.filter (·≠[]),[]))
noncomputable def eA(a b:Af):Option Af:=AL (a.w+b.w) [a.p,b.p] [a.m,b.m]
noncomputable def aP(a:Af):Bool:=a.p==[]&&a.m==[]
noncomputable def pM(a:Af):Bool:= !(a.p==[])&&a.m==[]
theorem jL(ss:List (List Nat)):gQ (ss.map .str)=true:=by
 induction ss with
 |nil=>exact rfl
 |cons s r a=>exact a
theorem eX(ss:List (List Nat)):bm (ss.map .str)=some ss:=by
 induction ss with
 |nil=>exact rfl
 |cons s r a=>show(bm (r.map .str)).map _=_;rw[a];rfl
theorem qX(n:List Nat)(ss:List (List Nat)):((ss.map PV.str).any fun v=>fC v (.str n))=decide (n∈ss):=by
 induction ss with
 |nil=>exact rfl
 |cons s r a=>
  rw[NO,O8,a];show((s==n)||_)=_;by_cases h:n∈r
  .rw[NH h,NH (Nb _ h),To]
  .rw[NK h,Rf];by_cases e:s=n
   .subst e;rw[Nx,NH (M_ ..)]
   .rw[R0 e,NK (fun z=>by cases z with|head=>exact e rfl|tail _ z=>exact h z)]
section
variable{d:Nat}{σ:aa}{Q:QV}{X:QX}
theorem bf(h:σ a=some (.lst vs)):(PV.ref a).seen σ= .lst vs:=by show(match σ a with|some (.lst vs)=>PV.lst vs|_=> .ref a)=_;rw[h]
theorem AM{a:Nat}{ss:List (List Nat)}{n:List Nat}(h:σ a=some (.lst (ss.map .str))):kU (.str n) (.ref a) σ=some (decide (n∈ss)):=by unfold kU;rw[bf h];show(if(true&&gQ (ss.map .str))=true then some _ else none)=_;rw[jL,qX];rfl
theorem pN{a:Nat}{vs:List PV}(h:σ a=some (.lst vs)):gT (.ref a) σ=some vs.length:=by unfold gT;rw[bf h];rfl
theorem Cu{a:Nat}{ss:List (List Nat)}(h:σ a=some (.lst (ss.map .str))):fM (.ref a) (.lst []) σ=some (ss.map PV.str).isEmpty:=by
 unfold fM;rw[bf h];show(if(b_ (.lst (ss.map .str)) 60&&true)=true then some (dX (ss.map .str) [])else some (ss.map PV.str).isEmpty)=_;rw[show b_ (.lst (ss.map .str)) 60=true from(show bb (ss.map .str) 59=true from by
  have:∀ss:List (List Nat),bb (ss.map .str) 59=true:=fun ss=>by induction ss with|nil=>rfl|cons s r b=>exact b
  exact this ss)]
 cases ss<;>rfl
theorem vZ{a:Nat}{s:List Nat}{ss:List (List Nat)}(h:σ a=some (.lst ((s::ss).map .str)))(b:ss.length<=100):bk (.ref a) (.int 0) σ=some (.str s):=by unfold bk;rw[bf h];show(kY ((0:Nat):Int) _).bind _=_;rw[fY (i:=0) (n:=((s::ss).map PV.str).length) (Ob _) (by rw[M6];exact M1 (Ny b) (by decide))];rfl
theorem zh{w:Int}{p m:List Nat}(q:Q (av (eu w p m)) σ):af (d+2) (.ref 655) [.int w,.str p,.str m] σ Q X:=by
 unfold eu at q;refine aM (by decide) fun D h=>Ke (be rfl rfl (iD (fun e=>?_) fun e=>be rfl rfl (iD (fun a=>absurd a e) fun _=>be rfl rfl ?_)))
 .rw[M8 e]at q;exact be rfl rfl (iD (fun _=>be rfl rfl (g7 h q)) fun a=>absurd e a)
 .rw[M5 e]at q;exact g7 h q
theorem jM{w:Int}{p:List Nat}(q:Q (av (eu w p [])) σ):af (d+2) (.ref 655) [.int w,.str p] σ Q X:=by
 unfold eu at q;refine aM (by decide) fun D h=>Cb (be rfl rfl (iD (fun e=>?_) fun e=>be rfl rfl (iD (fun a=>absurd a e) fun _=>be rfl rfl ?_)))
 .rw[M8 e]at q;exact be rfl rfl (iD (fun _=>be rfl rfl (g7 h q)) fun a=>absurd e a)
 .rw[M5 e]at q;exact g7 h q
theorem g9(q:Q (av ⟨w,[],[]⟩) σ):af (d+2) (.ref 655) [.int w] σ Q X:=
 aM (by decide) fun D h=>Cc (be rfl rfl (ak (b:=false) rfl (be rfl rfl (ak (b:=false) rfl (be rfl rfl (g7 h q))))))
theorem Cv{a:Af}(q:Q (.tup [.int a.w,.str a.p,.str a.m]) σ):af (d+1) (.ref 617) [av a] σ Q X:=JI (ah rfl (ah rfl (ah rfl (ag q))))
theorem v_(q:Q (.bool (aP a)) σ):af (d+1) (.ref 624) [av a] σ Q X:=
 JJ (ah rfl (ak (b:=a.p==[]) rfl (Cf (fun b=>Q (.bool b) σ) q ag fun q=>ah rfl (ak (b:=a.m==[]) rfl (ag q)))))
theorem KF(q:Q (.bool (pM a)) σ):af (d+1) (.ref 631) [av a] σ Q X:=
 JK (ah rfl (ak (b:= !(a.p==[])) rfl (Cf (fun b=>Q (.bool b) σ) q ag fun q=>ah rfl (ak (b:=a.m==[]) rfl (ag q)))))
theorem Cw(q:Q (av (gz a)) σ):af (d+3) (.ref 638) [av a] σ Q X:=JL (ah rfl (ah rfl (ah rfl (zh (ag q)))))
theorem zi{P:List PV->aa->Prop}(ss:List (List Nat)):∀(acc:List (List Nat))(o v:Option PV),acc.length+ss.length<=100->P ((acc++ss.filter (·≠[])).map .str) σ->dK (fun c g K=>ja d [.cmp .NotEq (.loc 1) (.lit (.str []))] c g (fun j a=>match j with|true=>cR d (.loc 1) c a (fun v b=>K (some v) b) (fun _ _=>False)|false=>K none a) (fun _ _=>False)) [1] (ss.map .str) [o,v] (acc.map .str) σ P:=by
 induction ss with
 |nil=>intro acc o v _ p;rw[QB,Nv]at p;exact p
 |cons s r h=>
  intro acc o v i p;have f:acc.length+1+r.length<=100:=by rw[N7,Of 1];exact i
  refine⟨_,rfl,by rw[M6];exact M9 (M1 (Nh _ _) i) (by decide),iD (fun e=>?_) fun e=>?_⟩
  .rw[Pk (by simp[e])]at p;exact h acc o _ (M1 (M1 (NF (Oc _) _) f) (Nc _)) p
  .rw[N_ (by simp[e])]at p;have z:=h (acc++[s]) o (some (.str s)) (by rw[M3];exact f) (by rw[Nd];exact p);rw[NA]at z;exact z
theorem Cy{a b:Nat}{w ps ms:PV}(g:a≠b){K:QS}(ss:List (List Nat)):∀(A B:List (List Nat))(s3:Option PV),B.length+ss.length<=100->(∀s3,K none [some w,some ps,some ms,s3,some (.ref a),some (.ref b),none,none,none] ((σ.upd a (.lst ((ss.foldl dH (A,B)).1.map .str))).upd b (.lst ((ss.foldl dH (A,B)).2.map .str))))->bt (fun m σ K'=>ai d (ax y3 2) m σ K' X) [3] (ss.map .str) [some w,some ps,some ms,s3,some (.ref a),some (.ref b),none,none,none] ((σ.upd a (.lst (A.map .str))).upd b (.lst (B.map .str))) K:=by
 induction ss with
 |nil=>exact fun A B s3 _ c=>c _
 |cons s r i=>
  intro A B s3 k c;have j:((σ.upd a (.lst (A.map .str))).upd b (.lst (B.map .str))) a=some (.lst (A.map .str)):=by rw[aa.uN _ _ g,aa.uS]
  have l:((σ.upd a (.lst (A.map .str))).upd b (.lst (B.map .str))) b=some (.lst (B.map .str)):=aa.uS ..;have f:B.length+r.length+1<=100:=k;have n:dH (A,B) s=if s≠[]/\s∈A then(A.erase s,B)else if s≠[] then(A,B++[s])else(A,B):=rfl;rw[Rx,n]at c;refine⟨_,rfl,iD (fun e=>?_) fun e=>ak (AM j) ?_⟩
  .rw[M5 (fun z=>z.1 e),M5 (fun z=>z e)]at c;exact iD (fun _=>i A B _ (Nl f) c) fun z=>absurd e z
  .by_cases h:s∈A
   .rw[M8 ⟨e,h⟩]at c;rw[NH h];refine⟨lJ j (by decide),ci j ?_⟩;show dJ (bm _) _;rw[eX];refine⟨List.contains_iff_mem.mpr h,?_⟩;rw[GP (NT g)];exact i (A.erase s) B _ (Nl f) c
   .rw[M5 (fun z=>h z.2),M8 e]at c;rw[NK h];refine iD (fun z=>absurd z e) fun _=>⟨lJ l (by decide),ci l ⟨by rw[M6];exact M9 (M1 (Nh _ _) k) (by decide),?_⟩⟩
    rw[aa.uU];have z:=i A (B++[s]) (some (.str s)) (by rw[M3,P5];exact f) c;rw[NA]at z;exact z
end
theorem tY{b:Type}{o:Option b}{a:b}{K:b->Prop}(h:o=some a)(k:K a):dJ o K:=by rw[h];exact k
noncomputable def gC(a b:Int):Int:=if(decide (a<0)==decide (b<0))=false then -(Tb a.natAbs b.natAbs)else Tb a.natAbs b.natAbs
noncomputable def pO(s:List Nat)(a b:Int):Option Int:=
 if s=[42] then some (a*b)else if s=[47] then(if b=0 then none else some (gC a b))else if s=[37] then(if b=0 then none else some (a-b*gC a b))
 else if s=[124] then some (S0 a b)else if s=[38] then some (OB a b)else if s=[94] then some (QK a b)
 else if b<0\/63<b then none else if s=[60,60] then some (a*2^b.toNat)else some (a.fdiv (2^b.toNat))
noncomputable def cP(s:List Nat)(a b:Af):Option Af:=if s=[43] then eA a b else if s=[45] then eA a (gz b)else if(aP a&&aP b)=true then(pO s a.w b.w).map fun x=>⟨x,[],[]⟩ else none
noncomputable def ew(s:List Nat)(a:Af):Option Af:=if s=[45] then some (gz a)else if aP a=true then some ⟨if s=[126] then -1-a.w else if a.w=0 then 1 else 0,[],[]⟩ else none
noncomputable def AQ(o:Option Af)(σ:aa)(Q:QV)(X:QX):Prop:=match o with
 |none=>X 1 σ
 |some a=>Q (av a) σ
noncomputable def IQ(o:Option Int)(σ:aa)(Q:QV)(X:QX):Prop:=match o with
 |none=>X 1 σ
 |some a=>Q (.int a) σ
section
variable{d:Nat}{σ:aa}{Q:QV}{X:QX}
theorem IQ.out(q:IQ o σ Q X):IQ o σ (fun v a=>aZ Q v a) (ao X):=by cases o;exact⟨_,Le.rfl,q⟩;exact ag q
theorem AQ.out(q:AQ o σ Q X):AQ o σ (fun v a=>aZ Q v a) (ao X):=by cases o;exact⟨_,Le.rfl,q⟩;exact ag q
theorem jN{a:Nat}{ss:List (List Nat)}{b:aa}(h:b a=some (.lst (ss.map .str))):eJ .NotEq (.ref a) (.lst []) b=some (!(ss.map PV.str).isEmpty):=by show(fM _ _ _).map _=_;rw[Cu h];rfl
theorem qY{c:aa}(a:Le σ c)(q:Q (av (eu w p m)) σ):af (d+2) (.ref 655) [.int w,.str p,.str m] c (fun v b=>aZ Q v b) (ao X):=zh (.val a q)
theorem Cz{a b:Nat}{w:Int}{ps ms s3:PV}{f:aa}{A B:List (List Nat)}(g:f a=some (.lst (A.map .str)))(e:f b=some (.lst (B.map .str)))(c:Le σ f){s:Option PV}(q:AQ (jK w (A,B)) σ Q X):
  ai (d+2) (y3.drop 3) [some (.int w),some ps,some ms,s,some (.ref a),some (.ref b),none,none,none] f (fun o _ i=>aZ Q (o.getD .none) i) (ao X):=by
 have l:gT (.ref a) f=some A.length:=by rw[pN g,M6]
 have m:gT (.ref b) f=some B.length:=by rw[pN e,M6]
 unfold jK at q;refine tY l (fZ (a:=1) (b:=A.length) (fun h=>?_) fun k=>tY m (fZ (a:=1) (b:=B.length) (fun h=>?_) fun j=>?_))
 .rw[M8 (.inl h)]at q;exact⟨Nr _ _,.inr rfl,⟨_,_,rfl,NJ _⟩,⟨σ,c,q⟩⟩
 .rw[M8 (.inr h)]at q;exact⟨Nr _ _,.inr rfl,⟨_,_,rfl,NJ _⟩,⟨σ,c,q⟩⟩
 rw[M5 (fun h=>h.elim (Nat.not_lt.mpr k) (Nat.not_lt.mpr j))]at q;cases A with
 |nil=>
  cases B with
  |nil=>exact ak (b:=false) (jN g) (ak (b:=false) (jN e) (qY c q))
  |cons y B=>exact ak (b:=false) (jN g) (ak (b:=true) (jN e) (ah (vZ e (M1 (NI j) (by decide))) (qY c q)))
 |cons x A=>
  refine ak (b:=true) (jN g) (ah (vZ g (M1 (NI k) (by decide))) ?_);cases B with
  |nil=>exact ak (b:=false) (jN e) (qY c q)
  |cons y B=>exact ak (b:=true) (jN e) (ah (vZ e (M1 (NI j) (by decide))) (qY c q))
theorem KG{w:Int}{ps ms:List (List Nat)}(h:ps.length<=100)(i:ms.length<=100)(q:AQ (AL w ps ms) σ Q X):af (d+3) (.ref 664) [.int w,.lst (ps.map .str),.lst (ms.map .str)] σ Q X:=by
 refine JN ⟨_,rfl,zi ps [] _ _ (by rw[N5,N1];exact h) fun a j b f=>?_⟩;have e:b≠a:=fun e=>by rw[e,aa.uS]at f;exact ba f
 rw[aa.uN _ _ e]at f;have z:=Cy (d:=d+2) (X:=ao X) (w:= .int w) (ps:= .lst (ps.map .str)) (ms:= .lst (ms.map .str)) (σ:=σ) (NT e) (K:=fun o g c=>match o with|some v=>aZ Q v c|none=>ai (d+2) (y3.drop 3) g c (fun o _ c=>aZ Q (o.getD .none) c) (ao X)) ms (ps.filter (·≠[])) [] none (by rw[N5,N1];exact i) (fun s3=>Cz (s3:= .none) (by rw[aa.uN _ _ (NT e),aa.uS]) (aa.uS ..) (GQ j f) q);exact⟨_,rfl,z⟩
theorem zj(q:AQ (eA a b) σ Q X):af (d+4) (.ref 645) [av a,av b] σ Q X:=
 JM (ah rfl (ah rfl (ah rfl (ah rfl (ah rfl (ah rfl (KG (ps:=[a.p,b.p]) (ms:=[a.m,b.m]) (Ni rfl) (Ni rfl) q.out)))))))
theorem FD(c:small b)(q:IQ (if b=0 then none else some (gC a b)) σ Q X):af (d+2) (.ref 714) [.int a,.int b] σ Q X:=by
 refine JR (Ch (fun e=>?_) fun e=>?_)
 .rw[M8 e]at q;exact lL q
 rw[M5 e]at q;have nz:((b.natAbs:Nat):Int)≠0:=fun z=>e (Int.natAbs_eq_zero.mp (Pp z));have f:small (b.natAbs:Int):=by unfold small Pb at c⊢;simpa using c
 have q:Q (.int (gC a b)) σ:=q;unfold gC at q;refine ak rfl (ak rfl (fG (b:= !(decide (a<0)==decide (b<0))) (fun h=>?_) fun h=>?_))
 .rw[M8 (by cases z:(decide (a<0)==decide (b<0));rfl;rw[z]at h;exact aK h)]at q;exact⟨nz,f,ag q⟩
 .rw[M5 (by cases z:(decide (a<0)==decide (b<0));rw[z]at h;exact df h;decide)]at q;exact⟨nz,f,ag q⟩
theorem KH{s:List Nat}{a b:Int}(f:small a)(q:IQ (if b<0\/63<b then none else if s=[60,60] then some (a*2^b.toNat)else some (a.fdiv (2^b.toNat))) σ Q X):af (d+2) (.ref 721) [.str s,.int a,.int b] σ Q X:=by
 refine JS (iR (p:=b<0) (fun h=>?_) fun c=>iR (p:=(63:Int)<b) (fun h=>?_) fun e=>?_)
 .rw[M8 (.inl h)]at q;exact lL q
 .rw[M8 (.inr h)]at q;exact lL q
 rw[M5 (fun h=>h.elim c e)]at q;have h0:0<=b:=Int.not_lt.mp c;refine eV (fun h=>?_) fun h=>?_
 .rw[M8 h]at q;exact⟨h0,OY (Int.not_lt.mp e) (by decide),f,ag q⟩
 .rw[M5 h]at q;exact⟨h0,ag q⟩
theorem KI(f:small a)(c:small b)(g:small (gC a b))(q:IQ (pO s a b) σ Q X):af (d+3) (.ref 728) [.str s,.int a,.int b] σ Q X:=by
 unfold pO at q;refine JT (eV (fun h=>?_) fun h=>?_)
 .rw[M8 h]at q;exact⟨f,c,ag q⟩
 rw[M5 h]at q;refine eV (fun h=>?_) fun h=>?_
 .rw[M8 h]at q;exact FD c q.out
 rw[M5 h]at q;refine eV (fun h=>?_) fun h=>?_
 .rw[M8 h]at q;refine FD c ?_;by_cases e:b=0
  .rw[M8 e]at q⊢;exact⟨_,Le.rfl,q⟩
  .rw[M5 e]at q⊢;exact⟨c,g,ag q⟩
 rw[M5 h]at q;refine eV (fun h=>?_) fun h=>?_
 .rw[M8 h]at q;exact ag q
 rw[M5 h]at q;refine eV (fun h=>?_) fun h=>?_
 .rw[M8 h]at q;exact ag q
 rw[M5 h]at q;refine eV (fun h=>?_) fun h=>?_
 .rw[M8 h]at q;exact ag q
 rw[M5 h]at q;exact KH f q.out
theorem KJ{s:List Nat}{a b:Af}(hs:s.length<=2)(j:small a.w)(k:small b.w)(l:small (gC a.w b.w))(q:AQ (cP s a b) σ Q X):af (d+5) (.ref 735) [.str s,av a,av b] σ Q X:=by
 unfold cP at q;refine JU (eV (fun h=>?_) fun h=>?_)
 .rw[M8 h]at q;exact⟨rfl,⟨_,rfl,zj q.out⟩⟩
 rw[M5 h]at q;refine eV (fun h=>?_) fun h=>?_
 .rw[M8 h]at q;exact⟨rfl,⟨rfl,⟨_,rfl,Cw ⟨_,rfl,zj q.out⟩⟩⟩⟩
 rw[M5 h]at q;have i:(aP a&&aP b)=false->1<=d+4/\(99=87\/99=99)/\(∃m r',[PV.str ([110,111,32,110,117,109,98,101,114,32,98,101,115,105,100,101,32]++s)]= .str m::r'/\r'.length<=1)/\ao X (eq 99) σ:=fun e=>by rw[M5 (by rw[e];decide)]at q;exact lL q
 have c:([110,111,32,110,117,109,98,101,114,32,98,101,115,105,100,101,32]:List Nat).length+s.length<=aU:=M1 (NG hs _) (Ni rfl);refine⟨rfl,⟨_,rfl,v_ (fG (b:=aP a) (fun f=>⟨rfl,⟨_,rfl,v_ (fG (b:=aP b) (fun g=>?_) fun g=>⟨c,i (by rw[g,S3])⟩)⟩⟩) fun f=>⟨c,i (by rw[f];rfl)⟩)⟩⟩;rw[M8 (by rw[f,g];rfl)]at q;refine ah rfl (ah rfl (KI j k l ?_));cases e:pO s a.w b.w with
 |none=>rw[e]at q;exact⟨_,Le.rfl,q⟩
 |some x=>rw[e]at q;exact g9 (ag q)
theorem KM{s:List Nat}{a:Af}(hs:s.length<=2)(q:AQ (ew s a) σ Q X):af (d+5) (.ref 742) [.str s,av a] σ Q X:=by
 unfold ew at q;refine JV (eV (fun h=>?_) fun h=>?_)
 .rw[M8 h]at q;exact⟨rfl,⟨_,rfl,Cw (ag q)⟩⟩
 rw[M5 h]at q;refine⟨rfl,⟨_,rfl,v_ (fG (b:=aP a) (fun c=>?_) fun c=>?_)⟩⟩
 .rw[M8 c]at q;refine eV (fun h=>ah rfl ?_) fun h=>ah rfl (Ch (fun e=>?_) fun e=>?_)
  .rw[M8 h]at q;exact g9 (ag q)
  .rw[M5 h,M8 e]at q;exact g9 (ag q)
  .rw[M5 h,M5 e]at q;exact g9 (ag q)
 .rw[M5 (by rw[c];decide)]at q;exact⟨M1 (NG hs _) (Ni rfl),lL q⟩
end
noncomputable abbrev xm:=List (List Nat×Af)
noncomputable def dv(E:xm):List (List Nat×PV):=E.map fun x=>(x.1,av x.2)
noncomputable def xn(E:xm)(n:List Nat):Option Af:=(E.find? fun x=>x.1=n).map (·.2)
theorem pP(n:List Nat):∀E:xm,i9 (dv E) n=(xn E n).map av
 |[]=>rfl
 |x::E=>by
  have a:=pP n E;unfold i9 xn at a⊢;show((T9 _ ((x.1,av x.2)::dv E)).map _)=_;by_cases h:x.1=n
  .rw[Oa (by simpa using h),Oa (by simpa using h)];rfl
  .rw[N2 (by simpa using h),N2 (by simpa using h)];exact a
noncomputable def fJ(E:xm):Nat->Af->Option Af
 |n,a=>match xn E a.p with
  |some b=>(match n with|0=>none|n+1=>(eA (eu a.w [] a.m) b).bind (fJ E n))
  |none=>match xn E a.m with
   |some b=>(match n with|0=>none|n+1=>(eA (eu a.w a.p []) (gz b)).bind (fJ E n))
   |none=>some a
noncomputable def bF(E:xm)(here:List Nat):Tr->Option Af
 |.num n=>some ⟨n,[],[]⟩
 |.name s=>fJ E (E.length*(E.length+2)) (eu 0 s [])
 |.here=>if here=[] then none else some (eu 0 here [])
 |.un s b=>(bF E here b).bind (ew s)
 |.bin s l r=>(bF E here l).bind fun a=>(bF E here r).bind (cP s a)
noncomputable def nU(f:Tr->Option Af):Tr->Prop
 |.bin s l r=>nU f l/\nU f r/\s.length<=2/\∀a b,f l=some a->f r=some b->small a.w/\small b.w/\small (gC a.w b.w)
 |.un s b=>nU f b/\s.length<=2
 |_=>True
section
variable{d:Nat}{σ:aa}{Q:QV}{X:QX}{e:Nat}{E:xm}
theorem ef(h:σ e=some (.dct kvs)):fQ σ (.ref e)=some (e,kvs):=by show(match σ e with|some (.dct kvs)=>some (e,kvs)|_=>none)=_;rw[h]
theorem kJ(h:σ e=some (.dct kvs)):(PV.ref e).seen σ= .ref e:=by show(match σ e with|some (.lst vs)=>PV.lst vs|_=> .ref e)=_;rw[h]
theorem DS(h:σ e=some (.dct (dv E))):kU (.str n) (.ref e) σ=some (xn E n).isSome:=by unfold kU;rw[kJ h];show(fQ σ (.ref e)).map _=_;rw[ef h];show some (i9 (dv E) n).isSome=_;rw[pP,Option.isSome_map]
theorem KN{kvs:List (List Nat×PV)}(h:σ e=some (.dct kvs)):gT (.ref e) σ=some kvs.length:=by unfold gT;rw[kJ h];show(fQ σ (.ref e)).map _=_;rw[ef h];rfl
theorem FE(h:σ e=some (.dct (dv E)))(k:xn E n=some a):bk (.ref e) (.str n) σ=some (av a):=by unfold bk;rw[kJ h];show(fQ σ (.ref e)).bind _=_;rw[ef h];show i9 (dv E) n=_;rw[pP,k];rfl
theorem FF(q:∀a,σ a=none->Q (.obj 703 [.ref a]) (σ.upd a (.dct []))):af (d+2) (.ref 703) [] σ Q X:=
 aM (by decide) fun D h=>Cd ⟨true,rfl,⟨rfl,Q0,fun a b=>by
  have e:a≠D:=fun e=>by rw[e,aa.uS]at b;exact ba b
  rw[Fk (NT e)];rw[aa.uN _ _ e]at b;have h':(σ.upd a (.dct [])) D=none:=by rw[aa.uN _ _ (NT e)];exact h
  exact be rfl rfl (g7 h' (q a b))⟩⟩
theorem KO{n:List Nat}{v:PV}{kvs:List (List Nat×PV)}(h:σ e=some (.dct kvs))(a:kvs.length<=100)(q:Q .none (σ.upd e (.dct (rX kvs n v)))):af (d+1) (.ref 686) [.obj 703 [.ref e],.str n,v] σ Q X:=by refine JO (ah rfl ?_);show(match σ e with|some (.dct kvs)=>_|_=>False);rw[h];exact⟨M9 a (by decide),ag q⟩
theorem CA(g:σ e=some (.dct (dv E))):∀(n:Nat)(a:Af),AQ (fJ E n a) σ Q X->
  bD (fun k σ K'=>fT (d+4) (cw y4 2) k σ K' (ao X)) (fun k σ K'=>ai (d+4) (ax y4 2) k σ K' (ao X)) (n+1) [some (.obj 703 [.ref e]),some t,some (.int n),some (av a),none,none,none] σ
   (fun o l f=>match o with|some v=>aZ Q v f|none=>ai (d+4) (y4.drop 3) l f (fun o _ f=>aZ Q (o.getD .none) f) (ao X)):=by
 intro n;induction n with
 |zero=>
  intro a q;unfold fJ at q;refine ah rfl (ah rfl (ak (DS g) ?_));cases h:xn E a.p with
  |some b=>rw[h]at q;exact ak (b:=true) rfl (lL q)
  |none=>
   rw[h]at q;refine ah rfl (ah rfl (ak (DS g) ?_));cases i:xn E a.m with
   |some b=>rw[i]at q;exact ak (b:=true) rfl (lL q)
   |none=>rw[i]at q;exact ag q
 |succ n r=>
  intro a q;unfold fJ at q;have s:((n+1:Nat):Int)-1=n:=P9 (n:Int) 1;refine ah rfl (ah rfl (ak (DS g) ?_));cases h:xn E a.p with
  |some b=>
   rw[h]at q;refine ak (b:=false) rfl (ah rfl (ah rfl (ak (b:=true) (by show kU _ _ _=_;rw[DS g,h];rfl) (ah rfl (ah rfl (zh ⟨rfl,ah rfl (ah rfl (ah (FE g h) ⟨_,rfl,zj ?_⟩))⟩))))));have q:AQ ((eA (eu a.w [] a.m) b).bind (fJ E n)) σ Q X:=q;cases j:eA (eu a.w [] a.m) b with
   |none=>rw[j]at q;exact⟨_,Le.rfl,q⟩
   |some c=>rw[j]at q;have z:=r c q;rw[←s]at z;exact z
  |none=>
   rw[h]at q;refine ah rfl (ah rfl (ak (DS g) ?_));cases i:xn E a.m with
   |some b=>
    rw[i]at q;refine ak (b:=false) rfl (ah rfl (ah rfl (ak (b:=false) (by show kU _ _ _=_;rw[DS g,h];rfl) (ah rfl (ah rfl (jM ⟨rfl,ah rfl (ah rfl (ah (FE g i) ⟨rfl,⟨_,rfl,Cw ⟨_,rfl,zj ?_⟩⟩⟩))⟩))))));have q:AQ ((eA (eu a.w a.p []) (gz b)).bind (fJ E n)) σ Q X:=q;cases j:eA (eu a.w a.p []) (gz b)with
    |none=>rw[j]at q;exact⟨_,Le.rfl,q⟩
    |some c=>rw[j]at q;have z:=r c q;rw[←s]at z;exact z
   |none=>rw[i]at q;exact ag q
theorem KP(b:σ e=some (.dct (dv E)))(c:E.length<=100)(q:AQ (fJ E (E.length*(E.length+2)) a) σ Q X):af (d+5) (.ref 700) [.obj 703 [.ref e],av a] σ Q X:=by
 have f:gT (.ref e) σ=some E.length:=by rw[KN b];exact Np some (M6 ..)
 exact JQ (ah rfl (tY f (ah rfl (tY f ⟨aG (n:=7) (M9 c (by decide)) (by decide),aG (n:=7) (M9 (NF c 2) (by decide)) (by decide),⟨_,CA b _ a q⟩⟩))))
theorem KQ(a:σ e=some (.dct (dv E)))(b:E.length<=100)(q:AQ (fJ E (E.length*(E.length+2)) (eu 0 s [])) σ Q X):af (d+6) (.ref 693) [.obj 703 [.ref e],.str s] σ Q X:=
 JP ⟨rfl,jM ⟨_,rfl,KP a b q.out⟩⟩
end
section
variable{σ:aa}{e:Nat}{E:xm}{here:List Nat}
noncomputable abbrev KR(d:Nat)(σ:aa)(e:Nat)(E:xm)(here:List Nat)(t:Tr):Prop:=∀{Q:QV}{X:QX},AQ (bF E here t) σ Q X->af d (.ref 750) [tv t,.obj 703 [.ref e],.str here] σ Q X
theorem kK{f:Tr->Option Af}:∀{t:Tr},nU f t->nU f (aW t)
 |.num _,h|.name _,h|.here,h|.un _ _,h=>h
 |.bin _ l _,h=>kK (t:=l) h.1
theorem KS{d:Nat}{N I W:PV}{X:QX}(t:Tr)(H:∀j,sz j<sz t->nU (bF E here) j->KR (d+5) σ e E here j):∀(u:Tr)(a:Af)(K:QS)(h:Option PV),sz u<=sz t->nU (bF E here) u->bF E here (aW u)=some a->
  (match bF E here u with|none=>X 1 σ|some b=>∀h,K none [some N,some (.obj 703 [.ref e]),some (.str here),some I,some W,some (av b),h,none,none,none,none,none,none] σ)->
  bt (fun v σ K'=>ai (d+5) (ax tF 2) v σ K' (ao X)) [6] ((dA u).map tv) [some N,some (.obj 703 [.ref e]),some (.str here),some I,some W,some (av a),h,none,none,none,none,none,none] σ K:=by
 intro u;induction u with
 |bin s l r w _=>
  intro a K h o i g f;show bt _ _ ((dA l++[Tr.bin s l r]).map tv) _ _ _;rw[NA,gw];have p:sz l+sz r<sz (.bin s l r):=NR _;refine w a _ _ (M1 (M1 (Nh _ _) (NQ p)) o) i.1 g ?_;have y:bF E here (.bin s l r)=(bF E here l).bind fun a=>(bF E here r).bind (cP s a):=rfl;rw[y]at f;cases m:bF E here l with
  |none=>rw[m]at f;exact f
  |some b=>
   rw[m]at f;refine fun h=>⟨_,rfl,ah rfl (ah rfl (H r (No (M9 (Nr _ _) p) o) i.2.1 ?_))⟩
   cases n:bF E here r with
   |none=>rw[n]at f;exact⟨_,Le.rfl,f⟩
   |some c=>
    rw[n]at f;have f:(match cP s b c with|none=>X 1 σ|some b=>∀h,K none [some N,some (.obj 703 [.ref e]),some (.str here),some I,some W,some (av b),h,none,none,none,none,none,none] σ):=f;apply bc;intro z;obtain⟨s1,s2,s3⟩:=i.2.2.2 b c m n;apply z;refine KJ i.2.2.1 s1 s2 s3 ?_;cases q:cP s b c with
    |none=>rw[q]at f;exact⟨_,Le.rfl,f⟩
    |some x=>rw[q]at f;exact f _
 |num k=>exact fun a K h _ _ g f=>by change bF E here (.num k)=some a at g;rw[g]at f;exact f _
 |name k=>exact fun a K h _ _ g f=>by change bF E here (.name k)=some a at g;rw[g]at f;exact f _
 |here=>exact fun a K h _ _ g f=>by change bF E here .here=some a at g;rw[g]at f;exact f _
 |un k b _=>exact fun a K h _ _ g f=>by change bF E here (.un k b)=some a at g;rw[g]at f;exact f _
theorem qZ(z:σ e=some (.dct (dv E)))(A:E.length<=100){n:Nat}{t:Tr}(C:sz t<=n+1)(D:n<2000)(H:∀p,sz p<sz t->nU (bF E here) p->KR (n+8) σ e E here p)(w:nU (bF E here) t){Q:QV}{X:QX}(q:AQ (bF E here t) σ Q X):
  ai (n+8) tF (pI (tv t) (.obj 703 [.ref e]) (.str here)) σ (fun o _ m=>aZ Q (o.getD .none) m) (ao X):=by
 refine zg (M1 C D) ⟨_,_,rfl,rfl,?_⟩;have f:=kK w;have g:∀a,bF E here (aW t)=some a->ai (n+8) (tF.drop 2) [some (tv t),some (.obj 703 [.ref e]),some (.str here),some (tv (aW t)),some (.lst ((dA t).map tv)),some (av a),none,none,none,none,none,none,none] σ (fun o _ m=>aZ Q (o.getD .none) m) (ao X):=fun a F=>by
  refine⟨_,rfl,KS (d:=n+3) t H t a _ _ (Nc _) w F ?_⟩;cases h:bF E here t with
  |none=>rw[h]at q;exact q
  |some b=>rw[h]at q;exact fun K=>ag q
 have i:bF E here (aW t)=none->X 1 σ:=fun h=>by
  have:∀u:Tr,bF E here (aW u)=none->bF E here u=none:=fun u=>by
   induction u with
   |bin s l r v _=>intro h;have:bF E here l=none:=v h;show(bF E here l).bind _=none;rw[this];rfl
   |_=>exact fun h=>h
  rw[this t h]at q;exact q
 have hs:sz (aW t)<=sz t:=gy t;revert g i f hs;generalize hi:aW t=u;cases u with
 |num k=>exact fun f g i hs=>ah rfl (ak (b:=true) rfl (ah rfl (g9 (g _ rfl))))
 |name k=>
  intro f g i hs;refine ah rfl (ak (b:=false) rfl (ah rfl (ak (b:=true) rfl ⟨rfl,ah rfl ⟨_,rfl,KQ z A ?_⟩⟩)));have j:bF E here (.name k)=fJ E (E.length*(E.length+2)) (eu 0 k []):=rfl;cases h:fJ E (E.length*(E.length+2)) (eu 0 k [])with
  |none=>exact⟨_,Le.rfl,i (j.trans h)⟩
  |some b=>exact g b (j.trans h)
 |here=>intro f g i hs;have j:bF E here .here=if here=[] then none else some (eu 0 here []):=rfl;refine ah rfl (ak (b:=false) rfl (ah rfl (ak (b:=false) rfl (ah rfl (ak (b:=false) rfl (eV (fun h=>lL (i (j.trans (M8 h)))) fun h=>jM (g _ (j.trans (M5 h)))))))))
 |un s b=>
  intro f g i hs;refine ah rfl (ak (b:=false) rfl (ah rfl (ak (b:=false) rfl (ah rfl (ak (b:=true) rfl (ah rfl (ah rfl (H b (No (NR _) hs) f.1 ?_))))))));have j:bF E here (.un s b)=(bF E here b).bind (ew s):=rfl;cases h:bF E here b with
  |none=>exact⟨_,Le.rfl,i (by rw[j,h];rfl)⟩
  |some c=>
   refine KM f.2 ?_;cases y:ew s c with
   |none=>exact⟨_,Le.rfl,i (by rw[j,h];exact y)⟩
   |some x=>exact g x (by rw[j,h];exact y)
 |bin s l r=>
  intro f g i hs;have:∀u:Tr,∀s l r,aW u≠.bin s l r:=fun u=>by
   induction u with
   |bin s l r v _=>exact v
   |_=>exact fun s l r h=>Tr.noConfusion h
  exact absurd hi (this t s l r)
theorem pQ(c:σ e=some (.dct (dv E)))(d:E.length<=100):∀(n:Nat)(t:Tr),sz t<=n->n<=2000->nU (bF E here) t->KR (n+8) σ e E here t
 |0,t,h,_,_,_,_,_=>absurd (dm t) (Nat.not_lt.mpr h)
 |n+1,t,h,f,g,Q,X,q=>Kf (qZ c d h f (fun i a b=>pQ c d n i (Pf (No a h)) (Nl f) b) g q)
theorem v'(c:σ e=some (.dct (dv E)))(d:E.length<=100)(h:sz t<=n)(f:n<=2000)(g:nU (bF E []) t){Q:QV}{X:QX}(q:AQ (bF E [] t) σ Q X):af (n+8) (.ref 750) [tv t,.obj 703 [.ref e]] σ Q X:=by
 match n,h with
 |0,h=>exact absurd (dm t) (Nat.not_lt.mpr h)
 |n+1,h=>exact Ce (qZ (here:=[]) c d h f (fun i a b=>pQ c d n i (Pf (No a h)) (Nl f) b) g q)
theorem KT(f:σ e=some (.dct (dv E)))(g:E.length<=100)(h:sz t<=n)(i:n<=2000)(j:nU (bF E []) t){Q:QV}{X:QX}(q:IQ ((bF E [] t).bind fun a=>if aP a=true then some a.w else none) σ Q X):af (n+9) (.ref 757) [tv t,.obj 703 [.ref e]] σ Q X:=by
 refine JW (v' f g h i j ?_);cases d:bF E [] t with
 |none=>rw[d]at q;exact⟨_,Le.rfl,q⟩
 |some a=>
  rw[d]at q;have q:IQ (if aP a=true then some a.w else none) σ Q X:=q;refine⟨rfl,⟨_,rfl,v_ (fG (b:=aP a) (fun c=>?_) fun c=>?_)⟩⟩
  .rw[M8 c]at q;exact ah rfl (ag q)
  .rw[M5 (by rw[c];decide)]at q;exact lL q
end
noncomputable def aN:Tr->Nat
 |.bin s _ _=>ae s
 |_=>4
noncomputable def bw(b:Bool)(x:List Nat):List Nat:=if b=true then [40]++x++[41] else x
noncomputable def cQ:Tr->List Nat
 |.num n=>aE n
 |.name s=>s
 |.here=>[46]
 |.un s b=>s++bw (decide (aN b<4)) (cQ b)
 |.bin s l r=>bw (decide (aN l<ae s)) (cQ l)++[32]++s++[32]++bw (decide (aN r<ae s+1)) (cQ r)
noncomputable def iE:Tr->Prop
 |.num n=> -(2^64)<n/\n<2^64/\fa (aE n)
 |.un _ b=>iE b
 |.bin _ l r=>iE l/\iE r
 |_=>True
theorem au(s:List Nat):ae s<=3:=by unfold ae;split;decide;split;decide;split<;>decide
noncomputable abbrev my:Nat:=1000000
theorem lM{x y:List Nat}(h:(x++y).length<=my):x.length+y.length<=aU:=by rw[M3]at h;exact M1 h (by decide)
theorem bJ{x y:List Nat}(h:(x++y).length<=my):x.length<=my:=by rw[M3]at h;exact M1 (Nh _ _) h
theorem pR{x y:List Nat}(h:(x++y).length<=my):y.length<=my:=by rw[M3]at h;exact M1 (Nr _ _) h
theorem wa{b:Bool}{x:List Nat}(h:(bw b x).length<=my):x.length<=my:=by
 cases b
 .exact h
 .exact pR (bJ (x:=[40]++x) h)
section
variable{σ:aa}{Q:QV}{X:QX}
noncomputable abbrev FG(d:Nat)(σ:aa)(t:Tr):Prop:=∀{Q:QV}{X:QX},Q (.str (cQ t)) σ->af d (.ref 778) [tv t] σ Q X
theorem CB(f:k<=4)(e:(bw (decide (aN t<k)) (cQ t)).length<=my)(H:FG (d+1) σ t)(q:Q (.str (bw (decide (aN t<k)) (cQ t))) σ):af (d+2) (.ref 764) [tv t,.int k] σ Q X:=by
 have c:aN t=4->Q (.str (cQ t)) σ:=fun h=>by rw[h,NK (Nat.not_lt.mpr f)]at q;exact q
 cases t with
 |bin s l r=>
  refine vO (ah rfl (ak (b:=true) rfl (ah rfl (Cq (fZ (a:=ae s) (b:=k) (fun h=>?_) fun h=>?_)))))
  .rw[show aN (.bin s l r)=ae s from rfl,NH h]at q e;exact H ⟨lM (bJ (x:=[40]++cQ (.bin s l r)) e),lM e,ag q⟩
  .rw[show aN (.bin s l r)=ae s from rfl,NK (Nat.not_lt.mpr h)]at q;exact H (ag q)
 |num=>exact vO (ah rfl (ak (b:=false) rfl (H (ag (c rfl)))))
 |name=>exact vO (ah rfl (ak (b:=false) rfl (H (ag (c rfl)))))
 |here=>exact vO (ah rfl (ak (b:=false) rfl (H (ag (c rfl)))))
 |un=>exact vO (ah rfl (ak (b:=false) rfl (H (ag (c rfl)))))
theorem KU(h:aN t=4)(hi:aW t=t)(a:iE t)(e:(cQ t).length<=my)(H:∀c,sz c<sz t->iE c->(cQ c).length<=my->FG (d+1) σ c)(q:Q (.str (cQ t)) σ):af (d+3) (.ref 771) [tv t] σ Q X:=by
 cases t with
 |num n=>exact y8 (ah rfl (ak (b:=true) rfl (ah rfl ⟨a.1,a.2.1,a.2.2,ag q⟩)))
 |name n=>exact y8 (ah rfl (ak (b:=false) rfl (ah rfl (ak (b:=true) rfl (ah rfl (ag q))))))
 |here=>exact y8 (ah rfl (ak (b:=false) rfl (ah rfl (ak (b:=false) rfl (ah rfl (ak (b:=true) rfl (ag q)))))))
 |un s b=>exact y8 (ah rfl (ak (b:=false) rfl (ah rfl (ak (b:=false) rfl (ah rfl (ak (b:=false) rfl (ah rfl (ah rfl (CB (k:=4) (Nc 4) (pR e) (H b (NR _) a (wa (pR e))) ⟨lM e,ag q⟩)))))))))
 |bin s l r=>exact absurd (show ae s=4 from h) (NY (Ot (au s)))
theorem FH{d:Nat}{N I W:PV}(t:Tr)(H:∀i,sz i<sz t->iE i->(cQ i).length<=my->FG (d+1) σ i):∀(u:Tr)(K:QS)(e f:Option PV),sz u<=sz t->iE u->(cQ u).length<=my->
  (∀e f,K none [some N,some I,some W,some (.str (cQ u)),some (.int (aN u)),e,f,none,none,none,none] σ)->
  bt (fun o σ K'=>ai (d+2) (ax EW 3) o σ K' (ao X)) [5] ((dA u).map tv) [some N,some I,some W,some (.str (cQ (aW u))),some (.int 4),e,f,none,none,none,none] σ K:=by
 intro u;induction u with
 |bin s l r p _=>
  intro K e f j m c g;show bt _ _ ((dA l++[Tr.bin s l r]).map tv) _ _ _;rw[NA,gw];have n:sz l+sz r<sz (.bin s l r):=NR _;have c:(bw (decide (aN l<ae s)) (cQ l)++[32]++s++[32]++bw (decide (aN r<ae s+1)) (cQ r)).length<=my:=c;have g:∀e f,K none [some N,some I,some W,some (.str (bw (decide (aN l<ae s)) (cQ l)++[32]++s++[32]++bw (decide (aN r<ae s+1)) (cQ r))),some (.int (ae s)),e,f,none,none,none,none] σ:=g;refine p _ _ _ (M1 (M1 (Nh _ _) (NQ n)) j) m.1 (wa (bJ (bJ (bJ (bJ c))))) fun e f=>⟨_,rfl,ah rfl (Cq (fZ (a:=aN l) (b:=ae s) (fun h=>?_) fun h=>?_))⟩
  .rw[NH h]at c g;have b:=bJ (bJ (bJ (bJ c)));exact⟨lM (bJ (x:=[40]++cQ l) b),lM (x:=[40]++cQ l) b,lM (bJ (bJ (bJ c))),ah rfl ⟨lM (bJ (bJ c)),lM (bJ c),ah rfl (CB (k:=ae s+1) (Ny (au s)) (pR c) (H r (No (M9 (Nr _ _) n) j) m.2 (wa (pR c))) ⟨lM c,g _ _⟩)⟩⟩
  .rw[NK (Nat.not_lt.mpr h)]at c g;exact⟨lM (bJ (bJ (bJ c))),ah rfl ⟨lM (bJ (bJ c)),lM (bJ c),ah rfl (CB (k:=ae s+1) (Ny (au s)) (pR c) (H r (No (M9 (Nr _ _) n) j) m.2 (wa (pR c))) ⟨lM c,g _ _⟩)⟩⟩
 |_=>exact fun K e f _ _ _ g=>g _ _
theorem wb(t:Tr):aN (aW t)=4/\aW (aW t)=aW t/\(iE t->iE (aW t))/\((cQ t).length<=my->(cQ (aW t)).length<=my):=by
 induction t with
 |num _=>exact⟨rfl,rfl,id,id⟩
 |name _=>exact⟨rfl,rfl,id,id⟩
 |here=>exact⟨rfl,rfl,id,id⟩
 |un _ _ d=>exact⟨rfl,rfl,id,id⟩
 |bin s l r d f=>apply bc;intro g;obtain⟨a,b,c,e⟩:=d;apply g;exact⟨a,b,fun h=>c h.1,fun h=>e (wa (bJ (bJ (bJ (bJ (y:=bw (decide (aN r<ae s+1)) (cQ r)) h)))))⟩
theorem CD(n:Nat):∀(t:Tr),sz t<=n->n<=2000->iE t->(cQ t).length<=my->∀k,FG (k+(3*n+2)) σ t:=by
 induction n with
 |zero=>exact fun t h _ _ _ _ _ _ _=>absurd (dm t) (Nat.not_lt.mpr h)
 |succ n i=>
  intro t h g j l k Q X q;apply bc;intro o;obtain⟨p,r,s,u⟩:=wb t;apply o;have e:k+(3*n+3)=k+1+(3*n+2):=by rw[P5];rfl
  have m:∀{a:Tr},sz a<sz t->sz a<=n:=fun v=>Pf (No v h);exact JX (zg (M1 h g) ⟨_,_,rfl,rfl,KU (d:=k+(3*n+1)) p r (s j) (u l) (fun a b c f=>i a (m (No b (gy t))) (Nl g) c f k)
   ⟨_,rfl,FH (d:=k+(3*n+2)) t (fun a b c f=>by
    have z:FG (k+1+(3*n+2)) σ a:=i a (m b) (Nl g) c f (k+1);rw[←e]at z;exact @z) t _ _ _ (Nc _) j l fun w x=>ag q⟩⟩)
end
noncomputable def jO:Tr->List (List Nat)
 |.name s=>[s]
 |.un _ b=>jO b
 |.bin _ l r=>jO l++jO r
 |_=>[]
noncomputable def hh:Tr->Bool
 |.here=>true
 |.un _ b=>hh b
 |.bin _ l r=>hh l||hh r
 |_=>false
noncomputable def ke(S:List Tr):Nat:=(S.map sz).sum
theorem zk(S:List Tr):S.length<=ke S:=by
 induction S with
 |nil=>exact Nc _
 |cons t S a=>have e:ke (t::S)=sz t+ke S:=rfl;rw[e,Nt,Of];exact N8 (dm t) (a)
theorem bK(S:List Tr)(t:Tr):ke (S++[t])=ke S+sz t:=by unfold ke;rw[NA,List.sum_append];rfl
section
variable{σ:aa}{Q:QV}{X:QX}
theorem KW{d:Nat}{N I W:PV}(t:Tr)(H:∀f,sz f<sz t->∀{Q:QV}{X:QX},Q (.bool (hh f)) σ->af d (.ref 799) [tv f] σ Q X):∀(u:Tr)(K:QS)(s3:Option PV),sz u<=sz t->hh (aW u)=false->
  (hh u=true->∀h,K (some (.bool true)) h σ)->(hh u=false->∀s3,K none [some N,some I,some W,s3,none,none] σ)->
  bt (fun h σ K'=>ai d (ax B7 2) h σ K' X) [3] ((dA u).map tv) [some N,some I,some W,s3,none,none] σ K:=by
 intro u;induction u with
 |bin s l r m _=>
  intro K s3 i hi c a;show bt _ _ ((dA l++[Tr.bin s l r]).map tv) _ _ _;rw[NA,gw];have j:sz l+sz r<sz (.bin s l r):=NR _;have e:hh (.bin s l r)=(hh l||hh r):=rfl;rw[e]at c a;exact m _ _ (M1 (M1 (Nh _ _) (NQ j)) i) hi (fun z=>c (by rw[z];rfl)) fun z s3=>
   ⟨_,rfl,ah rfl (H r (No (M9 (Nr _ _) j) i) (fG (b:=hh r) (fun g=>c (by rw[z,g];rfl) _) fun g=>a (by rw[z,g];rfl) _))⟩
 |num k=>exact fun K s3 _ hi c a=>a hi _
 |name k=>exact fun K s3 _ hi c a=>a hi _
 |here=>exact fun K s3 _ hi c a=>a hi _
 |un k b=>exact fun K s3 _ hi c a=>a hi _
theorem FJ{t:Tr}(h:hh (aW t)=true):hh t=true:=by
 induction t with
 |bin s l r a _=>show(hh l||hh r)=true;rw[a h];rfl
 |_=>exact h
theorem FK(u:Tr){s:List Nat}{l r:Tr}:aW u≠.bin s l r:=by
 induction u with
 |bin s l r a _=>exact a
 |_=>exact fun h=>nomatch h
theorem CE(n:Nat)(m:n<=2000):∀{t:Tr}{Q:QV}{X:QX},sz t<=n->Q (.bool (hh t)) σ->af (n+1) (.ref 799) [tv t] σ Q X:=by
 induction n with
 |zero=>exact fun{t _ _} h _=>absurd (dm t) (Nat.not_lt.mpr h)
 |succ n p=>
  intro t Q X h q;have H:∀f,sz f<sz t->∀{Q:QV}{X:QX},Q (.bool (hh f)) σ->af (n+1) (.ref 799) [tv f] σ Q X:=fun f i=>p (Nl m) (Pf (No i h));have a:hh (aW t)=true->aZ Q (.bool true) σ:=fun e=>by rw[FJ e]at q;exact ag q
  refine J0 (zg (M1 h m) ⟨_,_,rfl,rfl,?_⟩);have d:=fun e=>KW (N:=tv t) (I:=tv (aW t)) (W:= .lst ((dA t).map tv)) (X:=ao X) t H t (fun o j c=>match o with|some v=>aZ Q v c|none=>ai (n+1) (B7.drop 3) j c (fun o _ c=>aZ Q (o.getD .none) c) (ao X)) none (Nc _) e (fun g u=>by rw[g]at q;exact ag q) fun g s3=>by rw[g]at q;exact ag q
  have hs:=gy t;have k:=@FK t;clear q h p;revert a d hs k;cases aW t with
  |num _=>exact fun a d _ _=>ah rfl (ak (b:=false) rfl (ah rfl (ak (b:=false) rfl ⟨_,rfl,d rfl⟩)))
  |name _=>exact fun a d _ _=>ah rfl (ak (b:=false) rfl (ah rfl (ak (b:=false) rfl ⟨_,rfl,d rfl⟩)))
  |here=>exact fun a d _ _=>ah rfl (ak (b:=true) rfl (a rfl))
  |un s b=>exact fun a d hs _=>ah rfl (ak (b:=false) rfl (ah rfl (ak (b:=true) rfl (ah rfl (H b (No (NR _) hs) (fG (b:=hh b) (fun g=>a g) fun g=>⟨_,rfl,d g⟩))))))
  |bin s l r=>exact fun _ _ _ k=>absurd rfl (k (s:=s) (l:=l) (r:=r))
theorem KX{g:Nat}{S:List Tr}{a:aa}(h:a g=some (.lst (S.map tv))):eJ .NotEq (.ref g) (.lst []) a=some (!S.isEmpty):=by
 show(fM _ _ _).map _=_;have:fM (.ref g) (.lst []) a=some S.isEmpty:=by
  unfold fM;rw[bf h];cases S with
  |nil=>rfl
  |cons t S=>cases t<;>rfl
 rw[this];rfl
theorem bS{a:Type}(S:List a):S=[]\/∃W t,S=W++[t]:=by
 rcases List.eq_nil_or_concat S with h|⟨W,t,h⟩
 .exact .inl h
 .exact .inr ⟨W,t,by rw[h,List.concat_eq_append]⟩
theorem wc{a:Nat}{ss:List (List Nat)}{n:List Nat}{b:aa}(h:b a=some (.lst (ss.map .str))):eJ .NotIn (.str n) (.ref a) b=some (!decide (n∈ss)):=by show(kU _ _ _).map _=_;rw[AM h];rfl
theorem eg{W:List Tr}{t:Tr}{x:List Nat}:x∈(W++[t]).flatMap jO↔x∈W.flatMap jO\/x∈jO t:=by rw[List.flatMap_append,SF,show [t].flatMap jO=jO t from Nv _]
abbrev Go(F:List (List Nat))(S:List Tr)(a:List (List Nat))(b:List Tr):Prop:=
 ke b<ke S/\a.Nodup/\a.length+ke b<=F.length+ke S/\∀x,(x∈a\/x∈b.flatMap jO)↔(x∈F\/x∈S.flatMap jO)
theorem lN(W:List Tr)(t:Tr):ke W<ke (W++[t]):=by rw[bK];exact Qa (dm t)
theorem lO{F:List (List Nat)}{W:List Tr}{t:Tr}(a:F.Nodup)(h:∀x,x∈jO t->x∈F):Go F (W++[t]) F W:=
 ⟨lN W t,a,NG (NQ (lN W t)) _,fun x=>by
  rw[eg];exact⟨fun z=>z.elim .inl fun z=> .inr (.inl z),fun z=>z.elim .inl fun z=>z.elim .inr fun z=> .inl (h x z)⟩⟩
theorem CF{F:List (List Nat)}{W:List Tr}{k:List Nat}(c:F.Nodup)(h:¬k∈F):Go F (W++[.name k]) (F++[k]) W:=
 ⟨lN W _,List.nodup_append.mpr ⟨c,P6 _ _,fun a d b f e=>h (by rw[←List.mem_singleton.mp f,←e];exact d)⟩,
  by rw[M3,bK,N7];exact NG (ND (Of 1 _)) _,fun x=>by
  rw[eg,SF,or_assoc,or_comm (a:=x∈[k])];rfl⟩
theorem FL{F:List (List Nat)}{W:List Tr}{s:List Nat}{b:Tr}(a:F.Nodup):Go F (W++[.un s b]) F (W++[b]):=
 ⟨by rw[bK,bK];exact NR _,a,by rw[bK,bK];exact NG (Oc _) _,fun x=>by rw[eg,eg];rfl⟩
theorem CG{F:List (List Nat)}{W:List Tr}{s:List Nat}{l r:Tr}(a:F.Nodup):Go F (W++[.bin s l r]) F (W++[l]++[r]):=
 have e:ke (W++[l]++[r])+1=ke (W++[.bin s l r]):=by rw[bK,bK,bK,N7 (ke W)];rfl
 ⟨by rw[←e];exact NR _,a,by rw[←e];exact NG (Oc _) _,fun x=>by
  rw[eg,eg,eg,show jO (.bin s l r)=jO l++jO r from rfl,SF,or_assoc]⟩
theorem zl(W:List Tr)(t:Tr):(W++[t]).map tv=W.map tv++[tv t]:=NA
theorem zm{d f g:Nat}(c:g≠f){N:PV}{s3:Option PV}{K:QS}{W:List Tr}{t:Tr}{F:List (List Nat)}(a:F.Nodup)(h:F.length+ke (W++[t])<=100)
  (k:∀{n o s3},Go F (W++[t]) o n->K none [some N,some (.ref f),some (.ref g),s3,none] ((σ.upd f (.lst (o.map .str))).upd g (.lst (n.map tv)))):
  ai d (ax vK 2) [some N,some (.ref f),some (.ref g),s3,none] ((σ.upd f (.lst (F.map .str))).upd g (.lst ((W++[t]).map tv))) K X:=by
 have i:W.length<=100:=M1 (zk W) (M1 (NQ (lN W t)) (M1 (Nr _ _) h));have j:∀F V,((σ.upd f (.lst F)).upd g V) f=some (.lst F):=fun F V=>by rw[aa.uN _ _ (NT c),aa.uS]
 have m:F.length<=100:=M1 (Nh _ _) h;clear h;refine⟨lJ (aa.uS ..) (by decide),ci (aa.uS ..) ⟨rfl,W.map tv,tv t,zl W t,?_⟩⟩;rw[aa.uU];cases t with
 |num _=>exact ah rfl (ak (b:=false) rfl (ah rfl (ak (b:=false) rfl (ah rfl (ak (b:=false) rfl (k (lO a fun _ z=>absurd z Nq)))))))
 |here=>exact ah rfl (ak (b:=false) rfl (ah rfl (ak (b:=false) rfl (ah rfl (ak (b:=false) rfl (k (lO a fun _ z=>absurd z Nq)))))))
 |name s=>
  refine ah rfl (ak (b:=true) rfl (ah rfl (ak (wc (j _ _)) ?_)));by_cases e:s∈F
  .rw[NH e];exact ah rfl (ak (b:=false) rfl (ah rfl (ak (b:=false) rfl (k (lO a fun x z=>List.mem_singleton.mp z▸e)))))
  .rw[NK e];refine⟨lJ (j _ _) (by decide),ah rfl (ci (j _ _) ⟨by rw[M6];exact M9 m (by decide),?_⟩)⟩;rw[GP c];have z:=k (s3:=some (tv (.name s))) (CF a e);rw[NA]at z;exact ah rfl (ak (b:=false) rfl (ah rfl (ak (b:=false) rfl z)))
 |un s b=>refine ah rfl (ak (b:=false) rfl (ah rfl (ak (b:=true) rfl ⟨lJ (aa.uS ..) (by decide),ah rfl (ci (aa.uS ..) ⟨by rw[M6];exact M9 i (by decide),?_⟩)⟩)));rw[aa.uU,←zl];exact ah rfl (ak (b:=false) rfl (k (FL a)))
 |bin s l r=>refine ah rfl (ak (b:=false) rfl (ah rfl (ak (b:=false) rfl (ah rfl (ak (b:=true) rfl ⟨lJ (aa.uS ..) (by decide),ah rfl (ci (aa.uS ..) ⟨by rw[M6];exact M9 i (by decide),?_⟩)⟩)))));rw[aa.uU,←zl];refine⟨lJ (aa.uS ..) (by decide),ah rfl (ci (aa.uS ..) ⟨by rw[M6,M3];exact M9 (NF i 1) (by decide),?_⟩)⟩;rw[aa.uU,←zl];exact k (CG a)
theorem CH{d f g:Nat}(k:g≠f){N:PV}{K:QS}:∀(n:Nat)(S:List Tr)(F:List (List Nat))(s3:Option PV),ke S<=n->F.Nodup->F.length+ke S<=100->
  (∀(e:List (List Nat))(s3:Option PV),e.Nodup->e.length<=F.length+ke S->(∀x,x∈e↔x∈F\/x∈S.flatMap jO)->K none [some N,some (.ref f),some (.ref g),s3,none] ((σ.upd f (.lst (e.map .str))).upd g (.lst [])))->
  bD (fun l σ K'=>fT d (cw vK 2) l σ K' X) (fun l σ K'=>ai d (ax vK 2) l σ K' X) (n+1) [some N,some (.ref f),some (.ref g),s3,none] ((σ.upd f (.lst (F.map .str))).upd g (.lst (S.map tv))) K:=by
 intro n;induction n with
 |zero=>
  intro S F s3 h i m j;rcases bS S with rfl|⟨W,t,rfl⟩
  .exact ak (b:=false) (KX (aa.uS ..)) (j F _ i (Nh _ _) fun x=>(or_iff_left Nq).symm)
  .rw[bK]at h;exact absurd (No (dm t) (M1 (Nr _ _) h)) (Rh 0)
 |succ n o=>
  intro S F s3 h i m j;rcases bS S with rfl|⟨W,t,rfl⟩
  .exact ak (b:=false) (KX (aa.uS ..)) (j F _ i (Nh _ _) fun x=>(or_iff_left Nq).symm)
  exact ak (b:=true) (by rw[KX (aa.uS ..)];cases W<;>rfl) (zm k i m fun{p q s3} G=>
   o p q s3 (Pf (No G.1 h)) G.2.1 (M1 G.2.2.1 m) fun e s3 a b c=>j e s3 a (M1 b G.2.2.1) fun x=>(c x).trans (G.2.2.2 x))
theorem KY{d:Nat}{t:Tr}(k:sz t<=63)(q:∀ss:List (List Nat),ss.Nodup->(∀x,x∈ss↔x∈jO t)->ss.Pairwise (fun a b=>¬b<a)->Q (.lst (ss.map .str)) σ):af (d+1) (.ref 792) [tv t] σ Q X:=by
 refine JZ fun f m g h=>?_;have e:g≠f:=fun e=>by rw[e,aa.uS]at h;exact ba h
 rw[aa.uN _ _ e]at h;have hs:ke [t]=sz t:=by unfold ke;exact Nat.add_zero _
 have z:=CH (d:=d) (X:=ao X) (σ:=σ) e (N:=tv t) (K:=fun o i c=>match o with|some v=>aZ Q v c|none=>ai d (vK.drop 3) i c (fun o _ c=>aZ Q (o.getD .none) c) (ao X)) _ [t] [] none (Nc _) Q0 (by rw[hs];exact M1 (NG k _) (by decide)) fun j s3 n p r=>by
  have s:((σ.upd f (.lst (j.map .str))).upd g (.lst [])) f=some (.lst (j.map .str)):=by rw[aa.uN _ _ (NT e),aa.uS]
  show dY (.ref f) _ _;unfold dY;rw[bf s];refine tY (eX j) ⟨M9 p (by rw[hs];exact Ot (M1 (ND (N1 _)) k)),fun ss l u=> .val (GQ m h) (q ss (l.nodup_iff.mpr n) (fun x=>l.mem_iff.trans ((r x).trans (by rw[show [t].flatMap jO=jO t from Nv _];exact or_iff_right Nq))) u)⟩
 exact⟨_,z⟩
noncomputable def q_(a:Af):List Nat:=
 let x:=if a.p=[] then aE a.w else if 0<a.w then a.p++[32,43,32]++aE a.w else if a.w<0 then a.p++[32,45,32]++aE (-a.w)else a.p
 if a.m=[] then x else x++[32,45,32]++a.m
theorem KZ{d:Nat}{a:Af}(i: -(2^64)<a.w)(j:a.w<2^64)(l:fa (aE a.w))(n:fa (aE (-a.w)))(c:(q_ a).length<=my)(q:Q (.str (q_ a)) σ):af (d+1) (.ref 785) [av a] σ Q X:=by
 have b:∀x:List Nat,q_ a=(if a.m=[] then x else x++[32,45,32]++a.m)->ai d (EX.drop 1) [some (av a),some (.str x),none] σ (fun o _ k=>aZ Q (o.getD .none) k) (ao X):=fun x e=>by
  rw[e]at q c;refine ah rfl (iD (fun h=>?_) fun h=>?_)
  .rw[M8 h]at q;exact ag q
  .rw[M5 h]at q c;exact⟨lM (bJ c),ah rfl ⟨lM c,ag q⟩⟩
 have f:∀x:List Nat,q_ a=(if a.m=[] then x else x++[32,45,32]++a.m)->x.length<=my:=fun x e=>by
  rw[e]at c;by_cases h:a.m=[]
  .rw[M8 h]at c;exact c
  .rw[M5 h]at c;exact bJ (bJ c)
 refine JY (ah rfl (eV (fun h=>ah rfl ⟨i,j,l,?_⟩) fun h=>ah rfl (iR (p:=0<a.w) (fun g=>?_) fun g=>ah rfl (iR (p:=a.w<0) (fun g2=>?_) fun g2=>ah rfl ?_))))
 .exact b _ (by unfold q_;rw[M8 h])
 .have e:q_ a=(if a.m=[] then a.p++[32,43,32]++aE a.w else a.p++[32,43,32]++aE a.w++[32,45,32]++a.m):=by unfold q_;rw[M5 h,M8 g]
  exact ah rfl ⟨lM (bJ (f _ e)),ah rfl ⟨i,j,l,lM (f _ e),b _ e⟩⟩
 .have e:q_ a=(if a.m=[] then a.p++[32,45,32]++aE (-a.w)else a.p++[32,45,32]++aE (-a.w)++[32,45,32]++a.m):=by unfold q_;rw[M5 h,M5 g,M8 g2]
  exact ah rfl ⟨lM (bJ (f _ e)),ah rfl ⟨Q4 j,(Q4 i),n,lM (f _ e),b _ e⟩⟩
 .exact b _ (by unfold q_;rw[M5 h,M5 g,M5 g2])
end
inductive Lt where
 |sg (s:List Nat)|num (n:Nat)|sym (s:List Nat)|here
noncomputable def lv:Lt->PV
 |.sg s=> .str s
 |.num n=> .tup [.str g8,.int n]
 |.sym s=> .tup [.str pK,.str s]
 |.here=> .tup [.str ij]
noncomputable def bj:List (List Nat):=[[97],[98],[99],[100],[101],[95,110,46,49,36]]
noncomputable def eD:List (List Nat):=[[42],[47],[37],[60,60],[62,62],[124],[38],[94],[43],[45]]
noncomputable def gO:List (List Nat):=[[45],[126],[33]]
noncomputable def bM:Lt->Prop
 |.sg s=>s∈eD\/s∈gO\/s=[40]\/s=[41]
 |.num n=>n<2^64
 |.sym s=>s∈bj
 |.here=>True
noncomputable def tM:Nat->Nat
 |0=>1
 |d+1=>2*tM d+1
noncomputable def ey(d:Nat)(r:List Lt):Prop:=r≠[]/\r.length<=tM d/\∀t∈r,bM t
theorem K_:cq 6= .tup (bj.map .str):=rfl
theorem FM:cq 7= .tup (eD.map .str):=rfl
theorem FN:cq 8= .tup (gO.map .str):=rfl
noncomputable abbrev sr(cl:PV)(n:Nat):MO:= .lst [cl,.int n]
structure eY(σ:aa)(a:Nat)(cl:PV)(is:List Int):Prop where
 ne:0<is.length
 le:is.length<=1000
 sn:∀m,cl.seen (σ.upd a m)= .lst (is.map .int)
section
variable{d a n:Nat}{σ:aa}{cl:PV}{is:List Int}{Q:QV}{X:QX}
theorem CI:bk (.ref a) (.int 0) (σ.upd a (sr cl n))=some cl:=by unfold bk;rw[bf (aa.uS ..)];rfl
theorem CJ:bk (.ref a) (.int 1) (σ.upd a (sr cl n))=some (.int n):=by unfold bk;rw[bf (aa.uS ..)];rfl
theorem cW(C:eY σ a cl is)(l:n<=1000000000)(g:0<m)(q:∀r:Nat,r<m->Q (.int r) (σ.upd a (sr cl (n+1)))):af (d+1) (.ref 816) [.ref a,.int m] (σ.upd a (sr cl n)) Q X:=by
 have o:UZ (n:Int) (is.length:Int)=((n % is.length:Nat):Int):=by rw[S_ _ (NE _)];rfl
 have b:∀m,gT cl (σ.upd a m)=some is.length:=fun m=>by unfold gT;rw[C.sn];exact Np some (M6 ..)
 have c:n % is.length<is.length:=R_ _ C.ne;have f:∀m,bk cl (.int ((n % is.length:Nat):Int)) (σ.upd a m)=some (.int is[n % is.length]):=fun m=>by unfold bk;rw[C.sn];show((kY ((n % is.length:Nat):Int) (is.map PV.int).length).bind fun j=>(is.map PV.int)[j]?)=_;rw[fY (n:=(is.map PV.int).length) (by rw[M6];exact c) (by rw[M6];exact M1 C.le (by decide))];show(is.map PV.int)[n % is.length]? =_;rw[Os,Nu c];rfl
 have nz:((is.length:Nat):Int)≠0:=fun e=>Rh 0 ((Pp e)▸C.ne);have p:small (is.length:Int):=aG (n:=10) (M9 C.le (by decide)) (by decide);refine J2 (ah CI (ah CJ ?_));show(match(σ.upd a (sr cl n)) a with|some (.lst vs)=>_|_=>False);rw[aa.uS];refine⟨by decide,NR 1,?_⟩;show Ht _ _ ((σ.upd a (sr cl n)).upd a (.lst [cl,.int (n+1)]));rw[aa.uU];refine tY (b _) ⟨nz,?_⟩;show ∃w,bk cl (.int ((n:Int).fmod (is.length:Int))) _=some w/\_;rw[o];refine ah (f _) (tY (b _) ⟨nz,p,aG (x:=11) (n:=5) (by decide) (by decide),?_,?_⟩)
 .have:Tb (n:Int) (is.length:Int)=((n / is.length:Nat):Int):=by rw[Ta _ (NE _)];rfl
  rw[this];exact aG (n:=31) (M9 (M1 (Nat.div_le_self _ _) l) (by decide)) (by decide)
 have s:((m:Nat):Int)≠0:=fun e=>Rh 0 ((Pp e)▸g);refine⟨s,?_⟩;have h:(0:Int)<(m:Int):=Int.ofNat_lt.mpr g;generalize i:(is[n % is.length]+11*Tb (n:Int) (is.length:Int)).fmod (m:Int)=x;have h0:0<=x:=by rw[←i];exact Int.fmod_nonneg_of_pos _ h
 have t:x<m:=by rw[←i];exact Int.fmod_lt_of_pos _ h
 obtain⟨k,rfl⟩:=Po h0;exact ag (q k (Int.ofNat_lt.mp t))
theorem zn{ss:List (List Nat)}{r:Nat}(h:r<ss.length)(a:ss.length<=1000):bk (.tup (ss.map .str)) (.int r) σ=some (.str ss[r]):=by show((kY (r:Int) (ss.map PV.str).length).bind fun j=>(ss.map PV.str)[j]?)=_;rw[fY (n:=(ss.map PV.str).length) (by rw[M6];exact h) (by rw[M6];exact M1 a (by decide))];show(ss.map PV.str)[r]? =_;rw[Os,Nu h];rfl
theorem La(C:eY σ a cl is)(j:n+2<=1000000000)(q:∀t i,i<=n+2->bM t->(∀s,t≠.sg s)->Q (lv t) (σ.upd a (sr cl i))):af (d+2) (.ref 823) [.ref a] (σ.upd a (sr cl n)) Q X:=by
 have c:n+1<=1000000000:=Nl j;refine J3 (cW C (Nl c) (m:=5) (by decide) fun r l=>fZ (a:=r) (b:=2) (fun h=>?_) fun h=>ec (a:=r) (b:=2) (fun h=>?_) fun h=>ec (a:=r) (b:=3) (fun h=>?_) fun h=>?_)
 .exact cW C c (m:=12) (by decide) fun k f=>ag (q (.num k) (n+2) (Nc _) (O7 f (by decide)) fun s e=>Lt.noConfusion e)
 .refine⟨by decide,by decide,aG (x:=1) (n:=1) (by decide) (by decide),?_⟩;have g:(1:Int)*2^(64:Int).toNat=((2^64:Nat):Int):=by decide
  show af (d+1) (.ref 816) [.ref a,.int ((1:Int)*2^(64:Int).toNat)] _ _ _;rw[g];exact cW C c (m:=2^64) (by decide) fun k f=>ag (q (.num k) (n+2) (Nc _) f fun s e=>Lt.noConfusion e)
 .refine cW C c (m:=6) (by decide) fun k f=>?_;show ∃w,bk (cq 6) (.int k) _=some w/\_;rw[K_];exact ah (zn (ss:=bj) f (by decide)) (ag (q (.sym bj[k]) (n+2) (Nc _) (OI _) fun s e=>Lt.noConfusion e))
 .exact ag (q .here (n+1) (Oc _) trivial fun s e=>Lt.noConfusion e)
end
noncomputable def pS:Nat->Nat
 |0=>3
 |d+1=>2*pS d+2
theorem nV:∀d,1<=tM d
 |0=>Nc _
 |d+1=>Nr _ _
theorem zo:∀{d:Nat},d<=5->tM d<=63
 |0,_|1,_|2,_|3,_|4,_|5,_=>by decide
 |d+6,h=>absurd h (by lia)
theorem zp(h:bM t):ey d [t]:=⟨NP _ _,nV d,fun x a=>by cases a with|head=>exact h|tail _ z=>cases z⟩
theorem FO(hs:s∈gO)(h:ey d r):ey (d+1) (.sg s::r):=
 ⟨NP _ _,Ny (M1 h.2.1 (TD _ (by decide))),fun x a=>by cases a with|head=>exact .inr (.inl hs)|tail _ z=>exact h.2.2 _ z⟩
theorem CK(h:ey d r):ey (d+1) (.sg [40]::r++[.sg [41]]):=
 ⟨NP _ _,by
  have b:=h.2.1;have c:=nV d;show(Lt.sg [40]::r++[Lt.sg [41]]).length<=2*tM d+1;rw[M3,Nt];show r.length+1+1<=_;lia,fun x a=>by
  rcases List.mem_append.mp a with z|z
  .cases z with|head=>exact .inr (.inr (.inl rfl))|tail _ z=>exact h.2.2 _ z
  .cases z with|head=>exact .inr (.inr (.inr rfl))|tail _ z=>cases z⟩
theorem CM(hs:s∈eD)(hl:ey d l)(hr:ey d r):ey (d+1) (l++[.sg s]++r):=
 ⟨fun e=>hl.1 (List.append_eq_nil_iff.mp (List.append_eq_nil_iff.mp e).1).1,by
  have h1:=hl.2.1;have h2:=hr.2.1;show(l++[Lt.sg s]++r).length<=2*tM d+1;rw[M3,M3];show l.length+1+_<=_;lia,fun x hx=>by
  rcases List.mem_append.mp hx with z|z
  .rcases List.mem_append.mp z with z|z
   .exact hl.2.2 _ z
   .cases z with|head=>exact .inl hs|tail _ z=>cases z
  .exact hr.2.2 _ z⟩
section
variable{a:Nat}{σ:aa}{cl:PV}{is:List Int}
noncomputable abbrev FP(k d f:Nat)(σ:aa)(a:Nat)(cl:PV):Prop:=∀{n:Nat}{Q:QV}{X:QX},n+pS d<=1000000000->(∀r b,b<=n+pS d->ey d r->Q (.lst (r.map lv)) (σ.upd a (sr cl b)))->af k (.ref f) [.ref a,.int d] (σ.upd a (sr cl n)) Q X
theorem Ma:∀d,3<=pS d
 |0=>Nc _
 |d+1=>by have:=Ma d;show 3<=2*pS d+2;lia
theorem ll{x y:List PV}{d:Nat}(h:x.length+y.length<=200):x.length+y.length<=aU:=M1 h (by decide)
theorem CN(C:eY σ a cl is):∀d k,d<=5->FP (k+(d+4)) d 837 σ a cl/\FP (k+(d+4)) d 830 σ a cl:=by
 have Z1:∀{d k n n0:Nat}{Q:QV}{X:QX},n+2<=n0+pS d->n0+pS d<=1000000000->(∀r n',n'<=n0+pS d->ey d r->Q (.lst (r.map lv)) (σ.upd a (sr cl n')))->
   af (k+2) (.ref 823) [.ref a] (σ.upd a (sr cl n)) (fun v Z6=>aZ Q (.lst [v]) Z6) (ao X):=fun h1 h2 q=>
  La C (M1 h1 h2) fun t n' hn ht _=>ag (q [t] n' (M1 hn h1) (zp ht))
 have hp:∀d:Nat,((d+1:Nat):Int)-1=d:=fun d=>P9 (d:Int) 1;have m:∀{d:Nat}{r:List Lt},d<=5->ey d r->(r.map lv).length<=63:=fun hd h=>by rw[M6];exact M1 h.2.1 (zo hd)
 intro d;induction d with
 |zero=>
  intro k _;refine⟨fun{n Q X} hn q=>?_,fun{n Q X} hn q=>?_⟩
  .have h0:n<=1000000000:=M1 (Nh _ _) hn;exact E9 (cW C h0 (m:=9) (by decide) fun r hr=>fZ (a:=r) (b:=4) (fun _=>Z1 (d:=0) (Nc _) hn q) fun _=>ak (b:=true) rfl (Z1 (d:=0) (Nc _) hn q))
  .have h0:n<=1000000000:=M1 (Nh _ _) hn;exact E8 (cW C h0 (m:=3) (by decide) fun r hr=>ec (a:=r) (b:=2) (fun _=>ak (b:=false) rfl (Z1 (d:=0) (Nc _) hn q)) fun _=>Z1 (d:=0) (Nc _) hn q)
 |succ d ih=>
  intro k hd;have Zf:d<=5:=Nl hd;obtain⟨ZT,ihp⟩:=ih k Zf;have e:pS (d+1)=2*pS d+2:=rfl;have d3:=Ma d;have par:∀{n n0:Nat}{Q:QV}{X:QX},n+pS d<=n0+pS (d+1)->n0+pS (d+1)<=1000000000->(∀r n',n'<=n0+pS (d+1)->ey (d+1) r->Q (.lst (r.map lv)) (σ.upd a (sr cl n')))->
    af (k+(d+4)) (.ref 837) [.ref a,.int (((d+1:Nat):Int)-1)] (σ.upd a (sr cl n)) (fun v Z6=>oO (.lst [.str [40]]) v Z6 fun v Z6=>oO v (.lst [.str [41]]) Z6 fun v Z6=>aZ Q v Z6) (ao X):=fun{n n0 Q X} h1 h2 q=>by
   rw[hp];refine ZT (M1 h1 h2) fun r n' hn hr=>⟨M1 (NG (m Zf hr) _) (by decide),?_,ag ?_⟩
   .show([PV.str [40]]++r.map lv).length+1<=aU;rw[M3];exact M1 (NF (NG (m Zf hr) _) _) (by decide)
   .have z:=q _ n' (M1 hn h1) (CK hr);rw[NA]at z;exact z
  refine⟨fun{n Q X} hn q=>?_,fun{n Q X} hn q=>?_⟩
  .have h0:n<=1000000000:=M1 (Nh _ _) hn;have h1:n+1<=1000000000:=M9 (Nh ..) hn;refine E9 (cW C h0 (m:=9) (by decide) fun r hr=>fZ (a:=r) (b:=4) (fun _=>Z1 (d:=d+1) (n0:=n) (by lia) hn q) fun _=>ec (a:=d+1) (b:=0) (fun z=>aK (beq_iff_eq.mpr z)) fun _=>ec (a:=r) (b:=4) (fun _=>?_) fun _=>ec (a:=r) (b:=5) (fun _=>?_) fun _=>?_)
   .refine cW C h1 (m:=3) (by decide) fun u hu=>?_;show ∃w,bk (cq 8) (.int u) _=some w/\_;rw[FN];refine ah (zn (ss:=gO) hu (by decide)) ?_;show af (k+(d+4)) (.ref 830) [.ref a,.int (((d+1:Nat):Int)-1)] _ _ _;rw[hp];exact ihp (by lia) fun r n' hn' hr=>⟨M1 (NG (m Zf hr) 1) (by decide),ag (q (.sg gO[u]::r) n' (by lia) (FO (OI _) hr))⟩
   .exact par (n0:=n) (by lia) hn q
   .show af (k+(d+4)) (.ref 837) [.ref a,.int (((d+1:Nat):Int)-1)] _ _ _;rw[hp];refine ZT (by lia) fun l n1 hn1 hl=>cW C (by lia) (m:=10) (by decide) fun u hu=>?_;show ∃w,bk (cq 7) (.int u) _=some w/\_;rw[FM];refine ah (zn (ss:=eD) hu (by decide)) ⟨M1 (NF (m Zf hl) 1) (by decide),?_⟩;show af (k+(d+4)) (.ref 837) [.ref a,.int (((d+1:Nat):Int)-1)] _ _ _;rw[hp];refine ZT (by lia) fun r n2 hn2 hr=>⟨?_,ag ?_⟩
    .show(l.map lv++[PV.str eD[u]]).length+(r.map lv).length<=aU;rw[M3];exact M1 (N8 (NF (m Zf hl) 1) (m Zf hr)) (by decide)
    .have z:=q _ n2 (by lia) (CM (OI hu) hl hr);rw[NA,NA]at z;exact z
  .have h0:n<=1000000000:=M1 (Nh _ _) hn;refine E8 (cW C h0 (m:=3) (by decide) fun r hr=>ec (a:=r) (b:=2) (fun _=>fZ (a:=0) (b:=d+1) (fun _=>?_) fun _=>Z1 (d:=d+1) (n0:=n) (by lia) hn q) fun _=>Z1 (d:=d+1) (n0:=n) (by lia) hn q);exact par (n0:=n) (by lia) hn q
end
noncomputable def eh:List Nat:=[48,49,50,51,52,53,54,55,56,57,97,98,99,100,101,102]
noncomputable def lP(c:Nat):Bool:=iB 48 57 c||iB 97 102 c
theorem Lb:∀k:Fin 16,aD (eh.getD k 0)=(k:Nat)/\lP (eh.getD k 0)=true/\(k.1≠0->eh.getD k 0≠48)/\(k.1=0->eh.getD k 0=48):=by decide
structure Dg(b n k:Nat)(w:List Nat):Prop where
 ne:w≠[]
 v:dQ b w 0=n
 c:∀c∈w,lP c=true/\aD c<b
 z:w=[48]\/w.head? ≠some 48
 l:w.length<=k
section
variable{d a n:Nat}{σ:aa}{cl:PV}{is:List Int}{Q:QV}{X:QX}
theorem CO{k:Nat}(h:k<16):bk (.str eh) (.int k) σ=some (.str [eh.getD k 0]):=by show((kY (k:Int) eh.length).bind fun j=>(eh[j]?).map fun c=>PV.str [c])=_;rw[fY (n:=eh.length) h (by decide)];show(eh[k]?).map _=_;rw[Nu (show k<eh.length from h)];show some (PV.str [eh[k]])=_;show some (PV.str [eh[k]])=some (PV.str [(eh[k]?).getD 0]);rw[Nu (show k<eh.length from h)];rfl
theorem CP{b k:Nat}{W:PV}(hb:2<=b)(hb2:b<=16)(hk:k<=100)(q:∀w,Dg b n k w->Q (.str w) σ):∀(j rest:Nat)(f:List Nat),rest<b^j->f.length+j<=k->(f=[]->1<=j)->dQ b f rest=n->(∀c∈f,lP c=true/\aD c<b)->(f=[]\/0<rest\/f=[48]\/f.head? ≠some 48)->
  bD (fun ρ σ K'=>fT d (cw lE 2) ρ σ K' (ao X)) (fun ρ σ K'=>ai d (ax lE 2) ρ σ K' (ao X)) (j+1) [some W,some (.int b),some (.str f),some (.int rest)] σ
   (fun o ZY Z6=>match o with|some v=>aZ Q v Z6|none=>ai d (lE.drop 3) ZY Z6 (fun o _ Z6=>aZ Q (o.getD .none) Z6) (ao X)):=by
 have bz:((b:Nat):Int)≠0:=fun e=>by have:=Pp e;lia
 have bs:small (b:Int):=aG (n:=5) (M9 hb2 (by decide)) (by decide);intro j;induction j with
 |zero=>
  intro rest f hr hl h0 hv hc hz;have hr:rest=0:=by simpa using hr
  subst hr;have hf:f≠[]:=fun e=>absurd (h0 e) (by decide);refine ak (b:=false) rfl (eV (fun e=>absurd e hf) fun _=>ag (q f ⟨hf,hv,hc,?_,hl⟩));rcases hz with z|z|z
  .exact absurd z hf
  .exact absurd z (by decide)
  .exact z
 |succ j ih=>
  intro rest f hr hl h0 hv hc hz;have e1:UZ (rest:Int) (b:Int)=((rest % b:Nat):Int):=by rw[S_ _ (NE _)];rfl
  have e2:Tb (rest:Int) (b:Int)=((rest / b:Nat):Int):=by rw[Ta _ (NE _)];rfl
  have hm:rest % b<b:=R_ _ (M1 (by decide) hb);have hF:=Lb ⟨rest % b,No hm hb2⟩;have body:(0<rest\/f=[])->ai d (ax lE 2) [some W,some (.int b),some (.str f),some (.int rest)] σ (fun o ZY Z6=>match o with|some v=>(match(some v:Option PV)with|some v=>aZ Q v Z6|none=>ai d (lE.drop 3) ZY Z6 (fun o _ Z6=>aZ Q (o.getD .none) Z6) (ao X))|none=>bD (fun ρ σ K'=>fT d (cw lE 2) ρ σ K' (ao X)) (fun ρ σ K'=>ai d (ax lE 2) ρ σ K' (ao X)) (j+1) ZY Z6 (fun o ZY Z6=>match o with|some v=>aZ Q v Z6|none=>ai d (lE.drop 3) ZY Z6 (fun o _ Z6=>aZ Q (o.getD .none) Z6) (ao X))) (ao X):=fun hrf=>by
   refine⟨bz,?_⟩;show ∃w,bk (.str eh) (.int (UZ (rest:Int) (b:Int))) _=some w/\_;rw[e1];refine ah (CO (No hm hb2)) ⟨M1 (show 1+f.length<=101 by lia) (by decide),bz,bs,?_⟩;have z:=ih (rest / b) (eh.getD (rest % b) 0::f) (by rw[TC,Sn]at hr;exact Nat.div_lt_of_lt_mul hr) (by rw[Nt];exact OX _ _▸hl) (fun e=>aK (beq_iff_eq.mpr e)) (by
     unfold dQ;have h1:aD (eh.getD (rest % b) 0)=((rest % b:Nat):Int):=hF.1;rw[h1,M5 (Int.not_le.mpr (Int.ofNat_lt.mpr hm))];have:((rest / b:Nat):Int)*(b:Int)+((rest % b:Nat):Int)=(rest:Int):=by have:=SW rest b;rw[←Int.natCast_mul,←Int.natCast_add,Sn,this]
     rw[this];exact hv) (fun c hc'=>by
     cases hc' with
     |head=>exact⟨hF.2.1,by have h1:aD (eh.getD (rest % b) 0)=((rest % b:Nat):Int):=hF.1;rw[h1];exact Int.ofNat_lt.mpr hm⟩
     |tail _ z=>exact hc c z) (by
     by_cases hq:0<rest / b
     .exact .inr (.inl hq)
     .right;right
      have q0:rest / b=0:=Nat.eq_zero_of_not_pos hq;have hrb:rest % b=rest:=by have:=SW rest b;rw[q0,Nat.mul_zero,N1]at this;exact this
      rcases hrf with h|h
      .right;intro e
       exact hF.2.2.1 (by show rest % b≠0;rw[hrb];exact Rv h) (Na e)
      .by_cases hr0:rest=0
       .left;rw[h];congr 1;exact hF.2.2.2 (by show rest % b=0;rw[hrb];exact hr0)
       .right;intro e
        exact hF.2.2.1 (by show rest % b≠0;rw[hrb];exact hr0) (Na e))
   rw[←e2]at z;exact z
  refine fZ (a:=0) (b:=rest) (fun h=>body (.inl h)) fun h=>eV (fun e=>body (.inr e)) fun e=>ag (q f ⟨e,?_,hc,?_,M1 (Nh ..) hl⟩)
  .have:rest=0:=Nat.le_zero.mp h;rw[this]at hv;exact hv
  .rcases hz with z|z|z
   .exact absurd z e
   .exact absurd h (Nat.not_le.mpr z)
   .exact z
theorem we(f:2<=b)(a:b<=16)(e:1<=k)(g:k<=100)(i:n<b^k)(q:∀w,Dg b n k w->Q (.str w) σ):af (d+1) (.ref 844) [.int n,.int b] σ Q X:=
 J4 ⟨_,CP f a g q k n [] i (by simp) (fun _=>e) rfl (fun c h=>absurd h Nq) (.inl rfl)⟩
end
inductive cy(n:Nat):List Nat->Prop
 |dig {c:Nat} {s:List Nat} (h0:iB 48 57 c=true) (hs:∀x∈c::s,am x=true) (hv:iC (c::s)=n) (hl:(c::s).length<=25):cy n (c::s)
 |chr {s:List Nat} (h:∀rest,CC (s++rest) n (s.length+1)) (hl:s.length<=3):cy n (39::s)
noncomputable def nW:Lt->List Nat->Prop
 |.sg s,w=>w=s
 |.sym s,w=>w=s
 |.here,w=>w=[46]
 |.num n,w=>cy n w
theorem bP{lo hi c:Nat}:iB lo hi c=true↔lo<=c/\c<=hi:=by unfold iB;rw[NV,Ox,Ox]
theorem fv{c:Nat}(h:lP c=true):am c=true:=by
 unfold lP at h;unfold am;rcases Bool.or_eq_true_iff.mp h with h|h
 .rw[h];rfl
 .rw[bP.mpr ⟨(bP.mp h).1,M1 (bP.mp h).2 (by decide)⟩];exact To _
noncomputable def up(c:Nat):Nat:=if(decide (97<=c)&&decide (c<=122))=true then c-32 else c
theorem wf{c:Nat}(h:lP c=true):aD (up c)=aD c/\am (up c)=true:=by
 unfold lP at h;rcases Bool.or_eq_true_iff.mp h with h|h
 .have e:up c=c:=M5 (fun z=>by rw[NV,Ox]at z;exact absurd (M1 z.1 (bP.mp h).2) (by decide));rw[e];exact⟨rfl,by unfold am;rw[h];rfl⟩
 .have hh:=bP.mp h;have:∀k:Fin 6,aD (up (97+k))=aD (97+k)/\am (up (97+k))=true:=by decide
  have z:=this ⟨c-97,OT hh.1 (Ot hh.2)⟩;have e:97+(c-97)=c:=R1 hh.1;rw[show((⟨c-97,OT hh.1 (Ot hh.2)⟩:Fin 6):Nat)=c-97 from rfl,e]at z;exact z
theorem zq(w:List Nat):∀(a:Int),(∀c∈w,lP c=true)->dQ b (w.map up) a=dQ b w a:=by
 induction w with
 |nil=>exact fun a _=>rfl
 |cons c r d=>intro a h;show(if b<=aD (up c)then -1 else dQ b (r.map up) _)=if b<=aD c then -1 else dQ b r _;rw[(wf (h c (M_ ..))).1,d _ fun x e=>h x (Nb _ e)]
theorem fw(h:w≠[]):fH b w=dQ b w 0:=M5 h
theorem nY:iC (c::e::r)=if c=48 then(if e=120\/e=88 then fH 16 r else if e=98\/e=66 then fH 2 r else fH 8 (e::r))else fH 10 (c::e::r):=rfl
section
variable{d a n:Nat}{σ:aa}{cl:PV}{is:List Int}{Q:QV}{X:QX}
theorem pT{b n k e:Nat}{w c:List Nat}(d:k<=23)(D:Dg b n k w)(f:am e=true)(g:c.length=w.length)(hs:∀x∈c,am x=true)(h:iC (48::e::c)=n):cy n (48::e::c):=
 .dig rfl (fun x a=>by
  cases a with
  |head=>rfl
  |tail _ a=>cases a with
   |head=>exact f
   |tail _ a=>exact hs x a) h (by rw[Nt,Nt,g];exact Ny (Ny (M1 D.l d)))
theorem MT(D:Dg 8 n 22 w):cy n (48::w):=by
 match w,D with
 |[],D=>exact absurd rfl D.ne
 |c::r,D=>have d:=D.c c (M_ ..);have b:∀x:Nat,¬aD x<8->c≠x:=fun x a e=>a (e▸d.2);refine .dig rfl (fun x a=>by cases a with|head=>rfl|tail _ a=>exact fv (D.c x a).1) ?_ (Ny (M1 D.l (by decide)));rw[nY,M8 rfl,M5 (fun h=>h.elim (b 120 (by decide)) (b 88 (by decide))),M5 (fun h=>h.elim (b 98 (by decide)) (b 66 (by decide))),fw (NP _ _)];exact D.v
theorem FQ{n:Nat}{w:List Nat}(D:Dg 10 n 20 w):cy n w:=by
 match w,D with
 |[],D=>exact absurd rfl D.ne
 |c::r,D=>
  have a:=D.c c (M_ ..);have h0:iB 48 57 c=true:=by
   rcases Bool.or_eq_true_iff.mp a.1 with h|h
   .exact h
   .have:∀k:Fin 6,¬aD (97+k)<10:=by decide
    have hh:=bP.mp h;have z:=this ⟨c-97,OT hh.1 (Ot hh.2)⟩;rw[show 97+((⟨c-97,OT hh.1 (Ot hh.2)⟩:Fin 6):Nat)=c from by show 97+(c-97)=c;exact R1 hh.1]at z;exact absurd a.2 z
  refine .dig h0 (fun x b=>fv (D.c x b).1) ?_ (M1 D.l (by decide))
  match r,D with
  |[],D=>exact(fw (NP _ _)).trans D.v
  |e::r,D=>
   rw[nY,M5 (fun h=>by
    rcases D.z with z|z
    .cases z
    .exact z (by rw[h];rfl)),fw (NP _ _)]
   exact D.v
theorem Lc{t:Lt}(C:eY σ a cl is)(hn:n+1<=1000000000)(ht:bM t)(q:∀w n',n'<=n+1->nW t w->Q (.str w) (σ.upd a (sr cl n'))):af (d+2) (.ref 851) [.ref a,lv t] (σ.upd a (sr cl n)) Q X:=by
 cases t with
 |sg s=>exact y9 (ak (b:=true) rfl (ag (q s n (Oc _) rfl)))
 |sym s=>exact y9 (ak (b:=false) rfl (ah rfl (ak (b:=true) rfl (ah rfl (ag (q s n (Oc _) rfl))))))
 |here=>exact y9 (ak (b:=false) rfl (ah rfl (ak (b:=false) rfl (ah rfl (ak (b:=true) rfl (ag (q [46] n (Oc _) rfl)))))))
 |num m=>
  have hm:m<2^64:=ht;have len:∀{k x:Nat}{w:List Nat},k<=30->w.length<=k->x<=10->x+w.length<=aU:=fun h1 h2 h3=>M1 (N8 h3 (M1 h2 h1)) (by decide);refine y9 (ak (b:=false) rfl (ah rfl (ak (b:=false) rfl (ah rfl (ak (b:=false) rfl (ah rfl (cW C (Nl hn) (m:=6) (by decide) fun r hr=>ec (a:=r) (b:=1) (fun _=>?_) fun _=>ec (a:=r) (b:=2) (fun _=>?_) fun _=>?_)))))))
  .exact we (b:=16) (k:=16) (by decide) (by decide) (by decide) (by decide) hm fun w D=>⟨len (by decide) D.l (by decide),ag (q (48::120::w) (n+1) (Nc _) (pT (by decide) D rfl rfl (fun x hx=>fv (D.c x hx).1) (by
    rw[nY,M8 rfl,M8 (.inl rfl),fw D.ne];exact D.v)))⟩
  .refine we (b:=16) (k:=16) (by decide) (by decide) (by decide) (by decide) hm fun w D=>⟨rfl,rfl,rfl,fun c hc=>?_,?_⟩
   .rcases Bool.or_eq_true_iff.mp (D.c c hc).1 with h|h
    .exact M9 (bP.mp h).2 (by decide)
    .exact M9 (bP.mp h).2 (by decide)
   .have hl:(w.map up).length=w.length:=M6 ..;refine⟨len (k:=16) (w:=w.map up) (by decide) (by rw[hl];exact D.l) (by decide),ag (q (48::88::w.map up) (n+1) (Nc _) (pT (by decide) D rfl hl (fun x hx=>?_) ?_))⟩
    .refine i8 hx fun y hy e0=>?_;subst e0;exact(wf (D.c y hy).1).2
    .rw[nY,M8 rfl,M8 (.inr rfl),fw (fun e=>D.ne (List.map_eq_nil_iff.mp e)),zq w 0 fun c hc=>(D.c c hc).1];exact D.v
  have rest:ai (d+1) (B8.drop 8) [some (.ref a),some (lv (.num m)),some (.int m),some (.int r),none,none,none,none,none,none] (σ.upd a (sr cl (n+1))) (fun o _ Z6=>aZ Q (o.getD .none) Z6) (ao X):=by
   have dec:ai (d+1) (B8.drop 10) [some (.ref a),some (lv (.num m)),some (.int m),some (.int r),none,none,none,none,none,none] (σ.upd a (sr cl (n+1))) (fun o _ Z6=>aZ Q (o.getD .none) Z6) (ao X):=
    we (b:=10) (k:=20) (by decide) (by decide) (by decide) (by decide) (O7 hm (by decide)) fun w D=>ag (q w (n+1) (Nc _) (FQ D))
   refine ec (a:=r) (b:=4) (fun _=>?_) fun _=>ec (a:=r) (b:=5) (fun _=>GO (lo:=32) (hi:=126) (fun h=>?_) fun _=>dec) fun _=>dec
   .exact we (b:=8) (k:=22) (by decide) (by decide) (by decide) (by decide) (O7 hm (by decide)) fun w D=>⟨len (by decide) D.l (by decide),ag (q (48::w) (n+1) (Nc _) (MT D))⟩
   .have hh:=bP.mp h;have i1:(0:Int)<=(m:Int):=NE _;have i2:(m:Int)<55296:=Int.ofNat_lt.mpr (M9 hh.2 (by decide));refine fG (b:=((34:Int)==m)||(((39:Int)==m)||(((92:Int)==m)||false))) (fun g=>?_) fun g=>?_
    .have hm3:m=34\/m=39\/m=92:=by
      rcases Bool.or_eq_true_iff.mp g with g|g
      .exact .inl (Pp (N3 g)).symm
      .rcases Bool.or_eq_true_iff.mp g with g|g
       .exact .inr (.inl (Pp (N3 g)).symm)
       .rw[Rf]at g;exact .inr (.inr (Pp (N3 g)).symm)
     exact⟨Ni rfl,i1,i2,Ni rfl,Ni rfl,ag (q [39,92,m,39] (n+1) (Nc _) (.chr (s:=[92,m,39]) (fun rest=> .esc hm3) (Ni rfl)))⟩
    .have hm3:m≠92:=fun e=>by subst e;exact df g
     exact⟨Ni rfl,i1,i2,Ni rfl,Ni rfl,ag (q [39,m,39] (n+1) (Nc _) (.chr (s:=[m,39]) (fun rest=> .raw ⟨hh.1,hh.2,hm3⟩) (Ni rfl)))⟩
  refine ec (a:=r) (b:=3) (fun _=>fZ (a:=m) (b:=4096) (fun h=>?_) fun _=>rest) fun _=>rest;exact we (b:=2) (k:=12) (by decide) (by decide) (by decide) (by decide) h fun w D=>⟨len (by decide) D.l (by decide),ag (q (48::98::w) (n+1) (Nc _) (pT (by decide) D rfl rfl (fun x hx=>fv (D.c x hx).1) (by
    rw[nY,M8 rfl,M5 (by decide),M8 (.inl rfl),fw D.ne];exact D.v)))⟩
end
noncomputable def bx:Lt->Bool
 |.sg _=>false
 |_=>true
noncomputable def cK:Lt->Bool
 |.sg s=>s==[37]
 |_=>false
noncomputable def wg(p:Option Lt)(t:Lt)(g:Nat):Prop:=g=0->∀x,p=some x->(bx t&&bx x)=false/\cK x=false
inductive Sp:Option Lt->List Lt->List Nat->Prop
 |nil {p:Option Lt}:Sp p [] []
 |cons {p:Option Lt} {t:Lt} {r:List Lt} {g:Nat} {w x:List Nat} (hw:nW t w) (hg:wg p t g) (h:Sp (some t) r x):Sp p (t::r) (Nz g 32++w++x)
theorem zr{s:List Nat}(h:s∈eD\/s∈gO\/s=[40]\/s=[41]):s.length<=2:=by
 have a:∀s∈eD,s.length<=2:=by decide
 have b:∀s∈gO,s.length<=2:=by decide
 rcases h with h|h|h|h
 .exact a s h
 .exact b s h
 .rw[h];decide
 .rw[h];decide
theorem nZ{t:Lt}{w:List Nat}(ht:bM t)(hw:nW t w):w.length<=25:=by
 cases t with
 |sg s=>have hw:w=s:=hw;rw[hw];exact M1 (zr ht) (by decide)
 |sym s=>
  have hw:w=s:=hw;have h1:∀s∈bj,s.length<=25:=by decide
  rw[hw];exact h1 s ht
 |here=>have hw:w=[46]:=hw;rw[hw];decide
 |num n=>
  have hw:cy n w:=hw;cases hw with
  |dig _ _ _ hl=>exact hl
  |chr _ hl=>exact M1 (Ny hl) (by decide)
theorem lQ{n:Nat}(h:n<=10000):sd (.int n)=some ((OG n).map fun(i:Nat)=>PV.int i):=by show(if -(2^62)<=(n:Int)/\(n:Int)<=1048576 then some ((OG (n:Int).toNat).map fun(i:Nat)=>PV.int i)else none)=_;rw[M8 ⟨OY (by decide) (NE n),Int.ofNat_le.mpr (M1 h (by decide))⟩];rfl
section
variable{d a:Nat}{σ:aa}{cl:PV}{is:List Int}{Q:QV}{X:QX}
theorem Mb(t:Lt):(∃s,lv t= .str s/\bx t=false)\/∃vs,lv t= .tup vs/\bx t=true:=by
 cases t
 .exact .inl ⟨_,rfl,rfl⟩
 all_goals exact .inr ⟨_,rfl,rfl⟩
theorem FS{a:aa}:fM (lv t) (.str [37]) a=some (cK t):=by cases t<;>rfl
theorem rf{bu a:List Lt}{t:Lt}:((bu++t::a).map lv).drop bu.length=lv t::a.map lv:=by rw[←R2,PE];rfl
noncomputable abbrev wh(d:Nat)(Q:QV)(X:QX):QS:=fun o b a=>match o with|some v=>aZ Q v a|none=>ai d (pH.drop 2) b a (fun o _ a=>aZ Q (o.getD .none) a) (ao X)
theorem CQ(C:eY σ a cl is){row:List Lt}(a1:∀t∈row,bM t)(L:row.length<=60){n0:Nat}(b8:n0+2*row.length<=1000000000)
  (q:∀x M,M<=n0+2*row.length->Sp none row x->x.length<=27*row.length->Q (.str x) (σ.upd a (sr cl M))):
  ∀(f bu:List Lt)(x:List Nat)(n:Nat)(s3 s4 F:Option PV),row=bu++f->n<=n0+2*bu.length->x.length<=27*bu.length->(∀rest y,Sp bu.getLast? rest y->Sp none (bu++rest) (x++y))->
  bt (fun O σ K'=>ai (d+2) (ax pH 1) O σ K' (ao X)) [3] ((Q8 bu.length f.length).map fun(i:Nat)=>PV.int i) [some (.ref a),some (.lst (row.map lv)),some (.str x),s3,s4,F,none,none,none,none,none,none] (σ.upd a (sr cl n)) (wh (d+2) Q X):=by
 intro f;induction f with
 |nil=>intro bu x n s3 s4 F c hn Y hS;rw[Nv]at c;rw[←c]at hn Y;have z:=hS [] [] .nil;rw[Nv,Nv,←c]at z;exact ag (q x n hn z Y)
 |cons t f ih=>
  intro bu x n s3 s4 F c hn Y hS;have c0:bu.length+1+f.length=row.length:=by rw[c,M3,Nt];exact P5 ..
  have P:n+2<=1000000000:=by lia
  have u:bM t:=a1 t (by rw[c];exact Oh _ (M_ ..));have H:(row.map lv).length<=1000000:=by rw[M6];exact M1 L (by decide)
  have hi:(row.map lv).drop bu.length=lv t::f.map lv:=by rw[c];exact rf
  have fin:∀(g:Nat)(F:Option PV)(i:Nat),i=bu.length->wg bu.getLast? t g->g<=2->ai (d+2) ((ax pH 1).drop 2) [some (.ref a),some (.lst (row.map lv)),some (.str x),some (.int i),some (.int g),F,none,none,none,none,none,none] (σ.upd a (sr cl (n+1)))
    (fun o j k=>match o with|some v=>wh (d+2) Q X (some v) j k|none=>bt (fun O σ K'=>ai (d+2) (ax pH 1) O σ K' (ao X)) [3] ((Q8 (bu.length+1) f.length).map fun(i:Nat)=>PV.int i) j k (wh (d+2) Q X)) (ao X):=fun g F i e hg V=>by
   subst e;have c2:(x++Nz g 32).length<=27*bu.length+2:=by rw[M3,O_];exact N8 Y V
   refine⟨NE g,Int.ofNat_le.mpr (M1 V (by decide)),?_,ah (aT hi H) (Lc C P u fun w M c3 hw=>⟨?_,?_⟩)⟩
   .show x.length+(Nz g 32).length<=1048576;rw[O_];lia
   .have:=nZ u hw;show(x++Nz g 32).length+w.length<=1048576;lia
   .have c4:=nZ u hw;have z:=ih (bu++[t]) (x++Nz g 32++w) M (some (.int bu.length)) (some (.int g)) F (by rw[Nd];exact c) (by rw[M3];show M<=n0+2*(bu.length+1);lia) (by
      rw[M3,M3 (as:=bu)];show _<=27*(bu.length+1);lia) (fun rest y h=>by
      rw[TS]at h;have z:=hS (t::rest) _ (.cons hw hg h);rw[Nd bu,Nd x,Nd x];exact z)
    rw[M3]at z;exact z
  refine⟨_,rfl,cW C (M1 (Nh ..) P) (m:=3) (by decide) fun r hr=>ec (a:=r) (b:=0) (fun h0=>fZ (a:=0) (b:=bu.length) (fun Z=>?_) fun Z=>?_) fun h0=>?_⟩
  .rcases bS bu with e|⟨A,p,e⟩
   .rw[e]at Z;exact absurd Z (by decide)
   have a6:((bu.length:Nat):Int)-1=(A.length:Int):=by rw[e,M3];exact P9 (A.length:Int) 1
   have hj:(row.map lv).drop A.length=lv p::(t::f).map lv:=by rw[c,e,Nd];exact rf
   have a7:bu.getLast? =some p:=by rw[e,TS]
   have K:bk (.lst (row.map lv)) (.int (((bu.length:Nat):Int)-1)) (σ.upd a (sr cl (n+1)))=some (lv p):=by rw[a6];exact aT hj H
   have D:bk (.lst (row.map lv)) (.int bu.length) (σ.upd a (sr cl (n+1)))=some (lv t):=aT hi H;have E:∀b,(bx t&&bx p)=b->ai (d+2) [MS.ite (.bop false [(.tru (.loc 5)),(.cmp .Eq (.idx (.loc 1) (.bin .Sub (.loc 3) (.lit (.int (1))))) (.lit (.str [37])))]) [(.asg 4 (.lit (.int (1))))] []] [some (.ref a),some (.lst (row.map lv)),some (.str x),some (.int bu.length),some (.int r),some (.bool b),none,none,none,none,none,none] (σ.upd a (sr cl (n+1)))
     (fun o a8 k=>match o with|some v=>aZ Q v k|none=>ai (d+2) ((ax pH 1).drop 2) a8 k (fun o j k=>match o with|some v=>wh (d+2) Q X (some v) j k|none=>bt (fun O σ K'=>ai (d+2) (ax pH 1) O σ K' (ao X)) [3] ((Q8 (bu.length+1) f.length).map fun(i:Nat)=>PV.int i) j k (wh (d+2) Q X)) (ao X)) (ao X):=fun b hb=>by
    refine fG (b:=b) (fun h=>fin 1 _ _ rfl (fun z=>aK (beq_iff_eq.mpr z)) (by decide)) fun h=>ah K (ak FS ?_);cases hq:cK p with
    |true=>exact fin 1 _ _ rfl (fun z=>aK (beq_iff_eq.mpr z)) (by decide)
    |false=>exact fin r _ _ rfl (fun _ y W=>by rw[a7]at W;injection W with z0;subst z0;exact⟨hb.trans h,hq⟩) (M1 (ND h0) (by decide))
   rcases Mb t with⟨s,e1,e2⟩|⟨vs,e1,e2⟩
   .rw[e1]at D;exact ah D ⟨false,rfl,E false (by rw[e2];rfl)⟩
   rw[e1]at D;rcases Mb p with⟨s,f1,f2⟩|⟨vs,f1,f2⟩
   .have l:=K;rw[f1]at l;exact ah D ⟨true,rfl,ah l (E false (by rw[e2,f2];rfl))⟩
   .have l:=K;rw[f1]at l;exact ah D ⟨true,rfl,ah l (E true (by rw[e2,f2];rfl))⟩
  .exact fin r _ _ rfl (fun _ y W=>by
    have:bu=[]:=List.length_eq_zero_iff.mp (Nat.le_zero.mp Z);rw[this]at W;exact aj W) (M1 (ND h0) (by decide))
  .exact fin r _ _ rfl (fun z=>absurd z h0) (NI hr)
theorem Ld(C:eY σ a cl is){row:List Lt}(c:∀t∈row,bM t)(b:row.length<=60){n:Nat}(g:n+2*row.length<=1000000000)
  (q:∀x f,f<=n+2*row.length->Sp none row x->x.length<=27*row.length->Q (.str x) (σ.upd a (sr cl f))):af (d+3) (.ref 858) [.ref a,.lst (row.map lv)] (σ.upd a (sr cl n)) Q X:=by
 have j:(row.map lv).length=row.length:=M6 ..;have e:(OG row.length).map (fun(i:Nat)=>PV.int i)=(Q8 ([]:List Lt).length row.length).map fun(i:Nat)=>PV.int i:=by rw[RM];rfl
 exact J5 ⟨_,by show sd (.int ((row.map lv).length:Nat))=_;rw[j,lQ (M1 b (by decide)),e],CQ C c b g q row [] [] n none none none rfl (Nc _) (Nc _) fun rest y h=>h⟩
end
noncomputable def ck:Lt->Bool
 |.sg s=>s==[40]
 |_=>false
noncomputable def gP:Lt->Bool
 |.sg s=>s==[41]
 |_=>false
noncomputable def eZ:List Lt->List Lt
 |[]=>[]
 |x::r=>if ck x=true then r else eZ r
noncomputable def cN:List Lt->List Lt
 |[]=>[]
 |x::r=>if ck x=true then x::r else cN r
noncomputable def aQ:List Lt->Bool->List Lt->Bool
 |_,_,[]=>false
 |st,en,t::r=>if(bx t||gP t)=true then(if 10<st.length then true else aQ (cN (if(gP t&&st.any ck)=true then eZ st else st)) true r)
   else if(ck t|| !en)=true then aQ (t::st) false r else aQ st false r
section
variable{d a:Nat}{σ:aa}{Q:QV}{X:QX}
theorem DT{a:aa}:fM (lv t) (.str [40]) a=some (ck t):=by cases t<;>rfl
theorem GV{a:aa}:fM (lv t) (.str [41]) a=some (gP t):=by cases t<;>rfl
theorem FT{b:aa}{vs:List PV}(h:b a=some (.lst vs)):eJ .NotEq (.ref a) (.lst []) b=some (!vs.isEmpty):=by
 show(fM _ _ _).map _=_;have:fM (.ref a) (.lst []) b=some vs.isEmpty:=by
  unfold fM;rw[bf h];show(if(b_ (.lst vs) 60&&true)=true then some (dX vs [])else some vs.isEmpty)=_;split
  .cases vs<;>rfl
  .rfl
 rw[this];rfl
theorem zs(a:List Lt):gQ (a.map lv)=true:=by
 induction a with
 |nil=>exact rfl
 |cons t r b=>show(b_ (lv t) 60&&gQ (r.map lv))=true;rw[b];cases t<;>rfl
theorem CR(a:List Lt):((a.map lv).any fun v=>fC v (.str [40]))=a.any ck:=by
 induction a with
 |nil=>exact rfl
 |cons t r b=>rw[NO,O8,O8,b];cases t<;>rfl
theorem MU{c:aa}{b:List Lt}(h:c a=some (.lst (b.map lv))):kU (.str [40]) (.ref a) c=some (b.any ck):=by unfold kU;rw[bf h];show(if(true&&gQ (b.map lv))=true then some _ else none)=_;rw[zs,CR];rfl
theorem FU{c:aa}{b:List Lt}{t:Lt}(h:c a=some (.lst ((b++[t]).map lv)))(d:b.length<=1000):bk (.ref a) (.int (-1)) c=some (lv t):=by
 unfold bk;rw[bf h];have e:((b++[t]).map lv).length=b.length+1:=by rw[M6,M3];rfl
 show((kY (-((0:Nat)+1:Int)) ((b++[t]).map lv).length).bind fun j=>((b++[t]).map lv)[j]?)=_;rw[pJ (i:=0) (n:=((b++[t]).map lv).length) (by rw[e];exact Ob _) (by rw[e];exact M1 (Ny d) (by decide)),e];show((b++[t]).map lv)[b.length]? =_;rw[NA,Q1 (by rw[M6];exact Nc _),M6,Sm];rfl
theorem zu{b:aa}{c:List Lt}{t:Lt}{q:PV->aa->Prop}(h:b a=some (.lst ((c++[t]).map lv)))(k:q (lv t) (b.upd a (.lst (c.map lv)))):xj (.ref a) 1 b/\xi (.ref a) 1 [] b q:=
 ⟨lJ h (by decide),ci h ⟨rfl,c.map lv,lv t,by rw[NA];rfl,k⟩⟩
noncomputable def mz(st:List Lt):List PV:=st.reverse.map lv
noncomputable def iT(l:List MS):List MS:=match l with
 |.ite _ b _::_=>b
 |_=>[]
noncomputable abbrev D1:List MS:=iT (ax iA 2)
noncomputable abbrev E1(st row:PV)(en:Bool)(t:Lt):ar:=[some row,some st,some (.bool en),some (lv t),none,none,none]
theorem CS{K:QS}(st:List Lt):∀(en:Bool),st.any ck=true->st.length<=1000->(∀en,K none (E1 (.ref a) row en t) (σ.upd a (.lst (mz (eZ st)))))->bD (fun c σ K'=>fT d (cw (iT (D1.drop 1)) 0) c σ K' X) (fun c σ K'=>ai d (ax (iT (D1.drop 1)) 0) c σ K' X) (st.length+1) (E1 (.ref a) row en t) (σ.upd a (.lst (mz st))) K:=by
 induction st with
 |nil=>exact fun en h _ _=>aK h
 |cons x r g=>
  intro en h i k;have hs:(σ.upd a (.lst (mz (x::r)))) a=some (.lst ((r.reverse++[x]).map lv)):=by rw[aa.uS];unfold mz;rw[Qd]
  refine⟨(zu (q:=fun _ _=>True) hs trivial).1,(zu hs ?_).2⟩;rw[aa.uU];refine ak (b:= !(ck x)) (by show(fM _ _ _).map _=_;rw[DT];rfl) ?_;cases f:ck x with
  |true=>have e:eZ (x::r)=r:=M8 f;rw[e]at k;exact k en
  |false=>
   have e:eZ (x::r)=eZ r:=M5 (by rw[f];decide);rw[e]at k;have h':r.any ck=true:=by rw[O8,f]at h;exact h
   exact g true h' (Nl i) k
theorem zv{K:QS}(st:List Lt):st.length<=1000->K none (E1 (.ref a) row en t) (σ.upd a (.lst (mz (cN st))))->bD (fun c σ K'=>fT d (cw (D1.drop 2) 0) c σ K' X) (fun c σ K'=>ai d (ax (D1.drop 2) 0) c σ K' X) (st.length+1) (E1 (.ref a) row en t) (σ.upd a (.lst (mz st))) K:=by
 induction st with
 |nil=>exact fun _ k=>ak (b:=false) (FT (aa.uS ..)) k
 |cons x r h=>
  intro f k;have i:mz (x::r)=(r.reverse++[x]).map lv:=by unfold mz;rw[Qd]
  have hs:(σ.upd a (.lst (mz (x::r)))) a=some (.lst ((r.reverse++[x]).map lv)):=by rw[aa.uS,i]
  refine ak (b:=true) (by rw[FT hs];cases r.reverse<;>rfl) (ah (FU hs (by rw[QI];exact Nl f)) (ak (b:= !(ck x)) (by show(fM _ _ _).map _=_;rw[DT];rfl) ?_));cases g:ck x with
  |true=>have e:cN (x::r)=x::r:=M8 g;rw[e]at k;exact k
  |false=>have e:cN (x::r)=cN r:=M5 (by rw[g];decide);rw[e]at k;refine⟨(zu (q:=fun _ _=>True) hs trivial).1,(zu hs ?_).2⟩;rw[aa.uU];exact h (Nl f) k
theorem n7:∀st,(cN st).length<=st.length
 |[]=>Nc _
 |x::r=>by unfold cN;split;exact Nc _;exact Ou (n7 r)
theorem kL:∀st,(eZ st).length<=st.length
 |[]=>Nc _
 |x::r=>by unfold eZ;split;exact Oc _;exact Ou (kL r)
theorem CT(C:σ a=none)(r:List Lt):∀(st:List Lt)(en:Bool)(s3:Option PV),st.length+r.length<=1000->Q (.bool (aQ st en r)) σ->bt (fun k σ K'=>ai d (ax iA 2) k σ K' (ao X)) [3] (r.map lv) [some row,some (.ref a),some (.bool en),s3,none,none,none] (σ.upd a (.lst (mz st))) (fun o f c=>match o with|some v=>aZ Q v c|none=>ai d (iA.drop 3) f c (fun o _ c=>aZ Q (o.getD .none) c) (ao X)):=by
 induction r with
 |nil=>exact fun st en s3 _ q=> .val (ed _ C) q
 |cons t r u=>
  intro st en s3 D q;have l:st.length<=1000:=M1 (Nh _ _) D;have m:st.length+r.length+1<=1000:=D;have ll:gT (.ref a) (σ.upd a (.lst (mz st)))=some st.length:=by rw[pN (aa.uS ..)];unfold mz;rw[M6,QI]
  have i:(bx t||gP t)=true->ai d D1 (E1 (.ref a) row en t) (σ.upd a (.lst (mz st))) (fun o f c=>match o with|some v=>aZ Q v c|none=>bt (fun k σ K'=>ai d (ax iA 2) k σ K' (ao X)) [3] (r.map lv) f c (fun o f c=>match o with|some v=>aZ Q v c|none=>ai d (iA.drop 3) f c (fun o _ c=>aZ Q (o.getD .none) c) (ao X))) (ao X):=fun h=>by
   have e:aQ st en (t::r)=if 10<st.length then true else aQ (cN (if(gP t&&st.any ck)=true then eZ st else st)) true r:=M8 h;rw[e]at q;refine tY ll (fZ (a:=10) (b:=st.length) (fun g=>?_) fun g=>?_)
   .rw[M8 g]at q;exact .val (ed _ C) q
   rw[M5 (Nat.not_lt.mpr g)]at q;refine ak GV ?_;have w:∀(j:List Lt)(en:Bool),j.length<=st.length->Q (.bool (aQ (cN j) true r)) σ->ai d (D1.drop 2) (E1 (.ref a) row en t) (σ.upd a (.lst (mz j))) (fun o f c=>match o with|some v=>aZ Q v c|none=>bt (fun k σ K'=>ai d (ax iA 2) k σ K' (ao X)) [3] (r.map lv) f c (fun o f c=>match o with|some v=>aZ Q v c|none=>ai d (iA.drop 3) f c (fun o _ c=>aZ Q (o.getD .none) c) (ao X))) (ao X):=fun j en h q=>
    ⟨_,zv j (M1 h l) (u (cN j) true (some (lv t)) (M1 (NF (M1 (n7 j) h) _) (Nl m)) q)⟩
   cases x:gP t with
   |false=>rw[M5 (by rw[x];exact NZ)]at q;exact w st en (Nc _) q
   |true=>
    refine ak (MU (by rw[aa.uS];rfl)) ?_;rw[List.any_reverse];cases n:st.any ck with
    |false=>rw[M5 (by rw[x,n];exact NZ)]at q;exact w st en (Nc _) q
    |true=>rw[M8 (by rw[x,n];rfl)]at q;exact⟨_,CS st en n l fun en=>w (eZ st) en (kL st) q⟩
  have y:(bx t||gP t)=false->ai d [(.ite (.bop false [(.cmp .Eq (.loc 3) (.lit (.str [40]))),(.nt (.tru (.loc 2)))]) [(.expr (.calM (.loc 1) 0 [(.loc 3)])),(.asg 2 (.lit (.bool false)))] [(.asg 2 (.lit (.bool false)))])] (E1 (.ref a) row en t) (σ.upd a (.lst (mz st))) (fun o f c=>match o with|some v=>aZ Q v c|none=>bt (fun k σ K'=>ai d (ax iA 2) k σ K' (ao X)) [3] (r.map lv) f c (fun o f c=>match o with|some v=>aZ Q v c|none=>ai d (iA.drop 3) f c (fun o _ c=>aZ Q (o.getD .none) c) (ao X))) (ao X):=fun h=>by
   have e:aQ st en (t::r)=if(ck t|| !en)=true then aQ (t::st) false r else aQ st false r:=M5 (by rw[h];decide);rw[e]at q;have p:(ck t|| !en)=true->ai d [(.expr (.calM (.loc 1) 0 [(.loc 3)])),(.asg 2 (.lit (.bool false)))] (E1 (.ref a) row en t) (σ.upd a (.lst (mz st))) (fun o f c=>match o with|some v=>aZ Q v c|none=>bt (fun k σ K'=>ai d (ax iA 2) k σ K' (ao X)) [3] (r.map lv) f c (fun o f c=>match o with|some v=>aZ Q v c|none=>ai d (iA.drop 3) f c (fun o _ c=>aZ Q (o.getD .none) c) (ao X))) (ao X):=fun g=>by rw[M8 g]at q;refine⟨lJ (aa.uS ..) (by decide),ci (aa.uS ..) ⟨by unfold mz;rw[M6,QI];exact M9 l (by decide),?_⟩⟩;rw[aa.uU];have z:=u (t::st) false (some (lv t)) (by rw[Nt,P5];exact m) q;unfold mz at z⊢;rw[Qd,NA]at z;exact z
   refine ak DT ?_;cases A:ck t with
   |true=>exact p (by rw[A];rfl)
   |false=>
    refine ak (b:=en) rfl ?_;cases en with
    |false=>exact p (by rw[A];rfl)
    |true=>rw[M5 (by rw[A];decide)]at q;exact u st false (some (lv t)) (Nl m) q
  refine⟨_,rfl,?_⟩;cases t with
  |sg s=>
   refine ak (b:=false) rfl (ak (GV (t:= .sg s)) ?_);cases h:gP (.sg s)with
   |true=>exact i (by rw[h];rfl)
   |false=>exact y (by rw[h];rfl)
  |num=>exact ak (b:=true) rfl (i rfl)
  |sym=>exact ak (b:=true) rfl (i rfl)
  |here=>exact ak (b:=true) rfl (i rfl)
theorem Lg{row:List Lt}(b:row.length<=1000)(q:Q (.bool (aQ [] false row)) σ):af (d+1) (.ref 865) [.lst (row.map lv)] σ Q X:=
 J6 fun a c=>⟨_,rfl,CT c row [] false none (by rw[N5,N1];exact b) q⟩
end
noncomputable def oE:Lt->List Nat
 |.sg s=>s
 |_=>[]
noncomputable def jP:Lt->Bool
 |.sg s=>decide (s∈eD)
 |_=>false
noncomputable def n8:Lt->Bool
 |.sg s=>decide (s∈gO)
 |_=>false
noncomputable def kM:Lt->Tr
 |.num n=> .num n
 |.sym s=> .name s
 |_=> .here
noncomputable def gD:List Lt->Bool
 |u::_=> !(jP u)
 |[]=>false
noncomputable def bI:Option Nat->Int
 |none=> -1
 |some i=>i
noncomputable def az(h0:Lt):List Lt->Nat->Int->Bool->Option Nat->Nat->Option (Int×Option Nat)
 |[],_,a,_,best,_=>some (a,best)
 |t::r,i,a,en,best,lev=>
  if bx t=true then az h0 r (i+1) a true best lev
  else if ck t=true then az h0 r (i+1) (a+1) false best lev
  else if gP t=true then(if a-1<0\/(a-1=0/\best=none/\ck h0=true/\gD r=true)then none else az h0 r (i+1) (a-1) true best lev)
  else if en=true/\a=0/\1<=ae (oE t)/\ae (oE t)<=lev then az h0 r (i+1) a false (some i) (ae (oE t))
  else az h0 r (i+1) a false best lev
theorem pU(h0 t:Lt)(r:List Lt)(i:Nat)(a:Int)(en:Bool)(best:Option Nat)(lev:Nat):az h0 (t::r) i a en best lev=
  if bx t=true then az h0 r (i+1) a true best lev
  else if ck t=true then az h0 r (i+1) (a+1) false best lev
  else if gP t=true then(if a-1<0\/(a-1=0/\best=none/\ck h0=true/\gD r=true)then none else az h0 r (i+1) (a-1) true best lev)
  else if en=true/\a=0/\1<=ae (oE t)/\ae (oE t)<=lev then az h0 r (i+1) a false (some i) (ae (oE t))
  else az h0 r (i+1) a false best lev:=rfl
noncomputable def GW:List (List Nat×PV):=[([42],.int 3),([47],.int 3),([37],.int 3),([60,60],.int 3),([62,62],.int 3),([124],.int 2),([38],.int 2),([94],.int 2),([43],.int 1),([45],.int 1)]
theorem rg(s:List Nat):i9 GW s=if 1<=ae s then some (.int (ae s))else none:=by
 unfold i9 GW;by_cases c:s=[43];· subst c;rfl
 by_cases d:s=[45];· subst d;rfl
 by_cases e:s=[124];· subst e;rfl
 by_cases f:s=[38];· subst f;rfl
 by_cases g:s=[94];· subst g;rfl
 by_cases i:s=[42];· subst i;rfl
 by_cases j:s=[47];· subst j;rfl
 by_cases l:s=[37];· subst l;rfl
 by_cases m:s=[60,60];· subst m;rfl
 by_cases b:s=[62,62];· subst b;rfl
 have a:∀k:List Nat,s≠k->decide (k=s)=false:=fun k h=>NK (NT h);have n:ae s=0:=by unfold ae;rw[M5 (fun h=>h.elim c d),M5 (fun h=>h.elim e fun h=>h.elim f g),M5 (fun h=>h.elim i fun h=>h.elim j fun h=>h.elim l fun h=>h.elim m b)]
 rw[n];simp only[QA,a _ c,a _ d,a _ e,a _ f,a _ g,a _ i,a _ j,a _ l,a _ m,a _ b,List.find?_nil,Option.map_none];rfl
section
variable{d a:Nat}{σ:aa}{Q:QV}{X:QX}
theorem g_{σ a:aa}(h:Le σ a)(c:a b=none):Le σ (a.upd b m):=fun x n d=>by have:=h x n d;rw[aa.uN _ _ (fun e=>by rw[e,c]at this;exact aj this)];exact this
theorem CU{a:aa}(q:∀b,a b=none->Q (.ref b) (a.upd b (.dct GW))):af (d+1) (.ref 808) [] a Q X:=
 J1 ⟨rfl,by decide,fun b c=>ag (q b c)⟩
theorem FV{a:aa}(h:a b=some (.dct kvs)):kU (.str s) (.ref b) a=some (i9 kvs s).isSome:=by unfold kU;rw[kJ h];show(fQ a (.ref b)).map _=_;rw[ef h];rfl
theorem wi{a:aa}(h:a b=some (.dct kvs))(k:i9 kvs s=some v):bk (.ref b) (.str s) a=some v:=by unfold bk;rw[kJ h];show(fQ a (.ref b)).bind _=_;rw[ef h];exact k
theorem AN{a:aa}(h:a b=some (.dct GW))(g:1<=ae s):bk (.ref b) (.str s) a=some (.int (ae s)):=wi h (by rw[rg,M8 g])
theorem FW(s:List Nat):∀ss:List (List Nat),((ss.map PV.str).any fun v=>fC v (.str s))=decide (s∈ss):=qX s
theorem CV{a:aa}:eJ .NotIn (lv u) (cq 7) a=some (!(jP u)):=by
 rw[FM];show(kU _ _ _).map _=_;cases u with
 |sg s=>show(if(true&&gQ (eD.map .str))=true then some ((eD.map PV.str).any fun v=>fC v (.str s))else none).map _=_;rw[jL,FW];rfl
 |_=>rfl
noncomputable abbrev n9(row:PV)(a:Int)(en:Bool)(best:Option Nat)(lev:Nat)(b c:Option PV):ar:=[some row,some (.int a),some (.bool en),some (.int (bI best)),some (.int lev),b,c,none,none,none,none,none,none,none,none,none,none,none]
theorem zw{row:List Lt}:((row.map lv).length:Int)=(row.length:Int):=by rw[M6]
noncomputable def Lh(σ:aa)(row:List Lt)(K:QS):Option (Int×Option Nat)->Prop
 |none=>∀d a,Le σ a->K (some .none) d a
 |some z=>∀a c b e f,Le σ a->K none (n9 (.lst (row.map lv)) z.1 c z.2 b e f) a
section
variable{row r bu:List Lt}{h0 t:Lt}{s:List Nat}{i lev:Nat}{dep:Int}{en:Bool}{best:Option Nat}{K:QS}
theorem zx{W:Option (Int×Option Nat)->Prop}{a b:Option (Int×Option Nat)}(q:W a)(e:a=b):W b:=e▸q
theorem CW(h:ck (.sg s)=true):az h0 (.sg s::r) i dep en best lev=az h0 r (i+1) (dep+1) false best lev:=M8 h
theorem CX(h:ck (.sg s)=false)(h':gP (.sg s)=true):az h0 (.sg s::r) i dep en best lev=if dep-1<0\/(dep-1=0/\best=none/\ck h0=true/\gD r=true)then none else az h0 r (i+1) (dep-1) true best lev:=
 (M5 (show ¬bx (.sg s)=true from NZ)).trans ((M5 fun e=>NZ (h.symm.trans e)).trans (M8 h'))
theorem CY(h:ck (.sg s)=false)(h':gP (.sg s)=false):az h0 (.sg s::r) i dep en best lev=if en=true/\dep=0/\1<=ae s/\ae s<=lev then az h0 r (i+1) dep false (some i) (ae s)else az h0 r (i+1) dep false best lev:=
 (M5 (show ¬bx (.sg s)=true from NZ)).trans ((M5 fun e=>NZ (h.symm.trans e)).trans (M5 fun e=>NZ (h'.symm.trans e)))
theorem FX(a:row=bu++t::r):(gD r=false/\decide ((bu.length:Int)<((row.map lv).length:Int)-1)=false)\/
  ∃u xs,gD r= !(jP u)/\decide ((bu.length:Int)<((row.map lv).length:Int)-1)=true/\(row.map lv).drop (bu.length+1)=lv u::xs:=by
 have hi:(row.map lv).drop bu.length=lv t::r.map lv:=by rw[a];exact rf
 have e:row.length=bu.length+(r.length+1):=by rw[a,M3];rfl
 rw[zw,e];cases r with
 |nil=>exact .inl ⟨rfl,NK (by show ¬_;simp)⟩
 |cons u r'=>exact .inr ⟨u,r'.map lv,rfl,NH (by simp;lia),ca (r:=(u::r').map lv) hi⟩
end
theorem zy{row r bu:List Lt}{h0 t:Lt}{j:Int}{en:Bool}{best:Option Nat}{lev:Nat}{D E:Option PV}{l:aa}(y:row.head? =some h0)(v:(row.map lv).length<=1000000)(n:row=bu++t::r){W:Option (Int×Option Nat)->Prop}(f:Le σ l)
  (q:W (az h0 (t::r) bu.length j en best lev)) {J:QS} (A:W none->∀O l,Le σ l->J (some .none) O l)
  (o:∀j en best lev D E l,Le σ l->W (az h0 r (bu.length+1) j en best lev)->J none (n9 (.lst (row.map lv)) j en best lev D E) l):
  ai (d+1) (ax tG 5) ((n9 (.lst (row.map lv)) j en best lev D E).set 5 (some (.int bu.length))) l J X:=by
 refine ah (aT (by rw[n];exact rf) v) ?_;cases t with
 |num k=>exact ak (b:=true) rfl (o _ _ _ _ _ _ _ f q)
 |sym k=>exact ak (b:=true) rfl (o _ _ _ _ _ _ _ f q)
 |here=>exact ak (b:=true) rfl (o _ _ _ _ _ _ _ f q)
 |sg s=>
  refine ak (b:=false) rfl (ak (DT (t:= .sg s)) ?_);cases F:ck (.sg s)with
  |true=>exact o _ _ _ _ _ _ _ f (zx q (CW F))
  |false=>
   refine ak (GV (t:= .sg s)) ?_;cases L:gP (.sg s)with
   |true=>
    have q:=zx q (CX F L);refine iR (p:=j-1<0) (fun g=>A (zx q (M8 (.inl g))) _ _ f) fun g=>Ch (a:=j-1) (b:=0) (fun g1=>?_) fun g1=>o _ _ _ _ _ _ _ f (zx q (M5 fun w=>w.elim g fun w=>g1 w.1));have m:=fun z:¬(best=none/\ck h0=true/\gD r=true)=>o _ _ _ _ (some (.int bu.length)) (some (.str s)) _ f (zx q (M5 fun w=>w.elim g fun w=>z w.2));cases best with
    |some i=>exact ak (b:=false) (Np some (NK (Int.not_lt.mpr (NE i)))) (m fun z=>aK (beq_iff_eq.mpr z.1))
    |none=>
     refine ak (b:=true) rfl (ah (aT (i:=0) (c:=lv h0) (r:=(row.drop 1).map lv) (by cases row with|nil=>exact aj y|cons x xs=>injection y with z0;subst z0;rfl) v) (ak (DT (t:=h0)) ?_));cases hh:ck h0 with
     |false=>exact m fun z=>NZ (hh.symm.trans z.2.1)
     |true=>
      rcases FX n with⟨e,h⟩|⟨u,xs,e,h,P⟩
      .exact ak (b:=false) (Np some h) (m fun z=>NZ (e.symm.trans z.2.2))
      .refine ak (b:=true) (Np some h) (ah (aT (i:=bu.length+1) P v) (ak CV ?_));cases M:jP u with
       |true=>exact m fun z=>by rw[e,M]at z;exact NZ z.2.2
       |false=>exact A (zx q (M8 (.inr ⟨g1,rfl,hh,by rw[e,M];rfl⟩))) _ _ f
   |false=>
    have q:=zx q (CY F L);have m:=fun(z:¬(en=true/\j=0/\1<=ae s/\ae s<=lev)) l f=>o _ _ _ _ (some (.int bu.length)) (some (.str s)) l f (zx q (M5 z));refine ak (b:=en) rfl ?_;cases en with
    |false=>exact m (fun z=>aK z.1) _ f
    |true=>
     refine Ch (a:=j) (b:=0) (fun g=>CU fun b H=>ak (FV (aa.uS ..)) ?_) fun g=>m (fun z=>g z.2.1) _ f;rw[rg];by_cases g1:1<=ae s
     .rw[M8 g1];exact CU fun b2 C=>ah (AN (aa.uS ..) g1) (Ci (a:=ae s) (b:=lev) (fun g2=>CU fun b3 K=>ah (AN (aa.uS ..) g1) (o _ _ _ _ _ _ _ (g_ (g_ (g_ f H) C) K) (zx q (M8 ⟨rfl,g,g1,g2⟩)))) fun g2=>m (fun z=>absurd z.2.2.2 (Nat.not_le.mpr g2)) _ (g_ (g_ f H) C))
     .rw[M5 g1];exact m (fun z=>g1 z.2.2.1) _ (g_ f H)
theorem CZ{row:List Lt}{h0:Lt}(j:row.head? =some h0)(l:row.length<=1000){K:QS}:
  ∀(b bu:List Lt)(a:Int)(en:Bool)(best:Option Nat)(lev:Nat)(g h:Option PV)(f:aa),row=bu++b->Le σ f->Lh σ row K (az h0 b bu.length a en best lev)->
  bt (fun m σ K'=>ai (d+1) (ax tG 5) m σ K' X) [5] ((Q8 bu.length b.length).map fun(i:Nat)=>PV.int i) (n9 (.lst (row.map lv)) a en best lev g h) f K:=by
 intro b;induction b with
 |nil=>intro bu a en best lev g h f c e q;exact q _ _ _ _ _ e
 |cons t r n=>intro bu a en best lev g h f c e q;have k:=n (bu++[t]);rw[M3,Nd]at k;exact⟨_,rfl,zy j (by rw[M6];exact M1 l (by decide)) c e q (fun q=>q) fun a en best lev g h f=>k a en best lev g h f c⟩
end
noncomputable def gF(f:List Lt->Option Tr)(h:Lt)(a:List Lt):Option Nat->Option Tr
 |some i=>(f ((h::a).take i)).bind fun l=>(f ((h::a).drop (i+1))).map fun r=> .bin (oE ((h::a).getD i .here)) l r
 |none=>if bx h=true then(if a=[] then some (kM h)else none)
  else if ck h=true then(if gP ((h::a).getLastD .here)=true then f a.dropLast else none)
  else if n8 h=true then(f a).map (.un (oE h))else none
noncomputable def n_(f:List Lt->Option Tr)(h:Lt)(b:List Lt):Option (Int×Option Nat)->Option Tr
 |none=>none
 |some (a,best)=>if a≠0 then none else gF f h b best
noncomputable def a':Nat->List Lt->Option Tr
 |_,[]=>none
 |0,_=>none
 |n+1,h::a=>n_ (a' n) h a (az h (h::a) 0 0 false none 3)
def lR(a:List Lt)(i:Nat)(best:Option Nat)(k:Nat):Prop:=best=some k\/∃j,k=i+j/\j<a.length/\(∃s,a[j]? =some (.sg s)/\1<=ae s)
theorem lR.up(z:lR r (i+1) b k):lR (t::r) i b k:=
 z.imp id fun⟨j,e,a,s⟩=>⟨j+1,by rw[e,N7,Of 1],Qr a,s⟩
theorem lR.set(h:1<=ae (oE t))(z:lR r (i+1) (some i) k):lR (t::r) i b k:=by
 rcases z with z|z
 .cases t with
  |sg s=>exact .inr ⟨0,(Na z).symm,Ob _,s,rfl,h⟩
  |_=>exact absurd (show 1<=ae [] from h) (by decide)
 .exact(lR.up (.inr z:lR r (i+1) none k)).imp (fun e=>aj e) id
theorem kN(c:List Lt):∀(i:Nat)(a:Int)(en:Bool)(best:Option Nat)(lev:Nat)(b:Int)(k:Nat),az h0 c i a en best lev=some (b,some k)->lR c i best k:=by
 induction c with
 |nil=>intro i a en best lev b k h;exact .inl (Se (Na h)).2
 |cons t r d=>
  intro i a en best lev b k h;rw[pU]at h;by_cases f:bx t=true
  .exact(d _ _ _ _ _ _ _ (ce f h)).up
  replace h:=bU f h;by_cases g:ck t=true
  .exact(d _ _ _ _ _ _ _ (ce g h)).up
  replace h:=bU g h;by_cases j:gP t=true
  .replace h:=ce j h;by_cases l:a-1<0\/(a-1=0/\best=none/\ck h0=true/\gD r=true)
   .exact aj (ce l h)
   .exact(d _ _ _ _ _ _ _ (bU l h)).up
  replace h:=bU j h;by_cases e:en=true/\a=0/\1<=ae (oE t)/\ae (oE t)<=lev
  .exact(d _ _ _ _ _ _ _ (ce e h)).set e.2.2.1
  .exact(d _ _ _ _ _ _ _ (bU e h)).up
section
variable{d:Nat}{σ:aa}{Q:QV}{X:QX}
noncomputable def tQ(o:Option Tr):PV:=match o with
 |none=> .none
 |some t=>tt t
theorem iU(t:Tr):isNone (tt t)=false:=by cases t<;>rfl
theorem rh{row:List Lt}{i:Nat}(h:i<=row.length){a:aa}:fE (.lst (row.map lv)) .none (.int i) a=some (.lst ((row.take i).map lv)):=by show some (PV.lst ((((row.map lv).drop 0).take (OZ (row.map lv).length i-0))))=_;rw[cJ,M6,OF h,RT,Vr,Tc]
theorem hG{row:List Lt}{i:Nat}(h:i<=row.length){a:aa}:fE (.lst (row.map lv)) (.int i) .none a=some (.lst ((row.drop i).map lv)):=by show some (PV.lst (((row.map lv).drop (OZ (row.map lv).length i)).take ((row.map lv).length-OZ (row.map lv).length i)))=_;rw[cJ,M6,OF h,ON (by rw[N9,M6];exact Nc _),R2]
theorem wj{h:Lt}{a:List Lt}(b:a≠[]){c:aa}:fE (.lst ((h::a).map lv)) (.int 1) (.int (-1)) c=some (.lst (a.dropLast.map lv)):=by
 have d:OZ ((h::a).map lv).length 1=1:=by show OZ _ ((1:Nat):Int)=1;rw[cJ,M6];exact OF (Ob _)
 have e:OZ ((h::a).map lv).length (-1)=a.length:=by unfold OZ;rw[M8 (by decide),M6,Nt,show(-1:Int)+((a.length+1:Nat):Int)=(a.length:Int)from(Np ((-1:Int)+·) (Int.add_comm (a.length:Int) 1)).trans (Tn 1 _),UK (Int.ofNat_le.mpr (Oc _)),SC (NE _)];rfl
 show some (PV.lst ((((h::a).map lv).drop (OZ ((h::a).map lv).length 1)).take (OZ ((h::a).map lv).length (-1)-OZ ((h::a).map lv).length 1)))=_;rw[d,e];show some (PV.lst ((a.map lv).take (a.length-1)))=_;rw[TI,Tc]
theorem FY{row:List Lt}{h:Lt}{c:List Lt}(e:row=h::c)(b:row.length<=1000){d:aa}:bk (.lst (row.map lv)) (.int (-1)) d=some (lv (row.getLastD .here)):=by
 rcases bS row with z|⟨W,t,rfl⟩
 .rw[z]at e;exact A' e
 have a:((W++[t]).map lv).length=W.length+1:=by rw[M6,M3];rfl
 show((kY (-((0:Nat)+1:Int)) ((W++[t]).map lv).length).bind fun j=>((W++[t]).map lv)[j]?)=_;rw[M3]at b;rw[pJ (i:=0) (n:=((W++[t]).map lv).length) (by rw[a];exact Ob _) (by rw[a];exact M1 b (by decide)),a];show((W++[t]).map lv)[W.length]? =_;rw[NA,Q1 (by rw[M6];exact Nc _),M6,Sm,RR];rfl
theorem Li{a:aa}:eJ .NotIn (lv u) (cq 8) a=some (!(n8 u)):=by
 rw[FN];show(kU _ _ _).map _=_;cases u with
 |sg s=>show(if(true&&gQ (gO.map .str))=true then some ((gO.map PV.str).any fun v=>fC v (.str s))else none).map _=_;rw[jL,FW];rfl
 |_=>rfl
theorem C0{vs:List PV}{a:aa}:fM (.lst vs) (.lst []) a=some vs.isEmpty:=by
 show(if(b_ (.lst vs) 60&&true)=true then some (dX vs [])else some vs.isEmpty)=_;split
 .cases vs<;>rfl
 .rfl
noncomputable abbrev ri(n L:Nat)(σ:aa):Prop:=∀{row:List Lt}{a:aa}{Q:QV}{X:QX},row.length<=L->Le σ a->(∀a,Le σ a->Q (tQ (a' n row)) a)->af (n+3) (.ref 872) [.lst (row.map lv)] a Q X
section
variable{n:Nat}{h:Lt}{tl row:List Lt}{σ τ:aa}{Q:QV}{X:QX}{dep:Int}{en':Bool}{Zq i:Nat}{s5 s6:Option PV}{s:List Nat}
theorem FZ(h:ri n tl.length σ)(j:(Lt.sg s::tl).length<=1000)(a:Le σ c)(q:∀c,Le σ c->Q (tQ (if n8 (.sg s)=true then(a' n tl).map (.un s)else none)) c):
  ai (n+3) (tG.drop 10) (n9 (.lst ((Lt.sg s::tl).map lv)) dep en' none Zq s5 s6) c (fun o _ f=>aZ Q (o.getD .none) f) (ao X):=by
 have d:((Lt.sg s::tl).map lv).length<=1000000:=by rw[M6];exact M1 j (by decide)
 have e:((Lt.sg s::tl).map lv).drop 0= .str s::tl.map lv:=rfl;refine ah (aT (i:=0) e d) (ak (Li (u:= .sg s)) ?_);cases g:n8 (.sg s)with
 |false=>rw[M5 (by rw[g];exact NZ)]at q;exact ag (q c a)
 |true=>
  rw[M8 g]at q;refine ah (hG (row:= .sg s::tl) (i:=1) (Ob _)) (h (row:=tl) (Nc _) a fun c a=>?_);revert q;cases a' n tl with
  |none=>exact fun q=>ak (b:=true) rfl (ag (q c a))
  |some b=>exact fun q=>ak (b:=isNone (tt b)) rfl (by rw[iU];exact ah (aT (i:=0) e d) (ag (q c a)))
theorem zB(ih:ri n tl.length σ)(hl:(h::tl).length<=1000)(Ze:Le σ τ)(q:∀τ,Le σ τ->Q (tQ (gF (a' n) h tl none)) τ):
  ai (n+3) (tG.drop 8) (n9 (.lst ((h::tl).map lv)) dep en' none Zq s5 s6) τ (fun o _ Z6=>aZ Q (o.getD .none) Z6) (ao X):=by
 have hrl:((h::tl).map lv).length<=1000000:=by rw[M6];exact M1 hl (by decide)
 have hd0:((h::tl).map lv).drop 0=lv h::tl.map lv:=rfl;have q:∀τ,Le σ τ->Q (tQ (if bx h=true then(if tl=[] then some (kM h)else none)else if ck h=true then(if gP ((h::tl).getLastD .here)=true then a' n tl.dropLast else none)else if n8 h=true then(a' n tl).map (.un (oE h))else none)) τ:=q;refine ah (aT (i:=0) hd0 hrl) ?_;by_cases ht:bx h=true
 .rw[M8 ht]at q;have leaf:lv h=tt (kM h)->cR (n+3) (.ite (.cmp .Eq (.calB .len [(.loc 0)]) (.lit (.int (1)))) (.idx (.loc 0) (.lit (.int (0)))) (.lit .none)) (n9 (.lst ((h::tl).map lv)) dep en' none Zq s5 s6) τ (fun v Z6=>aZ Q v Z6) (ao X):=fun e2=>by
   refine ec (a:=((h::tl).map lv).length) (b:=1) (fun z=>ah (aT (i:=0) hd0 hrl) ?_) fun z=>?_
   .rw[M6,Nt]at z;rw[M8 (List.length_eq_zero_iff.mp (Pj z))]at q;rw[e2];exact ag (q τ Ze)
   .rw[M5 (fun e=>z (by rw[e];rfl))]at q;exact ag (q τ Ze)
  clear q ih;cases h with
  |sg s=>exact aK ht
  |_=>exact ak (b:=true) rfl (leaf rfl)
 .rw[M5 ht]at q;cases h with
  |sg s=>
   refine ak (b:=false) rfl (ah (aT (i:=0) hd0 hrl) (ak (DT (t:= .sg s)) ?_));cases hL:ck (.sg s)with
   |true=>
    rw[M8 hL]at q;refine ah (FY (row:= .sg s::tl) rfl hl) (ak GV ?_);cases hR:gP ((Lt.sg s::tl).getLastD .here)with
    |false=>rw[M5 (by rw[hR];exact NZ)]at q;exact ag (q τ Ze)
    |true=>
     rw[M8 hR]at q;have Zj:tl≠[]:=fun e=>by rw[e]at hR;exact absurd ((N3 hL:s=[40]).symm.trans (N3 hR:s=[41])) (by decide)
     exact ah (wj Zj) (ih (by rw[TQ];exact Q3 _ _) Ze fun τ Ze=>ag (q τ Ze))
   |false=>rw[M5 (by rw[hL];exact NZ)]at q;exact FZ ih hl Ze q
  |_=>exact absurd rfl ht
theorem zC(h:ri n row.length.pred σ)(j:row.length<=1000)(a:Le σ c)(d:i<row.length)(e:row[i]? =some (.sg s)) (q:∀c,Le σ c->Q (tQ ((a' n (row.take i)).bind fun l=>(a' n (row.drop (i+1))).map fun r=> .bin s l r)) c):
  ai (n+3) (tG.drop 7) (n9 (.lst (row.map lv)) dep en' (some i) Zq s5 s6) c (fun o _ g=>aZ Q (o.getD .none) g) (ao X):=by
 have f:(row.map lv).drop i= .str s::(row.drop (i+1)).map lv:=by rw[←R2,OS d];rw[Nu d]at e;rw[Na e];rfl
 refine ak (b:=true) (Np some (NH (NE i))) (ah (rh (NQ d)) ?_);refine h (by rw[OV];exact M1 (QG _ _) (Nat.le_pred_of_lt d)) a fun c a=>ah (hG (i:=i+1) d) ?_;refine h (by rw[N9];exact T7 (Ny (NJ i)) _) a fun c a=>?_;revert q;cases a' n (row.take i)with
 |none=>exact fun q=>ak (b:=true) rfl (ag (q c a))
 |some l=>
  refine fun q=>ak (b:=isNone (tt l)) rfl ?_;rw[iU];revert q;cases a' n (row.drop (i+1))with
  |none=>exact fun q=>ak (b:=true) rfl (ag (q c a))
  |some r=>exact fun q=>ak (b:=isNone (tt r)) rfl (by rw[iU];exact ah (aT f (by rw[M6];exact M1 j (by decide))) (ag (q c a)))
end
theorem Lj(n:Nat):∀(row:List Lt)(σ c:aa),row.length<=n->n<=1000->Le σ c->∀{Q:QV}{X:QX},(∀c,Le σ c->Q (tQ (a' n row)) c)->af (n+3) (.ref 872) [.lst (row.map lv)] c Q X:=by
 induction n with
 |zero=>intro row σ c o _ a Q X q;have e:=List.length_eq_zero_iff.mp (Nat.le_zero.mp o);subst e;exact B9 (ak (b:=true) rfl (ag (q c a)))
 |succ n p=>
  intro row σ c o l a Q X q;cases row with
  |nil=>exact B9 (ak (b:=true) rfl (ag (q c a)))
  |cons h f=>
   have p:ri n f.length σ:=fun{_ _ _ _} z a q=>p _ σ _ (M1 z (NI o)) (Nl l) a q;have r:(h::f).length<=1000:=M1 o l;clear o l;refine B9 (ak (b:=false) C0 ⟨_,by show sd (.int (((h::f).map lv).length:Nat))=_;rw[M6,lQ (M1 r (by decide)),RM];rfl,CZ (d:=n+2) (X:=ao X) (σ:=σ) (row:=h::f) (h0:=h) rfl r (h::f) [] 0 false none 3 none none c rfl a ?_⟩);have q:∀c,Le σ c->Q (tQ (n_ (a' n) h f (az h (h::f) 0 0 false none 3))) c:=q;have t:=kN (h0:=h) (h::f) 0 0 false none 3;rw[N5];revert q t;cases az h (h::f) 0 0 false none 3 with
   |none=>exact fun q _ C c a=>ag (q c a)
   |some z=>
    obtain⟨k,best⟩:=z;intro q t c x u D E a;have q:∀c,Le σ c->Q (tQ (if k≠0 then none else gF (a' n) h f best)) c:=q;refine fG (b:= !(k==0)) (fun g=>?_) fun g=>?_
    .rw[M8 (fun e=>by rw[e]at g;exact aK g)]at q;exact ag (q c a)
    have g:k=0:=N3 (by cases z:k==0;rw[z]at g;exact df g;rfl);rw[M5 (fun z=>z g)]at q;cases best with
    |some i=>apply bc;intro y;obtain⟨j,v,w,s,m,A⟩:=(t _ _ rfl).resolve_left (fun z=>aj z);apply y;rw[N1]at v;rw[←v]at w m;exact zC p r a w m (by rw[show s=oE ((h::f).getD i .here)by rw[Oy,m];rfl];exact q)
    |none=>exact ak (b:=false) rfl (zB p r a q)
end
noncomputable def mB:Tr->List Tr
 |.un _ b=>mB b
 |.bin _ l r=>mB l++mB r
 |t=>[t]
theorem fx:∀t,(mB t).length<=sz t
 |.num _|.name _|.here=>Nc _
 |.un _ b=>Ou (fx b)
 |.bin _ l r=>by show(mB l++mB r).length<=sz l+sz r+1;rw[M3];exact Ou (N8 (fx l) (fx r))
noncomputable def pV(s:List Nat)(a b:Int):Option Int:=
 if s=[47]\/s=[37] then(if b=0 then none else some (if s=[47] then(if a.fmod b≠0/\decide (a<0)≠decide (b<0)then a.fdiv b+1 else a.fdiv b)else a-b*(if a.fmod b≠0/\decide (a<0)≠decide (b<0)then a.fdiv b+1 else a.fdiv b)))
 else if s=[60,60]\/s=[62,62] then(if b<0\/63<b then none else some (if s=[60,60] then a*2^b.toNat else a.fdiv (2^b.toNat)))
 else some (if s=[42] then a*b else if s=[124] then a+b-OB a b else if s=[38] then OB a b else a+b-2*OB a b)
noncomputable def Mc(o:Option Int):PV:=match o with
 |none=> .none
 |some i=> .int i
section
variable{d:Nat}{σ:aa}{Q:QV}{X:QX}
theorem Lk(n:Nat):∀(t:Tr),sz t<=n->n<=2000->∀{Q:QV}{X:QX},Q (.lst ((mB t).map tt)) σ->af (n+1) (.ref 912) [tt t] σ Q X:=by
 induction n with
 |zero=>exact fun t h _ _ _ _=>absurd (dm t) (Nat.not_lt.mpr h)
 |succ n c=>
  intro t0;cases t0 with
  |num _=>exact fun h a Q X q=>vQ (ah rfl (ak (b:=false) rfl (ah rfl (ak (b:=false) rfl (ag q)))))
  |name _=>exact fun h a Q X q=>vQ (ah rfl (ak (b:=false) rfl (ah rfl (ak (b:=false) rfl (ag q)))))
  |here=>exact fun h a Q X q=>vQ (ah rfl (ak (b:=false) rfl (ah rfl (ak (b:=false) rfl (ag q)))))
  |un s b=>exact fun h a Q X q=>vQ (ah rfl (ak (b:=true) rfl (ah rfl (c b (NI h) (Nl a) (ag q)))))
  |bin s l r=>
   intro h a Q X q;have h':sz l+sz r<=n:=NI h;have d:sz l<=n:=M1 (Nh _ _) h';have e:sz r<=n:=M1 (Nr _ _) h';refine vQ (ah rfl (ak (b:=false) rfl (ah rfl (ak (b:=true) rfl (ah rfl (c l d (Nl a) (ah rfl (c r e (Nl a) ⟨?_,ag ?_⟩))))))))
   .rw[M6,M6];exact M1 (N8 (M1 (fx l) (M1 d (Nl a))) (M1 (fx r) (M1 e (Nl a)))) (by decide)
   .have q:Q (.lst ((mB l++mB r).map tt)) σ:=q;rw[NA]at q;exact q
theorem C1{m:Nat}{t:List Nat}{P:Option (List Tk)->Prop}(b:t.length<=2000)(L:ch t P)(c:P none->Q .none σ)(d:∀ks,P (some ks)->ks.length<=2000->∃o,eW m ks=some o/\match o with|none=>Q .none σ|some u=>Q (tv u) σ):
  af (m+9) (.ref 898) [.str t] σ Q X:=by
 refine J9 (FB (m:=m) b L (fun h=>⟨rfl,ag (c h)⟩) fun ks e f=>?_);obtain⟨o,g,a⟩:=d ks e f;refine⟨o,g,?_⟩;cases o with
 |none=>exact⟨rfl,ag a⟩
 |some u=>exact ag a
theorem Ll{e:Nat}{E:xm}(c:σ e=some (.dct (dv E)))(d:E.length<=100){n:Nat}{t:Tr}(h:sz t<=n)(f:n<=2000)(g:nU (bF E []) t)(q:Q (Mc ((bF E [] t).bind fun a=>if aP a=true then some a.w else none)) σ):af (n+10) (.ref 905) [tv t,.obj 703 [.ref e]] σ Q X:=by
 refine J_ (KT c d h f g ?_);cases b:((bF E [] t).bind fun a=>if aP a=true then some a.w else none)with
 |none=>rw[b]at q;exact⟨rfl,ag q⟩
 |some x=>rw[b]at q;exact ag q
theorem MZ:kU (.str s) (.tup [.str a,.str b]) σ=some (a==s||(b==s||false)):=rfl
theorem Lm{s:List Nat}{a b:Int}(ha:small a)(hb:small b)(hq:small (a.fdiv b))(hq1:small (a.fdiv b+1))(hand:small (OB a b))(hp:∀k:Nat,k<=63->small (2^k))(q:Q (Mc (pV s a b)) σ):af (d+1) (.ref 884) [.str s,.int a,.int b] σ Q X:=by
 unfold pV at q;refine J8 (fG (b:=[47]==s||([37]==s||false)) (fun h=>?_) fun h=>?_)
 .have h:s=[47]\/s=[37]:=by
   rcases Bool.or_eq_true_iff.mp h with h|h
   .exact .inl (N3 h).symm
   .rw[Rf]at h;exact .inr (N3 h).symm
  rw[M8 h]at q;refine Ch (fun e=>?_) fun e=>?_
  .rw[M8 e]at q;exact ag q
  rw[M5 e]at q;have fin:∀c,(if a.fmod b≠0/\decide (a<0)≠decide (b<0)then a.fdiv b+1 else a.fdiv b)=c->small c->ai d [MS.ret (.ite (.cmp .Eq (.loc 0) (.lit (.str [47]))) (.loc 3) (.bin .Sub (.loc 1) (.bin .Mult (.loc 2) (.loc 3))))] [some (.str s),some (.int a),some (.int b),some (.int c),some (.int (a.fmod b)),none] σ (fun o _ Z6=>aZ Q (o.getD .none) Z6) (ao X):=fun c e sm=>by
   rw[e]at q;refine eV (fun g=>?_) fun g=>⟨hb,sm,?_⟩
   .rw[M8 g]at q;exact ag q
   .rw[M5 g]at q;exact ag q
  refine⟨rfl,e,hb,⟨_,_,rfl,rfl,fG (b:= !(a.fmod b==0)) (fun g=>ak rfl (ak rfl (fG (b:= !(decide (a<0)==decide (b<0))) (fun g2=>fin _ (M8 ⟨?_,?_⟩) hq1) fun g2=>fin _ (M5 fun z=>z.2 ?_) hq))) fun g=>fin _ (M5 fun z=>z.1 ?_) hq⟩⟩
  .intro z;rw[z]at g;exact aK g
  .intro z;rw[z,Nx]at g2;exact aK g2
  .exact N3 (by cases z:(decide (a<0)==decide (b<0));rw[z]at g2;exact df g2;rfl)
  .exact N3 (by cases z:(a.fmod b==0);rw[z]at g;exact df g;rfl)
 have h:¬(s=[47]\/s=[37]):=fun z=>by rcases z with rfl|rfl<;>exact df h
 rw[M5 h]at q;refine fG (b:=[60,60]==s||([62,62]==s||false)) (fun h=>?_) fun h=>?_
 .have h:s=[60,60]\/s=[62,62]:=by
   rcases Bool.or_eq_true_iff.mp h with h|h
   .exact .inl (N3 h).symm
   .rw[Rf]at h;exact .inr (N3 h).symm
  rw[M8 h]at q;refine iR (p:=b<0) (fun g=>?_) fun g1=>iR (p:=63<b) (fun g=>?_) fun g2=>?_
  .rw[M8 (.inl g)]at q;exact ag q
  .rw[M8 (.inr g)]at q;exact ag q
  rw[M5 (fun z=>z.elim g1 g2)]at q;have h0:0<=b:=Int.not_lt.mp g1;have h64:b<=64:=OY (Int.not_lt.mp g2) (by decide);have hk:small (2^b.toNat):=hp _ (by have:=Int.not_lt.mp g2;lia);refine eV (fun g=>⟨rfl,h0,h64,ha,hk,?_⟩) fun g=>⟨rfl,h0,h64,?_,hk,?_⟩
  .rw[M8 g]at q;exact ag q
  .exact fun z=>absurd z (TJ (Int.pow_pos (by decide)))
  .rw[M5 g]at q;exact ag q
 have h:¬(s=[60,60]\/s=[62,62]):=fun z=>by rcases z with rfl|rfl<;>exact df h
 rw[M5 h]at q;refine eV (fun g=>?_) fun g=>?_
 .rw[M8 g]at q;exact⟨ha,hb,ag q⟩
 rw[M5 g]at q;refine eV (fun g=>?_) fun g=>?_
 .rw[M8 g]at q;exact ag q
 rw[M5 g]at q;refine eV (fun g=>?_) fun g=>?_
 .rw[M8 g]at q;exact ag q
 rw[M5 g]at q;exact⟨aG (x:=2) (n:=2) (by decide) (by decide),hand,ag q⟩
end
noncomputable def zD(a:Int)(c:Nat):Int:=a+(if([c]==[40])=true then 1 else 0)-(if([c]==[41])=true then 1 else 0)
noncomputable def dn:Int->List Nat->Prop
 |_,[]=>False
 |a,c::r=>(r=[]/\zD a c<=0)\/(0<zD a c/\dn (zD a c) r)
section
variable{d:Nat}{σ:aa}{Q:QV}{X:QX}
theorem jQ:∀(t:Tr)(n:Nat),sz t<=n->b_ (tt t) n=true
 |t,0,h=>absurd (dm t) (Nat.not_lt.mpr h)
 |.num _,n+1,_|.name _,n+1,_|.here,n+1,_=>rfl
 |.un s b,n+1,h=>by show(true&&(true&&(b_ (tt b) n&&true)))=true;rw[jQ b n (NI h)];rfl
 |.bin s l r,n+1,h=>by have h':sz l+sz r<=n:=NI h;show(true&&(true&&(b_ (tt l) n&&(b_ (tt r) n&&true))))=true;rw[jQ l n (M1 (Nh _ _) h'),jQ r n (M1 (Nr _ _) h')];rfl
theorem C2(a:sz t<=60)(b:sz u<=60):fM (tt t) (tt u) σ=some (fC (tt t) (tt u)):=by
 have s1:∀t,(tt t).seen σ=tt t:=fun t=>by cases t<;>rfl
 have b1:i_ (tt t)=none:=by cases t<;>rfl
 unfold fM;rw[s1,s1,b1];show(if(b_ (tt t) 60&&b_ (tt u) 60)=true then _ else _)=_;rw[jQ t 60 a,jQ u 60 b];rfl
theorem lS(t:Tr):isNone (tv t)=false:=by cases t<;>rfl
theorem C3{x:List Nat}{g:Nat}{T:PV}(u:x.length<=1000000){K:QS}(m:List Nat):∀(r:List Nat)(f:Int)(e:Nat),(0<f\/e=g)->g<=e->x.drop e=m++r->dn f m->(∀f,K none [some (.str x),some (.int g),some T,some (.int f),some (.int ↑(e+m.length)),none,none,none] σ)->bD (fun i σ K'=>fT d (cw tH 2) i σ K' X) (fun i σ K'=>ai d (ax tH 2) i σ K' X) (m.length+1) [some (.str x),some (.int g),some T,some (.int f),some (.int e),none,none,none] σ K:=by
 induction m with
 |nil=>exact fun r f e _ _ _ j _=>j.elim
 |cons c m w=>
  intro r f e h0 n y j k;have l:x.drop e=c::(m++r):=y;have t:=ca l;have body:ai d (ax tH 2) [some (.str x),some (.int g),some T,some (.int f),some (.int e),none,none,none] σ (fun o q s=>match o with|some v=>K (some v) q s|none=>bD (fun i σ K'=>fT d (cw tH 2) i σ K' X) (fun i σ K'=>ai d (ax tH 2) i σ K' X) (m.length+1) q s K) X:=by
   refine ah (aS l u) (ak (b:=[c]==[40]) rfl (ah (aS l u) (ak (b:=[c]==[41]) rfl ?_)));rcases j with⟨rfl,j⟩|⟨A,j⟩
   .exact iR (p:=(0:Int)<zD f c) (fun z=>absurd z (Int.not_lt.mpr j)) fun _=>ec (a:=e+1) (b:=g) (fun z=>absurd n (Nat.not_le.mpr (z▸NR e))) fun _=>k _
   .exact w r (zD f c) (e+1) (.inl A) (Ou n) t j fun f=>by have z:=k f;rw[Nt,Of m.length,←N7]at z;exact z
  refine iR (p:=(0:Int)<f) (fun _=>body) fun h=>?_;exact ec (a:=e) (b:=g) (fun _=>body) fun z=>absurd (h0.resolve_left h) z
theorem Ln{n:Nat}{x:List Nat}{a:Nat}{T:Tr}{m r:List Nat}{P:Option (List Tk)->Prop}(k:x.length<=2000)(e:x.drop a=m++r)(p:dn 0 m)(q:2<=m.length)(s:sz T<=60)(t:60<=n)(i:n<=1900)
  (L:ch (x.take a++(m.drop 1).dropLast++r) P) (v:P none->Q (.bool false) σ)
  (w:∀ks,P (some ks)->ks.length<=2000->∃o,eW n ks=some o/\match o with|none=>Q (.bool false) σ|some u=>sz u<=60/\Q (.bool (fC (tt u) (tt T))) σ):af (n+10) (.ref 919) [.str x,.int a,tt T] σ Q X:=by
 have j:x.length<=1000000:=M1 k (by decide);have l:m.length+r.length<=2000:=by have:=Np RP e;rw[N9,M3]at this;lia
 have f:a<=x.length:=by have:=Np RP e;rw[N9,M3]at this;lia
 have s1:∀c,fE (.str x) .none (.int a) c=some (.str (x.take a)):=fun c=>by show some (PV.str ((x.drop 0).take (OZ x.length a-0)))=_;rw[cJ,OF f];rfl
 have y:((a+m.length:Nat):Int)-1=((a+1+(m.length-2):Nat):Int):=by lia
 have s2:∀c,fE (.str x) (.int ((a:Int)+1)) (.int (((a+m.length:Nat):Int)-1)) c=some (.str ((m.drop 1).dropLast)):=fun c=>by rw[y];show fE (.str x) (.int ((a+1:Nat):Int)) _ c=_;rw[vS,←OO,e,TI,N9,List.drop_append_of_le_length (Nl q),SA (by rw[N9];lia)];rfl
 have s3:∀c,fE (.str x) (.int ((a+m.length:Nat):Int)) .none c=some (.str r):=fun c=>by rw[nO,←OO,e,PE]
 have F:(x.take a).length<=2000:=M1 (by rw[OV];exact Rm _ _) k;have H:((m.drop 1).dropLast).length+2=m.length:=by rw[TQ,N9];lia
 have z:(x.take a++(m.drop 1).dropLast++r).length<=2000:=by have:=Np RP e;rw[N9,M3]at this;rw[M3,M3,OV,OF f];lia
 refine J' ⟨_,C3 (d:=n+9) (X:=ao X) j m r 0 a (.inr rfl) (Nc _) e p fun A=>?_⟩;refine ah (s1 _) (ah (s2 _) ⟨?_,ah (s3 _) ⟨?_,C1 (m:=n) z L (fun h=>?_) fun ks C D=>?_⟩⟩)
 .exact M1 (show _<=4000 by lia) (by decide)
 .rw[M3];exact M1 (show _<=6000 by lia) (by decide)
 .exact ak (b:=false) rfl ⟨false,rfl,ag (v h)⟩
 .obtain⟨o,E,g⟩:=w ks C D;refine⟨o,E,?_⟩;cases o with
  |none=>exact ak (b:=false) rfl ⟨false,rfl,ag g⟩
  |some u=>refine ak (b:= !(isNone (tv u))) rfl ?_;rw[lS];refine⟨true,rfl,tL (jJ (n+8) u (M1 g.1 (M1 t (Nh _ _))) (M1 (NF i 8) (by decide)) (ak (C2 g.1 s) (ag g.2)))⟩
end
noncomputable abbrev cX:=List (List Nat×Int)
noncomputable def pp(p:List Nat×Int):PV:= .tup [.str p.1,.int p.2]
noncomputable def wp(w:Int)(a:cX):PV:= .tup [.int w,.tup (a.map pp)]
noncomputable def iv(kv:cX):List (List Nat×PV):=kv.map fun p=>(p.1,.int p.2)
noncomputable def rj(kv:cX)(n:List Nat):Option Int:=(kv.find? fun p=>p.1=n).map (·.2)
noncomputable def aH(kv:cX)(n:List Nat):Int:=(rj kv n).getD 0
noncomputable def pW(kv:cX)(k:List Nat)(v:Int):cX:=if kv.any (fun p=>p.1=k)then kv.map (fun p=>if p.1=k then(p.1,v)else p)else kv++[(k,v)]
theorem wk(n:List Nat)(kv:cX):i9 (iv kv) n=(rj kv n).map .int:=by
 induction kv with
 |nil=>exact rfl
 |cons x E a=>
  have a:=a;unfold i9 rj at a⊢;show((T9 _ ((x.1,PV.int x.2)::iv E)).map _)=_;by_cases h:x.1=n
  .rw[Oa (by simpa using h),Oa (by simpa using h)];rfl
  .rw[N2 (by simpa using h),N2 (by simpa using h)];exact a
theorem C4(kv:cX)(k:List Nat)(v:Int):rX (iv kv) k (.int v)=iv (pW kv k v):=by
 unfold rX pW;have e:(iv kv).any (fun p=>decide (p.1=k))=kv.any (fun p=>decide (p.1=k)):=by unfold iv;rw[List.any_map];rfl
 rw[e];cases kv.any fun p=>decide (p.1=k)with
 |false=>show iv kv++[(k,.int v)]=iv (kv++[(k,v)]);unfold iv;rw[NA];rfl
 |true=>
  show(iv kv).map _=iv (kv.map _);unfold iv;rw[Oq,Oq];refine OR fun p a=>?_;show(if p.1=k then(p.1,PV.int v)else(p.1,PV.int p.2))=_;by_cases h:p.1=k
  .rw[M8 h];show _=((if p.1=k then(p.1,v)else p).1,PV.int (if p.1=k then(p.1,v)else p).2);rw[M8 h]
  .rw[M5 h];show _=((if p.1=k then(p.1,v)else p).1,PV.int (if p.1=k then(p.1,v)else p).2);rw[M5 h]
theorem e5:∀{kv:cX},n∉kv.map (·.1)->rj kv n=none
 |[],_=>rfl
 |x::E,h=>by have a:x.1≠n:=fun e=>h (by rw[←e];exact M_ ..);unfold rj;rw[N2 (by simpa using a)];exact e5 (kv:=E) fun z=>h (Nb _ z)
theorem oa(kv:cX)(k:List Nat)(v:Int):(pW kv k v).map (·.1)=if k∈kv.map (·.1)then kv.map (·.1)else kv.map (·.1)++[k]:=by
 unfold pW;by_cases h:k∈kv.map (·.1)
 .rw[M8 h,M8 (by refine i8 h fun p a e=>?_;exact List.any_eq_true.mpr ⟨p,a,by simpa using e⟩),Oq];refine OR fun p a=>?_;show(if p.1=k then(p.1,v)else p).1=p.1;split<;>rfl
 .rw[M5 h,M5 (fun z=>by obtain⟨p,a,e⟩:=List.any_eq_true.mp z;exact h (List.mem_map.mpr ⟨p,a,by simpa using e⟩)),NA];rfl
theorem zF(kv:cX)(k:List Nat)(v:Int)(n:List Nat)(h:k∉kv.map (·.1)):aH (kv++[(k,v)]) n=if n=k then v else aH kv n:=by
 unfold aH rj;rw[List.find?_append];by_cases e:n=k
 .subst e;have:rj kv n=none:=e5 h;unfold rj at this;rw[Option.map_eq_none_iff.mp this,M8 rfl];rw[Option.none_or,Oa (by simp)];rfl
 .rw[M5 e];have:[(k,v)].find? (fun p=>decide (p.1=n))=none:=by rw[N2 (by simpa using NT e)];rfl
  rw[this,Option.or_none]
theorem zJ(k:List Nat)(v:Int)(n:List Nat)(kv:cX):(k∈kv.map (·.1))->aH (kv.map (fun p=>if p.1=k then(p.1,v)else p)) n=if n=k then v else aH kv n:=by
 induction kv with
 |nil=>exact fun h=>absurd h Nq
 |cons x E d=>
  intro h;unfold aH rj;rw[NO];by_cases b:x.1=k
  .rw[M8 b];by_cases a:n=k
   .rw[M8 a,Oa (by simpa using b.trans a.symm)];rfl
   .have:¬x.1=n:=fun e=>a (e▸b);rw[M5 a,N2 (by simpa using this),N2 (by simpa using this)];by_cases c:k∈E.map (·.1)
    .have z:=d c;rw[M5 a]at z;exact z
    .have:E.map (fun p=>if p.1=k then(p.1,v)else p)=E:=by
      conv=>rhs;rw[←RN E]
      refine OR fun p f=>?_;rw[M5 (fun e=>c (List.mem_map.mpr ⟨p,f,e⟩))];rfl
     rw[this]
  .rw[M5 b];have c:k∈E.map (·.1):=by cases h with|head=>exact absurd rfl b|tail _ z=>exact z
   by_cases a:x.1=n
   .rw[Oa (by simpa using a),Oa (by simpa using a),M5 (fun e=>b (a.trans e))]
   .rw[N2 (by simpa using a),N2 (by simpa using a)];exact d c
theorem zK(kv:cX)(k:List Nat)(v:Int)(n:List Nat):aH (pW kv k v) n=if n=k then v else aH kv n:=by
 unfold pW;by_cases h:k∈kv.map (·.1)
 .rw[M8 (by refine i8 h fun p a e=>?_;exact List.any_eq_true.mpr ⟨p,a,by simpa using e⟩)];exact zJ k v n kv h
 .rw[M5 (fun z=>by obtain⟨p,a,e⟩:=List.any_eq_true.mp z;exact h (List.mem_map.mpr ⟨p,a,by simpa using e⟩))];exact zF kv k v n h
noncomputable def hH(t:Int)(kv:cX)(p:List Nat×Int):cX:=pW kv p.1 (aH kv p.1+t*p.2)
theorem wl(t:Int)(n:List Nat)(ps:cX):∀(kv:cX),(ps.map (·.1)).Nodup->aH (ps.foldl (hH t) kv) n=aH kv n+t*aH ps n:=by
 induction ps with
 |nil=>intro kv _;have:aH [] n=0:=rfl;rw[this,Vw,Ry];rfl
 |cons p ps b=>
  intro kv h;rw[NO,Pd]at h;rw[Rx,b _ h.2];unfold hH;rw[zK];by_cases e:n=p.1
  .rw[M8 e,←e];have c:aH ps n=0:=by unfold aH;rw[e5 (e▸h.1)];rfl
   have a:aH (p::ps) n=p.2:=by unfold aH rj;rw[Oa (by simpa using e.symm)];rfl
   rw[c,a,Vw,Ry]
  .rw[M5 e];have a:aH (p::ps) n=aH ps n:=by unfold aH rj;rw[N2 (by simpa using NT e)]
   rw[a]
theorem tN(t:Int)(ps:cX):∀(kv:cX),(kv.map (·.1)).Nodup->((ps.foldl (hH t) kv).map (·.1)).Nodup/\(ps.foldl (hH t) kv).length<=kv.length+ps.length:=by
 induction ps with
 |nil=>
  exact fun kv h=>⟨h,Nc _⟩
 |cons p ps f=>
  intro kv h;have c:=oa kv p.1 (aH kv p.1+t*p.2);have i:((hH t kv p).map (·.1)).Nodup:=by
   unfold hH;rw[c];split
   .exact h
   .rename_i g;exact List.nodup_append.mpr ⟨h,P6 _ _,fun a j b d e=>g (by simp at d;rw[←d,←e];exact j)⟩
  have k:(hH t kv p).length<=kv.length+1:=by
   have:=Np RP c;rw[M6]at this;unfold hH;rw[this];split
   .rw[M6];exact Oc _
   .rw[M3,M6];exact Nc _
  obtain⟨a,b⟩:=f _ i;exact⟨a,M1 b (by rw[Nt];lia)⟩
noncomputable def oc(a:cX):Int:=((a.filter fun p=>decide (0<p.2)).map (·.2)).sum
noncomputable def og(a:cX):Int:=((a.filter fun p=>decide (p.2<0)).map (·.2)).sum
structure dT(prs:cX)(f:List Nat->Int):Prop where
 nd:(prs.map (·.1)).Nodup
 st:(prs.map (·.1)).Pairwise fun a b=>¬b<a
 mem:∀n,n∈prs.map (·.1)↔f n≠0
 val:∀p∈prs,p.2=f p.1
noncomputable def zO(w:Int)(a:cX):PV:=if 1<oc a\/og a< -1 then .none else wp w a
theorem ik(a:List Int):cx (a.map .int)=some a:=by
 induction a with
 |nil=>rfl
 |cons i r b=>show(cx (r.map .int)).map _=_;rw[b];rfl
theorem C5(h:n<=1000):n<aU:=M9 h (by decide)
theorem wm{a b:Type}{acc:List a}{r:List b}{x:a}{n:Nat}(h:acc.length+(r.length+1)<=n):(acc++[x]).length+r.length<=n:=by rw[M3,N7,Of [x].length];exact h
section
variable{d a:Nat}{σ:aa}{Q:QV}{X:QX}
theorem MV(h:σ a=some (.dct kvs))(b:m=4):xj (.ref a) m σ:=by show(match σ a with|some (.lst _)=>m<4|some (.dct _)=>m=4|_=>False);rw[h];exact b
theorem wn(h:σ a=some (.dct kvs)):rY σ (.ref a)=none:=by show(match σ a with|some (.lst kvs)=>some (a,kvs)|_=>none)=_;rw[h]
theorem MW(h:σ a=some (.dct (iv kv)))(k:Q (.int (aH kv n)) σ):xi (.ref a) 4 [.str n,.int 0] σ Q:=by
 unfold xi;rw[wn h,ef h];refine⟨rfl,?_⟩;show Q ((i9 (iv kv) n).getD (.int 0)) σ;have:(i9 (iv kv) n).getD (.int 0)= .int (aH kv n):=by rw[wk];unfold aH;cases rj kv n<;>rfl
 rw[this];exact k
theorem F0{kvs:List (List Nat×PV)}(h:σ a=some (.dct kvs))(k:mF (kvs.map (·.1)) σ Q):dY (.ref a) σ Q:=by unfold dY;rw[kJ h];show dJ (fQ σ (.ref a)) _;exact tY (ef h) k
theorem C6{kvs:List (List Nat×PV)}{s:List Nat}{v:PV}{K:aa->Prop}(h:σ a=some (.dct kvs))(b:kvs.length<aU)(k:K (σ.upd a (.dct (rX kvs s v)))):qn (.ref a) (.str s) v σ K:=by show(match σ a with|some (.dct kvs)=>_|_=>False);rw[h];exact⟨b,k⟩
theorem lT(kv:cX):(iv kv).map (·.1)=kv.map (·.1):=by unfold iv;rw[Oq];rfl
noncomputable abbrev F1(o w:PV)(t:Int)(a:Nat)(b c d:Option PV):ar:=[some o,some w,some (.int t),some (.ref a),b,c,d,none,none,none,none]
theorem wo(t:Int)(kv:cX)(p:List Nat×Int):(hH t kv p).length<=kv.length+1:=by
 have h:=Np RP (oa kv p.1 (aH kv p.1+t*p.2));rw[M6]at h;unfold hH;rw[h];split
 .rw[M6];exact Oc _
 .rw[M3,M6];exact Nc _
theorem C7(f:small t){K:QS}(ps:cX):∀{kv:cX}{b c:Option PV},(∀p∈ps,small p.2)->kv.length+ps.length<=1000->
  (∀b c,K none (F1 o w t a b c none) (σ.upd a (.dct (iv (ps.foldl (hH t) kv)))))->
  bt (fun g σ K'=>ai d (ax EY 1) g σ K' X) [4,5] (ps.map pp) (F1 o w t a b c none) (σ.upd a (.dct (iv kv))) K:=by
 induction ps with
 |nil=>exact fun _ _ k=>k _ _
 |cons p ps h=>intro kv b c hs e k;refine⟨_,rfl,MV (aa.uS ..) rfl,MW (aa.uS ..) ⟨f,hs p (M_ ..),C6 (aa.uS ..) (by unfold iv;rw[M6];exact C5 (M1 (Nh _ _) e)) ?_⟩⟩;rw[aa.uU,C4];exact h (kv:=hH t kv p) (fun q i=>hs q (Nb _ i)) (M1 (NF (wo t kv p) _) (by rw[N7,Of 1];exact e)) k
theorem C8{kv:cX}(h:σ a=some (.dct (iv kv))){s:List Nat}(hs:s∈kv.map (·.1)):bk (.ref a) (.str s) σ=some (.int (aH kv s)):=by
 apply bc;intro b;refine i8 hs fun q d e=>?_;apply b;refine wi h ?_;rw[wk];unfold aH;cases g:rj kv s with
 |some c=>rfl
 |none=>exact absurd (NH e) (List.find?_eq_none.mp (Option.map_eq_none_iff.mp g) q d)
theorem zP{kv:cX}(h:σ a=some (.dct (iv kv))){P:List PV->aa->Prop}(ss:List (List Nat)):∀{acc:cX}{v:Option PV},(∀n∈ss,n∈kv.map (·.1))->acc.length+ss.length<=1000->
  P ((acc++(ss.filter fun n=>decide (aH kv n≠0)).map fun n=>(n,aH kv n)).map pp) σ->
  dK (fun i j K=>ja d [.cmp .NotEq (.idx (.loc 2) (.loc 1)) (.lit (.int 0))] i j (fun t c=>match t with
    |true=>cR d (.tup [.loc 1,.idx (.loc 2) (.loc 1)]) i c (fun v f=>K (some v) f) (fun _ _=>False)
    |false=>K none c) (fun _ _=>False)) [1] (ss.map .str) [none,v,some (.ref a)] (acc.map pp) σ P:=by
 induction ss with
 |nil=>intro acc v _ _ p;rw[QB,Rr,Nv]at p;exact p
 |cons s r l=>
  intro acc v m k p;have o:=C8 h (m s (M_ ..));have q:=fun n u=>m n (Nb _ u);refine⟨_,rfl,by rw[M6];exact C5 (M1 (Nh _ _) k),ah o (fG (b:= !(aH kv s==0)) (fun g=>?_) fun g=>?_)⟩
  .have g:decide (aH kv s≠0)=true:=NH fun e=>by rw[e]at g;exact aK g
   rw[N_ (p:=fun n=>decide (aH kv n≠0)) g,NO,Us]at p;refine ah o ?_;have z:=l (v:=some (.str s)) q (wm k) p;rw[NA]at z;exact z
  .have g:¬decide (aH kv s≠0)=true:=fun e=>NW e (N3 (by cases z:aH kv s==0;rw[z]at g;exact df g;rfl));rw[Pk (p:=fun n=>decide (aH kv n≠0)) g]at p;exact l q (M1 (NG (Oc _) _) k) p
theorem wq{f:Int->Bool}(h:∀z,eJ k (.int z) (.int 0) σ=some (f z)){P:List PV->aa->Prop}(a:cX):∀{acc:List Int}{u v:Option PV},acc.length+a.length<=1000->P ((acc++(a.filter fun p=>f p.2).map (·.2)).map .int) σ->
  dK (fun e i K=>ja d [.cmp k (.loc 2) (.lit (.int 0))] e i (fun m b=>match m with
    |true=>cR d (.loc 2) e b (fun v c=>K (some v) c) (fun _ _=>False)
    |false=>K none b) (fun _ _=>False)) [1,2] (a.map pp) [none,u,v] (acc.map .int) σ P:=by
 induction a with
 |nil=>intro acc u v _ p;rw[QB,Rr,Nv]at p;exact p
 |cons s r l=>
  intro acc u v j p;refine⟨_,rfl,by rw[M6];exact C5 (M1 (Nh _ _) j),ak (h s.2) ?_⟩;cases g:f s.2 with
  |true=>rw[N_ (p:=fun p:List Nat×Int=>f p.2) g,NO,Us]at p;have z:=l (u:=some (.str s.1)) (v:=some (.int s.2)) (wm j) p;rw[NA]at z;exact z
  |false=>rw[Pk (p:=fun p:List Nat×Int=>f p.2) (by rw[g];exact aK)]at p;exact l (M1 (NG (Oc _) _) j) p
theorem F2{kv:cX}{f:List Nat->Int}{ss:List (List Nat)}(nd:(kv.map (·.1)).Nodup)(i:∀n,aH kv n=f n)(d:ss.Perm (kv.map (·.1)))(j:ss.Pairwise fun a b=>¬b<a):dT ((ss.filter fun n=>decide (aH kv n≠0)).map fun n=>(n,aH kv n)) f:=by
 have c:((ss.filter fun n=>decide (aH kv n≠0)).map fun n=>(n,aH kv n)).map (·.1)=ss.filter fun n=>decide (aH kv n≠0):=by rw[Oq];exact RN _
 refine⟨by rw[c];exact(d.nodup_iff.mpr nd).filter _,by rw[c];exact j.filter _,fun n=>?_,fun p d=>?_⟩
 .rw[c,UC,←i n,Ox];exact⟨fun h=>h.2,fun h=>⟨d.mem_iff.mpr (NM fun g=>h (by unfold aH;rw[e5 g];rfl)),h⟩⟩
 .refine i8 d fun n _ e=>?_;rw[←e];exact i n
theorem F3{w1 o t:Int}{p1 e:cX}(u:small t)(y:small o)(hs:∀p∈e,small p.2)(r:p1.length+e.length<=60)(v:(p1.map (·.1)).Nodup)(A:(e.map (·.1)).Nodup)
  (q:∀b,dT b (fun n=>aH p1 n+t*aH e n)->Q (zO (w1+t*o) b) σ):af (d+1) (.ref 877) [wp w1 p1,wp o e,.int t] σ Q X:=by
 have c:=tN t e p1 v;refine J7 (ah rfl ⟨iv p1,by unfold iv;rw[Oq];rfl,by rw[lT];exact v,fun a s=>⟨rfl,ah rfl ⟨_,rfl,C7 u e hs (M1 r (by decide)) fun D E=>?_⟩⟩⟩);generalize k:e.foldl (hH t) p1=kv at c;have w:∀n,aH kv n=aH p1 n+t*aH e n:=fun n=>by rw[←k];exact wl t n e p1 A
 have x:(σ.upd a (.dct (iv kv))) a=some (.dct (iv kv)):=aa.uS ..;clear hs;rw[←lT]at c;refine F0 x ⟨by rw[M6];unfold iv;rw[M6];exact M9 (M1 c.2 r) (by decide),fun ss l m=>?_⟩;rw[lT]at l c;have j:ss.length<=60:=by rw[l.length_eq,M6];exact M1 c.2 r
 refine⟨_,rfl,zP x ss (acc:=[]) (fun n C=>l.mem_iff.mp C) (by rw[N5,N1];exact M1 j (by decide)) ?_⟩;have q:=q _ (F2 c.1 w l m);rw[O1];have i:((ss.filter fun n=>decide (aH kv n≠0)).map fun n=>(n,aH kv n)).length<=1000:=by rw[M6];exact M1 (TG _ _) (M1 j (by decide))
 generalize((ss.filter fun n=>decide (aH kv n≠0)).map fun n=>(n,aH kv n))=b at q i⊢;clear l m j c w k;rw[←N1 b.length]at i;unfold zO at q;refine⟨_,rfl,wq (f:=fun z=>decide (0<z)) (fun _=>rfl) b (acc:=[]) i (tY (ik _) (iR (p:=1<oc b) (fun g=>?_) fun g=>⟨_,rfl,wq (f:=fun z=>decide (z<0)) (fun _=>rfl) b (acc:=[]) i (tY (ik _) (iR (p:=og b< -1) (fun g2=>?_) fun g2=>?_))⟩))⟩
 .rw[M8 (.inl g)]at q;exact .val (ed _ s) q
 .rw[M8 (.inr g2)]at q;exact .val (ed _ s) q
 .rw[M5 (fun h=>h.elim g g2)]at q;exact ah rfl (ah rfl ⟨u,y,.val (ed _ s) q⟩)
end
noncomputable abbrev Wt:=Int×cX
noncomputable abbrev KV:=List (List Nat×Wt)
noncomputable def DU(K:KV):List (List Nat×PV):=K.map fun x=>(x.1,wp x.2.1 x.2.2)
noncomputable def DV(K:KV)(n:List Nat):Option Wt:=(K.find? fun x=>x.1=n).map (·.2)
theorem lU(n:List Nat):∀K:KV,i9 (DU K) n=(DV K n).map fun x=>wp x.1 x.2
 |[]=>rfl
 |x::E=>by
  have a:=lU n E;unfold i9 DV at a⊢;show((T9 _ ((x.1,wp x.2.1 x.2.2)::DU E)).map _)=_;by_cases h:x.1=n
  .rw[Oa (by simpa using h),Oa (by simpa using h)];rfl
  .rw[N2 (by simpa using h),N2 (by simpa using h)];exact a
noncomputable def zQ(a b:Wt)(t:Int)(r:Option Wt):Prop:=∃c,dT c (fun n=>aH a.2 n+t*aH b.2 n)/\r=if 1<oc c\/og c< -1 then none else some (a.1+t*b.1,c)
noncomputable def Lo(s:List Nat)(o r:Option Wt):Prop:=match o with
 |none=>r=none
 |some x=>if s=[45] then zQ (0,[]) x (-1) r else if x.2≠[] then r=none else r=some (if s=[126] then -x.1-1 else if x.1=0 then 1 else 0,[])
noncomputable def C9(s:List Nat)(a b r:Option Wt):Prop:=match a,b with
 |some x,some y=>if s=[43]\/s=[45] then zQ x y (if s=[43] then 1 else -1) r else if x.2≠[]\/y.2≠[] then r=none else r=(pV s x.1 y.1).map fun i=>(i,[])
 |_,_=>r=none
noncomputable def WR(K:KV)(here:List Nat):Tr->Option Wt->Prop
 |.num n,r=>r=some (n,[])
 |.name s,r=>r=some ((DV K s).getD (0,[(s,1)]))
 |.here,r=>r=if here=[] then none else some (0,[(here,1)])
 |.un s b,r=>∃o,WR K here b o/\Lo s o r
 |.bin s l r',r=>∃a b,WR K here l a/\WR K here r' b/\C9 s a b r
noncomputable def pX(p:Tr->Prop):Tr->Prop
 |.un s b=>p (.un s b)/\pX p b
 |.bin s l r=>p (.bin s l r)/\pX p l/\pX p r
 |t=>p t
theorem pX.top{p:Tr->Prop}:∀{t:Tr},pX p t->p t
 |.num _,h|.name _,h|.here,h=>h
 |.un _ _,h=>h.1
 |.bin _ _ _,h=>h.1
structure PS(p:cX):Prop where
 nd:(p.map (·.1)).Nodup
 l:p.length<=30
 s:∀q∈p,small q.2
noncomputable def Me(r:Option Wt):PV:=match r with
 |none=> .none
 |some x=>wp x.1 x.2
structure Mf(a b:Int):Prop where
 sa:small a
 sb:small b
 q:small (a.fdiv b)
 q1:small (a.fdiv b+1)
 n:small (OB a b)
section
variable{σ:aa}{e:Nat}{K:KV}{here:List Nat}
theorem wt:zO w a=Me (if 1<oc a\/og a< -1 then none else some (w,a)):=by unfold zO;split<;>rfl
theorem pY{p:cX}{a:aa}(h:p.length<=30):fM (.tup (p.map pp)) (.tup []) a=some p.isEmpty:=by
 have:∀p:cX,bb (p.map pp) 59=true:=fun p=>by induction p with|nil=>rfl|cons x r b=>exact b
 show(if(bb (p.map pp) 59&&true)=true then some (dX (p.map pp) [])else _)=_;rw[this p];cases p<;>rfl
theorem pZ{p:cX}{a:aa}(h:p.length<=30):eJ .NotEq (.tup (p.map pp)) (.tup []) a=some (!p.isEmpty):=by show(fM _ _ _).map _=_;rw[pY h];rfl
theorem wu:small 1:=aG (n:=1) (by decide) (by decide)
theorem rm:small (-1):=aG (n:=1) (by decide) (by decide)
noncomputable abbrev Lp(K:KV)(here:List Nat)(u:Tr):Prop:=(∀w p,WR K here u (some (w,p))->small w/\PS p)/\(∀s l r,u= .bin s l r->∀x y,WR K here l (some x)->WR K here r (some y)->Mf x.1 y.1)
theorem F4(Y:σ e=some (.dct (DU K)))(M:∀k:Nat,k<=63->small (2^k))(n:Nat):∀(t:Tr),sz t<=n->n<=2000->pX (Lp K here) t->∀{Q:QV}{X:QX},(∀r,WR K here t r->Q (Me r) σ)->af (n+2) (.ref 891) [tt t,.ref e,.str here] σ Q X:=by
 induction n with
 |zero=>exact fun t h _ _ _ _ _=>absurd (dm t) (Nat.not_lt.mpr h)
 |succ n O=>
 intro t;cases t with
 |num k=>intro h j a Q X q;exact vP (ah rfl (ak (b:=true) rfl (ah rfl (ag (q _ rfl)))))
 |name s=>
  intro h j a Q X q;refine vP (ah rfl (ak (b:=false) rfl (ah rfl (ak (b:=true) rfl (ah rfl (ak (FV Y) ?_))))));have q:=q _ rfl;rw[lU];cases g:DV K s with
  |none=>rw[g]at q;exact ah rfl (ag q)
  |some x=>rw[g]at q;exact ah rfl (ah (wi Y (by rw[lU,g];rfl)) (ag q))
 |here=>
  intro h j a Q X q;refine vP (ah rfl (ak (b:=false) rfl (ah rfl (ak (b:=false) rfl (ah rfl (ak (b:=true) rfl (iD (fun g=>?_) fun g=>?_)))))))
  .have q:=q none (by show none=_;rw[M8 g]);exact ag q
  .have q:=q (some (0,[(here,1)])) (by show _=_;rw[M5 g]);exact ag q
 |un s b=>
  intro h j a Q X q;refine vP (ah rfl (ak (b:=false) rfl (ah rfl (ak (b:=false) rfl (ah rfl (ak (b:=false) rfl (ah rfl (ak (b:=true) rfl (ah rfl (O b (NI h) (Nl j) a.2 fun o Z=>?_))))))))));have q:=fun r (hr:Lo s o r)=>q r ⟨o,Z,hr⟩;cases o with
  |none=>exact ak (b:=true) rfl (ag (q none rfl))
  |some y=>
   obtain⟨w,p⟩:=y;obtain⟨sw,E⟩:=a.2.top.1 w p Z;refine ak (b:=false) rfl (ah rfl (eV (fun g=>?_) fun g=>?_))
   .refine F3 (p1:=[]) (w1:=0) (t:= -1) rm sw E.s (by rw[N5,N1];exact M1 E.l (by decide)) Q0 E.nd fun m c=>ag ?_;rw[wt];exact q _ (by show(if s=[45] then _ else _);rw[M8 g];exact⟨m,c,rfl⟩)
   .refine ah rfl (ak (pZ E.l) ?_);cases f:p with
    |cons x y=>subst f;exact ag (q none (by show(if s=[45] then _ else if _ then _ else _);rw[M5 g,M8 (NP _ _)]))
    |nil=>
     subst f;have q:=q _ (by show(if s=[45] then _ else if _ then _ else _);rw[M5 g,M5 (fun z=>z rfl)]);refine ah rfl (eV (fun g2=>?_) fun g2=>ah rfl (Ch (fun g3=>?_) fun g3=>?_))
     .rw[M8 g2]at q;exact ah rfl (ag q)
     .rw[M5 g2,M8 g3]at q;exact ag q
     .rw[M5 g2,M5 g3]at q;exact ag q
 |bin s l r=>
  intro h j a Q X q;have h':sz l+sz r<=n:=NI h;refine vP (ah rfl (ak (b:=false) rfl (ah rfl (ak (b:=false) rfl (ah rfl (ak (b:=false) rfl (ah rfl (ak (b:=false) rfl (ah rfl (O l (M1 (Nh _ _) h') (Nl j) a.2.1 fun o1 u=>
   ah rfl (O r (M1 (Nr _ _) h') (Nl j) a.2.2 fun F A=>?_)))))))))))
  have q:=fun z (H:C9 s o1 F z)=>q z ⟨o1,F,u,A,H⟩;cases o1 with
  |none=>exact ak (b:=true) rfl (ag (q none (by cases F<;>rfl)))
  |some y1=>
  obtain⟨w1,p1⟩:=y1;cases F with
  |none=>exact ak (b:=false) rfl (ak (b:=true) rfl (ag (q none rfl)))
  |some y2=>
   obtain⟨L,P⟩:=y2;obtain⟨a5,C⟩:=a.2.1.top.1 w1 p1 u;obtain⟨V,d⟩:=a.2.2.top.1 L P A;have D:Mf w1 L:=a.1.2 s l r rfl _ _ u A;refine ak (b:=false) rfl (ak (b:=false) rfl (ah rfl (fG (b:=[43]==s||([45]==s||false)) (fun g=>?_) fun g=>?_)))
   .have g:s=[43]\/s=[45]:=by
     rcases Bool.or_eq_true_iff.mp g with h|h
     .exact .inl (N3 h).symm
     .rw[Rf]at h;exact .inr (N3 h).symm
    have go:∀t,(if s=[43] then 1 else -1)=t->small t->af (n+2) (.ref 877) [wp w1 p1,wp L P,.int t] σ (fun v W=>aZ Q v W) (ao X):=fun t et st=>
     F3 st V d.s (M1 (N8 C.l d.l) (by decide)) C.nd d.nd fun m c=>ag (by
      rw[wt];exact q _ (by show(if s=[43]\/s=[45] then _ else _);rw[M8 g,et];exact⟨m,c,rfl⟩))
    exact ah rfl (eV (fun g2=>go 1 (M8 g2) wu) fun g2=>go (-1) (M5 g2) rm)
   have g:¬(s=[43]\/s=[45]):=fun z=>by rcases z with rfl|rfl<;>exact df g
   refine ah rfl (ak (pZ C.l) ?_);cases f:p1 with
   |cons x y=>subst f;exact ag (q none (by show(if s=[43]\/s=[45] then _ else if _ then _ else _);rw[M5 g,M8 (.inl (NP _ _))]))
   |nil=>
    subst f;refine ah rfl (ak (pZ d.l) ?_);cases f:P with
    |cons x y=>subst f;exact ag (q none (by show(if s=[43]\/s=[45] then _ else if _ then _ else _);rw[M5 g,M8 (.inr (NP _ _))]))
    |nil=>
     subst f;have q:=q _ (by show(if s=[43]\/s=[45] then _ else if _ then _ else _);rw[M5 g,M5 (fun z=>z.elim (fun z=>z rfl) fun z=>z rfl)]);refine ah rfl (ah rfl (ah rfl (Lm D.sa D.sb D.q D.q1 D.n M ?_)));cases H:pV s w1 L with
     |none=>rw[H]at q;exact ak (b:=true) rfl (ag q)
     |some i=>rw[H]at q;exact ak (b:=false) rfl (ag q)
end
inductive Lv:Nat->Nat->List Tk->Tr->Prop
 |num {n dep:Nat} {k:Int} (h:dep<=10):Lv n dep [.num k] (.num k)
 |name {n dep:Nat} {s:List Nat} (h:dep<=10):Lv n dep [.name s] (if s=[46] then .here else .name s)
 |un {n dep:Nat} {s:List Nat} {r:List Tk} {t:Tr} (h:dep<=10) (hs:s=[45]\/s=[126]\/s=[33]) (hr:Lv 4 (dep+1) r t):Lv n dep (.sign s::r) (.un s t)
 |par {n dep:Nat} {r:List Tk} {t:Tr} (h:dep<=10) (hr:Lv 1 (dep+1) r t):Lv n dep (.sign [40]::(r++[.sign [41]])) t
 |bin {n dep:Nat} {s:List Nat} {l r:List Tk} {a b:Tr} (h1:1<=ae s) (hn:n<=ae s) (hl:Lv (ae s) dep l a) (hr:Lv (ae s+1) dep r b):Lv n dep (l++ .sign s::r) (.bin s a b)
theorem Lv.pos{n dep:Nat}{r:List Tk}{t:Tr}(h:Lv n dep r t):1<=r.length:=by
 cases h with
 |num=>exact Nc _
 |name=>exact Nc _
 |un=>exact Ny (NJ _)
 |par=>exact Ny (NJ _)
 |bin=>rw[M3,Nt];exact Nr ..
noncomputable def wv:List Tk->Nat
 |k::_=>oC k
 |[]=>0
noncomputable def M0(m a:Nat)(r:List Tk)(t:Tr):Prop:=∀rest,(Pz m).1 a (r++rest)=some (some (t,rest))
theorem hJ{l:Nat->Nat->List Tk->Rs}(h:rest≠[])(c:wv rest<a):cj l a b k t rest=some (some (t,rest)):=by
 match rest,h,c with
 |x::r,_,c=>have:¬a<=oC x:=Nat.not_le.mpr c;cases k<;>exact M5 this
theorem kf{m a b:Nat}{ks:List Tk}{t:Tr}{r:List Tk}(h:(Pz m).1 b ks=some (some (t,r))):(Pz (m+1)).2 a b ks=cj (Pz m).2 a b r.length t r:=by show lK (Pz m).1 (Pz m).2 a b ks=_;unfold lK;rw[h]
theorem ww(h:a<=10):(Pz (m+1)).1 a (.num k::rest)=some (some (.num k,rest)):=M5 (Nat.not_lt.mpr h)
theorem tO(h:a<=10):(Pz (m+1)).1 a (.name s::rest)=some (some (if s=[46] then .here else .name s,rest)):=M5 (Nat.not_lt.mpr h)
theorem zR(h:a<=10)(hs:s=[45]\/s=[126]\/s=[33])(b:(Pz m).1 (a+1) ks=some (some (t,rest))):(Pz (m+1)).1 a (.sign s::ks)=some (some (.un s t,rest)):=by refine(M5 (Nat.not_lt.mpr h)).trans ((M8 hs).trans ?_);rw[b]
theorem wx(h:a<=10)(b:(Pz m).2 1 (a+1) ks=some (some (t,.sign [41]::rest))):(Pz (m+1)).1 a (.sign [40]::ks)=some (some (t,rest)):=by refine(M5 (Nat.not_lt.mpr h)).trans ((M5 (by decide)).trans ((M8 rfl).trans ?_));rw[b];exact M8 rfl
theorem wy(L:Lv n dep row t):
  (4<=n->∀m,2*row.length<=m->∀rest,rest≠[]->(Pz m).1 dep (row++rest)=some (some (t,rest)))/\
  (∀m,2*row.length<=m->∀Z5,1<=Z5->Z5<=n->n<=4->∀rest,rest≠[]->wv rest<=n->∃k,rest.length<=k/\(Pz (m+1)).2 Z5 dep (row++rest)=cj (Pz m).2 Z5 dep k t rest):=by
 have both:∀{n dep:Nat}{row:List Tk}{t:Tr},(∀m,2*row.length<=m->∀rest,rest≠[]->(Pz m).1 dep (row++rest)=some (some (t,rest)))->
  (4<=n->∀m,2*row.length<=m->∀rest,rest≠[]->(Pz m).1 dep (row++rest)=some (some (t,rest)))/\
  (∀m,2*row.length<=m->∀Z5,1<=Z5->Z5<=n->n<=4->∀rest,rest≠[]->wv rest<=n->∃k,rest.length<=k/\(Pz (m+1)).2 Z5 dep (row++rest)=cj (Pz m).2 Z5 dep k t rest):=
  fun h=>⟨fun _=>h,fun m hm Z5 _ _ _ rest hr _=>⟨rest.length,Nc _,kf (h m hm rest hr)⟩⟩
 induction L with
 |num h=>
  refine both fun m hm rest hr=>?_
  match m,hm with
  |m+1,_=>exact ww h
 |name h=>
  refine both fun m hm rest hr=>?_
  match m,hm with
  |m+1,_=>exact tO h
 |@un n dep s r t h hs hr ih=>
  refine both fun m hm rest hr'=>?_
  match m,hm with
  |m+1,hm=>exact zR h hs (ih.1 (Nc 4) m (by rw[Nt]at hm;lia) rest hr')
 |@par n dep r t h hr ih=>
  refine both fun m hm rest hr'=>?_;rw[Nt,M3]at hm
  match m,hm with
  |m+2,hm=>apply bc;intro qK;obtain⟨k,_,e⟩:=ih.2 m (by simp at hm;lia) 1 (Nc 1) (Nc 1) (by decide) (.sign [41]::rest) (NP _ _) (by show ae [41]<=1;decide);apply qK;refine wx h ?_;show(Pz (m+1)).2 1 (dep+1) ((r++[.sign [41]])++rest)=_;rw[Nd];exact e.trans (hJ (NP _ _) (by show ae [41]<1;decide))
 |@bin n dep s l r a b h1 hn hl hr ZO ZT=>
  have h3:=au s;refine⟨fun h=>absurd (M1 h hn) (by lia),fun m hm Z5 h1' h2 h4 rest hr' hh=>?_⟩;rw[M3,Nt]at hm;obtain⟨k,hk,e⟩:=ZO.2 m (by lia) Z5 h1' (M1 h2 hn) (by lia) (.sign s::(r++rest)) (NP _ _) (Nc _);rw[Nt,M3]at hk
  match k,hk,m,hm,e with
  |k+1,hk,m+1,hm,e=>apply bc;intro qK;obtain⟨k2,_,e2⟩:=ZT.2 m (by lia) (ae s+1) (Nr 1 _) (Nc _) (by lia) rest hr' (M1 hh (Ou hn));apply qK;have e3:=e2.trans (hJ hr' (Ot (M1 hh hn)));refine⟨k,by lia,?_⟩;rw[Nd];refine e.trans ((M8 (show Z5<=oC (.sign s)from M1 h2 hn)).trans ?_);show(match(Pz (m+1)).2 (ae s+1) dep (r++rest)with|some (some (u,r'))=>cj (Pz (m+1)).2 Z5 dep k (.bin s a u) r'|x=>x)=_;rw[e3]
theorem Lv.weak(h:Lv n dep r t)(hn:n'<=n):Lv n' dep r t:=by
 cases h with
 |num h=>exact .num h
 |name h=>exact .name h
 |un h hs hr=>exact .un h hs hr
 |par h hr=>exact .par h hr
 |bin h1 h2 hl hr=>exact .bin h1 (M1 hn h2) hl hr
structure Lq(m:Nat):Prop where
 p:∀{dep ks t rest},(Pz m).1 dep ks=some (some (t,rest))->∃row,ks=row++rest/\∀n,Lv n dep row t
 l:∀{Z5 dep ks t rest},1<=Z5->Z5<=4->(Pz m).2 Z5 dep ks=some (some (t,rest))->rest≠[]/\wv rest<Z5/\∃row,ks=row++rest/\Lv Z5 dep row t
theorem C_{F:Tr->List Tk->Rs}(h:(match o with|some (some (u,r'))=>F u r'|x=>x)=some (some z)){P:Prop}(k:∀{u r'},o=some (some (u,r'))->F u r'=some (some z)->P):P:=
 GR h (fun _ e=>ba e) k
theorem Lr{o:Rs}{t:Tr}{rest:List Tk}(h:(match o with|some (some (t,.sign u::r'))=>if u=[41] then some (some (t,r'))else some none|some (some (t,_::_))=>some none|some (some (t,[]))=>none|x=>x)=some (some (t,rest))):o=some (some (t,.sign [41]::rest)):=by
 cases o with
 |none=>exact aj h
 |some o=>cases o with
  |none=>exact aj (Na h)
  |some p=>
   obtain⟨u,ks⟩:=p;cases ks with
   |nil=>exact aj h
   |cons k r=>cases k with
    |sign v=>
     by_cases g:v=[41]
     .cases ce g h;rw[g]
     .exact aj (Na (bU g h))
    |_=>exact aj (Na h)
def Rd(a d:Nat)(c ks:List Tk)(t:Tr)(rest:List Tk):Prop:=rest≠[]/\wv rest<a/\∃b,ks=b++rest/\Lv a d (c++b) t
theorem Rd.stop{a c:Nat}{b:List Tk}{t:Tr}{x:Tk}{r:List Tk}{z:Tr×List Tk}(L:Lv a c b t)(g:¬a<=oC x)(h:some (some (t,x::r))=some (some z)):Rd a c b (x::r) z.1 z.2:=by rw[←Na (Na h)];exact⟨NP _ _,Nat.not_le.mp g,[],rfl,by rw[Nv];exact L⟩
theorem p5(S:Lq m)(n:1<=a)(k:Nat):∀{c:Nat}{t:Tr}{b ks:List Tk}{z:Tr×List Tk},Lv c d b t->a<=c->wv ks<=c->cj (Pz m).2 a d k t ks=some (some z)->Rd a d b ks z.1 z.2:=by
 induction k with
 |zero=>
  intro c t b ks z L j hh h;cases ks with
  |nil=>exact aj h
  |cons x r=>
   by_cases g:a<=oC x
   .exact aj (ce g h)
   .exact .stop (L.weak j) g (bU g h)
 |succ k q=>
  intro c t b ks z L j hh h;cases ks with
  |nil=>exact aj h
  |cons x r=>
   by_cases g:a<=oC x
   .refine C_ (F:=fun u r'=>cj (Pz m).2 a d k (.bin (DQ x) t u) r') (ce g h) fun{u r'} e g2=>?_;clear h;have o:=jI (M1 n g);generalize DQ x=s at o g2;subst o;apply bc;intro v;obtain⟨_,w,f,y,A⟩:=S.l (Nr 1 _) (Ny (au s)) e;obtain⟨b1,b2,i,C,p⟩:=q (.bin (M1 n g) (Nc _) (L.weak hh) A) g (Pf w) g2;apply v;rw[Nd]at p;exact⟨b1,b2,.sign s::f++i,by rw[y,C,Pl,Pl,Nd],p⟩
   .exact .stop (L.weak j) g (bU g h)
theorem oh{m:Nat}(S:Lq m){a:Nat}{ks rest:List Tk}{t:Tr}(h:qV (Pz m).1 (Pz m).2 a ks=some (some (t,rest))):∃row,ks=row++rest/\∀n,Lv n a row t:=by
 cases ks with
 |nil=>exact aj h
 |cons k r=>
  by_cases g:10<a
  .exact aj (Na (ce g h))
  replace h:=bU g h;replace g:=Nat.not_lt.mp g;cases k with
  |num k=>cases h;exact⟨[.num k],rfl,fun n=> .num g⟩
  |name s=>cases h;exact⟨[.name s],rfl,fun n=> .name g⟩
  |other=>exact aj (Na h)
  |fin=>exact aj (Na h)
  |sign s=>
   by_cases g1:s=[45]\/s=[126]\/s=[33]
   .refine C_ (F:=fun t r'=>some (some (.un s t,r'))) (ce g1 h) fun{u r'} e h=>?_;obtain⟨row,b,L⟩:=S.p e;cases h;exact⟨.sign s::row,by rw[b];rfl,fun n=> .un g g1 (L 4)⟩
   .replace h:=bU g1 h;by_cases g2:s=[40]
    .apply bc;intro c;obtain⟨_,_,row,b,L⟩:=S.l (Nc 1) (by decide) (Lr (ce g2 h));apply c;exact⟨.sign [40]::(row++[.sign [41]]),by rw[b,g2,Pl,Nd];rfl,fun n=> .par g L⟩
    .exact aj (Na (bU g2 h))
theorem C'(r:List Tk):wv r<=4:=by
 cases r with
 |nil=>exact NJ _
 |cons x r=>
  cases x with
  |sign s=>exact M1 (au s) (by decide)
  |_=>exact NJ _
theorem lV(m:Nat):Lq m:=by
 induction m with
 |zero=>exact⟨fun h=>aj h,fun _ _ h=>aj h⟩
 |succ m S=>refine⟨fun h=>oh S h,fun{c d ks t rest} g i h=>?_⟩;refine C_ (F:=fun t r=>cj (Pz m).2 c d r.length t r) (o:=(Pz m).1 d ks) h fun{u r'} e h=>?_;apply bc;intro j;obtain⟨row,k,L⟩:=S.p e;obtain⟨a,b,f,l,n⟩:=p5 S g r'.length (L 4) i (C' r') h;apply j;exact⟨a,b,row++f,by rw[k,l,Nd],n⟩
noncomputable def Fn(ks:List Tk):Prop:=∃bu,ks=bu++[.fin]
theorem Lv.noFin(h:Lv n dep r t):Tk.fin∉r:=by
 have c:∀{k:Tk}{r},k≠.fin->Tk.fin∉r->Tk.fin∉k::r:=fun h h2 z=>(List.mem_cons.mp z).elim (fun e=>h e.symm) h2;have a:∀{l r},Tk.fin∉l->Tk.fin∉r->Tk.fin∉l++r:=fun h h2 z=>(List.mem_append.mp z).elim h h2;induction h with
 |num=>exact c (fun z=>Tk.noConfusion z) Nq
 |name=>exact c (fun z=>Tk.noConfusion z) Nq
 |un _ _ _ ih=>exact c (fun z=>Tk.noConfusion z) ih
 |par _ _ ih=>exact c (fun z=>Tk.noConfusion z) (a ih (c (fun z=>Tk.noConfusion z) Nq))
 |bin _ _ _ _ ZO ZT=>exact a ZO (c (fun z=>Tk.noConfusion z) ZT)
theorem Fn.rest{row rest:List Tk}(h:Fn (row++rest))(a:Tk.fin∉row):Fn rest:=by
 obtain⟨bu,e⟩:=h;rcases bS rest with z|⟨W,x,z⟩
 .rw[z,Nv]at e;exact absurd (by rw[e];exact Oh _ (M_ ..)) a
 .rw[z,←Nd]at e;have:=(Sv e rfl).2;cases this;exact⟨W,z⟩
theorem Fn.ne(h:Fn ks):ks≠[]:=by obtain⟨bu,e⟩:=h;rw[e];exact fun z=>kT (List.append_eq_nil_iff.mp z).2
theorem Fn.tail(h:Fn (k::r))(a:k≠.fin):Fn r:=by
 refine Fn.rest (row:=[k]) h fun z=>?_;cases z with
 |head=>exact a rfl
 |tail _ z=>cases z
structure Ls(m:Nat):Prop where
 p:∀dep ks,Fn ks->2*ks.length<=m->(Pz m).1 dep ks≠none
 l:∀Z5 dep ks,1<=Z5->Z5<=4->Fn ks->2*ks.length+1<=m->(Pz m).2 Z5 dep ks≠none
theorem wz{F:Tr->List Tk->Rs}(a:o≠none)(k:∀{u r'},o=some (some (u,r'))->F u r'≠none):(match o with|some (some (u,r'))=>F u r'|x=>x)≠none:=by
 cases o with
 |none=>exact absurd rfl a
 |some o=>cases o with
  |none=>exact fun z=>ba z
  |some p=>exact k rfl
theorem F5{o:Rs}(b:o≠none)(k:∀{t},o≠some (some (t,[]))):(match o with|some (some (t,.sign u::r'))=>if u=[41] then some (some (t,r'))else some none|some (some (t,_::_))=>some none|some (some (t,[]))=>none|x=>x)≠none:=by
 cases o with
 |none=>exact absurd rfl b
 |some o=>cases o with
  |none=>exact fun z=>ba z
  |some p=>
   obtain⟨u,ks⟩:=p;cases ks with
   |nil=>exact absurd rfl k
   |cons a r=>cases a with
    |sign v=>
     by_cases g:v=[41]
     .exact fun z=>ba (ce g z)
     .exact fun z=>ba (bU g z)
    |_=>exact fun z=>ba z
theorem p_(h:2*(a+1)<=m+1)(c:b<=a):2*b+1<=m:=
 M1 (Ny (Oj 2 c)) (NI h)
theorem wA(T:Ls m)(o:1<=a)(k:Nat):∀{t:Tr}{ks:List Tk},Fn ks->ks.length<=k->2*ks.length<=m+1->cj (Pz m).2 a b k t ks≠none:=by
 induction k with
 |zero=>intro t ks d e _;exact absurd (List.length_eq_zero_iff.mp (Nat.le_zero.mp e)) d.ne
 |succ k p=>
  intro t ks d e f;cases ks with
  |nil=>exact absurd rfl d.ne
  |cons x r=>
   by_cases g:a<=oC x
   .have h:=jI (M1 o g);have i:Fn r:=d.tail (by rw[h];exact fun z=>Tk.noConfusion z);have j:oC x+1<=4:=by rw[h];exact Ny (au _)
    refine fun z=>wz (F:=fun u r'=>cj (Pz m).2 a b k (.bin (DQ x) t u) r') (T.l _ _ _ (Nr 1 _) j i (p_ f (Nc _))) (fun{u r'} q=>?_) (ce g z);apply bc;intro s;obtain⟨_,_,row,n,L⟩:=(lV m).l (Nr 1 _) j q;apply s;have c:r'.length<=r.length:=by rw[n,M3];exact Nr _ _
    exact p (Fn.rest (n▸i) L.noFin) (M1 c (NI e)) (Ou (Nl (p_ f c)))
   .exact fun z=>ba (bU g z)
theorem wB{m:Nat}(T:Ls m){a:Nat}{ks:List Tk}(c:Fn ks)(b:2*ks.length<=m+1):qV (Pz m).1 (Pz m).2 a ks≠none:=by
 cases ks with
 |nil=>exact absurd rfl c.ne
 |cons k r=>
  by_cases g:10<a
  .exact fun z=>ba (ce g z)
  refine fun z=>?_;replace z:=bU g z;cases k with
  |sign s=>
   have d:Fn r:=c.tail fun z=>Tk.noConfusion z;have b:=p_ b (Nc _);by_cases g1:s=[45]\/s=[126]\/s=[33]
   .exact wz (F:=fun t r'=>some (some (.un s t,r'))) (T.p _ _ d (Nl b)) (fun _ z=>ba z) (ce g1 z)
   .replace z:=bU g1 z;by_cases g2:s=[40]
    .exact F5 (T.l _ _ _ (Nc 1) (by decide) d b) (fun{t} e=>((lV m).l (Nc 1) (by decide) e).1 rfl) (ce g2 z)
    .exact ba (bU g2 z)
  |_=>exact ba z
theorem zT(m:Nat):Ls m:=by
 induction m with
 |zero=>exact⟨fun a ks c b=>absurd (List.length_eq_zero_iff.mp (Nat.le_zero.mp (M1 (TD _ (by decide)) b))) c.ne,fun _ _ ks _ _ c b=>absurd b (Qw _)⟩
 |succ m T=>
  refine⟨fun a ks c b=>wB T c b,fun d a ks g i c b=>?_⟩;refine wz (F:=fun t r=>cj (Pz m).2 d a r.length t r) (o:=(Pz m).1 a ks) (T.p _ _ c (NI b)) fun{t r} e=>?_;obtain⟨row,f,L⟩:=(lV m).p e;have h:r.length<=ks.length:=by rw[f,M3];exact Nr _ _
  exact wA T g r.length (Fn.rest (f▸c) (L 1).noFin) (Nc _) (M1 (Oj 2 h) (Nl b))
theorem lW{ks:List Tk}{t:Tr}{m:Nat}(L:Lv 1 0 ks t)(a:2*ks.length+1<=m):eW m ks=some (some t):=by
 cases m with
 |zero=>exact absurd a (Qw _)
 |succ m=>obtain⟨k,_,e⟩:=(wy L).2 m (NI a) 1 (Nc 1) (Nc 1) (by decide) [.fin] (NP _ _) (NJ _);unfold eW;rw[e.trans (hJ (NP _ _) (by show 0<1;decide))]
theorem wC(a:Tk.fin∉ks)(e:ks++[.fin]=row++ .fin::r):ks=row:=by
 rcases bS r with z|⟨W,x,z⟩
 .rw[z]at e;exact(Sv e rfl).1
 .rw[z,←Pl,←Nd]at e;exact absurd (by rw[(Sv e rfl).1];exact Oh _ (M_ ..)) a
theorem rn{ks:List Tk}{m:Nat}(a:2*ks.length+3<=m)(b:Tk.fin∉ks):(∃t,eW m ks=some (some t)/\Lv 1 0 ks t)\/eW m ks=some none:=by
 have T:=(zT m).l 1 0 _ (Nc 1) (by decide) ⟨ks,rfl⟩ (by rw[M3];exact a);have S:=@(lV m).l 1 0 (ks++[.fin]);unfold eW;revert T S;cases(Pz m).2 1 0 (ks++[.fin])with
 |none=>exact fun T=>absurd rfl T
 |some o=>
  cases o with
  |none=>exact fun _ _=> .inr rfl
  |some p=>
   obtain⟨t,r⟩:=p;refine fun _ S=>?_;obtain⟨h,_,row,c,L⟩:=S (Nc 1) (by decide) rfl;clear S;cases r with
   |nil=>exact absurd rfl h
   |cons k r=>cases k with
    |fin=>exact .inl ⟨t,rfl,by rw[wC b c];exact L⟩
    |_=>exact .inr rfl
noncomputable def aY:Lt->Tk
 |.sg s=> .sign s
 |.num n=> .num n
 |.sym s=> .name s
 |.here=> .name [46]
noncomputable def gG:List Nat:=[42,47,37,124,38,94,43,45,126,33,40,41]
theorem oj(h:bM (.sg s)):(∃c∈gG,s=[c])\/s=[60,60]\/s=[62,62]:=by
 have a:∀s∈eD,(∃c∈gG,s=[c])\/s=[60,60]\/s=[62,62]:=by decide
 have b:∀s∈gO,(∃c∈gG,s=[c])\/s=[60,60]\/s=[62,62]:=by decide
 rcases h with h|h|h|h
 .exact a s h
 .exact b s h
 .exact .inl ⟨40,by decide,h⟩
 .exact .inl ⟨41,by decide,h⟩
theorem ej:∀c∈gG,dG c=false/\¬aD c<10/\c≠39/\c≠34/\qT.contains c=true/\c≠60/\c≠62/\ws c=false/\([c]==[35])=false/\am c=false/\cM c=false:=by decide
noncomputable def ro(p:Nat->Bool):List Nat->Bool
 |c::_=>p c
 |[]=>false
theorem kP(w:List Nat):∀(x:List Nat),(∀c∈w,am c=true)->ro am x=false->bC (w++x)=w.length:=by
 induction w with
 |nil=>
  intro t0;cases t0 with
  |nil=>exact fun _ _=>rfl
  |cons c x=>exact fun _ h=>M5 (by rw[show am c=false from h];decide)
 |cons c w a=>intro x h b;show(if am c=true then bC (w++x)+1 else 0)=_;rw[M8 (h c (M_ ..)),a x (fun z d=>h z (Nb _ d)) b];rfl
theorem om{w x:List Nat}:(w++x).take w.length=w:=by rw[SA (Nc _),Rj]
theorem jR(h0:dG c=true)(h:∀y∈c::w,am y=true)(a:ro am x=false):LX (c::w++x) (.tok (.name (c::w)) (c::w).length):=by
 have e:lI c (w++x)= .tok (.name (c::w)) (c::w).length:=by unfold lI;rw[M8 h0];have:=kP (c::w) x h a;show Lx.tok (.name ((c::w++x).take (bC (c::w++x)))) (bC (c::w++x))=_;rw[this,om]
 exact e▸LX.f
theorem hK(h:iB 48 57 c=true):dG c=false/\aD c<10/\ws c=false/\([c]==[35])=false:=by
 have z:∀k:Fin 10,dG (48+k)=false/\aD (48+k)<10/\ws (48+k)=false/\([48+k.1]==[35])=false:=by decide
 have hh:=bP.mp h;have:=z ⟨c-48,OT hh.1 (Ot hh.2)⟩;rw[show 48+((⟨c-48,OT hh.1 (Ot hh.2)⟩:Fin 10):Nat)=c from by show 48+(c-48)=c;exact R1 hh.1]at this;exact this
theorem zV{c n:Nat}{w x:List Nat}(h0:iB 48 57 c=true)(h:∀y∈c::w,am y=true)(a:iC (c::w)=n)(d:n<2^64)(b:ro am x=false):LX (c::w++x) (.tok (.num n) (c::w).length):=by
 have f:=hK h0;have e:lI c (w++x)= .tok (.num n) (c::w).length:=by unfold lI;rw[M5 (by rw[f.1];decide),M8 f.2.1];have:=kP (c::w) x h b;unfold lG;show(if 18446744073709551615<iC ((c::w++x).take (bC (c::w++x)))then _ else if 0<=iC ((c::w++x).take (bC (c::w++x)))then Lx.tok (.num (iC ((c::w++x).take (bC (c::w++x))))) (bC (c::w++x))else _)=_;rw[this,om,a,M5 (by omega),M8 (NE _)]
 exact e▸LX.f
theorem qa(a:c∈gG)(b:c=37->ro cM x=false):LX (c::x) (.tok (.sign [c]) 1):=by
 obtain⟨d,g,i,j,k,l,m,_⟩:=ej c a;have e:lI c x= .tok (.sign [c]) 1:=by
  unfold lI;rw[M5 (by rw[d];decide),M5 g,M5 i,M5 j,M5 (fun z=>by
   have h:=b z.1;have:f6 x=ro cM x:=by cases x<;>rfl
   rw[this,h]at z;exact NZ z.2)]
  unfold iS;rw[M8 k,M5];intro z;cases x with
  |nil=>
   rcases Bool.or_eq_true_iff.mp z with z|z
   .have z:[c]=[60,60]:=N3 z;injection z with _ z;exact A' z
   .have z:[c]=[62,62]:=N3 z;injection z with _ z;exact A' z
  |cons y x=>
   rcases Bool.or_eq_true_iff.mp z with z|z
   .have z:[c,y]=[60,60]:=N3 z;injection z with z _;exact l z
   .have z:[c,y]=[62,62]:=N3 z;injection z with z _;exact m z
 exact e▸LX.f
theorem rp(a:c=60\/c=62):LX (c::c::x) (.tok (.sign [c,c]) 2):=by
 have e:lI c (c::x)= .tok (.sign [c,c]) 2:=by rcases a with rfl|rfl<;>rfl
 exact e▸LX.f
theorem qb(h:ws c=false)(d:([c]==[35])=false):∀g,dz (Nz g 32++(c::y))=g/\dS (Nz g 32++(c::y))=false
 |0=>⟨M5 (by rw[h];decide),(M5 (by rw[h];decide)).trans d⟩
 |g+1=>by obtain⟨a,b⟩:=qb h d g;exact⟨(M8 (by decide)).trans (Np (·+1) a),(M8 (by decide)).trans b⟩
theorem F6(S:Sp (some t) r x)(d:∀t∈r,bM t):(bx t=true->ro am x=false)/\(cK t=true->ro cM x=false):=by
 cases S with
 |nil=>exact⟨fun _=>rfl,fun _=>rfl⟩
 |@cons _ f r g w x e i h=>
  cases g with
  |succ g=>exact⟨fun _=>by show am 32=false;decide,fun _=>by show cM 32=false;decide⟩
  |zero=>
   obtain⟨a,b⟩:=i rfl t rfl;refine⟨fun j=>?_,fun k=>by rw[k]at b;exact df b⟩;rw[j,U0]at a;cases f with
   |sg s=>
    have e:w=s:=e;subst e;rcases oj (d _ (M_ ..))with⟨c,l,rfl⟩|rfl|rfl
    .exact(ej c l).2.2.2.2.2.2.2.2.2.1
    .exact(by decide:am 60=false)
    .exact(by decide:am 62=false)
   |_=>exact df a
theorem ip:∀s∈bj,∃c w,s=c::w/\dG c=true/\ws c=false/\([c]==[35])=false/\∀y∈c::w,am y=true:=by
 intro s h;have:∀s∈bj,s≠[]/\dG (s.headD 0)=true/\ws (s.headD 0)=false/\([s.headD 0]==[35])=false/\∀y∈s,am y=true:=by decide
 obtain⟨a,b,c,d,e⟩:=this s h
 match s,a,b,c,d,e with
 |x::w,_,b,c,d,e=>exact⟨x,w,rfl,b,c,d,e⟩
theorem on{t:Lt}{w x:List Nat}(ht:bM t)(hw:nW t w)(h1:bx t=true->ro am x=false)(h2:cK t=true->ro cM x=false):∃c y,w=c::y/\ws c=false/\([c]==[35])=false/\LX (w++x) (.tok (aY t) w.length):=by
 cases t with
 |sg s=>
  have hw:w=s:=hw;subst hw;rcases oj ht with⟨c,hc,rfl⟩|rfl|rfl
  .have f:=ej c hc;exact⟨c,[],rfl,f.2.2.2.2.2.2.2.1,f.2.2.2.2.2.2.2.2.1,qa hc fun e=>h2 (by rw[e];rfl)⟩
  .exact⟨60,[60],rfl,by decide,by decide,rp (.inl rfl)⟩
  .exact⟨62,[62],rfl,by decide,by decide,rp (.inr rfl)⟩
 |sym s=>have hw:w=s:=hw;subst hw;apply bc;intro qK;obtain⟨c,y,rfl,b,f1,f2,f3⟩:=ip w ht;apply qK;exact⟨c,y,rfl,f1,f2,jR b f3 (h1 rfl)⟩
 |here=>have hw:w=[46]:=hw;subst hw;exact⟨46,[],rfl,by decide,by decide,jR (by decide) (by decide) (h1 rfl)⟩
 |num n=>
  have hw:cy n w:=hw;cases hw with
  |@dig c s h0 hs hv hl=>exact⟨c,s,rfl,(hK h0).2.2.1,(hK h0).2.2.2,zV h0 hs hv ht (h1 rfl)⟩
  |@chr s h hl=>exact⟨39,s,rfl,by decide,by decide,LX.c (h x)⟩
theorem lX{p:Option Lt}{row:List Lt}{x:List Nat}(S:Sp p row x):(∀t∈row,bM t)->∀{P:Option (List Tk)->Prop},P (some (row.map aY))->ch x P:=by
 induction S with
 |nil=>exact fun _ P p=> .done rfl p
 |@cons p t r g w x i s h j=>
  intro d P p;have f:∀t∈r,bM t:=fun t l=>d t (Nb _ l);apply bc;intro m;obtain⟨a,b⟩:=F6 h f;obtain⟨c,y,rfl,o,q,L⟩:=on (d t (M_ ..)) i a b;apply m;have e:Nz g 32++(c::y)++x=Nz g 32++(c::(y++x)):=by rw[Nd];rfl
  obtain⟨g1,g2⟩:=qb (y:=y++x) o q g;rw[e];have d1:(Nz g 32++(c::(y++x))).drop g=c::(y++x):=by
   have:=PE (l₁:=Nz g 32) (l₂:=c::(y++x))
   rwa [O_]at this
  refine .tok (k:=aY t) (n:=(c::y).length) g2 (by rw[g1,d1];exact L) (Ob _) ?_;rw[g1,←OO,d1];have d2:(c::(y++x)).drop (c::y).length=x:=PE (l₁:=c::y) (l₂:=x);rw[d2];exact j f p
inductive Gr:Nat->List Lt->Tr->Prop
 |leaf {n:Nat} {t:Lt} (h:bx t=true):Gr n [t] (kM t)
 |un {n:Nat} {s:List Nat} {r:List Lt} {b:Tr} (hs:s∈gO) (hr:Gr 4 r b):Gr n (.sg s::r) (.un s b)
 |par {n:Nat} {r:List Lt} {t:Tr} (hr:Gr 1 r t):Gr n (.sg [40]::(r++[.sg [41]])) t
 |bin {n:Nat} {s:List Nat} {l r:List Lt} {a b:Tr} (h1:1<=ae s) (hn:n<=ae s) (hl:Gr (ae s) l a) (hr:Gr (ae s+1) r b):Gr n (l++ .sg s::r) (.bin s a b)
theorem Gr.weak(h:Gr n r t)(hn:n'<=n):Gr n' r t:=by
 cases h with
 |leaf h=>exact .leaf h
 |un hs hr=>exact .un hs hr
 |par hr=>exact .par hr
 |bin h1 h2 hl hr=>exact .bin h1 (M1 hn h2) hl hr
theorem Gr.ne(h:Gr n r t):r≠[]:=by
 cases h with
 |leaf=>exact NP _ _
 |un=>exact NP _ _
 |par=>exact NP _ _
 |bin=>exact fun e=>kT (List.append_eq_nil_iff.mp e).2
theorem rq(h:bx t=true):az h0 (t::r) i a en best lev=az h0 r (i+1) a true best lev:=M8 h
theorem wD:az h0 (.sg [40]::r) i a en best lev=az h0 r (i+1) (a+1) false best lev:=rfl
theorem wE(h:¬(a-1<0\/(a-1=0/\best=none/\ck h0=true/\gD r=true))):az h0 (.sg [41]::r) i a en best lev=az h0 r (i+1) (a-1) true best lev:=
 (M5 (show ¬bx (.sg [41])=true by decide)).trans ((M5 (show ¬ck (.sg [41])=true by decide)).trans ((M8 (show gP (.sg [41])=true by decide)).trans (M5 h)))
theorem gH(h:1<=ae s\/s∈gO):ck (.sg s)=false/\gP (.sg s)=false:=by
 have z:∀k:List Nat,ae k=0->k∉gO->s≠k:=fun k a b e=>by
  subst e;rcases h with h|h
  .rw[a]at h;exact absurd h (by decide)
  .exact b h
 exact⟨R0 (z [40] (by decide) (by decide)),R0 (z [41] (by decide) (by decide))⟩
theorem fy(h:1<=ae s\/s∈gO):az h0 (.sg s::r) i a en best lev=if en=true/\a=0/\1<=ae s/\ae s<=lev then az h0 r (i+1) a false (some i) (ae s)else az h0 r (i+1) a false best lev:=
 (M5 (show ¬bx (.sg s)=true from NZ)).trans ((M5 (by rw[(gH h).1];decide)).trans (M5 (by rw[(gH h).2];decide)))
theorem zW{h0:Lt}{n:Nat}{row:List Lt}{t:Tr}(G:Gr n row t):∀(rest:List Lt)(i:Nat)(dep:Int)(best:Option Nat)(lev:Nat),1<=dep->az h0 (row++rest) i dep false best lev=az h0 rest (i+row.length) dep true best lev:=by
 induction G with
 |leaf h=>exact fun rest i dep best lev hd=>rq h
 |un hs hr ih=>intro rest i dep best lev hd;refine(fy (.inr hs)).trans ((M5 (fun z=>aK z.1)).trans ((ih rest (i+1) dep best lev hd).trans ?_));rw[Nt,N7,Of 1]
 |par hr ih=>
  intro rest i dep best lev hd;refine wD.trans ?_;show az h0 ((_++[Lt.sg [41]])++rest) _ _ _ _ _=_;rw[Nd,ih _ (i+1) (dep+1) best lev (by lia)];refine(wE (by lia)).trans ?_;rw[Nt,M3,show dep+1-1=dep by lia]
  congr 1
  show i+1+_+1=i+(_+1+1);lia
 |@bin n s l r a b h1 hn hl hr ZO ZT=>
  intro rest i dep best lev hd;rw[Nd,ZO _ i dep best lev hd];refine(fy (.inl h1)).trans ((M5 (fun z=>by lia)).trans ((ZT rest _ dep best lev hd).trans ?_));rw[M3,Nt]
  congr 1
  lia
theorem el(h:1<=ae s):jP (.sg s)=true:=by
 apply NM;intro g;have z:∀k∈eD,s≠k:=fun k a e=>g (NH (e▸a));have:ae s=0:=by unfold ae;rw[M5 (fun h=>h.elim (z _ (by decide)) (z _ (by decide))),M5 (fun h=>h.elim (z _ (by decide)) fun h=>h.elim (z _ (by decide)) (z _ (by decide))),M5 (fun h=>h.elim (z _ (by decide)) fun h=>h.elim (z _ (by decide)) fun h=>h.elim (z _ (by decide)) fun h=>h.elim (z _ (by decide)) (z _ (by decide)))]
 lia
def Sc(h0:Lt)(row:List Lt)(k lv:Nat):Prop:=∀rest i best lev,lev<=3->gD rest=false->
 az h0 (row++rest) i 0 false best lev=az h0 rest (i+row.length) 0 true (if lv<=lev then some (i+k)else best) (if lv<=lev then lv else lev)
def Lu(h0:Lt)(n:Nat)(row:List Lt)(t:Tr):Prop:=∀P:Prop,(∀{s l r a b},row=l++ .sg s::r->t= .bin s a b->1<=ae s->n<=ae s->Gr (ae s) l a->Gr (ae s+1) r b->Sc h0 row l.length (ae s)->P)->
 ((∀m,Gr m row t)->Sc h0 row 0 4->P)->P
section
variable{h0:Lt}{row l r:List Lt}{k lv k' lv':Nat}{s:List Nat}
theorem Sc.out(f:Sc h0 row k lv)(b:4<=lv)(a:lev<=3)(c:gD rest=false):az h0 (row++rest) i 0 false best lev=az h0 rest (i+row.length) 0 true best lev:=by have g:¬lv<=lev:=fun z=>absurd (M1 b (M1 z a)) (by decide);exact(f rest i best lev a c).trans (by rw[M5 g,M5 g])
theorem Sc.one(f:∀rest i best lev,lev<=3->gD rest=false->az h0 (row++rest) i 0 false best lev=az h0 rest (i+row.length) 0 true best lev):Sc h0 row 0 4:=fun rest i best lev a b=>by have g:¬4<=lev:=Nat.not_le.mpr (Ot a);rw[M5 g,M5 g];exact f rest i best lev a b
theorem Sc.bin(d:1<=ae s)(m:ae s<=lv)(e:Sc h0 l k lv)(f:ae s+1<=lv')(fr:Sc h0 r k' lv'):Sc h0 (l++ .sg s::r) l.length (ae s):=fun rest i best lev h j=>by
 have c:gD (.sg s::(r++rest))=false:=by show(!(jP (.sg s)))=false;rw[el d];rfl
 have a:∀{b lev},lev<=3->lev<=ae s->az h0 (r++rest) (i+l.length+1) 0 false b lev=az h0 rest (i+(l++ .sg s::r).length) 0 true b lev:=fun{b lev} n z=>by have g:¬lv'<=lev:=Nat.not_le.mpr (M9 z f);refine(fr rest _ b lev n j).trans ?_;rw[M5 g,M5 g,M3,Nt,N7,N7,Of 1]
 clear fr f j;rw[Nd];refine(e _ i best lev h c).trans ((fy (.inl d)).trans ?_);clear e c;by_cases g:ae s<=lev
 .have z:ae s<=if lv<=lev then lv else lev:=by split<;>assumption
  rw[M8 ⟨rfl,rfl,d,z⟩,M8 g,M8 g];exact a (au s) (Nc _)
 .have g2:¬lv<=lev:=fun z=>g (M1 m z);rw[M5 g2,M5 g2,M5 (fun z=>g z.2.2.2),M5 g,M5 g];exact a h (Qs g)
theorem Lu.sc(T:Lu h0 n row t)(a:n<=4){P:Prop}(h:∀k lv,n<=lv->Sc h0 row k lv->P):P:=
 T P (fun _ _ _ z _ _ f=>h _ _ z f) fun _ f=>h _ _ a f
theorem gJ(G:Gr n row t):Lu h0 n row t:=by
 induction G with
 |leaf h=>exact fun _ _ k=>k (fun m=> .leaf h) (Sc.one fun rest i best lev _ _=>rq h)
 |un hs hr ih=>refine fun _ _ k=>k (fun m=> .un hs hr) (Sc.one fun rest i best lev h3 hx=>ih.sc (Nc 4) fun _ _ h4 f=>(fy (.inr hs)).trans ((M5 (fun z=>aK z.1)).trans ((f.out h4 h3 hx).trans ?_)));rw[Nt,N7,Of 1]
 |@par n r t hr ih=>refine fun _ _ k=>k (fun m=> .par hr) (Sc.one fun rest i best lev h3 hx=>wD.trans ?_);show az h0 ((r++[Lt.sg [41]])++rest) _ _ _ _ _=_;rw[Nd,zW hr _ (i+1) (0+1) best lev (by decide)];refine(wE (fun z=>z.elim (by decide) fun z=>aK (hx.symm.trans z.2.2.2))).trans ?_;rw[Nt,M3,N7 i,N7 i,Of 1,N7 r.length];rfl
 |bin h1 hn hl hr ZO ZT=>exact fun _ k _=>k rfl rfl h1 hn hl hr (ZO.sc (Ou (au _)) fun _ _ z f=>ZT.sc (Ny (au _)) fun _ _ z' f'=>Sc.bin h1 z f z' f')
end
theorem jS(f:List Lt->Option Tr)(h:Lt)(a:List Lt):gF f h a none=if bx h=true then(if a=[] then some (kM h)else none)else if ck h=true then(if gP ((h::a).getLastD .here)=true then f a.dropLast else none)else if n8 h=true then(f a).map (.un (oE h))else none:=rfl
theorem wF{F:List Lt->Option Tr}{x:Lt}{c l r:List Lt}{s:List Nat}{a b:Tr}(e:x::c=l++ .sg s::r)(f:Sc x (x::c) l.length (ae s))(d:F l=some a)(g:F r=some b):n_ F x c (az x (x::c) 0 0 false none 3)=some (.bin s a b):=by
 have f:=f [] 0 none 3 (Nc 3) rfl;rw[Nv,M8 (au s),M8 (au s)]at f;rw[f];show(if(0:Int)≠0 then none else gF F x c (some (0+l.length)))=_;rw[M5 (fun z=>z rfl),N1];show((F ((x::c).take l.length)).bind fun h=>(F ((x::c).drop (l.length+1))).map fun r=>Tr.bin (oE ((x::c).getD l.length .here)) h r)=_;have t1:(l++Lt.sg s::r).take l.length=l:=List.take_left;have i:(l++Lt.sg s::r).drop (l.length+1)=r:=by rw[←OO,PE];rfl
 have j:(l++Lt.sg s::r).getD l.length .here= .sg s:=by rw[Oy,Q1 (Nc _),Sm];rfl
 rw[e,t1,i,j,d,g];rfl
theorem tP{F:List Lt->Option Tr}{x:Lt}{tl row:List Lt}{t:Tr}(G:Gr 4 row t)(e:x::tl=row)(ih:∀{r t},Gr 1 r t->r.length<=tl.length->F r=some t):gF F x tl none=some t:=by
 rw[jS];cases G with
 |leaf ht=>injection e with z0 z1;subst z0 z1;rw[M8 ht,M8 rfl]
 |@un _ s r b hs hr=>
  injection e with z0 z1;subst z0 z1
  rw[M5 (show ¬bx (.sg s)=true from NZ),M5 (by rw[(gH (.inr hs)).1];decide),M8 (show n8 (.sg s)=true from NH hs),ih (hr.weak (by decide)) (Nc _)];rfl
 |@par _ r t hr=>
  injection e with z0 z1;subst z0 z1
  have e1:(Lt.sg [40]::(r++[Lt.sg [41]])).getLastD .here= .sg [41]:=by rw[←Pl,RR]
  rw[M5 (show ¬bx (.sg [40])=true from NZ),M8 (show ck (.sg [40])=true from rfl),e1,M8 (show gP (.sg [41])=true from rfl),RU];exact ih hr (by rw[M3];exact Oc _)
 |bin h1 hn hl hr=>exact absurd (M1 hn (au _)) (by decide)
theorem lY(n:Nat):∀{row:List Lt}{t:Tr},Gr 1 row t->row.length<=n->a' n row=some t:=by
 induction n with
 |zero=>exact fun G h=>absurd (List.length_eq_zero_iff.mp (Nat.le_zero.mp h)) G.ne
 |succ n d=>
  intro row t G h;cases row with
  |nil=>exact absurd rfl G.ne
  |cons x j=>
   show n_ (a' n) x j (az x (x::j) 0 0 false none 3)=some t;refine gJ (h0:=x) G _ (fun{s l r a b} e k m _ o p f=>?_) fun g f=>?_
   .have c:l.length+(r.length+1)<=n+1:=by rw[e,M3,Nt]at h;exact h
    rw[k];exact wF e f (d (o.weak m) (NI (M1 (NG (Nr 1 _) _) c))) (d (p.weak (Nr 1 _)) (NI (M1 (Nr _ _) c)))
   .have f:=f.out (rest:=[]) (i:=0) (best:=none) (lev:=3) (Nc 4) (Nc 3) rfl;rw[Nv]at f;rw[f];show(if(0:Int)≠0 then none else gF (a' n) x j none)=_;rw[M5 (fun z=>z rfl)];exact tP (g 4) rfl fun G z=>d G (M1 z (NI h))
theorem zX{h0:Lt}{l rest:List Lt}{a:Tr}(d:Gr 1 l a)(c:gD rest=false){P:Prop}(k:∀b1 b,b<=3->(∀n,n<=b->Gr n l a)->b1≠some l.length->az h0 (l++rest) 0 0 false none 3=az h0 rest l.length 0 true b1 b->P):P:=by
 refine gJ (h0:=h0) d P (fun{s o r' p r} e h g1 g2 j m f=>?_) fun g f=>?_
 .have f:=f rest 0 none 3 (Nc 3) c;rw[M8 (au s),M8 (au s),N1,N1]at f;refine k _ _ (au s) (fun n z=>by rw[e,h];exact .bin g1 z j m) (fun q=>?_) f;rw[e,M3]at q;exact absurd (Na q) (NY (Qa (Ob _)))
 .have f:=f.out (rest:=rest) (i:=0) (best:=none) (Nc 4) (Nc 3) c;rw[N1]at f;exact k none 3 (Nc 3) (fun n _=>g n) (fun q=>aj q) f
theorem rr(c:Gr 1 r b)(a:lev<=3)(z:az h0 r (i+1) 0 false best lev=some (d,some i)):best=some i/\Gr (lev+1) r b:=by
 refine gJ (h0:=h0) c _ (fun{s l r' m n} e h g1 g2 j k f=>?_) fun g f=>?_
 .have f:=f [] (i+1) best lev a rfl;rw[Nv,z]at f;have f:=(Se (Na f)).2;by_cases q:ae s<=lev
  .rw[M8 q]at f;exact absurd (Na f) (NY (Nh (i+1) _))
  .rw[M5 q]at f;exact⟨f.symm,by rw[e,h];exact .bin g1 (Ro q) j k⟩
 .have f:=f.out (rest:=[]) (i:=i+1) (best:=best) (Nc 4) a rfl;rw[Nv,z]at f;exact⟨(Se (Na f)).2.symm,g _⟩
theorem wG{h0:Lt}{row l r:List Lt}{s:List Nat}{a b:Tr}{d:Int}(e:row=l++ .sg s::r)(c:1<=ae s)(i:Gr 1 l a)(g:Gr 1 r b)(h:az h0 row 0 0 false none 3=some (d,some l.length)):Gr 1 row (.bin s a b):=by
 have f:gD (.sg s::r)=false:=by show(!(jP (.sg s)))=false;rw[el c];rfl
 rw[e]at h⊢;refine zX (h0:=h0) i f fun b1 j k m n o=>?_;have h:=(fy (.inl c)).symm.trans (o.symm.trans h);by_cases q:ae s<=j
 .exact .bin c c (m _ q) (rr g (au s) ((M8 ⟨rfl,rfl,c,q⟩).symm.trans h)).2
 .exact absurd (rr g k ((M5 (fun z=>q z.2.2.2)).symm.trans h)).1 n
theorem zY{F:List Lt->Option Tr}(i:∀{r t},F r=some t->Gr 1 r t)(hs:az x (x::c) 0 0 false none 3=some (d,none))(h:gF F x c none=some t):Gr 1 (x::c) t:=by
 rw[jS]at h;by_cases g1:bx x=true
 .replace h:=ce g1 h;by_cases g2:c=[]
  .have i0:=ce g2 h;injection i0 with z0;subst z0;rw[g2];exact .leaf g1
  .exact aj (bU g2 h)
 replace h:=bU g1 h;have k:∃s,x= .sg s:=by
  cases x with
  |sg s=>exact⟨s,rfl⟩
  |_=>exact absurd rfl g1
 obtain⟨s,rfl⟩:=k;by_cases g3:ck (.sg s)=true
 .replace h:=ce g3 h;by_cases g4:gP ((Lt.sg s::c).getLastD .here)=true
  .replace h:=ce g4 h;have e:s=[40]:=N3 g3;rw[e]at g4⊢;rcases bS c with z|⟨W,y,z⟩
   .rw[z]at g4;exact aK g4
   .rw[z]at h g4⊢;rw[←Pl,RR]at g4;rw[RU]at h;have g4:y= .sg [41]:=by
     cases y with
     |sg u=>exact Np _ (N3 g4)
     |_=>exact aK g4
    rw[g4];exact .par (i h)
  .exact aj (bU g4 h)
 replace h:=bU g3 h;by_cases g5:n8 (.sg s)=true
 .refine cn (ce g5 h) fun b m e=>?_;rw[←e];have j:s∈gO:=NW g5;have hs:=(fy (.inr j)).symm.trans hs;replace hs:=bU (fun z=>aK z.1) hs;refine .un j (gJ (h0:= .sg s) (i m) _ (fun{s' l r a n} _ _ _ _ _ _ f=>?_) fun g _=>g 4);have f:=f [] 1 none 3 (Nc 3) rfl;rw[Nv,M8 (au s'),M8 (au s')]at f;have z:az (.sg s) [] (1+c.length) 0 true (some (1+l.length)) (ae s')=some (d,none):=f.symm.trans hs;exact ba (Se (Na z)).2
 .exact aj (bU g5 h)
theorem zZ{F:List Lt->Option Tr}{row:List Lt}{x:Lt}{t:Tr}(l:∀{r t},F r=some t->Gr 1 r t){f:Int}{i:Nat}(hs:az x row 0 0 false none 3=some (f,some i))
  (h:((F (row.take i)).bind fun n=>(F (row.drop (i+1))).map fun r=>Tr.bin (oE (row.getD i .here)) n r)=some t):Gr 1 row t:=by
 refine bE h fun a o h=>?_;refine cn h fun b p e=>?_;rw[←e];rcases kN _ _ _ _ _ _ _ _ hs with z|⟨j,e,m,s,c,d⟩
 .exact aj z
 .rw[N1]at e;rw[←e]at m c;have q:(row.take i).length=i:=by rw[OV];exact OF (NQ m)
  obtain⟨g,u⟩:=List.getElem?_eq_some_iff.mp c;rw[show row.getD i .here= .sg s by rw[Oy,c];rfl];have k:row.drop i= .sg s::row.drop (i+1):=by rw[OS g,u]
  exact wG (h0:=x) ((TE i row).symm.trans (Np (List.take i row++·) k)) d (l o) (l p) (by rw[q];exact hs)
theorem iV(n:Nat):∀{row:List Lt}{t:Tr},a' n row=some t->Gr 1 row t:=by
 induction n with
 |zero=>intro row t h;cases row<;>exact aj h
 |succ n c=>
  intro row t h;cases row with
  |nil=>exact aj h
  |cons x b=>
   have h:n_ (a' n) x b (az x (x::b) 0 0 false none 3)=some t:=h;cases hs:az x (x::b) 0 0 false none 3 with
   |none=>rw[hs]at h;exact aj h
   |some p=>
    obtain⟨a,best⟩:=p;rw[hs]at h;have h:(if a≠0 then none else gF (a' n) x b best)=some t:=h;by_cases d:a≠0
    .exact aj (ce d h)
    .replace h:=bU d h;cases best with
     |some i=>exact zZ c hs h
     |none=>exact zY c hs h
theorem Lv.dep(h:Lv n d r t):d<=10:=by
 induction h with
 |num h=>exact h
 |name h=>exact h
 |un h=>exact h
 |par h=>exact h
 |bin _ _ _ _ ih _=>exact ih
theorem tR:∀st,cN (cN st)=cN st
 |[]=>rfl
 |x::r=>by
  by_cases h:ck x=true
  .have e:cN (x::r)=x::r:=M8 h;rw[e,e]
  .have e:cN (x::r)=cN r:=M5 h;rw[e,tR r]
theorem lZ{st:List Lt}{en:Bool}{t:Lt}{r:List Lt}(h:(bx t||gP t)=true):aQ st en (t::r)=if 10<st.length then true else aQ (cN (if(gP t&&st.any ck)=true then eZ st else st)) true r:=M8 h
theorem fA{st:List Lt}{t:Lt}{r:List Lt}(h:(bx t||gP t)=false):aQ st false (t::r)=aQ (t::st) false r:=
 (M5 (by rw[h];decide)).trans (M8 (To _))
theorem ru{st:List Lt}{t:Lt}{r:List Lt}(h:(bx t||gP t)=false)(a:ck t=false):aQ st true (t::r)=aQ st false r:=
 (M5 (by rw[h];decide)).trans (M5 (by rw[a];decide))
theorem iW(h:aY t= .sign s):t= .sg s:=by cases t<;>cases h;rfl
theorem wH(h:s∈gO):s=[45]\/s=[126]\/s=[33]:=by
 have:∀s∈gO,s=[45]\/s=[126]\/s=[33]:=by decide
 exact this s h
theorem Da(h:s=[45]\/s=[126]\/s=[33]):s∈gO:=by rcases h with rfl|rfl|rfl<;>decide
theorem iX:∀s∈bj,s≠[46]:=by decide
def Dp(n d:Nat)(row:List Lt)(T:Tr):Prop:=Gr n row T/\∀(st rest:List Lt),st.length=d->(cN st=st\/4<=n)->aQ st false (row++rest)=aQ (cN st) true rest
section
variable{n d:Nat}{s:List Nat}{l r:List Lt}{a b T:Tr}
theorem Dp.leaf{t:Lt}(h:bx t=true)(a:d<=10)(e:T=kM t):Dp n d [t] T:=
 e▸⟨.leaf h,fun st rest hs _=>by
  have b:gP t=false:=by cases t with|sg s=>exact aK h|_=>rfl
  refine(lZ (st:=st) (en:=false) (r:=rest) (by rw[h];rfl)).trans ?_;rw[b,M5 (by rw[hs];exact Nat.not_lt.mpr a)];rfl⟩
theorem Dp.un(hs:s∈gO)(D:Dp 4 (d+1) r b):Dp n d (.sg s::r) (.un s b):=
 ⟨.un hs D.1,fun st rest a _=>by
  have o:=gH (.inr hs);refine(fA (t:= .sg s) (r:=r++rest) o.2).trans ((D.2 (.sg s::st) rest (Np (·+1) a) (.inr (Nc 4))).trans ?_);rw[show cN (.sg s::st)=cN st from M5 (by rw[o.1];decide)]⟩
theorem Dp.par(c:d+1<=10)(D:Dp 1 (d+1) r b):Dp n d (.sg [40]::(r++[.sg [41]])) b:=
 ⟨.par D.1,fun st rest a _=>by
  rw[Pl,Nd];refine(fA rfl).trans ((D.2 (.sg [40]::st) (.sg [41]::rest) (Np (·+1) a) (.inl rfl)).trans ?_);show aQ (.sg [40]::st) true (.sg [41]::rest)=_;exact(lZ rfl).trans ((M5 (by rw[Nt,a];exact Nat.not_lt.mpr c)).trans rfl)⟩
theorem Dp.bin(f:1<=ae s)(g:n<=ae s)(L:Dp (ae s) d l a)(R:Dp (ae s+1) d r b):Dp n d (l++ .sg s::r) (.bin s a b):=
 ⟨.bin f g L.1 R.1,fun st rest h e=>by
  have c:cN st=st:=e.resolve_right fun z=>absurd (M1 z (M1 g (au s))) (by decide);have o:=gH (.inl f);have z:=R.2 st rest h (.inl c);rw[Nd];refine(L.2 st _ h (.inl c)).trans ?_;rw[c]at z⊢;exact(ru (t:= .sg s) (r:=r++rest) o.2 o.1).trans z⟩
end
theorem AO{n d:Nat}{ks:List Tk}{T:Tr}(L:Lv n d ks T):∀row,ks=row.map aY->(∀t∈row,bM t)->Dp n d row T:=by
 induction L with
 |num h=>intro row e Z0;obtain⟨t,rfl,e⟩:=List.map_eq_singleton_iff.mp e.symm;cases t<;>cases e;exact .leaf rfl h rfl
 |@name n d s h=>
  intro row e Z0;obtain⟨t,rfl,e⟩:=List.map_eq_singleton_iff.mp e.symm;cases t with
  |sg s=>cases e
  |num k=>cases e
  |here=>cases e;exact .leaf rfl h rfl
  |sym s=>cases e;exact .leaf rfl h (M5 (iX s (Z0 _ (M_ ..))))
 |@un n d s r t h hs hr ih=>
  intro row e Z0;cases row with
  |nil=>exact kT e
  |cons x r'=>obtain⟨e1,e2⟩:=O2 e;have:=iW e1.symm;subst this;exact .un (Da hs) (ih r' e2 fun t ht=>Z0 t (Nb _ ht))
 |@par n d r t h hr ih=>
  intro row e Z0;cases row with
  |nil=>exact kT e
  |cons x r1=>obtain⟨e1,e2⟩:=O2 e;have:=iW e1.symm;subst this;obtain⟨r',y,rfl,h1,h2⟩:=List.map_eq_append_iff.mp e2.symm;obtain⟨z,rfl,h3⟩:=List.map_eq_singleton_iff.mp h2;have:=iW h3;subst this;exact .par hr.dep (ih r' h1.symm fun t ht=>Z0 t (Nb _ (Ol _ ht)))
 |@bin n d s l r a b h1 hn hl hr ZO ZT=>
  intro row e Z0;obtain⟨l',y,rfl,e1,e2⟩:=List.map_eq_append_iff.mp e.symm;cases y with
  |nil=>exact A' e2
  |cons x r'=>obtain⟨e3,e4⟩:=O2 e2;have:=iW e3;subst this;exact .bin h1 hn (ZO l' e1.symm fun t ht=>Z0 t (Ol _ ht)) (ZT r' e4.symm fun t ht=>Z0 t (Oh _ (Nb _ ht)))
theorem AP{n:Nat}{row:List Lt}{T:Tr}(G:Gr n row T):(∀t∈row,bM t)->∀(st rest:List Lt),(cN st=st\/4<=n)->Lv n st.length (row.map aY) T\/aQ st false (row++rest)=true:=by
 induction G with
 |@leaf n t h=>
  intro Z0 st rest _;have hc:(bx t||gP t)=true:=by rw[h];rfl
  by_cases g:st.length<=10
  .left
   cases t with
   |sg s=>exact aK h
   |num k=>exact .num g
   |here=>exact .name (s:=[46]) g
   |sym s=>have z:Lv n st.length [.name s] (if s=[46] then .here else .name s):= .name g;rw[M5 (iX s (Z0 _ (M_ ..)))]at z;exact z
  .right
   exact(lZ hc).trans (M8 (Nat.not_le.mp g))
 |@un n s r b hs hr ih=>intro Z0 st rest _;have o:=gH (.inr hs);have e:aQ st false (.sg s::(r++rest))=aQ (.sg s::st) false (r++rest):=fA o.2;exact(ih (fun t ht=>Z0 t (Nb _ ht)) (.sg s::st) rest (.inr (Nc 4))).imp (fun L=> .un (Nl L.dep) (wH hs) L) e.trans
 |@par n r t hr ih=>
  intro Z0 st rest _;have e:aQ st false (.sg [40]::(r++ .sg [41]::rest))=aQ (.sg [40]::st) false (r++ .sg [41]::rest):=fA rfl;have e0:(Lt.sg [40]::(r++[Lt.sg [41]]))++rest= .sg [40]::(r++ .sg [41]::rest):=by simp
  have em:(Lt.sg [40]::(r++[Lt.sg [41]])).map aY= .sign [40]::(r.map aY++[.sign [41]]):=by rw[NO,NA];rfl
  rw[em,e0];exact(ih (fun t ht=>Z0 t (Nb _ (Ol _ ht))) (.sg [40]::st) (.sg [41]::rest) (.inl rfl)).imp (fun L=> .par (Nl L.dep) L) e.trans
 |@bin n s l r a b h1 hn hl hr ZO ZT=>
  intro Z0 st rest hst;have h3:=au s;have hsk:cN st=st:=hst.resolve_right (Nat.not_le.mpr (M9 (M1 hn h3) (by decide)));have o:=gH (.inl h1);have em:(l++Lt.sg s::r).map aY=l.map aY++ .sign s::r.map aY:=by rw[NA,NO];rfl
  have hokl:∀t∈l,bM t:=fun t ht=>Z0 t (Ol _ ht);rw[em,Nd];rcases ZO hokl st (.sg s::r++rest) (.inl hsk)with L|f
  .have f:=(AO L l rfl hokl).2 st (.sg s::r++rest) rfl (.inl hsk);rw[hsk]at f;have f:aQ st false (l++(.sg s::r++rest))=aQ st false (r++rest):=f.trans (ru (t:= .sg s) (r:=r++rest) o.2 o.1);exact(ZT (fun t ht=>Z0 t (Oh _ (Nb _ ht))) st rest (.inl hsk)).imp (fun R=> .bin h1 hn L R) f.trans
  .exact .inr f
noncomputable def cz(row:List Lt):Option Tr:=if aQ [] false row=true then none else a' row.length row
theorem wI{row:List Lt}(a:∀t∈row,bM t){m:Nat}(c:2*row.length+3<=m):eW m (row.map aY)=some (cz row):=by
 have d:Tk.fin∉row.map aY:=fun z=>by refine i8 z fun t _ e=>?_;cases t<;>cases e
 have b:2*(row.map aY).length+3<=m:=by rw[M6];exact c
 rcases rn (m:=m) b d with⟨t,e,L⟩|e
 .obtain⟨G,f⟩:=AO L row rfl a;have f:=f [] [] rfl (.inl rfl);rw[Nv]at f;have f:aQ [] false row=false:=f;unfold cz;rw[f,M5 (by decide),lY row.length G (Nc _)];exact e
 .rw[e];unfold cz;by_cases g:aQ [] false row=true
  .rw[M8 g]
  .rw[M5 g];cases h:a' row.length row with
   |none=>rfl
   |some t=>
    rcases AP (iV _ h) a [] [] (.inl rfl)with L|f
    .have:=lW L (m:=m) (by rw[M6];exact M9 (Nh ..) c);rw[e]at this;cases this
    .rw[Nv]at f;exact absurd f g
theorem wJ(b:Int)(w:List Nat):∀(v:List Nat)(a:Int),(∀c∈w,aD c<b)->dQ b (w++v) a=dQ b v (dQ b w a):=by
 induction w with
 |nil=>exact fun v a _=>rfl
 |cons c w e=>intro v a h;have d:¬b<=aD c:=Int.not_le.mpr (h c (M_ ..));show(if b<=aD c then -1 else dQ b (w++v) (a*b+aD c))=dQ b v (if b<=aD c then -1 else dQ b w (a*b+aD c));rw[M5 d,M5 d];exact e v _ fun c d=>h c (Nb _ d)
theorem Mg:∀k:Fin 10,(P1 k).toNat=48+k/\aD (48+k)=(k:Nat)/\lP (48+k)=true:=by decide
theorem Db:∀(k m:Nat),m<10^(k+1)->Dg 10 m (k+1) ((OQ 10 m).map O3)/\(m≠0->((OQ 10 m).map O3).head? ≠some 48):=by
 intro k;have d:∀(k m:Nat),m<10->Dg 10 m (k+1) ((OQ 10 m).map O3)/\(m≠0->((OQ 10 m).map O3).head? ≠some 48):=fun k m h=>by
  rw[Ti h];apply bc;intro i;obtain⟨a,b,q⟩:=Mg ⟨m,h⟩;apply i;have a:(P1 m).toNat=48+m:=a;have b:aD (48+m)=(m:Int):=b;show Dg 10 m (k+1) [(P1 m).toNat]/\_;rw[a];have o:¬(10:Int)<=aD (48+m):=by rw[b];lia
  refine⟨⟨NP _ _,?_,fun c j=>?_,?_,Nr 1 k⟩,fun f=>?_⟩
  .show(if(10:Int)<=aD (48+m)then -1 else(0*10+aD (48+m)))=_;rw[M5 o,b];exact QZ _
  .cases j with
   |head=>exact⟨q,Int.not_le.mp o⟩
   |tail _ z=>cases z
  .by_cases f:m=0
   .left;rw[f]
   .right
    show some (48+m)≠some 48;intro e;injection e with e;lia
  .show some (P1 m).toNat≠some 48;rw[a];intro e;injection e with e;lia
 induction k with
 |zero=>intro m h;exact d 0 m (by simpa using h)
 |succ k s=>
  intro m h;by_cases g:m<10
  .exact d (k+1) m g
  .have f:m % 10<10:=R_ m (by decide);have t:OQ 10 (m / 10)++OQ 10 (m % 10)=OQ 10 (10*(m / 10)+m % 10):=Nat.toDigits_append_toDigits (by decide) (by lia) f;rw[SW]at t;apply bc;intro i;obtain⟨D,n⟩:=s (m / 10) (by rw[TC]at h;lia);have n:=n (by lia);obtain⟨E,_⟩:=d 0 (m % 10) f;apply i;rw[←t,NA];have hh:∀y:List Nat,((OQ 10 (m / 10)).map O3++y).head? ≠some 48:=fun y=>by
    cases e:(OQ 10 (m / 10)).map O3 with
    |nil=>exact absurd e D.ne
    |cons c r=>rw[e]at n;exact n
   refine⟨⟨fun e=>D.ne (List.append_eq_nil_iff.mp e).1,?_,fun c j=>?_,.inr (hh _),?_⟩,fun _=>hh _⟩
   .have p:=wJ 10 ((OQ 10 (m / 10)).map O3) ((OQ 10 (m % 10)).map O3) 0 fun c j=>(D.c c j).2;have dv:dQ 10 ((OQ 10 (m / 10)).map O3) 0=((m / 10:Nat):Int):=D.v;rw[dv]at p;refine p.trans ?_;rw[Ti f];apply bc;intro i;obtain⟨a,b,_⟩:=Mg ⟨m % 10,f⟩;apply i;have a:(P1 (m % 10)).toNat=48+m % 10:=a;have b:aD (48+m % 10)=((m % 10:Nat):Int):=b;show(if(10:Int)<=aD (P1 (m % 10)).toNat then -1 else(((m / 10:Nat):Int)*10+aD (P1 (m % 10)).toNat))=_;rw[a,b,M5 (by lia)];lia
   .rcases List.mem_append.mp j with z|z
    .exact D.c c z
    .exact E.c c z
   .rw[M3];exact N8 D.l E.l
theorem rx(m:Nat):aE (m:Int)=(OQ 10 m).map O3:=by unfold aE;rw[TA];show((toString ((m:Nat):Int)).toList.map O3).toArray.toList=_;rw[TX];show(Wn m).toList.map O3=_;rw[UJ]
theorem rz(m:Nat):aE (-((m:Int)+1))=45::aE ((m:Int)+1):=by have e: -((m:Int)+1)=T2 m:=rfl;have a:((m:Int)+1)=((m+1:Nat):Int):=rfl;rw[e,a,rx];unfold aE;rw[TA];show((toString (T2 m)).toList.map O3).toArray.toList=_;rw[TX];show("-"++Wn (m+1)).toList.map O3=_;rw[String.toList_append,NA,UJ];rfl
theorem MX:(2:Nat)^64<10^(19+1):=by decide
theorem e6(h:m<2^64):Dg 10 m 20 (aE (m:Int)):=by rw[rx];exact(Db 19 m (O7 h MX)).1
theorem wK(h:m<2^64):cy m (aE (m:Int)):=FQ (e6 h)
noncomputable def bY:Tr->Prop
 |.num n=>0<=n/\n<2^64
 |.name s=>s∈bj
 |.here=>True
 |.un s b=>s∈gO/\bY b
 |.bin s l r=>1<=ae s/\bY l/\bY r
theorem F7{n:Nat}{row:List Lt}{T:Tr}(G:Gr n row T):(∀t∈row,bM t)->bY T/\sz T<=row.length:=by
 induction G with
 |@leaf n t h=>
  intro Z0;have:=Z0 t (M_ ..);cases t with
  |sg s=>exact aK h
  |num k=>exact⟨⟨NE k,by have:k<2^64:=this;show(k:Int)<_;exact Int.ofNat_lt.mpr this⟩,Nc _⟩
  |sym s=>exact⟨this,Nc _⟩
  |here=>exact⟨trivial,Nc _⟩
 |un hs hr ih=>intro Z0;obtain⟨a,b⟩:=ih fun t ht=>Z0 t (Nb _ ht);exact⟨⟨hs,a⟩,Ny b⟩
 |par hr ih=>intro Z0;obtain⟨a,b⟩:=ih fun t ht=>Z0 t (Nb _ (Ol _ ht));refine⟨a,M1 b ?_⟩;rw[Nt,M3];exact M1 (Nh ..) (Oc _)
 |bin h1 hn hl hr ZO ZT=>intro Z0;apply bc;intro qK;obtain⟨a,b⟩:=ZO fun t ht=>Z0 t (Ol _ ht);obtain⟨c,d⟩:=ZT fun t ht=>Z0 t (Oh _ (Nb _ ht));apply qK;refine⟨⟨h1,a,c⟩,?_⟩;rw[M3,Nt];show sz _+sz _+1<=_;exact Ny (N8 b d)
noncomputable def cY(b:Bool)(r:List Lt):List Lt:=if b=true then .sg [40]::(r++[.sg [41]])else r
noncomputable def hM:Tr->List Lt
 |.num n=>[.num n.toNat]
 |.name s=>[.sym s]
 |.here=>[.here]
 |.un s b=> .sg s::cY (decide (aN b<4)) (hM b)
 |.bin s l r=>cY (decide (aN l<ae s)) (hM l)++ .sg s::cY (decide (aN r<ae s+1)) (hM r)
theorem qc(h:∀t∈r,bM t):∀t∈cY b r,bM t:=by
 cases b with
 |false=>exact h
 |true=>
  intro t a;cases a with
  |head=>exact .inr (.inr (.inl rfl))
  |tail _ z=>
   rcases List.mem_append.mp z with z|z
   .exact h t z
   .cases z with
    |head=>exact .inr (.inr (.inr rfl))
    |tail _ z=>cases z
theorem hO(h:1<=ae s):s∈eD:=NW (el h)
theorem oo:∀{T:Tr},bY T->∀t∈hM T,bM t
 |.num n,h,t,a=>by
  cases a with
  |head=>have c:=h.1;have d:=h.2;show n.toNat<2^64;lia
  |tail _ z=>cases z
 |.name s,h,t,a=>by
  cases a with
  |head=>exact h
  |tail _ z=>cases z
 |.here,h,t,a=>by
  cases a with
  |head=>trivial
  |tail _ z=>cases z
 |.un s b,h,t,a=>by
  cases a with
  |head=>exact .inr (.inl h.1)
  |tail _ z=>exact qc (oo h.2) t z
 |.bin s l r,h,t,a=>by
  rcases List.mem_append.mp a with z|z
  .exact qc (oo h.2.1) t z
  .cases z with
   |head=>exact .inl (hO h.1)
   |tail _ z=>exact qc (oo h.2.2) t z
noncomputable def Fg(p:Option Lt)(g:Nat):Prop:=g=0->∀x,p=some x->bx x=false/\cK x=false
noncomputable def oF(r:List Lt)(x:List Nat):Prop:=∀(p:Option Lt)(g:Nat)(rest:List Lt)(y:List Nat),Fg p g->(∀z,cK z=false->Sp (some z) rest y)->Sp p (r++rest) (Nz g 32++(x++y))
theorem Fg.gap(h:Fg p g):wg p t g:=fun e x a=>⟨by rw[(h e x a).1,S3],(h e x a).2⟩
theorem z4(a:nW t w)(b:cK t=false):oF [t] w:=fun p g rest y c k=>by have z:=Sp.cons a c.gap (k t b);rw[Nd]at z;exact z
theorem rA(h:oF r x)(h':∀z,cK z=false->∀rest y,(∀z,cK z=false->Sp (some z) rest y)->Sp (some z) (r'++rest) (a++y)):oF (r++r') (x++a):=fun p g rest y b k=>by have z:=h p g (r'++rest) (a++y) b fun z c=>h' z c rest y k;rw[Nd,Nd];exact z
theorem jT(hs:cK (.sg s)=false)(h:oF r x):oF (.sg s::r) (s++x):=fun p g rest y a k=>by have z:=Sp.cons (t:= .sg s) (w:=s) rfl a.gap (h (some (.sg s)) 0 rest y (fun _ x b=>by injection b with z0;subst z0;exact⟨rfl,hs⟩) k);rw[Nd]at z;rw[Nd];exact z
theorem rB(h:oF r x):oF (cY b r) (bw b x):=by
 cases b with
 |false=>exact h
 |true=>
  have z:oF (.sg [40]::(r++[.sg [41]])) ([40]++(x++[41])):=jT rfl (rA h fun z a rest y k=>by
   have w:=Sp.cons (t:= .sg [41]) (w:=[41]) (g:=0) (p:=some z) rfl (fun _ x c=>by injection c with z0;subst z0;exact⟨rfl,a⟩) (k (.sg [41]) rfl);exact w)
  rw[←Nd]at z;exact z
theorem l4(a:oF l x)(b:oF r y):oF (l++ .sg s::r) (x++([32]++(s++([32]++y)))):=
 rA a fun z c rest w k=>by
  have z:=Sp.cons (t:= .sg s) (w:=s) (g:=1) (p:=some z) rfl (fun e=>aK (beq_iff_eq.mpr e)) (b (some (.sg s)) 1 rest w (fun e=>aK (beq_iff_eq.mpr e)) k);have e:([32]++(s++([32]++y)))++w=Nz 1 32++s++(Nz 1 32++(y++w)):=by simp[Nd]
  rw[e];exact z
theorem rC(s:List Nat)(l r:Tr):cQ (.bin s l r)=bw (decide (aN l<ae s)) (cQ l)++([32]++(s++([32]++bw (decide (aN r<ae s+1)) (cQ r)))):=by show bw (decide (aN l<ae s)) (cQ l)++[32]++s++[32]++bw (decide (aN r<ae s+1)) (cQ r)=_;simp only[Nd]
theorem Dc(h:s∈gO):cK (.sg s)=false:=by
 have:∀s∈gO,cK (.sg s)=false:=by decide
 exact this s h
theorem oq{n:Int}(h:0<=n/\n<2^64):nW (.num n.toNat) (aE n):=by have e:((n.toNat:Nat):Int)=n:=Op h.1;have w:cy n.toNat (aE (n.toNat:Int)):=wK (by have:=h.2;lia);rw[e]at w;exact w
noncomputable def rD:Tr->Nat->Prop
 |.un _ b,d=>d<=10/\(if aN b<4 then d+1<=10/\rD b (d+2)else rD b (d+1))
 |.bin s l r,d=>(if aN l<ae s then d<=10/\rD l (d+1)else rD l d)/\(if aN r<ae s+1 then d<=10/\rD r (d+1)else rD r d)
 |_,d=>d<=10
noncomputable def z5(k d:Nat)(T:Tr):Prop:=if aN T<k then d<=10/\rD T (d+1)else rD T d
theorem dp:∀{T:Tr}{d:Nat},rD T (d+1)->rD T d
 |.num _,d,h|.name _,d,h|.here,d,h=>Nl h
 |.un s b,d,h=>by
  refine⟨Nl h.1,?_⟩;have a:=h.2;by_cases g:aN b<4
  .rw[M8 g]at a⊢;exact⟨Nl a.1,dp a.2⟩
  .rw[M5 g]at a⊢;exact dp a
 |.bin s l r,d,h=>by
  obtain⟨c,a⟩:=h;refine⟨?_,?_⟩
  .by_cases g:aN l<ae s
   .rw[M8 g]at c⊢;exact⟨Nl c.1,dp c.2⟩
   .rw[M5 g]at c⊢;exact dp c
  .by_cases g:aN r<ae s+1
   .rw[M8 g]at a⊢;exact⟨Nl a.1,dp a.2⟩
   .rw[M5 g]at a⊢;exact dp a
theorem rE:∀{T:Tr},bY T->1<=aN T
 |.num _,_|.name _,_|.here,_|.un _ _,_=>(by decide:1<=4)
 |.bin _ _ _,h=>h.1
theorem z6{b:Bool}{r:List Lt}:(cY b r).map aY=if b=true then .sign [40]::(r.map aY++[.sign [41]])else r.map aY:=by
 cases b with
 |false=>rfl
 |true=>show(Lt.sg [40]::(r++[Lt.sg [41]])).map aY=_;rw[NO,NA];rfl
theorem qd{k d:Nat}{T:Tr}(a:bY T)(H:∀d,rD T d->Lv (aN T) d ((hM T).map aY) T)(h:z5 k d T):Lv k d ((cY (decide (aN T<k)) (hM T)).map aY) T:=by
 unfold z5 at h;rw[z6];by_cases g:aN T<k
 .rw[M8 g]at h;rw[NH g,M8 rfl];exact .par h.1 ((H _ h.2).weak (rE a))
 .rw[M5 g]at h;rw[NK g,M5 (by decide)];exact(H _ h).weak (Nat.not_lt.mp g)
theorem rF:∀{T:Tr},bY T->∀d,rD T d->Lv (aN T) d ((hM T).map aY) T
 |.num n,h,d,a=>by have e:((n.toNat:Nat):Int)=n:=Op h.1;show Lv 4 d [.num ((n.toNat:Nat):Int)] _;rw[e];exact .num a
 |.name s,h,d,a=>by have z:Lv 4 d [.name s] (if s=[46] then .here else .name s):= .name a;rw[M5 (iX s h)]at z;exact z
 |.here,h,d,a=> .name (s:=[46]) a
 |.un s b,h,d,a=> .un a.1 (wH h.1) (qd (k:=4) (d:=d+1) h.2 (rF h.2) a.2)
 |.bin s l r,h,d,a=>by
  have z:Lv (ae s) d ((cY (decide (aN l<ae s)) (hM l)).map aY++ .sign s::(cY (decide (aN r<ae s+1)) (hM r)).map aY) (.bin s l r):=
   .bin h.1 (Nc _) (qd (k:=ae s) (d:=d) h.2.1 (rF h.2.1) a.1) (qd (k:=ae s+1) (d:=d) h.2.2 (rF h.2.2) a.2)
  have e:(hM (.bin s l r)).map aY=(cY (decide (aN l<ae s)) (hM l)).map aY++ .sign s::(cY (decide (aN r<ae s+1)) (hM r)).map aY:=by show(cY (decide (aN l<ae s)) (hM l)++Lt.sg s::cY (decide (aN r<ae s+1)) (hM r)).map aY=_;rw[NA,NO];rfl
  rw[e];exact z
theorem qe{n d:Nat}{ks:List Tk}{T:Tr}(L:Lv n d ks T):1<=aN T:=by
 induction L with
 |num=>exact(by decide:1<=4)
 |name=>split<;>exact(by decide:1<=4)
 |un=>exact(by decide:1<=4)
 |par _ _ ih=>exact ih
 |bin h1=>exact h1
noncomputable def tZ:Tr->Nat
 |.un _ b=>tZ b+(if aN b<4 then 1 else 0)
 |.bin s l r=>tZ l+(if aN l<ae s then 1 else 0)+(tZ r+(if aN r<ae s+1 then 1 else 0))
 |_=>0
theorem l5{n d:Nat}{T:Tr}(h:n<=aN T)(k:rD T d):z5 n d T:=by unfold z5;rw[M5 (Nat.not_lt.mpr h)];exact k
theorem iY{n c:Nat}{T:Tr}(h:n<=aN T)(k:tZ T<=c):tZ T+(if aN T<n then 1 else 0)<=c:=by rw[M5 (Nat.not_lt.mpr h)];exact k
theorem Dd{n d:Nat}{ks:List Tk}{T:Tr}(L:Lv n d ks T):n<=4->z5 n d T:=by
 induction L with
 |num h=>exact fun hn=>l5 (T:= .num _) hn h
 |name h=>
  intro hn;split
  .exact l5 (T:= .here) hn h
  .exact l5 (T:= .name _) hn h
 |un h hs hr ih=>exact fun hn=>l5 (T:= .un _ _) hn ⟨h,ih (Nc 4)⟩
 |@par n d r t h hr ih=>
  intro hn;have z:=ih (by decide);unfold z5 at z;rw[M5 (Nat.not_lt.mpr (qe hr))]at z;unfold z5;by_cases g:aN t<n
  .rw[M8 g];exact⟨h,z⟩
  .rw[M5 g];exact dp z
 |@bin n d s l r a b h1 hn' hl hr ZO ZT=>intro hn;have h3:=au s;have e:z5 n d (.bin s a b)=rD (.bin s a b) d:=M5 (Nat.not_lt.mpr hn');rw[e];exact⟨ZO (M1 h3 (by decide)),ZT (M9 h3 (by decide))⟩
theorem ou{ks:List Tk}{T:Tr}(a:bY T)(L:Lv 1 0 ks T):Lv 1 0 ((hM T).map aY) T:=by have z:=Dd L (by decide);unfold z5 at z;rw[M5 (Nat.not_lt.mpr (qe L))]at z;exact(rF a 0 z).weak (rE a)
noncomputable def tS:Tk->Bool
 |.sign s=>s==[40]
 |_=>false
theorem ov(k:Tk)(r:List Tk):r.countP tS<=(k::r).countP tS:=by rw[List.countP_cons];exact Nh _ _
theorem z7{n d:Nat}{ks:List Tk}{T:Tr}(L:Lv n d ks T):n<=4->tZ T+(if aN T<n then 1 else 0)<=ks.countP tS:=by
 induction L with
 |num h=>exact fun hn=>iY (T:= .num _) hn (NJ _)
 |name h=>
  intro hn;split
  .exact iY (T:= .here) hn (NJ _)
  .exact iY (T:= .name _) hn (NJ _)
 |un h hs hr ih=>exact fun hn=>iY (T:= .un _ _) hn (M1 (ih (Nc 4)) (ov _ _))
 |@par n d r t h hr ih=>
  intro hn;have z:=ih (by decide);rw[M5 (Nat.not_lt.mpr (qe hr))]at z;rw[P7 rfl,N4];have:(if aN t<n then 1 else 0)<=1:=by split<;>decide
  lia
 |@bin n d s l r a b h1 hn' hl hr ZO ZT=>intro hn;have h3:=au s;have e:(if aN (.bin s a b)<n then 1 else 0)=0:=M5 (Nat.not_lt.mpr hn');rw[e,N4];have z1:=ZO (M1 h3 (by decide));have z2:=ZT (M9 h3 (by decide));have z3:r.countP tS<=(Tk.sign s::r).countP tS:=ov _ _;show tZ a+_+(tZ b+_)<=_;lia
noncomputable def DW:Lt->Bool
 |.sg s=> !(s==[40]||s==[41])
 |_=>true
def DX(r:List Lt)(u z:List Nat):Prop:=∃ky v r',z=ky++41::v/\dn 0 (40::(ky++[41]))/\oF r' (u++(ky++v))/\r'.countP ck<r.countP ck/\r'.countP DW=r.countP DW/\r'.length<=r.length/\∀t∈r',t∈r
theorem DX.ctx{r A B R:List Lt}{u z p q:List Nat}(C:DX r u z)(a:R=A++(r++B))(b:∀{r' y},oF r' y->oF (A++(r'++B)) (p++(y++q))):DX R (p++u) (z++q):=by
 apply bc;intro c;obtain⟨ky,v,r',d,e,f,g,i,j,k⟩:=C;apply c;have z:=b f;rw[Nd,Nd,←Nd p]at z;refine⟨ky,v++q,A++(r'++B),by rw[d,Nd];rfl,e,z,?_,?_,?_,?_⟩<;>rw[a]
 .rw[N4,N4,N4,N4];exact QO (Nat.add_lt_add_right g _) _
 .rw[N4,N4,N4,N4,i]
 .rw[M3,M3,M3,M3];exact NG (NF j _) _
 .exact fun t l=>(List.mem_append.mp l).elim (fun h=>Ol _ h) fun h=>Oh _ ((List.mem_append.mp h).elim (fun h=>Ol _ (k t h)) fun h=>Oh _ h)
structure Dl(r:List Lt)(x:List Nat):Prop where
 sp:oF r x
 neu:∀(dep:Int)(rest:List Nat),1<=dep->rest≠[]->dn dep rest->dn dep (x++rest)
 del:∀u z,x=u++40::z->DX r u z
theorem qf:(∀c∈w,c≠40/\c≠41)->∀(a:Int)(rest:List Nat),1<=a->rest≠[]->dn a rest->dn a (w++rest):=by
 induction w with
 |nil=>exact fun _ _ _ _ _ h=>h
 |cons c w g=>
  intro d a rest f i h;have b:=d c (M_ ..);have e:zD a c=a:=by unfold zD;rw[M5 (by simpa using b.1),M5 (by simpa using b.2),Ry,PO]
  refine .inr ⟨by rw[e];exact f,?_⟩;rw[e];exact g (fun c b=>d c (Nb _ b)) a rest f i h
theorem De(a:∀c∈w,c≠40/\c≠41)(e:w=u++40::z):False:=
 (a 40 (by rw[e];exact Oh _ (M_ ..))).1 rfl
theorem qg(b:nW t w)(d:cK t=false)(a:∀c∈w,c≠40/\c≠41):Dl [t] w:=
 ⟨z4 b d,qf a,fun u z e=>(De a e).elim⟩
theorem iZ(e:a++b=u++40::z):(∃c,u=a++c/\b=c++40::z)\/∃c,a=u++40::c/\z=c++b:=by
 rcases List.append_eq_append_iff.mp e with⟨c,d,f⟩|⟨c,d,f⟩
 .exact .inl ⟨c,d,f⟩
 .cases c with
  |nil=>exact .inl ⟨[],by rw[d];simp,by rw[←O1 b,←f];rfl⟩
  |cons y c=>obtain⟨g,h⟩:=O2 f;subst g;exact .inr ⟨c,d,h⟩
theorem z8{s:List Nat}{r:List Lt}{x:List Nat}(hs:cK (.sg s)=false)(f:∀c∈s,c≠40/\c≠41)(h:Dl r x):Dl (.sg s::r) (s++x):=by
 refine⟨jT hs h.sp,fun a rest b d g=>?_,fun u z e=>?_⟩
 .rw[Nd];exact qf f a _ b (fun z=>d (List.append_eq_nil_iff.mp z).2) (h.neu a rest b d g)
 .rcases iZ e with⟨c,i,d⟩|⟨c,b,_⟩
  .have C:=(h.del c z d).ctx (R:= .sg s::r) (A:=[.sg s]) (B:=[]) (p:=s) (q:=[]) (by rw[Nv];rfl) fun k=>by rw[Nv,Nv];exact jT hs k
   rw[Nv,←i]at C;exact C
  .exact(De f b).elim
theorem qh(b:∀(a:Int)(rest:List Nat),1<=a->rest≠[]->dn a rest->dn a (x++rest)):dn 0 (40::(x++[41])):=
 .inr ⟨by decide,b 1 [41] (by decide) (NP _ _) (.inl ⟨rfl,by decide⟩)⟩
theorem F8(r:List Lt):(Lt.sg [40]::(r++[Lt.sg [41]])).countP ck=r.countP ck+1:=by rw[P7 (show ck (.sg [40])=true from rfl),N4];rfl
theorem Lw(r:List Lt):(Lt.sg [40]::(r++[Lt.sg [41]])).countP DW=r.countP DW:=by rw[P8 (show ¬DW (.sg [40])=true by decide),N4];rfl
theorem z9{r:List Lt}{x u z:List Nat}(h:Dl r x)(e:40::(x++[41])=u++40::z):DX (cY true r) u z:=by
 cases u with
 |nil=>
  refine⟨x,[],r,(O2 e).2.symm,qh h.neu,by rw[O1,Nv];exact h.sp,?_,(Lw r).symm,?_,fun t d=>Nb _ (Ol _ d)⟩
  .rw[show cY true r=Lt.sg [40]::(r++[Lt.sg [41]])from rfl,F8];exact NR _
  .rw[show cY true r=Lt.sg [40]::(r++[Lt.sg [41]])from rfl,Nt,M3];exact Nh _ 2
 |cons c u=>
  obtain⟨f,g⟩:=O2 e;rw[←f];rcases iZ g with⟨c,_,a⟩|⟨c,i,j⟩
  .exfalso;cases c with
   |nil=>exact absurd (O2 a).1 (by decide)
   |cons y c=>have:=(O2 a).2;cases c<;>exact aK (beq_iff_eq.mpr this)
  .rw[j];exact(h.del u c i).ctx (A:=[.sg [40]]) (B:=[.sg [41]]) (p:=[40]) (q:=[41]) rfl fun k=>rB (b:=true) k
theorem qi(h:Dl r x):Dl (cY b r) (bw b x):=by
 cases b with
 |false=>exact h
 |true=>
  refine⟨rB (b:=true) h.sp,fun a rest c g f=>?_,fun u z e=>z9 h e⟩;have e:bw true x++rest=40::(x++(41::rest)):=by show 40::((x++[41])++rest)=_;rw[Nd];rfl
  have d0:zD a 40=a+1:=PO _;have d1:zD (a+1) 41=a:=by show a+1+0-1=a;rw[Ry,P9]
  have d:1<=a+1:=OY c (PP (Int.lt_succ a));rw[e];refine .inr ⟨by rw[d0];exact d,?_⟩;rw[d0];exact h.neu (a+1) _ d (NP _ _) (.inr ⟨by rw[d1];exact c,by rw[d1];exact f⟩)
theorem z_{s:List Nat}{l r:List Lt}{x y u z:List Nat}(h:∀c∈[32]++(s++[32]),c≠40/\c≠41)(d:Dl l x)(f:Dl r y)(e:x++(([32]++(s++[32]))++y)=u++40::z):DX (l++ .sg s::r) u z:=by
 rcases iZ e with⟨c,i,j⟩|⟨c,m,n⟩
 .rcases iZ j with⟨g,a,b⟩|⟨g,b,_⟩
  .have C:=(f.del g z b).ctx (R:=l++ .sg s::r) (A:=l++[.sg s]) (B:=[]) (p:=x++([32]++(s++[32]))) (q:=[]) (by rw[Nv,Nd];rfl) fun{r' y} k=>by have z:=l4 (s:=s) d.sp k;rw[Nv,Nv,Nd,Nd x,Nd [32],Nd s];exact z
   rw[Nv,Nd,←a,←i]at C;exact C
  .exact(De h b).elim
 .rw[n];refine(d.del u c m).ctx (A:=[]) (B:= .sg s::r) (p:=[]) rfl fun k=>?_;have z:=l4 (s:=s) k f.sp;rw[Nd [32],Nd s];exact z
theorem Df(g:∀c∈[32]++(s++[32]),c≠40/\c≠41)(b:Dl l x)(d:Dl r y):Dl (l++ .sg s::r) (x++([32]++(s++([32]++y)))):=by
 have i:[32]++(s++([32]++y))=([32]++(s++[32]))++y:=by rw[Nd,Nd]
 refine⟨l4 b.sp d.sp,fun a rest f j h=>?_,fun u z e=>z_ g b d (i▸e)⟩;rw[i,Nd,Nd];have k:y++rest≠[]:=fun z=>j (List.append_eq_nil_iff.mp z).2;exact b.neu a _ f (fun z=>k (List.append_eq_nil_iff.mp z).2) (qf g a _ f k (d.neu a rest f j h))
theorem AR{T:Tr}:bY T->Dl (hM T) (cQ T):=by
 induction T with
 |num n=>intro h;have e:((n.toNat:Nat):Int)=n:=Op h.1;have D:=e6 (m:=n.toNat) (Int.ofNat_lt.mp (by rw[e];exact h.2));rw[e]at D;refine qg (t:= .num n.toNat) (oq h) rfl fun c f=>?_;have:=(D.c c f).1;exact⟨fun e=>aK (by rw[e]at this;exact this),fun e=>aK (by rw[e]at this;exact this)⟩
 |name s=>exact fun h=>qg (t:= .sym s) rfl rfl ((show ∀s∈bj,∀c∈s,c≠40/\c≠41 by decide) s h)
 |here=>exact fun _=>qg (t:= .here) rfl rfl (by decide)
 |un s b g=>exact fun h=>z8 (Dc h.1) ((show ∀s∈gO,∀c∈s,c≠40/\c≠41 by decide) s h.1) (qi (g h.2))
 |bin s l r a d=>intro h;rw[rC];exact Df ((show ∀s∈eD,∀c∈[32]++(s++[32]),c≠40/\c≠41 by decide) s (hO h.1)) (qi (a h.2.1)) (qi (d h.2.2))
theorem wL(h:oF r x):Sp none r x:=by have z:=h none 0 [] [] (fun _ x a=>aj a) fun z _=> .nil;rw[Nv,Nv]at z;exact z
theorem l6(b:Bool)(r:List Lt):(cY b r).length<=r.length+2:=by
 cases b with
 |false=>exact Nh _ _
 |true=>show(Lt.sg [40]::(r++[Lt.sg [41]])).length<=_;rw[Nt,M3];exact Nc _
theorem AS(T:Tr):(hM T).length+2<=3*sz T:=by
 induction T with
 |un s b a=>exact M1 (NF (Ny (l6 (decide (aN b<4)) (hM b))) 2) (NF a 3)
 |bin s l r c d=>show(cY _ (hM l)++Lt.sg s::cY _ (hM r)).length+2<=3*(sz l+sz r+1);rw[M3,Nt,Ra,Ra];exact NF (N8 (M1 (l6 _ _) c) (Ny (M1 (l6 _ _) d))) 2
 |_=>exact Nc _
theorem wM(b:Bool)(x:List Nat):(bw b x).length<=x.length+2:=by
 cases b with
 |false=>exact Nh _ _
 |true=>show([40]++x++[41]).length<=_;rw[M3,M3];show 1+x.length+1<=_;lia
theorem Dh(h:bY (.num n)):(cQ (.num n)).length<=20:=by have e:((n.toNat:Nat):Int)=n:=Op h.1;have D:=e6 (m:=n.toNat) (Int.ofNat_lt.mp (by rw[e];exact h.2));rw[e]at D;exact D.l
theorem wN{T:Tr}:bY T->(cQ T).length+8<=28*sz T:=by
 induction T with
 |num n=>exact fun h=>NF (Dh h) 8
 |name s=>exact fun h=>NF ((show ∀s∈bj,s.length<=20 by decide) s h) 8
 |here=>exact fun _=>(by decide:1+8<=28)
 |un s b d=>intro h;show(s++bw (decide (aN b<4)) (cQ b)).length+8<=28*sz b+28;rw[M3];refine M1 (NF (N8 ((show ∀s∈gO,s.length<=1 by decide) s h.1) (wM _ _)) 8) ?_;rw[Of 1];exact M1 (NF (d h.2) 3) (NG (show 3<=28 by decide) _)
 |bin s l r a c=>intro h;have p:∀{b x k},x.length+8<=k->(bw b x).length<=k:=fun{b x _} z=>M1 (wM b x) (M1 (NG (by decide) _) z);rw[rC];show(bw _ (cQ l)++(32::(s++32::bw _ (cQ r)))).length+8<=28*(sz l+sz r+1);rw[M3,Nt,M3,Nt];refine M1 (NF (N8 (p (a h.2.1)) (Ny (N8 ((show ∀s∈eD,s.length<=2 by decide) s (hO h.1)) (Ny (p (c h.2.2)))))) 8) ?_;rw[Ra,Ra,Of 2];exact NG (show 12<=28 by decide) _
noncomputable def DY:Tk->Bool
 |.sign s=> !(s==[40]||s==[41])
 |_=>true
theorem AT{n d:Nat}{ks:List Tk}{T:Tr}(L:Lv n d ks T):sz T=ks.countP DY:=by
 induction L with
 |num=>rfl
 |name=>split<;>rfl
 |@un n d s r t h hs hr ih=>
  have e:DY (.sign s)=true:=by rcases hs with rfl|rfl|rfl<;>rfl
  rw[P7 e,←ih];rfl
 |@par n d r t h hr ih=>rw[P8 (show ¬DY (.sign [40])=true by decide),N4,←ih];rfl
 |@bin n d s l r a b h1 hn hl hr ZO ZT=>
  have e:DY (.sign s)=true:=by
   have:∀s∈eD,DY (.sign s)=true:=by decide
   exact this s (hO h1)
  rw[N4,P7 e,←ZO,←ZT];rfl
theorem wO(r:List Lt):(r.map aY).countP DY=r.countP DW:=by rw[UE];refine Ul fun t _=>?_;cases t<;>rfl
theorem Di(r:List Lt):(r.map aY).countP tS=r.countP ck:=by rw[UE];refine Ul fun t _=>?_;cases t<;>rfl
theorem l7(b:Bool)(r:List Lt):(cY b r).countP ck=r.countP ck+(if b=true then 1 else 0):=by
 cases b with
 |false=>rfl
 |true=>exact F8 r
theorem Dj{T:Tr}:bY T->(hM T).countP ck=tZ T:=by
 induction T with
 |un s b d=>
  intro h;have e:¬ck (.sg s)=true:=by rw[(gH (.inr h.1)).1];decide
  show(Lt.sg s::cY _ (hM b)).countP ck=tZ b+_;rw[P8 e,l7,d h.2];simp only[Ox]
 |bin s l r a c=>
  intro h;have e:¬ck (.sg s)=true:=by rw[(gH (.inl h.1)).1];decide
  show(cY _ (hM l)++Lt.sg s::cY _ (hM r)).countP ck=tZ l+_+(tZ r+_);rw[N4,P8 e,l7,l7,a h.2.1,c h.2.2];simp only[Ox]
 |_=>exact fun _=>rfl
theorem ow(h:dX (a::as) (b::c)=true):fC a b=true/\dX as c=true:=by have h:(fC a b&&dX as c)=true:=h;exact Bool.and_eq_true_iff.mp h
theorem i3(h:fC (.str s) (.str t)=true):s=t:=N3 (show(s==t)=true from h)
noncomputable def f7:Tr->List Nat
 |.num _=>g8|.name _=>pK|.here=>ij|.un _ _=>Fo|.bin _ _ _=>Fp
noncomputable def wP:Tr->List PV
 |.num n=>[.int n]|.name s=>[.str s]|.here=>[]|.un s b=>[.str s,tt b]|.bin s l r=>[.str s,tt l,tt r]
theorem AU(t:Tr):tt t= .tup (.str (f7 t)::wP t):=by cases t<;>rfl
theorem jU(h:fC (tt u) (tt t)=true):f7 u=f7 t/\dX (wP u) (wP t)=true:=by rw[AU u,AU t]at h;have h:dX (.str (f7 u)::wP u) (.str (f7 t)::wP t)=true:=h;obtain⟨a,b⟩:=ow h;exact⟨i3 a,b⟩
theorem Dk:∀{t:Tr},fC (tt u) (tt t)=true->u=t:=by
 induction u with
 |num a=>
  intro t h;obtain⟨e,h⟩:=jU h;cases t with
  |num b=>rw[N3 (show(a==b)=true from(ow h).1)]
  |_=>exact aK (show(f7 _==f7 _)=true from beq_iff_eq.mpr e)
 |name a=>
  intro t h;obtain⟨e,h⟩:=jU h;cases t with
  |name b=>rw[i3 (ow h).1]
  |_=>exact aK (show(f7 _==f7 _)=true from beq_iff_eq.mpr e)
 |here=>
  intro t h;replace h:=(jU h).1;cases t with
  |here=>rfl
  |_=>exact aK (show(f7 _==f7 _)=true from beq_iff_eq.mpr h)
 |un s b g=>
  intro t h;obtain⟨e,h⟩:=jU h;cases t with
  |un s' j=>obtain⟨c,h⟩:=ow h;rw[i3 c,g (ow h).1]
  |_=>exact aK (show(f7 _==f7 _)=true from beq_iff_eq.mpr e)
 |bin s l r d f=>
  intro t h;obtain⟨e,h⟩:=jU h;cases t with
  |bin s' k r'=>obtain⟨c,h⟩:=ow h;obtain⟨i,h⟩:=ow h;rw[i3 c,d i,f (ow h).1]
  |_=>exact aK (show(f7 _==f7 _)=true from beq_iff_eq.mpr e)
theorem F9(row:List Lt):Tk.fin∉row.map aY:=fun z=>by refine i8 z fun t _ e=>?_;cases t<;>cases e
theorem F_{n:Nat}{T:Tr}{ks0:List Tk}{at':Nat}{z:List Nat}(hT:bY T)(L0:Lv 1 0 ks0 T)(hz:sz T<=45)(h:(cQ T).drop at'=40::z)(hn:300<=n)(hn2:n<=1900){σ:aa}{Q:QV}{X:QX}
  (q:Q (.bool false) σ):af (n+10) (.ref 919) [.str (cQ T),.int at',tt T] σ Q X:=by
 have tl:=wN hT;have rl:=AS T;have L:=ou hT L0;apply bc;intro qK;obtain⟨ky,v,r',k1,k2,k3,k4,k5,k7,k6⟩:=(AR hT).del ((cQ T).take at') z (by rw[←h,TE]);apply qK;have ok':∀t∈r',bM t:=fun t ht=>oo hT t (k6 t ht);have e1:((40::(ky++[41])).drop 1).dropLast=ky:=RU;have ZV:(r'.map aY).length=r'.length:=M6 ..;refine Ln (x:=cQ T) (m:=40::(ky++[41])) (r:=v) (P:=fun o=>o=some (r'.map aY)) (by lia) (by rw[h,k1];simp) k2 (by rw[Nt,M3];exact Ny (Nr _ _)) (by lia) (by lia) hn2 ?_ (fun e=>aj e) fun ks hk hl=>?_
 .rw[e1,Nd];exact lX (wL k3) ok' rfl
 .injection hk with z0;subst z0
  rcases rn (m:=n) (ks:=r'.map aY) (by rw[ZV];lia) (F9 r')with⟨u,e,L'⟩|e
  .refine⟨_,e,?_⟩;have e2:sz u=sz T:=by rw[AT L',AT L,wO,wO,k5]
   refine⟨by rw[e2];lia,?_⟩;have e3:fC (tt u) (tt T)=false:=by
    cases e4:fC (tt u) (tt T)with
    |false=>rfl
    |true=>exfalso;have:=Dk e4;subst this;have c1:=z7 L' (by decide);rw[Di]at c1;rw[Dj hT]at k4;lia
   rw[e3];exact q
  .exact⟨_,e,q⟩
theorem e7(a b:Int):gC a b=a.tdiv b:=by
 have n:∀k:Nat,decide (T2 k<0)=true:=fun k=>NH (Int.negSucc_lt_zero k);have p:∀k:Nat,decide (We k<0)=false:=fun k=>NK (Int.not_lt.mpr (NE k));have fd:∀m n:Nat,(m:Int).fdiv (n:Int)=(m:Int).tdiv (n:Int):=fun m n=>Int.fdiv_eq_tdiv_of_nonneg (NE m) (NE n);unfold gC;rw[fd];cases a with
 |ofNat a=>
  cases b with
  |ofNat b=>rw[p,p,M5 (by decide)];rfl
  |negSucc b=>rw[p,n,M8 (show(false==true)=false from rfl)];rfl
 |negSucc a=>
  cases b with
  |ofNat b=>rw[p,n,M8 (show(true==false)=false from rfl)];rfl
  |negSucc b=>rw[n,n,M5 (by decide)];rfl
theorem rG(a:Int)(e:b≠0):gC a b=if a.fmod b≠0/\decide (a<0)≠decide (b<0)then a.fdiv b+1 else a.fdiv b:=by
 rw[e7,Int.fdiv_eq_tdiv];by_cases h:b∣a
 .have z:=Int.fmod_eq_zero_of_dvd h;rw[M8 h,M5 (fun k=>k.1 z)];exact(PO _).symm
 .have z:a.fmod b≠0:=fun z=>h (Int.dvd_of_fmod_eq_zero z);rw[M5 h];by_cases d:0<=a
  .have a0:decide (a<0)=false:=NK (Int.not_lt.mpr d);rw[M8 d,a0];by_cases c:0<=b
   .have b0:decide (b<0)=false:=NK (Int.not_lt.mpr c);rw[M8 c,b0,M5 (fun k=>k.2 rfl)];exact(PO _).symm
   .have b0:decide (b<0)=true:=NH (Int.not_le.mp c);rw[M5 c,b0,M8 ⟨z,by decide⟩];exact(Um ..).symm
  .have a0:decide (a<0)=true:=NH (Int.not_le.mp d);rw[M5 d,a0];by_cases c:0<=b
   .have b0:decide (b<0)=false:=NK (Int.not_lt.mpr c);rw[M8 c,b0,M8 ⟨z,by decide⟩,Int.sign_eq_one_of_pos (by omega)];exact(Um ..).symm
   .have b0:decide (b<0)=true:=NH (Int.not_le.mp c);rw[M5 c,b0,M5 (fun k=>k.2 rfl),Int.sign_eq_neg_one_of_neg (Int.not_le.mp c)];exact(PO _).symm
theorem rH(x y:Int):QK x y=x+y-2*OB x y:=by unfold QK;rw[Vp,VI,T0]
theorem wQ(h:1<=ae s)(d:s≠[43])(e:s≠[45])(a b:Int):pO s a b=pV s a b:=by
 have:∀s∈eD,s=[42]\/s=[47]\/s=[37]\/s=[60,60]\/s=[62,62]\/s=[124]\/s=[38]\/s=[94]\/s=[43]\/s=[45]:=by decide
 rcases this s (hO h)with rfl|rfl|rfl|rfl|rfl|rfl|rfl|rfl|rfl|rfl
 .rfl
 .show(if b=0 then none else some (gC a b))=(if b=0 then none else some (if a.fmod b≠0/\decide (a<0)≠decide (b<0)then a.fdiv b+1 else a.fdiv b))
  by_cases c:b=0
  .rw[M8 c,M8 c]
  .rw[M5 c,M5 c,rG a c]
 .show(if b=0 then none else some (a-b*gC a b))=(if b=0 then none else some (a-b*(if a.fmod b≠0/\decide (a<0)≠decide (b<0)then a.fdiv b+1 else a.fdiv b)))
  by_cases c:b=0
  .rw[M8 c,M8 c]
  .rw[M5 c,M5 c,rG a c]
 .rfl
 .rfl
 .show some (S0 a b)=some (a+b-OB a b);rw[Vp]
 .rfl
 .show some (QK a b)=some (a+b-2*OB a b);rw[rH]
 .exact absurd rfl d
 .exact absurd rfl e
theorem wR{m j:Nat}(h:j<=m):((m:Int)-j).natAbs<=m:=by rw[←Int.ofNat_sub h];exact Q3 _ _
theorem wS{x:Int}(h:¬0<=x):(QM x).toNat+1=x.natAbs:=by
 cases x with
 |ofNat m=>exact absurd (NE m) h
 |negSucc m=>exact Np (fun z:Int=>z.toNat+1) (P9 (m:Int) 1)
theorem Aa(j:Nat):(QM (j:Int)).natAbs=j+1:=by rw[show QM (j:Int)= -((j+1:Nat):Int)from(VK ..).symm,Q5];rfl
theorem rI{x y:Int}{k:Nat}(d:x.natAbs<2^k)(e:y.natAbs<2^k):(OB x y).natAbs<=2^k:=by
 have f:=M1 (Int.toNat_le.mpr (Vc (a:=x))) (NQ d);have ty:=M1 (Int.toNat_le.mpr (Vc (a:=y))) (NQ e);by_cases c:0<=x
 .by_cases b:0<=y
  .rw[bitAnd_pp c b];exact M1 SX f
  .rw[bitAnd_pn c b];have:=wR (m:=x.toNat) (j:=x.toNat&&& (QM y).toNat) SX;rw[Op c]at this;exact M1 this f
 .by_cases b:0<=y
  .rw[bitAnd_np c b];have:=wR (m:=y.toNat) (j:=y.toNat&&& (QM x).toNat) SX;rw[Op b]at this;exact M1 this ty
  .rw[bitAnd_nn c b,Aa];exact Nat.or_lt_two_pow (M1 (ND (wS c)) (NQ d)) (M1 (ND (wS b)) (NQ e))
theorem iq(h:p<=q):(2:Nat)^p<=2^q:=Qv (by decide) h
theorem wT(p q:Nat):(2:Nat)^(p+q)=2^p*2^q:=VG ..
theorem Ga(c:a<2^p)(d:b<2^q):a*b<2^(p+q):=by rw[wT];exact Nat.mul_lt_mul'' c d
noncomputable def Bd(M k:Nat)(x:Int):Prop:=x.natAbs<=k*M
theorem Bd.one{M:Nat}{x:Int}(h:x.natAbs<=M):Bd M 1 x:=M1 h (ND (VH M).symm)
theorem Bd.add(h:Bd M i x)(h':Bd M j y):Bd M (i+j) (x+y):=M1 (PA x y) (M1 (N8 h h') (ND (Nat.add_mul i j M).symm))
theorem Bd.sub(h:Bd M i x)(h':Bd M j y):Bd M (i+j) (x-y):=Bd.add (y:= -y) h (M1 (ND (Q5 y)) h')
theorem Ab{s:List Nat}{a b c:Int}{p q:Nat}(g:a.natAbs<2^p)(j:b.natAbs<2^q)(h:pO s a b=some c):c.natAbs<2^(p+q+64):=by
 have i:(2:Nat)^p<=2^(p+q):=iq (Nh _ _);have n:(2:Nat)^q<=2^(p+q):=iq (Nr _ _);have o:(2:Nat)^(p+q+64)=2^(p+q)*2^64:=wT _ _;have d:∀{k:Nat}{x:Int},Nat.blt k 8=true->Bd (2^(p+q)) k x->x.natAbs<2^(p+q+64):=fun{k x} v w=>by rw[o,Sn];exact M9 w (S1 (O7 (Ni v) (by decide)) (QF _))
 have f:Bd (2^(p+q)) 1 (OB a b):= .one (rI (No g i) (No j n));have r:(gC a b).natAbs<=a.natAbs:=by rw[e7];exact Td a b
 have l:Bd (2^(p+q)) 1 a:= .one (M1 (NQ g) i);have t:Bd (2^(p+q)) 1 b:= .one (M1 (NQ j) n);have u:=NQ (Ga g j);unfold pO at h;by_cases e:s=[42]
 .have i0:=ce e h;injection i0 with z0;subst z0;exact d (k:=1) rfl (.one (by rw[S9];exact u))
 replace h:=bU e h;clear e;by_cases e:s=[47]
 .replace h:=ce e h;by_cases e:b=0
  .exact aj (ce e h)
  .have i0:=bU e h;injection i0 with z0;subst z0;exact d (k:=1) rfl (.one (M1 r (M1 (NQ g) i)))
 replace h:=bU e h;clear e;by_cases e:s=[37]
 .replace h:=ce e h;by_cases e:b=0
  .exact aj (ce e h)
  .have i0:=bU e h;injection i0 with z0;subst z0
   exact d (k:=2) rfl (l.sub (.one (by rw[S9,Sn];exact M1 (Nat.mul_le_mul_right _ r) u)))
 replace h:=bU e h;clear e;by_cases e:s=[124]
 .have i0:=ce e h;injection i0 with z0;subst z0;exact Vp a b▸d (k:=3) rfl ((l.add t).sub f)
 replace h:=bU e h;clear e;by_cases e:s=[38]
 .have i0:=ce e h;injection i0 with z0;subst z0;exact d (k:=1) rfl f
 replace h:=bU e h;clear e;by_cases e:s=[94]
 .have i0:=ce e h;injection i0 with z0;subst z0
  rw[rH,VI];exact d (k:=4) rfl ((l.add t).sub (f.add f))
 replace h:=bU e h;clear e;by_cases e:b<0\/63<b
 .exact aj (ce e h)
 replace h:=bU e h;have m:b.toNat<=63:=Int.toNat_le.mpr (Int.not_lt.mp fun z=>e (.inr z));clear e;by_cases e:s=[60,60]
 .have i0:=ce e h;injection i0 with z0;subst z0
  rw[S9,show((2:Int)^b.toNat).natAbs=2^b.toNat by rw[UY];rfl,o];exact No (S1 g (QF _)) (UW i (M1 (iq m) (by decide)))
 .have i0:=bU e h;injection i0 with z0;subst z0
  exact d (k:=1) rfl (.one (M1 (Te a (2^b.toNat)) (M1 (NQ g) i)))
noncomputable def nz(l:List (List Nat)):List (List Nat):=l.filter (·≠[])
noncomputable def cI(l:List (List Nat))(n:List Nat):Int:=(l.count n:Nat)
noncomputable def cL(A B:List (List Nat))(n:List Nat):Int:=cI A n-cI B n
noncomputable def cA(a:Af)(n:List Nat):Int:=cL (nz [a.p]) (nz [a.m]) n
noncomputable def xo(a:Af):Prop:=a.p=a.m->a.p=[]
structure Gb(r:List (List Nat)×List (List Nat)):Prop where
 dj:∀x∈r.1,x∉r.2
 na:[]∉r.1
 nb:[]∉r.2
theorem eo(x:List Nat)(l:List (List Nat))(n:List Nat):cI (x::l) n=cI l n+if x=n then 1 else 0:=by
 unfold cI;rw[List.count_cons];by_cases h:x=n
 .rw[M8 h,M8 (by simpa using h)];rfl
 .rw[M5 h,M5 (by simpa using h)];rfl
theorem l8(l k:List (List Nat))(n:List Nat):cI (l++k) n=cI l n+cI k n:=by unfold cI;rw[List.count_append];rfl
theorem dC(h:n∉l):cI l n=0:=by unfold cI;rw[List.count_eq_zero.mpr h];rfl
theorem e9(h:n∈l):0<cI l n:=Int.ofNat_lt.mpr (List.count_pos_iff.mpr h)
theorem Gc{l:List (List Nat)}{x:List Nat}(h:x∈l)(n:List Nat):cI (l.erase x) n=cI l n-if x=n then 1 else 0:=by have:=(List.perm_cons_erase h).count_eq n;have e:=eo x (l.erase x) n;unfold cI at e⊢;rw[this];lia
theorem wU(ms:List (List Nat)):∀(r:List (List Nat)×List (List Nat)),Gb r->Gb (ms.foldl dH r)/\∀n,cL (ms.foldl dH r).1 (ms.foldl dH r).2 n=cL r.1 r.2 n-cI (nz ms) n:=by
 induction ms with
 |nil=>
  exact fun r h=>⟨h,fun n=>by show cL r.1 r.2 n=cL r.1 r.2 n-0;exact(PO _).symm⟩
 |cons m ms b=>
  intro r h;have st:Gb (dH r m)/\∀n,cL (dH r m).1 (dH r m).2 n=cL r.1 r.2 n-cI (nz [m]) n:=by
   unfold dH;by_cases g0:m=[]
   .rw[M5 (fun z=>z.1 g0),M5 (fun z=>z g0)];refine⟨h,fun n=>?_⟩;rw[g0];show _=_-0;exact(PO _).symm
   .have e:nz [m]=[m]:=N_ (by simpa using g0);rw[e];by_cases g1:m∈r.1
    .rw[M8 ⟨g0,g1⟩];refine⟨⟨fun x a=>h.dj x (TF a),fun z=>h.na (TF z),h.nb⟩,fun n=>?_⟩;show cI (r.1.erase m) n-cI r.2 n=cI r.1 n-cI r.2 n-cI [m] n;rw[Gc g1,eo,show cI [] n=0 from rfl];lia
    .rw[M5 (fun z=>g1 z.2),M8 g0];refine⟨⟨fun x a z=>?_,h.na,fun z=>?_⟩,fun n=>?_⟩
     .rcases List.mem_append.mp z with z|z
      .exact h.dj x a z
      .cases z with
       |head=>exact g1 a
       |tail _ z=>cases z
     .rcases List.mem_append.mp z with z|z
      .exact h.nb z
      .cases z with
       |head=>exact g0 rfl
       |tail _ z=>cases z
     .show cI r.1 n-cI (r.2++[m]) n=cI r.1 n-cI r.2 n-cI [m] n;rw[l8];exact(T0 ..).symm
  obtain⟨c,d⟩:=b _ st.1;refine⟨c,fun n=>?_⟩;have e:cI (nz (m::ms)) n=cI (nz [m]) n+cI (nz ms) n:=by
   rw[←l8]
   congr 1
   exact T_ (l₁:=[m]) (l₂:=ms)
  rw[Rx,d n,st.2 n,e];exact T0 ..
theorem rJ:∀(ks:List (List Nat)),ks.Nodup->x∈ks->(ks.map fun k=>if x=k then(1:Int)else 0).sum=1
 |k::ks,h,b=>by
  rw[Pd]at h;rw[NO,Pv];by_cases e:x=k
  .rw[M8 e];have:∀ks:List (List Nat),x∉ks->(ks.map fun k=>if x=k then(1:Int)else 0).sum=0:=fun ks=>by
    induction ks with
    |nil=>exact fun _=>rfl
    |cons y ks c=>intro a;rw[NO,Pv,M5 (fun z=>a (by rw[z];exact M_ ..)),c fun z=>a (Nb _ z)];rfl
   rw[this ks (e▸h.1)];rfl
  .rw[M5 e,rJ ks h.2 (by cases b with|head=>exact absurd rfl e|tail _ z=>exact z)];rfl
theorem Ac(f g:List Nat->Int)(ks:List (List Nat)):(ks.map fun k=>f k+g k).sum=(ks.map f).sum+(ks.map g).sum:=by
 induction ks with
 |nil=>exact rfl
 |cons k ks a=>rw[NO,Pv,a,NO,Pv,NO,Pv];lia
theorem rK{ks:List (List Nat)}(b:ks.Nodup)(A:List (List Nat)):(∀x∈A,x∈ks)->(ks.map (cI A)).sum=(A.length:Int):=by
 induction A with
 |nil=>
  intro _;have:∀ks:List (List Nat),(ks.map (cI [])).sum=0:=fun ks=>by
   induction ks with
   |nil=>rfl
   |cons y ks a=>rw[NO,Pv,a];rfl
  rw[this];rfl
 |cons x A a=>
  intro h;have e:ks.map (cI (x::A))=ks.map fun k=>cI A k+if x=k then 1 else 0:=OR fun k _=>eo x A k
  rw[e,Ac,a fun y c=>h y (Nb _ c),rJ ks b (h x (M_ ..)),Nt];rfl
theorem rM{a:cX}{f:List Nat->Int}(P:dT a f){A B:List (List Nat)}(b:∀n,f n=cL A B n)(d:∀x∈A,x∉B):oc a=(A.length:Int):=by
 have sub:((a.filter fun p=>decide (0<p.2)).map (·.1)).Nodup:=(QP (fun p:List Nat×Int=>p.1) QJ).nodup P.nd;have e:(a.filter fun p=>decide (0<p.2)).map (·.2)=((a.filter fun p=>decide (0<p.2)).map (·.1)).map (cI A):=by
  rw[Oq];refine OR fun p c=>?_;obtain⟨c,h0⟩:=List.mem_filter.mp c;have h0:0<p.2:=NW h0;have v:=P.val p c;have b:=b p.1;unfold cL at b;have h:p.1∈A:=by apply NM;intro z;have:=dC z;have:0<=cI B p.1:=NE _;lia
  have:=dC (d _ h);show p.2=cI A p.1;lia
 unfold oc;rw[e];refine rK sub A fun x g=>?_;have h0:=e9 g;have j:=dC (d x g);have b:=b x;unfold cL at b;refine i8 ((P.mem x).mpr (by lia)) fun p c i=>?_;subst i;exact List.mem_map.mpr ⟨p,List.mem_filter.mpr ⟨c,NH (by rw[P.val p c];lia)⟩,rfl⟩
theorem rN{a:cX}{f:List Nat->Int}(P:dT a f){A B:List (List Nat)}(b:∀n,f n=cL A B n)(d:∀x∈A,x∉B):og a= -(B.length:Int):=by
 have sub:((a.filter fun p=>decide (p.2<0)).map (·.1)).Nodup:=(QP (fun p:List Nat×Int=>p.1) QJ).nodup P.nd;have e:(a.filter fun p=>decide (p.2<0)).map (·.2)=((a.filter fun p=>decide (p.2<0)).map (·.1)).map fun k=> -(cI B k):=by
  rw[Oq];refine OR fun p c=>?_;obtain⟨c,h0⟩:=List.mem_filter.mp c;have h0:p.2<0:=NW h0;have v:=P.val p c;have b:=b p.1;unfold cL at b;have h:p.1∈B:=by apply NM;intro z;have:=dC z;have:0<=cI A p.1:=NE _;lia
  have:=dC (l:=A) (n:=p.1) (fun z=>d _ z h);show p.2= -(cI B p.1);lia
 have i:∀ks:List (List Nat),(ks.map fun k=> -(cI B k)).sum= -(ks.map (cI B)).sum:=fun ks=>by
  induction ks with
  |nil=>rfl
  |cons y ks j=>rw[NO,Pv,NO,Pv,j];exact(VK ..).symm
 unfold og;rw[e,i]
 congr 1
 refine rK sub B fun x g=>?_;have h0:=e9 g;have o:=dC (l:=A) (n:=x) (fun z=>d x z g);have b:=b x;unfold cL at b;refine i8 ((P.mem x).mpr (by lia)) fun p c m=>?_;subst m;exact List.mem_map.mpr ⟨p,List.mem_filter.mpr ⟨c,NH (by rw[P.val p c];lia)⟩,rfl⟩
noncomputable def dU:Option Af->Option Wt->Prop
 |none,none=>True
 |some a,some x=>a.w=x.1/\xo a/\dT x.2 (cA a)
 |_,_=>False
theorem cO(h:x≠[]):nz [x]=[x]:=N_ (by simpa using h)
theorem wV:∀n,cA (eu w p m) n=cL (nz [p]) (nz [m]) n:=by
 intro n;unfold eu;by_cases h:p=m
 .rw[M8 h,h];show cI (nz [[]]) n-cI (nz [[]]) n=cI (nz [m]) n-cI (nz [m]) n;lia
 .rw[M5 h];rfl
theorem wW:xo (eu w p m):=by
 unfold eu xo;by_cases h:p=m
 .rw[M8 h];exact fun _=>rfl
 .rw[M5 h];exact fun z=>absurd z h
theorem Ad:(eu w p m).w=w:=by unfold eu;split<;>rfl
theorem rO(a:Af):(gz a).w= -a.w:=Ad
theorem l9(a:Af)(n:List Nat):cA (gz a) n= -cA a n:=by unfold gz;rw[wV];show cI _ n-cI _ n= -(cI _ n-cI _ n);exact(Int.neg_sub ..).symm
theorem qj:x∈nz l↔x∈l/\x≠[]:=by unfold nz;rw[UC];simp
theorem wX(l k:List (List Nat)):nz (l++k)=nz l++nz k:=T_ ..
theorem qk(a b:Af):∃r,eA a b=jK (a.w+b.w) r/\Gb r/\∀n,cL r.1 r.2 n=cA a n+cA b n:=by
 refine⟨_,rfl,?_⟩;have h0:Gb (nz [a.p,b.p],[]):=⟨fun x _ z=>(absurd z Nq),fun z=>(qj.mp z).2 rfl,fun z=>(absurd z Nq)⟩
 obtain⟨t,c⟩:=wU [a.m,b.m] _ h0;refine⟨t,fun n=>?_⟩;rw[show(R5 dH ([a.p,b.p].filter (·≠[]),[]) [a.m,b.m])=R5 dH (nz [a.p,b.p],[]) [a.m,b.m] from rfl,c n];have d:nz [a.p,b.p]=nz [a.p]++nz [b.p]:=wX [a.p] [b.p];have e:nz [a.m,b.m]=nz [a.m]++nz [b.m]:=wX [a.m] [b.m];show cI (nz [a.p,b.p]) n-cI [] n-cI (nz [a.m,b.m]) n=(cI _ n-cI _ n)+(cI _ n-cI _ n);rw[d,e,l8,l8,show cI [] n=0 from rfl];lia
theorem l_{A:List (List Nat)}(h:¬1<A.length)(a:[]∉A):A=nz [A.headD []]:=by
 match A,h,a with
 |[],_,_=>rfl
 |[x],_,a=>exact(cO fun e=>a (by rw[e];exact M_ ..)).symm
 |x::y::r,h,_=>exact absurd (Qr (Ob _)) h
theorem dT.cg{f g:List Nat->Int}(P:dT a f)(h:∀n,f n=g n):dT a g:=⟨P.nd,P.st,fun n=>by rw[P.mem n,h n],fun p b=>by rw[P.val p b,h]⟩
theorem kQ{a b:Af}{d:cX}{f:List Nat->Int}{w:Int}(P:dT d f)(i:∀n,f n=cA a n+cA b n)(j:a.w+b.w=w):dU (eA a b) (if 1<oc d\/og d< -1 then none else some (w,d)):=by
 apply bc;intro k;obtain⟨r,e,t,c⟩:=qk a b;apply k;have h:∀n,f n=cL r.1 r.2 n:=fun n=>by rw[i,c]
 rw[e,rM P h t.dj,rN P h t.dj];unfold jK;by_cases g:1<r.1.length\/1<r.2.length
 .rw[M8 g,M8 (by lia)];trivial
 .rw[M5 g,M5 (by lia)];have g1:¬1<r.1.length:=fun z=>g (.inl z);have g2:¬1<r.2.length:=fun z=>g (.inr z);refine⟨Ad.trans j,wW,P.cg fun n=>?_⟩;rw[wV,h,←l_ g1 t.na,←l_ g2 t.nb]
theorem jV{f:List Nat->Int}(P:dT a f)(n:List Nat):aH a n=f n:=by
 by_cases h:n∈a.map (·.1)
 .unfold aH rj;cases e:a.find? fun p=>decide (p.1=n)with
  |none=>refine i8 h fun p b c=>?_;exact absurd (NH c) (by have:=List.find?_eq_none.mp e p b;exact this)
  |some p=>
   have d:=S6 e;have g:p.1=n:=by have:=UD e;exact NW this
   show p.2=f n;rw[P.val p d,g]
 .unfold aH;rw[e5 h];have:=(P.mem n)
  show 0=f n;exact NM fun z=>h (this.mpr fun e=>z e.symm)
theorem e_{a:Af}(h:xo a):∀x∈nz [a.p],x∉nz [a.m]:=by
 intro x b c;obtain⟨b,h0⟩:=qj.mp b;obtain⟨c,_⟩:=qj.mp c;have d:x=a.p:=by cases b with|head=>rfl|tail _ z=>cases z
 have e:x=a.m:=by cases c with|head=>rfl|tail _ z=>cases z
 exact h0 (d.trans (h (d.symm.trans e)))
theorem wY(x:List Nat):(nz [x]).length<=1:=TG _ _
theorem wZ{a:Af}{b:cX}{w:Int}(P:dT b (cA a))(c:xo a)(d:a.w=w):dU (some a) (if 1<oc b\/og b< -1 then none else some (w,b)):=by have e:=wY a.p;have f:=wY a.m;rw[rM P (fun _=>rfl) (e_ c),rN P (fun _=>rfl) (e_ c),M5 (by lia)];exact⟨d,c,P⟩
theorem cC(P:dT b (cA a))(f:xo a):aP a=true↔b=[]:=by
 unfold aP;rw[NV];refine⟨fun h=>?_,fun h=>?_⟩
 .have d:a.p=[]:=N3 h.1;have e:a.m=[]:=N3 h.2
  match b,P with
  |[],_=>rfl
  |p::r,P=>have:=(P.mem p.1).mp (M_ ..);exact absurd (by unfold cA;rw[d,e];rfl) this
 .subst h;have z:∀n,cA a n=0:=fun n=>NM fun g=>absurd ((P.mem n).mpr g) Nq;have d:a.p=[]:=NM fun g=>by
   have c:a.p∈nz [a.p]:=by rw[cO g];exact M_ ..
   have i:=dC (e_ f _ c);have j:=e9 c;have:=z a.p;unfold cA cL at this;lia
  have e:a.m=[]:=NM fun g=>by
   have c:a.m∈nz [a.m]:=by rw[cO g];exact M_ ..
   have i:=dC (l:=nz [a.p]) (n:=a.m) (fun k=>e_ f _ k c);have j:=e9 c;have:=z a.m;unfold cA cL at this;lia
  exact⟨by rw[d];rfl,by rw[e];rfl⟩
theorem mf(w:Int):dT [] (cA ⟨w,[],[]⟩):=⟨Q0,Vv,fun n=>⟨fun h=>(absurd h Nq),fun h=>absurd (show cA ⟨w,[],[]⟩ n=0 from rfl) h⟩,fun p h=>(absurd h Nq)⟩
theorem w0(h:x≠[])(n:List Nat):cA ⟨w,x,[]⟩ n=if x=n then 1 else 0:=by show cI (nz [x]) n-cI [] n=_;rw[cO h,eo,show cI [] n=0 from rfl];lia
theorem hU(w:Int)(h:x≠[]):dT [(x,1)] (cA ⟨w,x,[]⟩):=by
 refine⟨P6 _ _,P6 _ _,fun n=>?_,fun p a=>?_⟩
 .rw[w0 h];refine⟨fun z=>?_,fun z=>?_⟩
  .cases z with
   |head=>rw[M8 rfl];decide
   |tail _ z=>cases z
  .by_cases e:x=n
   .rw[e];exact M_ ..
   .rw[M5 e]at z;exact absurd rfl z
 .cases a with
  |head=>rw[w0 h,M8 rfl]
  |tail _ z=>cases z
theorem Gd(w:Int):dT [([97],1),([101],-1)] (cA ⟨w,[97],[101]⟩):=by
 have e:∀n,cA ⟨w,[97],[101]⟩ n=(if [97]=n then 1 else 0)-(if [101]=n then 1 else 0):=fun n=>by show cI (nz [[97]]) n-cI (nz [[101]]) n=_;rw[cO (by decide),cO (by decide),eo,eo,show cI [] n=0 from rfl];lia
 refine⟨by decide,by decide,fun n=>?_,fun p c=>?_⟩
 .rw[e];refine⟨fun z=>?_,fun z=>?_⟩
  .cases z with
   |head=>decide
   |tail _ z=>cases z with
    |head=>decide
    |tail _ z=>cases z
  .by_cases a:[97]=n
   .rw[←a];exact M_ ..
   .by_cases b:[101]=n
    .rw[←b];exact Nb _ (M_ ..)
    .rw[M5 a,M5 b]at z;exact absurd rfl z
 .cases c with
  |head=>rw[e];decide
  |tail _ z=>cases z with
   |head=>rw[e];decide
   |tail _ z=>cases z
noncomputable abbrev nN:List Nat:=[95,110,46,49,36]
noncomputable def E4(s0 s1 s2 s3:Int):xm:=[([99],⟨s1,[98],[]⟩),([98],⟨s0,[97],[]⟩),([100],⟨s2,[97],[101]⟩),(nN,⟨s3,[],[]⟩)]
noncomputable def Ae(s0 s1 s2 s3:Int):KV:=[([98],(s0,[([97],1)])),([99],(s0+s1,[([97],1)])),([100],(s2,[([97],1),([101],-1)])),(nN,(s3,[]))]
theorem f8(s0 s1 s2 s3:Int)(h:s∈bj):dU (fJ (E4 s0 s1 s2 s3) 24 (eu 0 s [])) (some ((DV (Ae s0 s1 s2 s3) s).getD (0,[(s,1)]))):=by
 have:∀s∈bj,s=[97]\/s=[98]\/s=[99]\/s=[100]\/s=[101]\/s=nN:=by decide
 rcases this s h with rfl|rfl|rfl|rfl|rfl|rfl
 .exact⟨rfl,fun z=>aK (beq_iff_eq.mpr z),hU 0 (by decide)⟩
 .exact⟨QZ s0,fun z=>aK (beq_iff_eq.mpr z),hU _ (by decide)⟩
 .exact⟨by show 0+s1+s0=s0+s1;omega,fun z=>aK (beq_iff_eq.mpr z),hU _ (by decide)⟩
 .exact⟨QZ s2,fun z=>aK (beq_iff_eq.mpr z),Gd _⟩
 .exact⟨rfl,fun z=>aK (beq_iff_eq.mpr z),hU 0 (by decide)⟩
 .exact⟨QZ s3,fun _=>rfl,mf _⟩
theorem Ag(n:List Nat):aH [] n=0:=rfl
section
variable{s0 s1 s2 s3:Int}{here:List Nat}
theorem w2(h:dU (some a) (some x))(b:Lo s (some x) r):dU (ew s a) r:=by
 apply bc;intro c;obtain⟨d,f,P⟩:=h;apply c;have b:(if s=[45] then zQ (0,[]) x (-1) r else if x.2≠[] then r=none else r=some (if s=[126] then -x.1-1 else if x.1=0 then 1 else 0,[])):=b;unfold ew;by_cases g:s=[45]
 .rw[M8 g]at b;apply bc;intro c;obtain⟨i,j,e⟩:=b;apply c;rw[M8 g,e];refine wZ (j.cg fun n=>?_) wW ?_
  .show aH [] n+ -1*aH x.2 n=_;rw[Ag,jV P,l9];omega
  .rw[rO,d];show -x.1=0+ -1*x.1;omega
 .rw[M5 g]at b;rw[M5 g];by_cases g2:x.2=[]
  .rw[M5 (fun z=>z g2)]at b;rw[M8 ((cC P f).mpr g2),b,d];refine⟨?_,fun _=>rfl,mf _⟩;show(if s=[126] then -1-x.1 else if x.1=0 then 1 else 0)=(if s=[126] then -x.1-1 else if x.1=0 then 1 else 0)
   by_cases g3:s=[126]
   .rw[M8 g3,M8 g3];omega
   .rw[M5 g3,M5 g3]
  .rw[M8 g2]at b;rw[M5 (fun z=>g2 ((cC P f).mp z)),b];trivial
theorem tT(hs:1<=ae s)(h:dU (some a) (some x))(h':dU (some b) (some y))(c:C9 s (some x) (some y) r):dU (cP s a b) r:=by
 apply bc;intro d;obtain⟨m,q,P⟩:=h;obtain⟨f,j,l⟩:=h';apply d;have c:(if s=[43]\/s=[45] then zQ x y (if s=[43] then 1 else -1) r else if x.2≠[]\/y.2≠[] then r=none else r=(pV s x.1 y.1).map fun i=>(i,[])):=c;unfold cP;by_cases g:s=[43]
 .rw[M8 (.inl g),M8 g]at c;apply bc;intro d;obtain⟨o,p,e⟩:=c;apply d;rw[M8 g,e];refine kQ p (fun n=>?_) ?_
  .rw[jV P,jV l];omega
  .rw[m,f];show x.1+y.1=x.1+1*y.1;omega
 .rw[M5 g];by_cases g1:s=[45]
  .rw[M8 (.inr g1),M5 g]at c;apply bc;intro d;obtain⟨o,p,e⟩:=c;apply d;rw[M8 g1,e];refine kQ p (fun n=>?_) ?_
   .rw[jV P,jV l,l9];omega
   .rw[rO,m,f];show x.1+ -y.1=x.1+ -1*y.1;omega
  .rw[M5 (fun z=>z.elim g g1)]at c;rw[M5 g1];by_cases g2:x.2≠[]\/y.2≠[]
   .rw[M8 g2]at c;rw[M5 (fun z=>by
     apply bc;intro d;obtain⟨t,u⟩:=Bool.and_eq_true_iff.mp z;apply d;exact g2.elim (fun k=>k ((cC P q).mp t)) fun k=>k ((cC l j).mp u)),c];trivial
   .rw[M5 g2]at c;have v:x.2=[]:=NM fun z=>g2 (.inl z);have w:y.2=[]:=NM fun z=>g2 (.inr z);rw[M8 (by rw[(cC P q).mpr v,(cC l j).mpr w];rfl),c,wQ hs g g1,m,f];cases pV s x.1 y.1 with
    |none=>trivial
    |some i=>exact⟨rfl,fun _=>rfl,mf _⟩
theorem w3{T:Tr}:∀{r:Option Wt},bY T->WR (Ae s0 s1 s2 s3) here T r->dU (bF (E4 s0 s1 s2 s3) here T) r:=by
 induction T with
 |num n=>intro r _ h;subst h;exact⟨rfl,fun _=>rfl,mf n⟩
 |name s=>intro r e h;subst h;exact f8 s0 s1 s2 s3 e
 |here=>
  intro r _ h;show dU (if here=[] then none else some (eu 0 here [])) r;rw[show r=if here=[] then none else some (0,[(here,1)])from h];by_cases g:here=[]
  .rw[M8 g,M8 g];trivial
  .rw[M5 g,M5 g,show eu 0 here []=⟨0,here,[]⟩ from M5 g];exact⟨rfl,fun z=>absurd z g,hU 0 g⟩
 |un s b c=>
  intro r e h;obtain⟨o,i,f⟩:=h;have c:=c e.2 i;show dU ((bF (E4 s0 s1 s2 s3) here b).bind (ew s)) r;generalize bF (E4 s0 s1 s2 s3) here b=q at c;cases q with
  |none=>cases o with
   |none=>obtain rfl:=(show r=none from f);trivial
   |some x=>exact c.elim
  |some a=>cases o with
   |none=>exact c.elim
   |some x=>exact w2 c f
 |bin s l r' c d=>
  intro r e h;obtain⟨o,o',i,j,f⟩:=h;have c:=c e.2.1 i;have d:=d e.2.2 j;show dU ((bF (E4 s0 s1 s2 s3) here l).bind fun a=>(bF (E4 s0 s1 s2 s3) here r').bind (cP s a)) r;generalize bF (E4 s0 s1 s2 s3) here l=q at c;generalize bF (E4 s0 s1 s2 s3) here r'=k at d;cases q with
  |none=>cases o with
   |none=>obtain rfl:=(show r=none by cases o'<;>exact f);trivial
   |some x=>exact c.elim
  |some a=>cases o with
   |none=>exact c.elim
   |some x=>cases k with
    |none=>cases o' with
     |none=>obtain rfl:=(show r=none from f);trivial
     |some x=>exact d.elim
    |some a=>cases o' with
     |none=>exact d.elim
     |some x=>exact tT e.1 c d f
theorem Dm{x:Int}(h:x.natAbs<2^60):x.natAbs<2^66:=No h (iq (by decide))
theorem Dn(b0:s0.natAbs<2^60)(b1:s1.natAbs<2^60)(b2:s2.natAbs<2^60)(b3:s3.natAbs<2^60)(h:s∈bj):((DV (Ae s0 s1 s2 s3) s).getD (0,[(s,1)])).1.natAbs<2^66:=by
 have:∀s∈bj,s=[97]\/s=[98]\/s=[99]\/s=[100]\/s=[101]\/s=nN:=by decide
 rcases this s h with rfl|rfl|rfl|rfl|rfl|rfl
 .exact QF 66
 .exact Dm b0
 .exact M9 (PA s0 s1) (No (UX b0 b1) (by decide))
 .exact Dm b2
 .exact QF 66
 .exact Dm b3
theorem Do{s:List Nat}{c a:Af}{M:Nat}(b:c.w.natAbs<M)(h:ew s c=some a):a.w.natAbs<=M:=by
 have i:=M9 (NJ _) b;unfold ew at h;by_cases e:s=[45]
 .have i0:=ce e h;injection i0 with z0;subst z0;rw[rO,Q5];exact NQ b
 replace h:=bU e h;by_cases d:aP c=true
 .have i0:=ce d h;injection i0 with z0;subst z0
  show(if s=[126] then -1-c.w else if c.w=0 then 1 else 0:Int).natAbs<=M;by_cases f:s=[126]
  .rw[M8 f];exact M1 (PA (-1) (-c.w)) (show 1+(-c.w).natAbs<=M by rw[Q5,Of];exact b)
  .rw[M5 f];by_cases g:c.w=0
   .rw[M8 g];exact i
   .rw[M5 g];exact NJ _
 .exact aj (bU d h)
theorem AV{x y z:Af}(a:eA x y=some z):z.w=x.w+y.w:=by
 obtain⟨q,e,_⟩:=qk x y;rw[e]at a;unfold jK at a;split at a
 .exact aj a
 .rw[←Na a];exact Ad
theorem Ah{s:List Nat}{c d a:Af}{p q:Nat}(g:c.w.natAbs<2^p)(b:d.w.natAbs<2^q)(h:cP s c d=some a):a.w.natAbs<2^(p+q+64):=by
 have f:∀{z:Int},z.natAbs<=c.w.natAbs+d.w.natAbs->z.natAbs<2^(p+q+64):=fun{z} i=>by have j:c.w.natAbs<2^(p+q):=No g (Qv (by decide) (Nh p q));have k:d.w.natAbs<2^(p+q):=No b (Qv (by decide) (Nr q p));refine No (M9 i (UX j k)) ?_;rw[←Nat.mul_two];exact M1 (ND (TC (n:=2) (m:=p+q)).symm) (Qv (by decide) (NG (show 1<=64 by decide) (p+q)))
 unfold cP at h;by_cases e:s=[43]
 .rw[AV (ce e h)];exact f (PA _ _)
 replace h:=bU e h;by_cases e:s=[45]
 .rw[AV (ce e h),rO];exact f (M1 (PA _ _) (ND (by rw[Q5])))
 replace h:=bU e h;by_cases e:(aP c&&aP d)=true
 .refine cn (ce e h) fun x l o=>?_;rw[←o];exact Ab g b l
 .exact aj (bU e h)
theorem Dq(b0:s0.natAbs<2^60)(b1:s1.natAbs<2^60)(b2:s2.natAbs<2^60)(b3:s3.natAbs<2^60){T:Tr}:∀{a:Af},bY T->bF (E4 s0 s1 s2 s3) here T=some a->a.w.natAbs<2^(66*sz T):=by
 induction T with
 |num n=>intro a f h;rw[←Na h];exact Int.ofNat_lt.mp (show((n.natAbs:Nat):Int)<((2^66:Nat):Int)by rw[Qx f.1];exact TK f.2 (by decide))
 |name s=>intro a f h;have g:=f8 s0 s1 s2 s3 f;rw[show fJ (E4 s0 s1 s2 s3) 24 (eu 0 s [])=some a from h]at g;rw[g.1];exact Dn b0 b1 b2 b3 f
 |here=>
  intro a _ h;by_cases e:here=[]
  .exact aj (ce e h)
  .rw[←Na (bU e h),Ad];exact QF 66
 |un s b i=>intro a f h;apply bc;intro j;refine bE h fun c e h=>?_;apply j;refine M9 (Do (i f.2 e) h) ?_;exact TU (by decide) (Qa (by decide))
 |bin s l r i k=>intro a f h;apply bc;intro j;refine bE h fun c e h=>?_;refine bE h fun d m h=>?_;apply j;refine No (Ah (i f.2.1 e) (k f.2.2 m) h) (iq ?_);show _<=66*(sz l+sz r+1);rw[Ra,Ra];exact NG (by decide) _
end
theorem gM{x:Int}{k:Nat}(h:x.natAbs<2^(66*k))(a:k<=60):small x:=aG h (M1 (Oj 66 a) (by decide))
section
variable{s0 s1 s2 s3:Int}{here:List Nat}
structure B4(s0 s1 s2 s3:Int):Prop where
 b0:s0.natAbs<2^60
 b1:s1.natAbs<2^60
 b2:s2.natAbs<2^60
 b3:s3.natAbs<2^60
theorem mh(B:B4 s0 s1 s2 s3){T:Tr}{a:Af}(h:bY T)(e:bF (E4 s0 s1 s2 s3) here T=some a):a.w.natAbs<2^(66*sz T):=Dq B.b0 B.b1 B.b2 B.b3 h e
theorem Ge(h:b+1<=60):b<=60:=Nl h
theorem DZ(h:a+b+1<=60):a<=60:=M1 (Nh a b) (Nl h)
theorem GX(h:a+b+1<=60):b<=60:=M1 (Nr b a) (Nl h)
theorem Gf(B:B4 s0 s1 s2 s3){T:Tr}:bY T->sz T<=60->nU (bF (E4 s0 s1 s2 s3) here) T:=by
 induction T with
 |un s b g=>exact fun h c=>⟨g h.2 (Ge c),(show ∀s∈gO,s.length<=2 by decide) s h.1⟩
 |bin s l r d e=>
  refine fun h c=>⟨d h.2.1 (DZ c),e h.2.2 (GX c),(show ∀s∈eD,s.length<=2 by decide) s (hO h.1),fun a b i j=>?_⟩
  have f:=mh B h.2.1 i;refine⟨gM f (DZ c),gM (mh B h.2.2 j) (GX c),gM (k:=sz l) ?_ (DZ c)⟩;rw[e7];exact M9 (Td _ _) f
 |_=>exact fun _ _=>trivial
theorem mj(x n:List Nat):cI (nz [x]) n=0\/(cI (nz [x]) n=1/\n=x):=by
 by_cases h:x=[]
 .subst h;exact .inl rfl
 .rw[cO h,eo,show cI [] n=0 from rfl];by_cases e:x=n
  .rw[M8 e];exact .inr ⟨rfl,e.symm⟩
  .rw[M5 e];exact .inl rfl
theorem Gg{c:Type}{p m:c}(L:List c)(nd:L.Nodup)(d:∀x∈L,x=p\/x=m):L.length<=30:=by
 have f:∀{a b:c}{L:List c},(∀x∈L,x=a\/x=b)->a∉L->∀x∈L,x=b:=fun h g x l=>(h x l).resolve_left fun e=>g (e▸l);have i:∀{a:c}{L:List c},L.Nodup->(∀x∈L,x=a)->L.length<=1:=fun{a L} nd h=>by
  cases L with
  |nil=>exact NJ _
  |cons x r=>cases r with
   |nil=>exact Nc _
   |cons y r=>exact absurd (by rw[h x (M_ ..),h y (Nb _ (M_ ..))];exact M_ ..) (List.nodup_cons.mp nd).1
 cases L with
 |nil=>exact NJ _
 |cons x r=>
  have n:=List.nodup_cons.mp nd;have k:∀y∈r,y=p\/y=m:=fun y j=>d y (Nb _ j);refine M1 (Ny ?_) (show 1+1<=30 by decide);rcases d x (M_ ..)with e|e
  .exact i n.2 (f k (e▸n.1))
  .exact i n.2 (f (fun y j=>(k y j).symm) (e▸n.1))
theorem AW{a:Af}{b:cX}(P:dT b (cA a)):PS b:=by
 refine⟨P.nd,?_,fun q c=>?_⟩
 .rw[←M6 (f:=(·.1))];refine Gg (p:=a.p) (m:=a.m) _ P.nd fun x d=>?_;have:=(P.mem x).mp d;unfold cA cL at this;rcases mj a.p x with h|⟨_,h⟩
  .rcases mj a.m x with h'|⟨_,h'⟩
   .rw[h,h']at this;exact absurd rfl this
   .exact .inr h'
  .exact .inl h
 .have v:=P.val q c;unfold cA cL at v;refine aG (n:=2) ?_ (by decide);rcases mj a.p q.1 with h|⟨h,_⟩<;>rcases mj a.m q.1 with h'|⟨h',_⟩<;>(rw[v,h,h'];decide)
theorem jW(B:B4 s0 s1 s2 s3){T:Tr}{w:Int}{p:cX}(h:bY T)(c:WR (Ae s0 s1 s2 s3) here T (some (w,p))):w.natAbs<2^(66*sz T)/\PS p:=by
 have A:=w3 h c;cases e:bF (E4 s0 s1 s2 s3) here T with
 |none=>rw[e]at A;exact A.elim
 |some a=>rw[e]at A;obtain⟨b,_,P⟩:=A;have b:a.w=w:=b;rw[←b];exact⟨mh B h e,AW P⟩
theorem w4(B:B4 s0 s1 s2 s3){T:Tr}(h:bY T)(c:sz T<=60):Lp (Ae s0 s1 s2 s3) here T:=by
 refine⟨fun w p d=>⟨gM (jW B h d).1 c,(jW B h d).2⟩,fun s l r e x y f g=>?_⟩;subst e;have c:sz l+sz r+1<=60:=c;have a:=(jW B (w:=x.1) (p:=x.2) h.2.1 f).1;have b:=(jW B (w:=y.1) (p:=y.2) h.2.2 g).1;have q:=M9 (Te x.1 y.1) a;clear f g h;have up:∀{k:Nat},(2:Nat)^(66*k)<2^(66*(k+1)):=fun{k}=>TU (by decide) (Qa (by decide));exact⟨gM a (DZ c),gM b (GX c),gM q (DZ c),gM (k:=sz l+1) (M9 (PA _ 1) (M9 q up)) (M1 (Ny (Nh _ _)) c),
  gM (k:=sz l+sz r+1) (M9 (rI (No a (iq (Oj 66 (Nh _ _)))) (No b (iq (Oj 66 (Nr _ _))))) up) c⟩
theorem Gh(B:B4 s0 s1 s2 s3){T:Tr}:bY T->sz T<=60->pX (Lp (Ae s0 s1 s2 s3) here) T:=by
 induction T with
 |un s b e=>exact fun h a=>⟨w4 B h a,e h.2 (Ge a)⟩
 |bin s l r c d=>exact fun h a=>⟨w4 B h a,c h.2.1 (DZ a),d h.2.2 (GX a)⟩
 |_=>exact fun h a=>w4 B h a
end
theorem ox(nd:L.Nodup)(h:∀x,x∈L↔x∈nz [y]):L=nz [y]:=by
 have a:∀{L:List (List Nat)},(∀x,x∉L)->L=[]:=fun{L} h=>by cases L with|nil=>rfl|cons x r=>exact absurd (M_ ..) (h x)
 by_cases g:y=[]
 .rw[show nz [y]=[] by rw[g];rfl]at h⊢;exact a fun x c=>absurd ((h x).mp c) Nq
 .rw[cO g]at h⊢;cases L with
  |nil=>exact absurd ((h y).mpr (M_ ..)) Nq
  |cons x r=>have e:=List.mem_singleton.mp ((h x).mp (M_ ..));rw[e]at h nd⊢;rw[a (L:=r) fun z b=>(List.nodup_cons.mp nd).1 (by rw[←List.mem_singleton.mp ((h z).mp (Nb _ b))];exact b)]
theorem Ai{a:Af}{c:cX}(P:dT c (cA a))(e:xo a):(c.filter fun p=>decide (0<p.2)).map (·.1)=nz [a.p]:=by
 refine ox ((QP (fun p:List Nat×Int=>p.1) QJ).nodup P.nd) fun x=>⟨fun h=>?_,fun h=>?_⟩
 .refine i8 h fun p b d=>?_;subst d;obtain⟨b,h0⟩:=List.mem_filter.mp b;have h0:0<p.2:=NW h0;rw[P.val p b]at h0;unfold cA cL at h0;apply NM;intro z;have:=dC z;have:0<=cI (nz [a.m]) p.1:=NE _;omega
 .have f:=e9 h;have g:=dC (e_ e _ h);have i:0<cA a x:=by unfold cA cL;exact g.symm▸f
  refine i8 ((P.mem x).mpr (by omega)) fun p b d=>?_;subst d;exact List.mem_map.mpr ⟨p,List.mem_filter.mpr ⟨b,NH (by rw[P.val p b];exact i)⟩,rfl⟩
theorem w5{a:Af}{c:cX}(P:dT c (cA a))(e:xo a):(c.filter fun p=>decide (p.2<0)).map (·.1)=nz [a.m]:=by
 refine ox ((QP (fun p:List Nat×Int=>p.1) QJ).nodup P.nd) fun x=>⟨fun h=>?_,fun h=>?_⟩
 .refine i8 h fun p b d=>?_;subst d;obtain⟨b,h0⟩:=List.mem_filter.mp b;have h0:p.2<0:=NW h0;rw[P.val p b]at h0;unfold cA cL at h0;apply NM;intro z;have:=dC z;have:0<=cI (nz [a.p]) p.1:=NE _;omega
 .have g:=e9 h;have i:=dC (l:=nz [a.p]) (n:=x) (fun z=>e_ e _ z h);have f:cA a x<0:=by unfold cA cL;omega
  refine i8 ((P.mem x).mpr (by omega)) fun p b d=>?_;subst d;exact List.mem_map.mpr ⟨p,List.mem_filter.mpr ⟨b,NH (by rw[P.val p b];exact f)⟩,rfl⟩
theorem oy{k:Tk}{w x:List Nat}{g:Nat}{P:Option (List Tk)->Prop}(a:∃c y,w=c::y/\ws c=false/\([c]==[35])=false/\LX (w++x) (.tok k w.length))(h:ch x fun o=>P (o.map (k::·))):ch (Nz g 32++(w++x)) P:=by
 apply bc;intro b;obtain⟨c,y,rfl,d,f,L⟩:=a;have e:Nz g 32++((c::y)++x)=Nz g 32++(c::(y++x)):=rfl;obtain⟨g1,g2⟩:=qb (y:=y++x) d f g;apply b;rw[e];have d1:(Nz g 32++(c::(y++x))).drop g=c::(y++x):=by
  have:=PE (l₁:=Nz g 32) (l₂:=c::(y++x))
  rwa [O_]at this
 refine .tok (k:=k) (n:=(c::y).length) g2 (by rw[g1,d1];exact L) (Ob _) ?_;rw[g1,←OO,d1];have d2:(c::(y++x)).drop (c::y).length=x:=PE (l₁:=c::y) (l₂:=x);rw[d2];exact h
noncomputable def e'(s:List Nat):Prop:=s≠[46]/\∃c w,s=c::w/\dG c=true/\ws c=false/\([c]==[35])=false/\∀y∈c::w,am y=true
theorem Dr{P:Option (List Tk)->Prop}(hs:e' s)(a:ro am x=false)(h:ch x fun o=>P (o.map (Tk.name s::·))):ch (Nz g 32++(s++x)) P:=by apply bc;intro b;obtain⟨_,c,w,rfl,d,e,f,i⟩:=hs;apply b;exact oy ⟨c,w,rfl,e,f,jR d i a⟩ h
theorem Aj{P:Option (List Tk)->Prop}(a:bM t)(b:nW t w)(c:bx t=true->ro am x=false)(d:cK t=true->ro cM x=false)(h:ch x fun o=>P (o.map (aY t::·))):ch (Nz g 32++(w++x)) P:=
 oy (on a b c d) h
noncomputable def t_(m:List Nat):List Nat:=if m=[] then [] else [32,45,32]++m
noncomputable def w6(m:List Nat):List Tk:=if m=[] then [] else [.sign [45],.name m]
noncomputable def Ak(a:Af):List Tk:=if a.p=[] then(if a.w<0 then [.sign [45],.num (-a.w)] else [.num a.w])else if 0<a.w then [.name a.p,.sign [43],.num a.w] else if a.w<0 then [.name a.p,.sign [45],.num (-a.w)] else [.name a.p]
noncomputable def w7(a:Af):Tr:=if a.p=[] then(if a.w<0 then .un [45] (.num (-a.w))else .num a.w)else if 0<a.w then .bin [43] (.name a.p) (.num a.w)else if a.w<0 then .bin [45] (.name a.p) (.num (-a.w))else .name a.p
noncomputable def Ds(a:Af):Tr:=if a.m=[] then w7 a else .bin [45] (w7 a) (.name a.m)
theorem w8(a:m=[]\/e' m){P:Option (List Tk)->Prop}(p:P (some (w6 m))):ch (t_ m) P/\ro am (t_ m)=false:=by
 unfold t_ w6 at *;by_cases h:m=[]
 .rw[M8 h]at p⊢;exact⟨.done rfl p,rfl⟩
 .rw[M5 h]at p⊢;refine⟨?_,(by decide:am 32=false)⟩;have z:=Aj (t:= .sg [45]) (w:=[45]) (g:=1) (P:=P) (.inl (by decide)) rfl (fun e=>aK e) (fun e=>aK e) (Dr (g:=1) (x:=[]) (P:=fun o=>P (o.map (aY (.sg [45])::·))) (a.resolve_left h) rfl (.done rfl p));have e:Nz 1 32++([45]++(Nz 1 32++(m++[])))=[32,45,32]++m:=by simp
  rw[e]at z;exact z
theorem Gi(a:Af):q_ a=(if a.p=[] then aE a.w else if 0<a.w then a.p++[32,43,32]++aE a.w else if a.w<0 then a.p++[32,45,32]++aE (-a.w)else a.p)++t_ a.m:=by
 unfold q_ t_;by_cases h:a.m=[]
 .rw[M8 h,M8 h,Nv]
 .rw[M5 h,M5 h,Nd]
theorem mn{P:Option (List Tk)->Prop}(h0:0<=i)(a:i<2^64)(b:ro am x=false)(h:ch x fun o=>P (o.map (Tk.num i::·))):ch (Nz g 32++(aE i++x)) P:=by
 have e:((i.toNat:Nat):Int)=i:=Op h0;have z:=Aj (t:= .num i.toNat) (w:=aE i) (g:=g) (P:=P) (show i.toNat<2^64 by lia) (oq ⟨h0,a⟩) (fun _=>b) (fun e=>aK e) (by
  show ch x fun o=>P (o.map (Tk.num ((i.toNat:Nat):Int)::·));rw[e];exact h)
 exact z
theorem Gj{a:Af}(j:a.p=[]\/e' a.p)(q:a.m=[]\/e' a.m)(r: -(2^64)<a.w)(u:a.w<2^64){P:Option (List Tk)->Prop}(p:P (some (Ak a++w6 a.m))):ch (q_ a) P:=by
 rw[Gi];unfold Ak at p;have b:∀ks:List Tk,P (some (ks++w6 a.m))->ch (t_ a.m) (fun o=>P (o.map (ks++·))):=fun ks h=>(w8 q (P:=fun o=>P (o.map (ks++·))) h).1;have l:=(w8 q (P:=fun _=>True) trivial).2;by_cases g:a.p=[]
 .rw[M8 g]at p⊢;by_cases g2:a.w<0
  .rw[M8 g2]at p;have e:aE a.w=45::aE (-a.w):=by
    have v:a.w= -(((-a.w-1).toNat:Int)+1):=by lia
    have y: -a.w=((-a.w-1).toNat:Int)+1:=by lia
    rw[y]
    conv=>lhs;rw[v]
    exact rz _
   rw[e];have z:=Aj (t:= .sg [45]) (w:=[45]) (g:=0) (P:=P) (.inl (by decide)) rfl (fun e=>aK e) (fun e=>aK e) (mn (g:=0) (P:=fun o=>P (o.map (aY (.sg [45])::·))) (i:= -a.w) (P2 (PP g2)) (OK r) l (b [.num (-a.w)] |> fun f=>by
    have k:=b [.sign [45],.num (-a.w)] p;refine k.mono fun o h _=>?_;cases o<;>exact h))
   exact z
  .rw[M5 g2]at p;have z:=mn (g:=0) (P:=P) (i:=a.w) (Int.not_lt.mp g2) u l (by
    have k:=b [.num a.w] p;refine k.mono fun o h _=>?_;cases o<;>exact h)
   exact z
 .rw[M5 g]at p⊢;have j:=j.resolve_left g;have num:∀(c:Nat)(i:Int),c∈[43,45]->0<=i->i<2^64->P (some ([.name a.p,.sign [c],.num i]++w6 a.m))->ch ((a.p++[32,c,32]++aE i)++t_ a.m) P:=fun c i n A C h=>by
   have d:bM (.sg [c])/\cK (.sg [c])=false:=by
    cases n with
    |head=>exact⟨.inl (by decide),rfl⟩
    |tail _ n=>cases n with
     |head=>exact⟨.inl (by decide),rfl⟩
     |tail _ z=>cases z
   have z:=Dr (g:=0) (P:=P) (s:=a.p) (x:=Nz 1 32++([c]++(Nz 1 32++(aE i++t_ a.m)))) j (by show am 32=false;decide)
    (Aj (t:= .sg [c]) (w:=[c]) (g:=1) d.1 rfl (fun e=>aK e) (fun e=>by rw[d.2]at e;exact aK e) (mn (g:=1) A C l (by
     have k:=b [.name a.p,.sign [c],.num i] h;refine k.mono fun o h _=>?_;cases o<;>exact h)))
   have e:(a.p++[32,c,32]++aE i)++t_ a.m=Nz 0 32++(a.p++(Nz 1 32++([c]++(Nz 1 32++(aE i++t_ a.m))))):=by simp
   rw[e];exact z
  by_cases g1:0<a.w
  .rw[M8 g1]at p⊢;exact num 43 a.w (by decide) (PP g1) u p
  .rw[M5 g1]at p⊢;by_cases g2:a.w<0
   .rw[M8 g2]at p⊢;exact num 45 (-a.w) (by decide) (P2 (PP g2)) (OK r) p
   .rw[M5 g2]at p⊢;have z:=Dr (g:=0) (P:=P) (s:=a.p) j l (by
     have k:=b [.name a.p] p;refine k.mono fun o h _=>?_;cases o<;>exact h)
    exact z
theorem i4(h:s≠[46])(n:Nat):Lv n 0 [.name s] (.name s):=by have z:Lv n 0 [.name s] (if s=[46] then .here else .name s):= .name (NJ _);rw[M5 h]at z;exact z
theorem Gk{a:Af}(c:a.p=[]\/e' a.p):Lv 1 0 (Ak a) (w7 a):=by
 unfold Ak w7;by_cases g:a.p=[]
 .rw[M8 g,M8 g];by_cases g2:a.w<0
  .rw[M8 g2,M8 g2];exact .un (NJ _) (.inl rfl) (.num (by decide))
  .rw[M5 g2,M5 g2];exact .num (NJ _)
 .have b:=(c.resolve_left g).1;rw[M5 g,M5 g];by_cases g1:0<a.w
  .rw[M8 g1,M8 g1];exact .bin (l:=[.name a.p]) (s:=[43]) (by decide) (by decide) (i4 b _) (.num (NJ _))
  .rw[M5 g1,M5 g1];by_cases g2:a.w<0
   .rw[M8 g2,M8 g2];exact .bin (l:=[.name a.p]) (s:=[45]) (by decide) (by decide) (i4 b _) (.num (NJ _))
   .rw[M5 g2,M5 g2];exact i4 b _
theorem Ly{a:Af}(b:a.p=[]\/e' a.p)(c:a.m=[]\/e' a.m):Lv 1 0 (Ak a++w6 a.m) (Ds a):=by
 unfold w6 Ds;by_cases g:a.m=[]
 .rw[M8 g,M8 g,Nv];exact Gk b
 .rw[M5 g,M5 g];exact .bin (s:=[45]) (by decide) (by decide) (Gk b) (i4 (c.resolve_left g).1 _)
theorem dW(h:s≠[]):bF [] [] (.name s)=some ⟨0,s,[]⟩:=by have e:eu 0 s []=⟨0,s,[]⟩:=M5 h;show fJ [] 0 (eu 0 s [])=_;rw[e];rfl
theorem w9(a:p≠[]):eA ⟨x,p,[]⟩ ⟨y,[],[]⟩=some ⟨x+y,p,[]⟩:=by have e:([p,[]]:List (List Nat)).filter (·≠[])=[p]:=(N_ (by simpa using a)).trans rfl;show jK (x+y) (R5 dH (([p,[]]:List (List Nat)).filter (·≠[]),[]) [[],[]])=_;rw[e];have b:eu (x+y) p []=⟨x+y,p,[]⟩:=M5 a;show some (eu (x+y) p [])=_;rw[b]
theorem Gl(b:m≠[])(a:p≠m):eA ⟨x,p,[]⟩ ⟨y,[],m⟩=some ⟨x+y,p,m⟩:=by
 have c:eu (x+y) p m=⟨x+y,p,m⟩:=M5 a;by_cases d:p=[]
 .subst d;have s2:dH ([],[]) m=([],[m]):=by unfold dH;rw[M5 (fun z=>absurd z.2 Nq),M8 b];rfl
  show jK (x+y) (dH ([],[]) m)=_;rw[s2];show some (eu (x+y) [] m)=_;rw[c]
 .have e:([p,[]]:List (List Nat)).filter (·≠[])=[p]:=(N_ (by simpa using d)).trans rfl;have s2:dH ([p],[]) m=([p],[m]):=by unfold dH;rw[M5 (fun z=>by cases z.2 with|head=>exact a rfl|tail _ z=>cases z),M8 b];rfl
  show jK (x+y) (R5 dH (([p,[]]:List (List Nat)).filter (·≠[]),[]) [[],m])=_;rw[e];show jK (x+y) (dH ([p],[]) m)=_;rw[s2];show some (eu (x+y) p m)=_;rw[c]
theorem rP(x:Int):gz ⟨x,[],[]⟩=⟨-x,[],[]⟩:=rfl
theorem Dt(a:m≠[]):gz ⟨x,m,[]⟩=⟨-x,[],m⟩:=M5 (fun e=>a e.symm)
theorem Gm(a: -(2^64)<x)(b:x<2^64):small x:=aG (n:=64) (Int.ofNat_lt.mp (by
 by_cases h:0<=x
 .rw[Qx h];exact b
 .rw[S8 (Int.le_of_not_le h)];exact OK a)) (by decide)
theorem GY:small 0:=aG (n:=1) (by decide) (by decide)
theorem Lz{a:Af}(b: -(2^64)<a.w)(c:a.w<2^64):bF [] [] (w7 a)=some ⟨a.w,a.p,[]⟩/\nU (bF [] []) (w7 a):=by
 unfold w7;have d:∀{s:List Nat}{i:Int},s.length<=2->a.p≠[]-> -(2^64)<i->i<2^64->nU (bF [] []) (.bin s (.name a.p) (.num i)):=fun{s i} hs g f h=>by
  refine⟨trivial,trivial,hs,fun x y e j=>?_⟩;rw[dW g]at e;injection e with z0;subst z0;injection j with z0;subst z0
  exact⟨GY,Gm f h,by rw[e7,Int.zero_tdiv];exact GY⟩
 by_cases g:a.p=[]
 .rw[M8 g];by_cases g2:a.w<0
  .rw[M8 g2,g];refine⟨?_,trivial,by decide⟩;show some (gz ⟨-a.w,[],[]⟩)=_;rw[rP,VJ]
  .rw[M5 g2,g];exact⟨rfl,trivial⟩
 .rw[M5 g];by_cases g1:0<a.w
  .rw[M8 g1];refine⟨?_,d (by decide) g b c⟩;show(bF [] [] (.name a.p)).bind (fun x=>(some ⟨a.w,[],[]⟩:Option Af).bind (cP [43] x))=_;rw[dW g];show eA ⟨0,a.p,[]⟩ ⟨a.w,[],[]⟩=_;rw[w9 g,QZ]
  .rw[M5 g1];by_cases g2:a.w<0
   .rw[M8 g2];refine⟨?_,d (by decide) g (Q4 c) (OK b)⟩;show(bF [] [] (.name a.p)).bind (fun x=>(some ⟨-a.w,[],[]⟩:Option Af).bind (cP [45] x))=_;rw[dW g];show eA ⟨0,a.p,[]⟩ (gz ⟨-a.w,[],[]⟩)=_;rw[rP,w9 g,QZ,VJ]
   .rw[M5 g2];refine⟨?_,trivial⟩;rw[dW g,show a.w=0 from UL (Int.not_lt.mp g1) (Int.not_lt.mp g2)]
theorem LA{a:Af}(i:xo a)(c: -(2^64)<a.w)(d:a.w<2^64):bF [] [] (Ds a)=some a/\nU (bF [] []) (Ds a):=by
 obtain⟨e,s⟩:=Lz c d;unfold Ds;by_cases g:a.m=[]
 .rw[M8 g];refine⟨?_,s⟩;rw[e];cases a with
  |mk w p m=>subst g;rfl
 .rw[M5 g];have b:a.p≠a.m:=fun z=>g (z▸i z);refine⟨?_,s,trivial,by decide,fun x y f h=>?_⟩
  .show(bF [] [] (w7 a)).bind (fun x=>(bF [] [] (.name a.m)).bind (cP [45] x))=_;rw[e,dW g];show eA ⟨a.w,a.p,[]⟩ (gz ⟨0,a.m,[]⟩)=_;rw[Dt g,Gl g b];show some (⟨a.w+0,a.p,a.m⟩:Af)=some a;rw[Ry]
  .rw[e]at f;rw[dW g]at h;injection f with z0;subst z0;injection h with z0;subst z0
   exact⟨Gm c d,GY,by rw[e7,Int.tdiv_zero];exact GY⟩
section
variable{s0 s1 s2 s3:Int}{here:List Nat}
noncomputable def cZ:List (List Nat):=[72]::bj
theorem i5:∀{s:List Nat},s∈cZ->e' s:=by
 intro s h;cases h with
 |head=>exact⟨by decide,72,[],rfl,by decide,by decide,by decide,by decide⟩
 |tail _ h=>obtain⟨c,w,e,a,b,f,d⟩:=ip s h;exact⟨iX s h,c,w,e,a,b,f,d⟩
theorem AX(b:eA x y=some a):cA a n=cA x n+cA y n:=by
 apply bc;intro d;obtain⟨q,e,t,c⟩:=qk x y;apply d;rw[e]at b;unfold jK at b;split at b
 .exact aj b
 .rename_i g;rw[←Na b,wV,←l_ (fun z=>g (.inl z)) t.na,←l_ (fun z=>g (.inr z)) t.nb,c]
theorem Du(h:ew s c=some a)(b:cA a n≠0):cA c n≠0:=by
 unfold ew at h;by_cases e:s=[45]
 .rw[←Na (ce e h),l9]at b;exact fun z=>b (by rw[z];rfl)
 replace h:=bU e h;by_cases e:aP c=true
 .rw[←Na (ce e h)]at b;exact absurd rfl b
 .exact aj (bU e h)
theorem Dv(h:cP s c d=some a)(b:cA a n≠0):cA c n≠0\/cA d n≠0:=by
 have f:∀{x y:Int},x+y≠0->x≠0\/y≠0:=fun{x y} h=>by
  by_cases z:x=0
  .exact .inr fun i=>h (by rw[z,i];rfl)
  .exact .inl z
 unfold cP at h;by_cases e:s=[43]
 .rw[AX (ce e h)]at b;exact f b
 replace h:=bU e h;by_cases e:s=[45]
 .rw[AX (ce e h),l9]at b;exact(f b).imp id fun g z=>g (by rw[z];rfl)
 replace h:=bU e h;by_cases e:(aP c&&aP d)=true
 .refine cn (ce e h) fun x _ j=>?_;rw[←j]at b;exact absurd rfl b
 .exact aj (bU e h)
theorem Gn(c:s∈bj)(h:bF (E4 s0 s1 s2 s3) here (.name s)=some a)(d:cA a n≠0):n∈cZ:=by
 have g:=f8 s0 s1 s2 s3 c;rw[show fJ (E4 s0 s1 s2 s3) 24 (eu 0 s [])=some a from h]at g;have b:=(g.2.2.mem n).mpr d;have sub:∀l:List (List Nat),(∀x∈l,x∈cZ)->n∈l->n∈cZ:=fun l e f=>e n f;clear h g d;rcases(show ∀s∈bj,s=[97]\/s=[98]\/s=[99]\/s=[100]\/s=[101]\/s=nN by decide) s c with rfl|rfl|rfl|rfl|rfl|rfl
 .exact sub [[97]] (by decide) b
 .exact sub [[97]] (by decide) b
 .exact sub [[97]] (by decide) b
 .exact sub [[97],[101]] (by decide) b
 .exact sub [[101]] (by decide) b
 .exact sub [] (fun _ z=>absurd z Nq) b
theorem Gp(hh:here=[]\/here=[72]){T:Tr}:∀{a:Af},bY T->bF (E4 s0 s1 s2 s3) here T=some a->∀n,cA a n≠0->n∈cZ:=by
 induction T with
 |num k=>intro a _ h n f;rw[←Na h]at f;exact absurd rfl f
 |name s=>exact fun g h n f=>Gn g h f
 |here=>
  intro a _ h n f;have h:(if here=[] then none else some (eu 0 here []))=some a:=h;rcases hh with e|e
  .exact aj (ce e h)
  .rw[e]at h;rw[←Na h]at f;have m:=((hU 0 (x:=[72]) (by decide)).mem n).mpr f;rw[List.mem_singleton.mp m];exact M_ ..
 |un s b i=>intro a g h n f;refine bE h fun c e h=>?_;exact i g.2 e n (Du h f)
 |bin s l r i j=>intro a g h n f;refine bE h fun c e h=>?_;refine bE h fun d o h=>?_;exact(Dv h f).elim (i g.2.1 e n) (j g.2.2 o n)
theorem Gq(hh:here=[]\/here=[72]){T:Tr}{a:Af}(f:bY T)(e:xo a)(h:bF (E4 s0 s1 s2 s3) here T=some a):(a.p=[]\/a.p∈cZ)/\(a.m=[]\/a.m∈cZ):=by
 have k:=Gp hh f h;refine⟨?_,?_⟩
 .by_cases g:a.p=[]
  .exact .inl g
  .have b:a.p∈nz [a.p]:=by rw[cO g];exact M_ ..
   have c:=dC (e_ e _ b);have d:=e9 b;exact .inr (k a.p (by unfold cA cL;rw[c,PO];exact TJ d))
 .by_cases g:a.m=[]
  .exact .inl g
  .have b:a.m∈nz [a.m]:=by rw[cO g];exact M_ ..
   have c:=dC (l:=nz [a.p]) (n:=a.m) (fun k=>e_ e _ k b);have d:=e9 b;exact .inr (k a.m (by unfold cA cL;rw[c,Int.zero_sub];exact fun z=>TJ d (Int.neg_eq_zero.mp z)))
end
theorem af.up{σ:aa}{Q:QV}{X:QX}(w:af d f as σ Q X)(h:d<=a):af a f as σ Q X:=
 fun C A b fz s vals F=>w C A b fz s vals ⟨F.hand,F.frames,by have:=F.depth;omega,by have:=F.units;omega⟩
theorem kR:∀{a b:List (List Nat)},a.Pairwise (fun x y=>¬y<x)->b.Pairwise (fun x y=>¬y<x)->a.Nodup->b.Nodup->(∀x,x∈a↔x∈b)->a=b
 |[],[],_,_,_,_,_=>rfl
 |[],y::b,_,_,_,_,h=>absurd ((h y).mpr (M_ ..)) (fun z=>absurd z Nq)
 |x::a,[],_,_,_,_,h=>absurd ((h x).mp (M_ ..)) (fun z=>absurd z Nq)
 |x::a,y::b,d,f,na,i,h=>by
  rw[List.pairwise_cons]at d f;rw[Pd]at na i;have e:x=y:=by
   apply NM;intro g;have j:x∈b:=by
    cases(h x).mp (M_ ..)with
    |head=>exact absurd rfl g
    |tail _ z=>exact z
   have k:y∈a:=by
    cases(h y).mpr (M_ ..)with
    |head=>exact absurd rfl g
    |tail _ z=>exact z
   exact g (List.le_antisymm (d.1 y k) (f.1 x j))
  subst e;have t:∀z,z∈a↔z∈b:=fun z=>by
   refine⟨fun c=>?_,fun c=>?_⟩
   .cases(h z).mp (Nb _ c)with
    |head=>exact absurd c na.1
    |tail _ z=>exact z
   .cases(h z).mpr (Nb _ c)with
    |head=>exact absurd c i.1
    |tail _ z=>exact z
  rw[kR d.2 f.2 na.2 i.2 t]
theorem tU(ss:List (List Nat)):dX (ss.map PV.str) (ss.map PV.str)=true:=by
 induction ss with
 |nil=>exact rfl
 |cons s r a=>show(fC (.str s) (.str s)&&dX (r.map PV.str) (r.map PV.str))=true;rw[a];show((s==s)&&true)=true;rw[Nx];rfl
theorem Dw(n:Nat)(ss:List (List Nat)):bb (ss.map PV.str) n=true:=by
 induction ss with
 |nil=>exact rfl
 |cons s r a=>exact a
theorem w_{σ:aa}(ss:List (List Nat)):fM (.lst (ss.map .str)) (.lst (ss.map .str)) σ=some true:=by show(if(bb (ss.map .str) 59&&bb (ss.map .str) 59)=true then some (dX (ss.map .str) (ss.map .str))else _)=_;rw[Dw,tU];rfl
noncomputable def oz:List Tr->List (List Nat)
 |[]=>[]
 |.name s::r=>s::oz r
 |_::r=>oz r
theorem mq:∀a b:List Tr,oz (a++b)=oz a++oz b
 |[],b=>rfl
 |.name s::r,b=>Np (s::·) (mq r b)
 |.num _::r,b|.here::r,b|.un _ _::r,b|.bin _ _ _::r,b=>mq r b
theorem Al(t:Tr):oz (mB t)=jO t:=by
 induction t with
 |num _=>exact rfl
 |here=>exact rfl
 |name _=>exact rfl
 |un _ b a=>exact a
 |bin _ l r a c=>exact(mq _ _).trans (by rw[a,c];rfl)
noncomputable def rQ:Tr->Prop
 |.un _ _=>False
 |.bin _ _ _=>False
 |_=>True
theorem hV(t:Tr):∀u∈mB t,rQ u:=by
 induction t with
 |num _=>
  intro u h;cases h with
  |head=>trivial
  |tail _ z=>cases z
 |here=>
  intro u h;cases h with
  |head=>trivial
  |tail _ z=>cases z
 |name _=>
  intro u h;cases h with
  |head=>trivial
  |tail _ z=>cases z
 |un _ b a=>exact fun u h=>a u h
 |bin _ l r a c=>exact fun u h=>(List.mem_append.mp h).elim (a u) (c u)
theorem Am(t:Tr):(jO t).length<=sz t:=by
 induction t with
 |num _=>exact NJ _
 |here=>exact NJ _
 |name _=>exact Nc _
 |un _ b a=>exact Ou (a)
 |bin _ l r a c=>show(jO l++jO r).length<=sz l+sz r+1;rw[M3];exact Ou (N8 (a) (c))
section
variable{d:Nat}{σ:aa}
theorem An{P:List PV->aa->Prop}(f:List Tr):∀(acc:List (List Nat))(o v:Option PV),(∀u∈f,rQ u)->acc.length+f.length<=1000->P ((acc++oz f).map .str) σ->dK (fun g i K=>ja d [.cmp .Eq (.idx (.loc 1) (.lit (.int 0))) (.lit (.str pK))] g i (fun t a=>match t with|true=>cR d (.idx (.loc 1) (.lit (.int 1))) g a (fun v c=>K (some v) c) (fun _ _=>False)|false=>K none a) (fun _ _=>False)) [1] (f.map tt) [o,v] (acc.map .str) σ P:=by
 induction f with
 |nil=>intro acc o v _ _ p;rw[show oz []=[] from rfl,Nv]at p;exact p
 |cons u r j=>
  intro acc o v m q p;have e:acc.length+r.length+1<=1000:=q;have h:=m u (M_ ..);have k:=fun u h=>m u (Nb _ h);have l:(acc.map PV.str).length<aU:=by rw[M6];exact M9 (M1 (Nh _ _) q) (by decide)
  cases u with
  |num n=>exact⟨_,rfl,l,ah rfl (ak (b:=false) rfl (j acc o _ k (Nl e) p))⟩
  |here=>exact⟨_,rfl,l,ah rfl (ak (b:=false) rfl (j acc o _ k (Nl e) p))⟩
  |name s=>refine⟨_,rfl,l,ah rfl (ak (b:=true) rfl (ah rfl ?_))⟩;have z:=j (acc++[s]) o (some (tt (.name s))) k (by rw[M3];show acc.length+1+_<=_;exact OX _ _▸e) (by rw[Nd];exact p);rw[NA]at z;exact z
  |un _ _=>exact h.elim
  |bin _ _ _=>exact h.elim
theorem Dx(a:List Tr):(∀u∈a,rQ u)->(a.map tt).any (fun v=>fC v (.tup [.str ij]))=a.any (fun u=>match u with|.here=>true|_=>false):=by
 induction a with
 |nil=>exact fun _=>rfl
 |cons u r c=>
  intro h;have b:=h u (M_ ..);rw[NO,O8,O8,c fun u b=>h u (Nb _ b)];cases u with
  |un _ _=>exact b.elim
  |bin _ _ _=>exact b.elim
  |_=>rfl
theorem Dy(t:Tr):(mB t).any (fun u=>match u with|.here=>true|_=>false)=hh t:=by
 induction t with
 |num _=>exact rfl
 |name _=>exact rfl
 |here=>exact rfl
 |un _ b a=>exact a
 |bin _ l r a c=>
  show(mB l++mB r).any _=(hh l||hh r)
  rw[List.any_append,a,c]
theorem Dz(b:List Tr):(∀u∈b,rQ u)->gQ (b.map tt)=true:=by
 induction b with
 |nil=>exact fun _=>rfl
 |cons u r c=>
  intro h;have a:=h u (M_ ..);show(b_ (tt u) 60&&gQ (r.map tt))=true;rw[c fun u a=>h u (Nb _ a)];cases u with
  |un _ _=>exact a.elim
  |bin _ _ _=>exact a.elim
  |_=>rfl
theorem Gs(t:Tr):kU (.tup [.str ij]) (.lst ((mB t).map tt)) σ=some (hh t):=by show(if(xr (.tup [.str ij])&&gQ ((mB t).map tt))=true then some (((mB t).map tt).any fun v=>fC v (.tup [.str ij]))else none)=_;rw[Dz _ (hV t),Dx _ (hV t),Dy];rfl
end
noncomputable abbrev EL(a0 a1 a a3 b c d a7 a8 a9 a10 a11 a12 a13 a14 a15 a16 a17 a18 a19 a20 a21 a22 a23 a24 a25 a26:Option PV):ar:=[a0,a1,a,a3,b,c,d,a7,a8,a9,a10,a11,a12,a13,a14,a15,a16,a17,a18,a19,a20,a21,a22,a23,a24,a25,a26,none,none,none,none,none,none,none,none,none,none,none,none,none,none,none,none,none,none,none,none,none,none,none,none,none,none,none]
noncomputable abbrev QL:QV:=fun v _=>v= .bool true
noncomputable abbrev KL:QS:=fun o _ a=>aZ QL (o.getD .none) a
noncomputable abbrev XL:QX:=ao (fun _ _=>False)
theorem AY{a:aa}:KL (some (.bool true)) [] a:= .val Le.rfl rfl
section
variable{d:Nat}{τ:aa}{a0 a1 a2 a3 a4 a5 a6 a7 a8 a9 a10 a11 a12 a13 a14 a15 a16 a17 a18 a19 a20 a21 a22 a23 a24 a25 a26:Option PV}
theorem LB(f:340<=d){T:Tr}(a:sz T<=45):ai d (cV.drop 32) (EL a0 a1 a2 a3 a4 a5 a6 a7 a8 a9 a10 a11 a12 (some (tt T)) (some (tv T)) a15 a16 a17 a18 a19 a20 a21 a22 a23 a24 a25 a26) τ KL XL:=by refine af.up (Lk 45 T a (by decide) ?_) (M1 (by decide) f);refine⟨_,rfl,An (mB T) [] none none (hV T) (by have:=fx T;rw[N5];exact M1 (ND (N1 _)) (M1 this (M1 a (by decide)))) ?_⟩;rw[O1,Al];have j:=Am T;refine tY (eX (jO T)) ⟨M9 j (M9 a (by decide)),fun ss k l hs=>?_⟩;refine af.up (KY (d:=0) (M1 a (by decide)) fun c g h i=>?_) (M1 (by decide) f);have e:c=ss:=kR i hs g l fun x=>(h x).trans (k x).symm;subst e;refine ak (w_ c) (ak (b:=true) rfl ?_);refine af.up (CE 45 (by decide) a ?_) (M1 (by decide) f);refine ak (Gs (σ:=τ) T) ⟨(hh T==hh T),rfl,?_⟩;rw[Nx];exact AY
end
theorem w'(t:Tr):fC (tt t) (tt t)=true:=by
 induction t with
 |num n=>show(fC (.str g8) (.str g8)&&(fC (.int n) (.int n)&&true))=true;show((g8==g8)&&((n==n)&&true))=true;rw[Nx,Nx];rfl
 |name s=>show((pK==pK)&&((s==s)&&true))=true;rw[Nx,Nx];rfl
 |here=>exact rfl
 |un s b a=>show((Fo==Fo)&&((s==s)&&(fC (tt b) (tt b)&&true)))=true;rw[Nx,Nx,a];rfl
 |bin s l r a c=>show((Fp==Fp)&&((s==s)&&(fC (tt l) (tt l)&&(fC (tt r) (tt r)&&true))))=true;rw[Nx,Nx,a,c];rfl
theorem ql(h0:0<=n)(b:n<2^64):fa (aE n):=by
 have e:((n.toNat:Nat):Int)=n:=Op h0;have D:=e6 (m:=n.toNat) (by lia);rw[e]at D;refine⟨M1 D.l (by decide),fun c a=>?_⟩;rcases Bool.or_eq_true_iff.mp (D.c c a).1 with h|h
 .exact M9 (bP.mp h).2 (by decide)
 .exact M9 (bP.mp h).2 (by decide)
theorem mr:∀{T:Tr},bY T->iE T
 |.num n,h=>⟨by have:=h.1;lia,h.2,ql h.1 h.2⟩
 |.name _,_|.here,_=>trivial
 |.un _ b,h=>show iE b from mr h.2
 |.bin _ l r,h=>⟨mr h.2.1,mr h.2.2⟩
section
variable{d:Nat}{τ:aa}{a0 a1 a2 a3 a4 a5 a6 a7 a8 a9 a10 a11 a12 a13 a14 a15 a16 a17 a18 a19 a20 a21 a22 a23 a24 a25 a26:Option PV}
theorem Gu(m:340<=d){T:Tr}{ks:List Tk}(j:bY T)(L:Lv 1 0 ks T)(p:sz T<=45)(q:∀a24,ai d (cV.drop 32) (EL a0 a1 a2 a3 a4 a5 a6 a7 a8 a9 a10 a11 a12 (some (tt T)) (some (tv T)) a15 a16 a17 a18 a19 a20 a21 (some (.str (cQ T))) a23 a24 a25 a26) τ KL XL)(k:Nat):∀(i:Nat)(a24:Option PV),i+k=(cQ T).length->bt (fun r σ K'=>ai d (ax cV 31) r σ K' XL) [24] ((Q8 i k).map fun(i:Nat)=>PV.int i) (EL a0 a1 a2 a3 a4 a5 a6 a7 a8 a9 a10 a11 a12 (some (tt T)) (some (tv T)) a15 a16 a17 a18 a19 a20 a21 (some (.str (cQ T))) a23 a24 a25 a26) τ (fun o c f=>match o with|some v=>KL (some v) c f|none=>ai d (cV.drop 32) c f KL XL):=by
 induction k with
 |zero=>exact fun i a24 _=>q a24
 |succ k l=>
  intro i a24 h;have g:i<(cQ T).length:=by lia
  have t:=wN j;have s:(cQ T).length<=1000000:=by lia
  have a:(cQ T).drop i=(cQ T)[i]::(cQ T).drop (i+1):=OS g;refine⟨_,rfl,ah (aS a s) (tX (fun e=>?_) fun e=>?_)⟩
  .rw[e]at a;exact af.up (F_ (n:=300) j L p a (by decide) (by decide) (ak (b:=false) rfl (l (i+1) (some (.int i)) (OX _ _▸h)))) (M1 (by decide) m)
  .exact l (i+1) (some (.int i)) (OX _ _▸h)
theorem DA(f:340<=d){T:Tr}{ks:List Tk}(a:bY T)(L:Lv 1 0 ks T)(c:sz T<=45):ai d (cV.drop 28) (EL a0 a1 a2 a3 a4 a5 a6 a7 a8 a9 a10 a11 a12 (some (tt T)) (some (tv T)) a15 a16 a17 a18 a19 a20 a21 a22 a23 a24 a25 a26) τ KL XL:=by
 have k:=wN a;have rl:=AS T;have h:(cQ T).length<=2000:=by lia
 refine af.up (CD 45 T c (by decide) (mr a) (M1 h (by decide)) 0 ?_) (M1 (by decide) f);have g:((hM T).map aY).length=(hM T).length:=M6 ..;refine af.up (C1 (m:=300) (P:=fun o=>o=some ((hM T).map aY)) h (lX (wL (AR a).sp) (oo a) rfl) (fun e=>aj e) fun i j _=>?_) (M1 (by decide) f);injection j with z0;subst z0
 refine⟨_,lW (ou a L) (by rw[g];lia),?_⟩;refine ak (b:=isNone (tv T)) rfl ?_;rw[lS];refine tL (jJ 60 T (M1 c (by decide)) (by decide) ?_ |>.up (M1 (by decide) f));refine ak (b:=false) (by show(fM _ _ _).map _=_;rw[C2 (M1 c (by decide)) (M1 c (by decide)),w'];rfl) ?_;refine⟨_,lQ (M1 h (by decide)),?_⟩;rw[RM];exact Gu f a L c (fun a24=>LB f c) (cQ T).length 0 a24 (N1 _)
end
section
variable{d:Nat}{τ:aa}{a0 a1 a2 a3 a4 a5 a6 a7 a8 a9 a10 a11 a12 a13 a14 a15 a16 a17 a18 a19 a20 a21 a22 a23 a24 a25 a26:Option PV}{s0 s1 s2 s3:Int}{es ek:Nat}
theorem xa:∀k:Nat,k<=63->small (2^k):=fun k a=>aG (n:=64) (by
 have e:((2:Int)^k).natAbs=2^k:=by rw[UY];rfl
 rw[e];exact M9 (iq a) (by decide)) (by decide)
theorem DB{a:Af}{b:cX}(P:dT b (cA a)):b.length<=30:=(AW P).l
noncomputable def LC:Option Wt->Option Int
 |some (w,[])=>some w
 |_=>none
theorem mu:∀{q:Option Af}{r:Option Wt},dU q r->(q.bind fun a=>if aP a=true then some a.w else none)=LC r
 |none,none,_=>rfl
 |some a,some (w,[]),⟨c,b,P⟩=>(M8 ((cC P b).mpr rfl)).trans (Np some c)
 |some a,some (w,x::y),⟨c,b,P⟩=>M5 fun z=>kT ((cC P b).mp z)
theorem Ao(i:Int):fM (.int i) (.int i) τ=some true:=by show some (i==i)=some true;rw[Nx]
theorem Gv(f:340<=d){T:Tr}{ks:List Tk}(a:bY T)(L:Lv 1 0 ks T)(c:sz T<=45)(B:B4 s0 s1 s2 s3)(h:τ es=some (.dct (dv (E4 s0 s1 s2 s3))))(i:τ ek=some (.dct (DU (Ae s0 s1 s2 s3)))):
  ai d (cV.drop 26) (EL a0 a1 a2 a3 a4 a5 a6 a7 a8 a9 a10 a11 a12 (some (tt T)) (some (tv T)) (some (.obj 703 [.ref es])) (some (.ref ek)) a17 a18 a19 a20 a21 a22 a23 a24 a25 a26) τ KL XL:=by
 refine af.up (F4 i xa 45 T c (by decide) (Gh B a (M1 c (by decide))) fun r g=>?_) (M1 (by decide) f);have A:=w3 (s0:=s0) (s1:=s1) (s2:=s2) (s3:=s3) a g;refine af.up (Ll (n:=45) h (by show 4<=100;decide) c (by decide) (Gf B a (M1 c (by decide))) ?_) (M1 (by decide) f);rw[mu A];have ln:∀w p,r=some (w,p)->p.length<=30:=fun w p e=>by subst e;exact(jW B a g).2.l
 match r,ln with
 |none,_=>exact ak (b:=false) rfl (ak (b:=false) rfl (DA f a L c))
 |some (w,[]),_=>exact ak (b:=true) rfl (ah rfl (ak (b:=true) rfl (ah rfl (ak (b:=false) (by show(fM (.int w) (.int w) τ).map (!·)=some false;rw[Ao];rfl) (DA f a L c)))))
 |some (w,x::y),ln=>exact ak (b:=true) rfl (ah rfl (ak (pY (ln _ _ rfl)) (ak (b:=false) rfl (DA f a L c))))
end
theorem xb(h:i<0):aE i=45::aE (-i):=by
 have a:i= -(((-i-1).toNat:Int)+1):=by lia
 have b: -i=((-i-1).toNat:Int)+1:=by lia
 rw[b]
 conv=>lhs;rw[a]
 exact rz _
theorem AZ(h0:0<=i)(a:i<2^64):(aE i).length<=20:=by have e:((i.toNat:Nat):Int)=i:=Op h0;have D:=e6 (m:=i.toNat) (by lia);rw[e]at D;exact D.l
theorem i6(a: -(2^64)<i)(b:i<2^64):fa (aE i)/\(aE i).length<=21:=by
 by_cases h:i<0
 .rw[xb h];have k:=ql (n:= -i) (P2 (PP h)) (OK a);have l:=AZ (i:= -i) (P2 (PP h)) (OK a);have d:(45::aE (-i)).length<=21:=Ny l;exact⟨⟨M1 d (by decide),fun c e=>by
   cases e with
   |head=>decide
   |tail _ z=>exact k.2 c z⟩,d⟩
 .exact⟨ql (Int.not_lt.mp h) b,Ou (AZ (Int.not_lt.mp h) b)⟩
theorem xc{s:List Nat}(h:s=[]\/s∈cZ):s.length<=6:=by
 have:∀s∈cZ,s.length<=6:=by decide
 rcases h with rfl|h
 .exact NJ _
 .exact this s h
theorem Ap{a:Af}(c:a.p.length<=6)(g:a.m.length<=6)(d: -(2^64)<a.w)(e:a.w<2^64):(q_ a).length<=60:=by
 have f:=(i6 d e).2;have h:=(i6 (i:= -a.w) (Q4 e) (OK d)).2;have j:(t_ a.m).length<=9:=by
  unfold t_;split
  .exact NJ _
  .rw[M3];show 3+_<=9;exact M1 (NG g _) (by decide)
 rw[Gi,M3];refine M1 (N8 (b:=51) ?_ j) (by decide);split
 .exact M1 f (by decide)
 .split
  .rw[M3,M3];show _+3+_<=51;exact M1 (N8 (NF c _) f) (by decide)
  .split
   .rw[M3,M3];show _+3+_<=51;exact M1 (N8 (NF c _) h) (by decide)
   .exact M1 c (by decide)
theorem DC(a:Af):(Ak a++w6 a.m).length<=5:=by
 rw[M3];have b:(Ak a).length<=3:=by
  unfold Ak;split
  .split<;>exact Ni rfl
  .split
   .exact Ni rfl
   .split<;>exact Ni rfl
 have c:(w6 a.m).length<=2:=by unfold w6;split<;>exact Ni rfl
 exact M1 (N8 b c) (by decide)
theorem Gw(a:Af):sz (Ds a)<=5:=by
 have b:sz (w7 a)<=3:=by
  unfold w7;split
  .split<;>exact Ni rfl
  .split
   .exact Ni rfl
   .split<;>exact Ni rfl
 unfold Ds;split
 .exact M1 b (by decide)
 .show sz (w7 a)+1+1<=5;exact M1 (Ny (Ny b)) (by decide)
section
variable{d:Nat}{τ:aa}{Q:QV}{X:QX}{ρ:ar}
theorem DD{P:List PV->aa->Prop}(a:cX):∀(acc:List (List Nat))(u v:Option PV),acc.length+a.length<=1000->P ((acc++(a.filter fun p=>decide (0<p.2)).map (·.1)).map .str) τ->dK (fun e h K=>ja d [.cmp .Gt (.loc 2) (.lit (.int 0))] e h (fun k b=>match k with|true=>cR d (.loc 1) e b (fun v c=>K (some v) c) (fun _ _=>False)|false=>K none b) (fun _ _=>False)) [1,2] (a.map pp) [none,u,v] (acc.map .str) τ P:=by
 induction a with
 |nil=>intro acc u v _ p;rw[QB,Rr,Nv]at p;exact p
 |cons s r i=>
  intro acc u v j p;have f:acc.length+r.length+1<=1000:=j;refine⟨_,rfl,by rw[M6];exact M9 (M1 (Nh _ _) j) (by decide),iR (p:=0<s.2) (fun g=>?_) fun g=>?_⟩
  .rw[N_ (by simpa using g)]at p;have z:=i (acc++[s.1]) (some (.str s.1)) (some (.int s.2)) (by rw[M3];show acc.length+1+_<=_;exact OX _ _▸f) (by rw[Nd];exact p);rw[NA]at z;exact z
  .rw[Pk (by simpa using g)]at p;exact i acc _ _ (Nl f) p
theorem DE{P:List PV->aa->Prop}(a:cX):∀(acc:List (List Nat))(u v:Option PV),acc.length+a.length<=1000->P ((acc++(a.filter fun p=>decide (p.2<0)).map (·.1)).map .str) τ->dK (fun e h K=>ja d [.cmp .Lt (.loc 2) (.lit (.int 0))] e h (fun k b=>match k with|true=>cR d (.loc 1) e b (fun v c=>K (some v) c) (fun _ _=>False)|false=>K none b) (fun _ _=>False)) [1,2] (a.map pp) [none,u,v] (acc.map .str) τ P:=by
 induction a with
 |nil=>intro acc u v _ p;rw[QB,Rr,Nv]at p;exact p
 |cons s r i=>
  intro acc u v j p;have f:acc.length+r.length+1<=1000:=j;refine⟨_,rfl,by rw[M6];exact M9 (M1 (Nh _ _) j) (by decide),iR (p:=s.2<0) (fun g=>?_) fun g=>?_⟩
  .rw[N_ (by simpa using g)]at p;have z:=i (acc++[s.1]) (some (.str s.1)) (some (.int s.2)) (by rw[M3];show acc.length+1+_<=_;exact OX _ _▸f) (by rw[Nd];exact p);rw[NA]at z;exact z
  .rw[Pk (by simpa using g)]at p;exact i acc _ _ (Nl f) p
theorem A0{Q:List PV->aa->Prop}(h:nE d e ρ X τ (uh (ui d es ρ X) Q)):ui d (e::es) ρ X τ Q:=h
theorem A1{R:aa->(List PV->aa->Prop)->Prop}{Q:List PV->aa->Prop}(h:R τ fun vs σ=>Q (v::vs) σ):uh R Q v τ:=h
theorem A2(h:ρ[j]? =some (some (.lst ((nz [p]).map .str)))) (q:Q (.str p) τ):cR d (.ite (.tru (.loc j)) (.idx (.loc j) (.lit (.int 0))) (.lit (.str []))) ρ τ Q X:=by
 have c:∀{F:QV},F (.lst ((nz [p]).map .str)) τ->cR d (.loc j) ρ τ F X:=fun{F} f=>by show(match ρ[j]? with|some (some v)=>F v τ|_=>False);rw[h];exact f
 show cR d (.loc j) ρ τ (fun v a=>∃b,eH v a=some b/\(match b with|true=>cR d (.idx (.loc j) (.lit (.int 0))) ρ a Q X|false=>Q (.str []) a)) X;apply c;by_cases g:p=[]
 .subst g;exact ak (b:=false) rfl q
 .rw[cO g]at c⊢;refine ak (b:=true) rfl ?_;show cR d (.loc j) ρ τ (fun v a=>∃w,bk v (.int 0) a=some w/\Q w a) X;exact c (ah rfl q)
theorem Mh:fM (.lst ((nz [p]).map .str)) (.lst []) τ=some (p==[]):=by
 by_cases g:p=[]
 .subst g;rfl
 .rw[cO g,R0 g];rfl
theorem LD{i j:Nat}{a:Af}(h:ρ[i]? =some (some (.lst ((nz [a.p]).map .str)))) (h':ρ[j]? =some (some (.lst ((nz [a.m]).map .str)))) (q:Q (.bool (pM a)) τ):
  cR d (.bop true [(.cmp .NotEq (.loc i) (.lst true [])),(.cmp .Eq (.loc j) (.lst true []))]) ρ τ Q X:=by
 have l:∀{F:QV},F (.lst ((nz [a.p]).map .str)) τ->cR d (.loc i) ρ τ F X:=fun{F} f=>by show(match ρ[i]? with|some (some v)=>F v τ|_=>False);rw[h];exact f
 have k:∀{F:QV},F (.lst ((nz [a.m]).map .str)) τ->cR d (.loc j) ρ τ F X:=fun{F} f=>by show(match ρ[j]? with|some (some v)=>F v τ|_=>False);rw[h'];exact f
 unfold pM at q;show cR d (.loc i) ρ τ (fun v e=>∃c,eJ .NotEq v (.lst []) e=some c/\∃b,eH (.bool c) e=some b/\if b=true then cR d (.cmp .Eq (.loc j) (.lst true [])) ρ e Q X else Q (.bool c) e) X;have n:eJ .NotEq (.lst ((nz [a.p]).map .str)) (.lst []) τ=some (!(a.p==[])):=by show(fM (.lst ((nz [a.p]).map .str)) (.lst []) τ).map (!·)=_;rw[Mh];rfl
 refine l (ak n ?_);cases g:a.p==[]with
 |true=>rw[g]at q;exact⟨false,rfl,q⟩
 |false=>rw[g]at q;refine⟨true,rfl,?_⟩;show cR d (.loc j) ρ τ (fun v e=>∃c,eJ .Eq v (.lst []) e=some c/\Q (.bool c) e) X;exact k (ak (b:=a.m==[]) Mh q)
theorem rS(w:Int)(p m:List Nat):eJ .NotEq (.tup [.int w,.str p,.str m]) (.tup [.int w,.str p,.str m]) τ=some false:=by show(some (fC (.tup [.int w,.str p,.str m]) (.tup [.int w,.str p,.str m]))).map (!·)=some false;show some (!((w==w)&&((p==p)&&((m==m)&&true))))=some false;rw[Nx,Nx,Nx];rfl
theorem mw(b:Bool):eJ .NotEq (.bool b) (.bool b) τ=some false:=by show some (!(b==b))=some false;rw[Nx];rfl
end
section
variable{d:Nat}{τ:aa}{a0 a1 a2 a3 a4 a5 a6 a7 a8 a9 a10 a11 a12 a13 a14 a15 a16 a17 a18 a19 a20 a21 a22 a23 a24 a25 a26:Option PV}{s0 s1 s2 s3:Int}{es ek:Nat}{here:List Nat}
theorem LE(c:340<=d){T:Tr}{ks:List Tk}(n:bY T)(L:Lv 1 0 ks T)(s:sz T<=45)(B:B4 s0 s1 s2 s3)(k:τ es=some (.dct (dv (E4 s0 s1 s2 s3))))(l:τ ek=some (.dct (DU (Ae s0 s1 s2 s3))))(hh:here=[]\/here=[72]):
  ai d (cV.drop 23) (EL a0 a1 a2 a3 a4 (some (.str here)) a6 a7 a8 a9 a10 a11 a12 (some (tt T)) (some (tv T)) (some (.obj 703 [.ref es])) (some (.ref ek)) a17 a18 a19 a20 a21 a22 a23 a24 a25 a26) τ KL XL:=by
 refine af.up (F4 (here:=here) l xa 45 T s (by decide) (Gh B n (M1 s (by decide))) fun r Q=>?_) (M1 (by decide) c);have A:=w3 (s0:=s0) (s1:=s1) (s2:=s2) (s3:=s3) n Q;refine af.up (pQ (here:=here) k (by show 4<=100;decide) 45 T s (by decide) (Gf B n (M1 s (by decide))) ?_) (M1 (by decide) c);have C:=fun a j h=>Gq (s0:=s0) (s1:=s1) (s2:=s2) (s3:=s3) (a:=a) hh n j h;generalize bF (E4 s0 s1 s2 s3) here T=q at A C
 match q,r,A,C with
 |none,none,_,_=>exact⟨rfl,ak (b:=true) rfl (ak (b:=false) rfl (ak (b:=false) rfl (Gv c n L s B k l)))⟩
 |some a,some x,⟨v,j,P⟩,C=>
  apply bc;intro D;obtain⟨F,H⟩:=C a j rfl;apply D;have pl:=DB P;refine ak (b:=false) rfl (ak (b:=false) rfl (ah rfl ⟨_,rfl,DD x.2 [] none none (by rw[N5];exact M1 (ND (N1 _)) (M1 pl (by decide))) ?_⟩));rw[O1,Ai P j];refine ah rfl ⟨_,rfl,DE x.2 [] none none (by rw[N5];exact M1 (ND (N1 _)) (M1 pl (by decide))) ?_⟩;rw[O1,w5 P j];refine⟨rfl,⟨_,rfl,af.up (Cv (d:=0) ?_) (M1 (by decide) c)⟩⟩;refine ah rfl (A1 (A0 (A2 rfl (A1 (A0 (A2 rfl (ak (by rw[←v];exact rS a.w a.p a.m) ?_)))))));refine⟨rfl,⟨_,rfl,af.up (KF (d:=0) ?_) (M1 (by decide) c)⟩⟩;refine LD (a:=a) rfl rfl (ak (mw _) ?_);refine⟨rfl,⟨_,rfl,af.up (v_ (d:=0) ?_) (M1 (by decide) c)⟩⟩;have V:aP a=x.2.isEmpty:=by
   cases g:x.2 with
   |nil=>exact(cC P j).mpr g
   |cons y z=>
    cases g2:aP a with
    |true=>have:=(cC P j).mp g2;rw[g]at this;exact kT this
    |false=>rfl
  rw[V];refine ah rfl (ak (pY pl) (ak (mw _) ?_));have fin:∀f:aa,f es=some (.dct (dv (E4 s0 s1 s2 s3)))->f ek=some (.dct (DU (Ae s0 s1 s2 s3)))->∀a18 a19 a20,ai d (cV.drop 26) (EL a0 a1 a2 a3 a4 (some (.str here)) a6 a7 a8 a9 a10 a11 a12 (some (tt T)) (some (tv T)) (some (.obj 703 [.ref es])) (some (.ref ek)) (some (wp x.1 x.2)) a18 a19 a20 a21 a22 a23 a24 a25 a26) f KL XL:=fun f k l a18 a19 a20=>Gv c n L s B k l;refine ah rfl ⟨by decide,by decide,wu,iR (p:=(x.1.natAbs:Int)<1*2^64) (fun g=>?_) fun g=>fin τ k l _ _ _⟩;have t: -(2^64)<a.w:=by have v:a.w=x.1:=v;lia
  have u:a.w<2^64:=by have v:a.w=x.1:=v;lia
  apply bc;intro D;obtain⟨W,X⟩:=LA j t u;apply D;have M:=Ap (xc F) (xc H) t u;have Y:=DC a;refine af.up (KZ (d:=0) t u (i6 t u).1 (i6 (Q4 u) (OK t)).1 (M1 M (by decide)) ?_) (M1 (by decide) c);refine af.up (FB (m:=60) (P:=fun o=>o=some (Ak a++w6 a.m)) (M1 M (by decide)) (Gj (F.imp id i5) (H.imp id i5) t u rfl) (fun e=>aj e) fun Z K _=>?_) (M1 (by decide) c);injection K with z0;subst z0
  refine⟨_,lW (Ly (F.imp id i5) (H.imp id i5)) (M1 (Ny (Oj 2 Y)) (by decide)),?_⟩;refine af.up (FF (d:=0) fun O i=>?_) (M1 (by decide) c);have k1:es≠O:=fun e=>by rw[←e,k]at i;exact ba i
  have k2:ek≠O:=fun e=>by rw[←e,l]at i;exact ba i
  refine af.up (v' (E:=[]) (aa.uS ..) (NJ _) (Gw a) (by decide) X ?_) (M1 (by decide) c);rw[W];refine⟨rfl,⟨_,rfl,af.up (Cv (d:=0) ?_) (M1 (by decide) c)⟩⟩;refine⟨rfl,⟨_,rfl,af.up (Cv (d:=0) ?_) (M1 (by decide) c)⟩⟩;refine ak (rS a.w a.p a.m) ?_;exact fin _ (by rw[aa.uN _ _ k1];exact k) (by rw[aa.uN _ _ k2];exact l) _ _ _
end
section
variable{d:Nat}{τ:aa}{a0 a1 a2 a3 a4 a5 a6 a7 a8 a9 a10 a11 a12 a13 a14 a15 a16 a17 a18 a19 a20 a21 a22 a23 a24 a25 a26:Option PV}{s0 s1 s2 s3:Int}{here:List Nat}
theorem Aq{es:Nat}{n:List Nat}{v:PV}{kvs:List (List Nat×PV)}{Q:QV}{X:QX}(a:kvs.length<=100)(q:Q .none (τ.upd es (.dct (rX kvs n v)))):af (d+1) (.ref 686) [.obj 703 [.ref es],.str n,v] (τ.upd es (.dct kvs)) Q X:=
 KO (aa.uS ..) a (by rw[aa.uU];exact q)
theorem Gx(c:340<=d){T:Tr}{ks:List Tk}(f:bY T)(L:Lv 1 0 ks T)(g:sz T<=45)(B:B4 s0 s1 s2 s3)(hh:here=[]\/here=[72]){es:Nat}(b:τ es=some (.dct (dv (E4 s0 s1 s2 s3)))):
  ai d (cV.drop 20) (EL a0 a1 a2 a3 (some (.lst [.int s0,.int s1,.int s2,.int s3])) (some (.str here)) a6 a7 a8 a9 a10 a11 a12 (some (tt T)) (some (tv T)) (some (.obj 703 [.ref es])) a16 a17 a18 a19 a20 a21 a22 a23 a24 a25 a26) τ KL XL:=by
 refine ah rfl (ah rfl (ah rfl ⟨rfl,by decide,fun ek a=>?_⟩));have h:es≠ek:=fun e=>by rw[←e,b]at a;exact ba a
 refine ah rfl (C6 (aa.uS ..) (Ni rfl) ?_);refine ah rfl (C6 (aa.uS ..) (Ni rfl) ?_);rw[aa.uU,aa.uU];exact LE (ek:=ek) c f L g B (by rw[aa.uN _ _ h];exact b) (aa.uS ..) hh
theorem LF(a:340<=d){T:Tr}{ks:List Tk}(b:bY T)(L:Lv 1 0 ks T)(c:sz T<=45)(B:B4 s0 s1 s2 s3)(hh:here=[]\/here=[72]):
  ai d (cV.drop 15) (EL a0 a1 a2 a3 (some (.lst [.int s0,.int s1,.int s2,.int s3])) (some (.str here)) a6 a7 a8 a9 a10 a11 a12 (some (tt T)) (some (tv T)) a15 a16 a17 a18 a19 a20 a21 a22 a23 a24 a25 a26) τ KL XL:=by
 refine af.up (FF (d:=0) fun es e=>?_) (M1 (by decide) a);refine⟨rfl,ah rfl (af.up (jM (d:=0) ⟨_,rfl,af.up (Aq (d:=0) (by decide) ?_) (M1 (by decide) a)⟩) (M1 (by decide) a))⟩;refine⟨rfl,ah rfl (af.up (jM (d:=0) ⟨_,rfl,af.up (Aq (d:=0) (Ni rfl) ?_) (M1 (by decide) a)⟩) (M1 (by decide) a))⟩;refine⟨rfl,ah rfl (af.up (zh (d:=0) ⟨_,rfl,af.up (Aq (d:=0) (Ni rfl) ?_) (M1 (by decide) a)⟩) (M1 (by decide) a))⟩;refine⟨rfl,ah rfl (af.up (g9 (d:=0) ⟨_,rfl,af.up (Aq (d:=0) (Ni rfl) ?_) (M1 (by decide) a)⟩) (M1 (by decide) a))⟩;exact Gx (es:=es) a b L c B hh (aa.uS ..)
end
noncomputable def bT:Lt->PV
 |.sg s=> .tup [.str br,.str s]
 |.num n=> .tup [.str g8,.int n]
 |.sym s=> .tup [.str nQ,.str s]
 |.here=> .tup [.str nQ,.str [46]]
noncomputable def DF:Tk->PV
 |.num n=> .tup [.str g8,.int n]
 |.name s=> .tup [.str nQ,.str s]
 |.sign s=> .tup [.str br,.str s]
 |.other=> .none
 |.fin=> .tup [.str ds,.str []]
theorem Ar(row:List Lt):(row.map aY++[Tk.fin]).map DF=row.map bT++[.tup [.str ds,.str []]]:=by
 rw[NA,Oq]
 congr 1
 refine OR fun t _=>?_;cases t<;>rfl
theorem As(row:List Lt):bb (row.map bT++[.tup [.str ds,.str []]]) 59=true:=by
 induction row with
 |nil=>exact rfl
 |cons t r a=>show(b_ (bT t) 59&&bb (r.map bT++[.tup [.str ds,.str []]]) 59)=true;rw[a];cases t<;>rfl
theorem xd(row:List Lt):dX (row.map bT++[.tup [.str ds,.str []]]) (row.map bT++[.tup [.str ds,.str []]])=true:=by
 induction row with
 |nil=>exact rfl
 |cons t r b=>
  show(fC (bT t) (bT t)&&dX (r.map bT++[.tup [.str ds,.str []]]) (r.map bT++[.tup [.str ds,.str []]]))=true;rw[b];have a:∀(k s:List Nat),fC (.tup [.str k,.str s]) (.tup [.str k,.str s])=true:=fun k s=>by show((k==k)&&((s==s)&&true))=true;rw[Nx,Nx];rfl
  cases t with
  |sg s=>rw[show bT (.sg s)= .tup [.str br,.str s] from rfl,a];rfl
  |num n=>show((g8==g8)&&(((n:Int)==n)&&true)&&true)=true;rw[Nx,Nx];rfl
  |sym s=>rw[show bT (.sym s)= .tup [.str nQ,.str s] from rfl,a];rfl
  |here=>rfl
theorem D0{n:Nat}{row:List Lt}(h:row.length<=n):a' n row=a' row.length row:=by
 cases e:a' n row with
 |some t=>exact(lY row.length (iV n e) (Nc _)).symm
 |none=>
  cases a:a' row.length row with
  |none=>rfl
  |some t=>have:=lY n (iV _ a) h;rw[e]at this;exact aj this
section
variable{d:Nat}{τ:aa}{a0 a1 a2 a3 a4 a5 a6 a7 a8 a9 a10 a11 a12 a13 a14 a15 a16 a17 a18 a19 a20 a21 a22 a23 a24 a25 a26:Option PV}{s0 s1 s2 s3:Int}{here x:List Nat}{row:List Lt}
noncomputable abbrev Gy(d:Nat)(c:ar)(e:aa)(K:Option PV->aa->Prop):Prop:=ja (d+1) [] c e (fun f a=>match f with
    |true=>cR (d+1) (.calM (.loc 1) 6 []) c a (fun v b=>K (some v) b) (fun _ _=>False)
    |false=>K none a) (fun _ _=>False)
theorem xe{P:List PV->aa->Prop}{vs:List PV}{ks:List Tk}(h:gv vs ks):∀(acc:List PV)(o v:Option PV),(Tk.other∉ks)->acc.length+vs.length<=3000->P (acc++ks.map DF) τ->dK (Gy d) [1] vs [o,v] acc τ P:=by
 induction h with
 |nil=>intro acc o v _ _ p;rw[Rr,Nv]at p;exact p
 |@cons w vs k ks h hs b=>
  intro acc o v i g p;have f:acc.length<aU:=M9 (M1 (Nh _ _) g) (by decide);have b:=fun a c j (e:DF k= .tup [a,c])=>b (acc++[.tup [a,c]]) o (some j) (fun z=>i (Nb _ z)) (by rw[M3,N7,show [PV.tup [a,c]].length+vs.length=vs.length+1 from Of 1 _];exact g) (by rw[Nd,←e];exact p);clear p g hs;cases h with
  |num=>exact⟨_,rfl,f,rfl,⟨_,rfl,y_ (b _ _ _ rfl)⟩⟩
  |name=>exact⟨_,rfl,f,rfl,⟨_,rfl,y_ (b _ _ _ rfl)⟩⟩
  |sign=>exact⟨_,rfl,f,rfl,⟨_,rfl,y_ (b _ _ _ rfl)⟩⟩
  |other=>exact absurd (M_ ..) i
  |fin=>exact⟨_,rfl,f,rfl,⟨_,rfl,y_ (b _ _ _ rfl)⟩⟩
theorem xf(row:List Lt):Tk.other∉row.map aY++[Tk.fin]:=fun z=>by
 rcases List.mem_append.mp z with z|z
 .refine i8 z fun t _ e=>?_;cases t<;>cases e
 .cases z with|tail _ z=>cases z
theorem xg{K:QS}{X:QX}:∀(c bu:List Lt)(a12:Option PV),bu.length+c.length<=1000->(∀a12,K none (EL a0 a1 a2 a3 (some (.lst [.int s0,.int s1,.int s2,.int s3])) (some (.str here)) (some (.lst (row.map lv))) a7 a8 a9 (some (.str x)) (some (.ref a)) a12 a13 a14 a15 a16 a17 a18 a19 a20 a21 a22 a23 a24 a25 a26) (τ.upd a (.lst ((bu++c).map bT))))->
  bt (fun g σ K'=>ai d (ax cV 9) g σ K' X) [12] (c.map lv) (EL a0 a1 a2 a3 (some (.lst [.int s0,.int s1,.int s2,.int s3])) (some (.str here)) (some (.lst (row.map lv))) a7 a8 a9 (some (.str x)) (some (.ref a)) a12 a13 a14 a15 a16 a17 a18 a19 a20 a21 a22 a23 a24 a25 a26) (τ.upd a (.lst (bu.map bT))) K
 |[],bu,a12,_,k=>by rw[Nv]at k;exact k _
 |t::r,bu,a12,i,k=>by
  have h:bu.length+r.length+1<=1000:=i;have e:(bu.map bT).length<aU:=by rw[M6];exact M9 (M1 (Nh _ _) i) (by decide)
  have f:∀a12,bt (fun g σ K'=>ai d (ax cV 9) g σ K' X) [12] (r.map lv) (EL a0 a1 a2 a3 (some (.lst [.int s0,.int s1,.int s2,.int s3])) (some (.str here)) (some (.lst (row.map lv))) a7 a8 a9 (some (.str x)) (some (.ref a)) a12 a13 a14 a15 a16 a17 a18 a19 a20 a21 a22 a23 a24 a25 a26) ((τ.upd a (.lst (bu.map bT))).upd a (.lst (bu.map bT++[bT t]))) K:=fun a12=>by have z:=xg (X:=X) r (bu++[t]) a12 (by rw[M3];show bu.length+1+_<=_;exact OX _ _▸h) (by rw[Nd];exact k);rw[NA]at z;rw[aa.uU];exact z
  refine⟨_,rfl,?_⟩;cases t with
  |sg s=>exact⟨true,rfl,lJ (aa.uS ..) (by decide),ci (aa.uS ..) ⟨e,f _⟩⟩
  |num n=>exact⟨false,rfl,ah rfl (ak (b:=true) rfl ⟨lJ (aa.uS ..) (by decide),ci (aa.uS ..) ⟨e,f _⟩⟩)⟩
  |sym s=>exact⟨false,rfl,ah rfl (ak (b:=false) rfl ⟨lJ (aa.uS ..) (by decide),ah rfl (ak (b:=true) rfl (ah rfl (ci (aa.uS ..) ⟨e,f _⟩)))⟩)⟩
  |here=>exact⟨false,rfl,ah rfl (ak (b:=false) rfl ⟨lJ (aa.uS ..) (by decide),ah rfl (ak (b:=false) rfl (ci (aa.uS ..) ⟨e,f _⟩))⟩)⟩
theorem Gz(j:340<=d)(c:∀t∈row,bM t)(i:row.length<=40)(p:Sp none row x)(q:x.length<=2000)(B:B4 s0 s1 s2 s3)(hh:here=[]\/here=[72]):
  ai d (cV.drop 11) (EL a0 a1 a2 a3 (some (.lst [.int s0,.int s1,.int s2,.int s3])) (some (.str here)) (some (.lst (row.map lv))) a7 a8 a9 (some (.str x)) a11 a12 a13 a14 a15 a16 a17 a18 a19 a20 a21 a22 a23 a24 a25 a26) τ KL XL:=by
 have r:eW 100 (row.map aY)=some (cz row):=wI c (M1 (NF (Oj 2 i) _) (by decide));have a:∀h,ai d (cV.drop 12) (EL a0 a1 a2 a3 (some (.lst [.int s0,.int s1,.int s2,.int s3])) (some (.str here)) (some (.lst (row.map lv))) a7 a8 a9 (some (.str x)) a11 a12 (some (tQ (cz row))) a14 a15 a16 a17 a18 a19 a20 a21 a22 a23 a24 a25 a26) h KL XL:=fun h=>by
  refine af.up (C1 (m:=100) (P:=fun o=>o=some (row.map aY)) q (lX p c rfl) (fun e=>aj e) fun s l _=>?_) (M1 (by decide) j);injection l with z0;subst z0
  refine⟨_,r,?_⟩;cases e:cz row with
  |none=>exact ak (b:=true) rfl (ak (b:=true) rfl ⟨true,rfl,ak (b:=true) rfl AY⟩)
  |some T=>
   have n:aQ [] false row=false:=by
    unfold cz at e;cases g:aQ [] false row with
    |false=>rfl
    |true=>rw[g,M8 rfl]at e;exact aj e
   have u:a' row.length row=some T:=by unfold cz at e;rw[n,M5 (by decide)]at e;exact e
   have G:=iV _ u;obtain⟨v,k⟩:=F7 G c;have L:Lv 1 0 (row.map aY) T:=by
    rcases AP G c [] [] (.inl rfl)with L|f
    .exact L
    .rw[Nv,n]at f;exact aK f
   refine ak (b:=isNone (tt T)) rfl ?_;rw[iU];refine ak (b:=isNone (tv T)) rfl ?_;rw[lS];refine tL (jJ 60 T (M1 k (M1 i (by decide))) (by decide) ?_ |>.up (M1 (by decide) j));refine ak (b:=false) (by show(fM (tt T) (tt T) h).map (!·)=some false;rw[C2 (M1 k (M1 i (by decide))) (M1 k (M1 i (by decide))),w'];rfl) ?_;exact LF j v L (M1 k (M1 i (by decide))) B hh
 refine af.up (Lg (d:=0) (M1 i (by decide)) ?_) (M1 (by decide) j);cases g:aQ [] false row with
 |true=>have e:cz row=none:=M8 g;rw[e]at a;exact⟨true,rfl,a _⟩
 |false=>refine⟨false,rfl,af.up (Lj row.length row τ τ (Nc _) (M1 i (by decide)) Le.rfl fun h _=>?_) (by lia)⟩;have e:cz row=a' row.length row:=M5 (by rw[g];decide);rw[←e];exact a _
theorem LG(g:340<=d)(c:∀t∈row,bM t)(h:row.length<=40)(i:Sp none row x)(j:x.length<=2000)(B:B4 s0 s1 s2 s3)(hh:here=[]\/here=[72]):
  ai d (cV.drop 8) (EL a0 a1 a2 a3 (some (.lst [.int s0,.int s1,.int s2,.int s3])) (some (.str here)) (some (.lst (row.map lv))) a7 a8 a9 (some (.str x)) a11 a12 a13 a14 a15 a16 a17 a18 a19 a20 a21 a22 a23 a24 a25 a26) τ KL XL:=by
 match d,g with
 |d+1,g=>
 refine fun a m=>?_;refine⟨_,rfl,xg row [] a12 (by rw[N5];exact M1 (ND (N1 _)) (M1 h (by decide))) fun a12=>?_⟩;rw[O1];refine af.up (Fm (d:=0) (P:=fun o=>o=some (row.map aY)) j (lX i c rfl) (fun e=>aj e) fun ks vs l k=>?_) (M1 (by decide) g);injection l with z0;subst z0
 have f:=k.len;rw[M3,M6]at f;refine⟨_,rfl,xe k [] none none (xf row) (by rw[N5,f];show 0+(row.length+1)<=3000;lia) ?_⟩;rw[O1,Ar];have hs:(PV.ref a).seen (τ.upd a (.lst (row.map bT)))= .lst (row.map bT):=bf (aa.uS ..);show dJ (iu ((PV.ref a).seen (τ.upd a (.lst (row.map bT))))) _;rw[hs];refine⟨by rw[M6];show row.length+1<=aU;exact M1 (M9 h (by decide)) (show 1000<=aU by decide),?_⟩;refine ak (b:=false) ?_ (Gz g c h i j B hh);show(fM (.lst (row.map bT++[.tup [.str ds,.str []]])) (.lst (row.map bT++[.tup [.str ds,.str []]])) (τ.upd a (.lst (row.map bT)))).map (!·)=some false;have e:fM (.lst (row.map bT++[.tup [.str ds,.str []]])) (.lst (row.map bT++[.tup [.str ds,.str []]])) (τ.upd a (.lst (row.map bT)))=some true:=by show(if(bb (row.map bT++[.tup [.str ds,.str []]]) 59&&bb (row.map bT++[.tup [.str ds,.str []]]) 59)=true then some (dX (row.map bT++[.tup [.str ds,.str []]]) (row.map bT++[.tup [.str ds,.str []]]))else _)=_;rw[As,xd];rfl
 rw[e];rfl
end
noncomputable def tV:List Lt:=[.sg [40],.sg [41],.sg [45],.sg [126],.sg [60,60],.sg [43],.sym [97]]
theorem DG:∀t∈tV,bM t:=by
 intro t h;rcases h with _|⟨_,h⟩
 .exact .inr (.inr (.inl rfl))
 rcases h with _|⟨_,h⟩
 .exact .inr (.inr (.inr rfl))
 rcases h with _|⟨_,h⟩
 .exact .inl (by decide)
 rcases h with _|⟨_,h⟩
 .exact .inr (.inl (by decide))
 rcases h with _|⟨_,h⟩
 .exact .inl (by decide)
 rcases h with _|⟨_,h⟩
 .exact .inl (by decide)
 rcases h with _|⟨_,h⟩
 .exact(by decide:[97]∈bj)
 .cases h
noncomputable def oA:List (List Nat):=[[40],[45],[126],[33]]
theorem DH(h:s∈oA)(a:s≠[40]):s∈gO:=by
 have:∀s∈oA,s≠[40]->s∈gO:=by decide
 exact this s h a
theorem LH{vs:List PV}{i:Nat}{a:aa}(h:i<vs.length)(b:vs.length<=1000000):bk (.tup vs) (.int i) a=some vs[i]:=by show((kY (i:Int) vs.length).bind fun j=>vs[j]?)=_;rw[fY h b];show vs[i]? =_;rw[Nu h]
section
variable{d n a:Nat}{σ:aa}{cl:PV}{cs:List Int}{a0 a1 a2 a3 a4 a5 a6 a7 a8 a9 a10 a11 a12 a13 a14 a15 a16 a17 a18 a19 a20 a21 a22 a23 a24 a25 a26:Option PV}{s0 s1 s2 s3:Int}{here:List Nat}{row:List Lt}
theorem A3(e:340<=d)(C:eY σ a cl cs)(i:n<=1000)(b:∀t∈row,bM t)(c:row.length<=40)(B:B4 s0 s1 s2 s3)(hh:here=[]\/here=[72]):
  ai d (cV.drop 7) (EL a0 a1 (some (.ref a)) a3 (some (.lst [.int s0,.int s1,.int s2,.int s3])) (some (.str here)) (some (.lst (row.map lv))) a7 a8 a9 a10 a11 a12 a13 a14 a15 a16 a17 a18 a19 a20 a21 a22 a23 a24 a25 a26) (σ.upd a (sr cl n)) KL XL:=by
 refine af.up (Ld (d:=0) C b (M1 c (by decide)) (by lia) fun x j f g h=>?_) (M1 (by decide) e);exact LG e b c g (M1 h (M1 (Oj _ c) (by decide))) B hh
theorem A4(o:340<=d)(C:eY σ a cl cs)(x:n+10<=1000)(q:row≠[])(e:∀t∈row,bM t)(y:row.length<=39)(B:B4 s0 s1 s2 s3)(hh:here=[]\/here=[72]):
  ai d (cV.drop 6) (EL a0 a1 (some (.ref a)) a3 (some (.lst [.int s0,.int s1,.int s2,.int s3])) (some (.str here)) (some (.lst (row.map lv))) a7 a8 a9 a10 a11 a12 a13 a14 a15 a16 a17 a18 a19 a20 a21 a22 a23 a24 a25 a26) (σ.upd a (sr cl n)) KL XL:=by
 refine af.up (cW (d:=0) C (M1 (Nh ..) (M1 x (by decide))) (m:=4) (by decide) fun r H=>?_) (M1 (by decide) o);refine ec (a:=r) (b:=3) (fun _=>?_) fun _=>A3 o C (M9 (Nh ..) x) e (M1 y (by decide)) B hh;have l:(row.map lv).length=row.length:=M6 ..;have h0:0<row.length:=List.length_pos_iff.mpr q;refine af.up (cW (d:=0) C (by lia) (m:=(row.map lv).length) (l▸h0) fun c hs=>?_) (M1 (by decide) o);rw[l]at hs;refine af.up (cW (d:=0) C (by lia) (m:=3) (by decide) fun f K=>?_) (M1 (by decide) o);refine af.up (cW (d:=0) C (by lia) (m:=7) (by decide) fun u A=>?_) (M1 (by decide) o);have D:u<tV.length:=A;refine ah (LH (vs:=tV.map lv) (i:=u) (by rw[M6];exact A) (by rw[M6];decide)) ?_;rw[Su];have p:(row.map lv).length<=1000000:=M1 (ND l) (M1 y (by decide));have hi:(row.map lv).drop c=lv row[c]::(row.drop (c+1)).map lv:=by rw[←R2,OS hs];rfl
 have fin:∀ky:List Lt,(∀t∈ky,bM t)->ky.length<=2->oO (.lst ((row.take c).map lv)) (.lst (ky.map lv)) (σ.upd a (sr cl (n+1+1+1+1))) (fun v g=>∃w,fE (.lst (row.map lv)) (.int ((c:Int)+1)) .none g=some w/\oO v w g (fun v g=>ai d (cV.drop 7) (EL a0 a1 (some (.ref a)) a3 (some (.lst [.int s0,.int s1,.int s2,.int s3])) (some (.str here)) (some v) (some (lv tV[u])) (some (.int c)) (some (.int f)) a10 a11 a12 a13 a14 a15 a16 a17 a18 a19 a20 a21 a22 a23 a24 a25 a26) g KL XL)):=fun ky E F=>by
  refine⟨?_,ah (hG (row:=row) (i:=c+1) hs) ⟨?_,?_⟩⟩
  .rw[M6,M6,OV];exact M1 (show _<=1000 by lia) (by decide)
  .rw[M3,M6,M6,M6,OV,N9];exact M1 (show _<=1000 by lia) (by decide)
  .have z:=A3 (n:=n+1+1+1+1) (row:=row.take c++ky++row.drop (c+1)) (a0:=a0) (a1:=a1) (a3:=a3) (a7:=some (lv tV[u])) (a8:=some (.int c)) (a9:=some (.int f)) (a10:=a10) (a11:=a11) (a12:=a12) (a13:=a13) (a14:=a14) (a15:=a15) (a16:=a16) (a17:=a17) (a18:=a18) (a19:=a19) (a20:=a20) (a21:=a21) (a22:=a22) (a23:=a23) (a24:=a24) (a25:=a25) (a26:=a26) o C (by lia) (fun t j=>by
     rcases List.mem_append.mp j with j|j
     .rcases List.mem_append.mp j with j|j
      .exact e t (List.mem_of_mem_take j)
      .exact E t j
     .exact e t (List.mem_of_mem_drop j)) (by rw[M3,M3,OV,N9];lia) B hh
   rw[NA,NA]at z;exact z
 refine ah (rh (row:=row) (i:=c) (NQ hs)) ?_;refine ah (aT hi p) (ah (aT hi p) ?_);have s:f=0\/f=1\/f=2:=by lia
 rcases s with rfl|rfl|rfl
 .exact ah rfl (fin [] (fun t h=>(absurd h Nq)) (by decide))
 .exact ah rfl (fin [row[c],row[c]] (fun t h=>by
   have k:row[c]∈row:=OI _;cases h with
   |head=>exact e _ k
   |tail _ h=>cases h with
    |head=>exact e _ k
    |tail _ h=>cases h) (Nc _))
 .exact ah rfl (fin [tV[u]] (fun t h=>by
   cases h with
   |head=>exact DG _ (OI _)
   |tail _ h=>cases h) (Ni rfl))
end
section
variable{d a:Nat}{σ:aa}{cl:PV}{cs:List Int}{a0 a1 a2 a3 a4 a5 a6 a7 a8 a9 a10 a11 a12 a13 a14 a15 a16 a17 a18 a19 a20 a21 a22 a23 a24 a25 a26:Option PV}{s0 s1 s2 s3:Int}{here:List Nat}
theorem At(q:340<=d)(C:eY σ a cl cs)(B:B4 s0 s1 s2 s3)(hh:here=[]\/here=[72])(f:List PV):∀(row:List Lt)(n:Nat)(a3 a7:Option PV),n+f.length+20<=1000->row≠[]->(∀t∈row,bM t)->row.length+2*f.length<=39->bt (fun y σ K'=>ai d (iT (cV.drop 5) |> fun b=>ax b 0) y σ K' XL) [3] f (EL a0 a1 (some (.ref a)) a3 (some (.lst [.int s0,.int s1,.int s2,.int s3])) (some (.str here)) (some (.lst (row.map lv))) a7 a8 a9 a10 a11 a12 a13 a14 a15 a16 a17 a18 a19 a20 a21 a22 a23 a24 a25 a26) (σ.upd a (sr cl n)) (fun o h i=>match o with|some v=>KL (some v) h i|none=>ai d (cV.drop 6) h i KL XL):=by
 induction f with
 |nil=>exact fun row n a3 a7 j l g p=>A4 q C (by rw[N5]at j;lia) l g (by rw[N5]at p;exact p) B hh
 |cons v f w=>
  intro row n a3 a7 j l g p;rw[Nt]at j p;refine⟨_,rfl,af.up (cW (d:=0) C (by lia) (m:=4) (by decide) fun u x=>?_) (M1 (by decide) q)⟩;have A:u<oA.length:=x;refine ah (zn (ss:=oA) (r:=u) x (by decide)) ?_;refine eV (s:=oA[u]) (k:=[40]) (fun e=>?_) fun e=>?_
  .refine⟨?_,?_,?_⟩
   .rw[M6];exact M1 (show _<=1000 by show 1+row.length<=1000;lia) (by decide)
   .rw[M3,M6];exact M1 (show _<=1000 by show 1+row.length+1<=1000;lia) (by decide)
   .have z:=w (.sg [40]::(row++[.sg [41]])) (n+1) (some v) (some (.str oA[u])) (OX _ _▸j) (NP _ _) (fun t c=>by
     cases c with
     |head=>exact .inr (.inr (.inl rfl))
     |tail _ c=>
      rcases List.mem_append.mp c with c|c
      .exact g t c
      .cases c with
       |head=>exact .inr (.inr (.inr rfl))
       |tail _ c=>cases c) (by rw[Nt,M3];show row.length+1+1+_<=39;lia)
    rw[NO,NA]at z;exact z
  .refine⟨?_,?_⟩
   .rw[M6];exact M1 (show _<=1000 by show 1+row.length<=1000;lia) (by decide)
   .exact w (.sg oA[u]::row) (n+1) (some v) (some (.str oA[u])) (OX _ _▸j) (NP _ _) (fun t c=>by
     cases c with
     |head=>exact .inr (.inl (DH (OI _) e))
     |tail _ c=>exact g t c) (by rw[Nt];lia)
theorem GA(f:340<=d)(C:eY σ a cl cs){n:Nat}{row:List Lt}(g:n+50<=1000)(c:row≠[])(e:∀t∈row,bM t)(h:row.length<=15)(B:B4 s0 s1 s2 s3)(hh:here=[]\/here=[72]):
  ai d (cV.drop 5) (EL a0 a1 (some (.ref a)) a3 (some (.lst [.int s0,.int s1,.int s2,.int s3])) (some (.str here)) (some (.lst (row.map lv))) a7 a8 a9 a10 a11 a12 a13 a14 a15 a16 a17 a18 a19 a20 a21 a22 a23 a24 a25 a26) (σ.upd a (sr cl n)) KL XL:=by
 refine af.up (cW (d:=0) C (M1 (Nh ..) (M1 g (by decide))) (m:=6) (by decide) fun r j=>?_) (M1 (by decide) f);refine ec (a:=r) (b:=5) (fun _=>?_) fun _=>A4 f C (by lia) c e (M1 h (by decide)) B hh;refine af.up (cW (d:=0) C (by lia) (m:=13) (by decide) fun k i=>?_) (M1 (by decide) f);refine⟨_,lQ (n:=k) (M1 (Nl i) (by decide)),?_⟩;exact At f C B hh _ row _ a3 a7 (by rw[M6,Qe];lia) c e (by rw[M6,Qe];lia)
theorem A5(c:340<=d)(C:eY σ a cl cs):
  ai d (cV.drop 2) (EL a0 a1 (some (.ref a)) a3 a4 a5 a6 a7 a8 a9 a10 a11 a12 a13 a14 a15 a16 a17 a18 a19 a20 a21 a22 a23 a24 a25 a26) (σ.upd a (sr cl 0)) KL XL:=by
 refine⟨_,rfl,?_⟩;refine⟨_,rfl,by decide,af.up (cW (d:=0) C (by decide) (m:=2001) (by decide) fun g h0=>?_) (M1 (by decide) c)⟩;refine⟨_,rfl,Ni rfl,af.up (cW (d:=0) C (by decide) (m:=2001) (by decide) fun i p=>?_) (M1 (by decide) c)⟩;refine⟨_,rfl,Ni rfl,af.up (cW (d:=0) C (by decide) (m:=2001) (by decide) fun j q=>?_) (M1 (by decide) c)⟩;refine⟨_,rfl,Ni rfl,af.up (cW (d:=0) C (by decide) (m:=2001) (by decide) fun k s=>?_) (M1 (by decide) c)⟩;have f:∀r:Nat,r<2001->((r:Int)-1000).natAbs<2^60:=fun r h=>M9 (show _<=1001 by lia) (by decide);have B:B4 ((g:Int)-1000) ((i:Int)-1000) ((j:Int)-1000) ((k:Int)-1000):=⟨f g h0,f i p,f j q,f k s⟩
 have row:∀here,here=[]\/here=[72]->ai d (cV.drop 4) (EL a0 a1 (some (.ref a)) a3 (some (.lst [.int ((g:Int)-1000),.int ((i:Int)-1000),.int ((j:Int)-1000),.int ((k:Int)-1000)])) (some (.str here)) a6 a7 a8 a9 a10 a11 a12 a13 a14 a15 a16 a17 a18 a19 a20 a21 a22 a23 a24 a25 a26) (σ.upd a (sr cl 5)) KL XL:=fun here hh=>by refine af.up ((CN C 3 0 (by decide)).1 (n:=5) (by decide) fun r u l o=>?_) (M1 (by decide) c);have e:pS 3=38:=rfl;exact GA c C (M1 (NF l _) (by decide)) o.1 o.2.2 o.2.1 B hh
 refine af.up (cW (d:=0) C (by decide) (m:=3) (by decide) fun t v=>?_) (M1 (by decide) c);exact fZ (a:=0) (b:=t) (fun _=>row [72] (.inr rfl)) fun _=>row [] (.inl rfl)
end
section
variable{d:Nat}{X:QX}
theorem Au{σ:aa}{P:List PV->aa->Prop}(e:List Int):∀(acc:List Int)(u v w:Option PV),acc.length+e.length<=1000->P ((acc++e).map .int) σ->dK (fun c f K=>ja d [] c f (fun j a=>match j with|true=>cR d (.calB .int [(.loc 1)]) c a (fun v b=>K (some v) b) (fun _ _=>False)|false=>K none a) (fun _ _=>False)) [1] (e.map .int) [u,v,w] (acc.map .int) σ P:=by
 induction e with
 |nil=>intro acc u v w _ p;rw[Nv]at p;exact p
 |cons i r k=>intro acc u v w h p;have g:acc.length+r.length+1<=1000:=h;refine⟨_,rfl,by rw[M6];exact M9 (M1 (Nh _ _) h) (by decide),?_⟩;have z:=k (acc++[i]) u (some (.int i)) w (by rw[M3];show acc.length+1+_<=_;exact OX _ _▸g) (by rw[Nd];exact p);rw[NA]at z;exact z
theorem LI(i:340<=d){b:List Int}:af (d+1) (.ref 924) [.lst (b.map .int)] aa.nil QL (fun _ _=>False):=by
 apply Ka;have j:fE (.lst (b.map .int)) .none (.int 60) aa.nil=some (.lst ((b.take 60).map .int)):=by
  show some (PV.lst (((b.map .int).drop 0).take (OZ (b.map PV.int).length ((60:Nat):Int)-0)))=_;rw[cJ,RT,Vr,Tc,M6]
  congr 2
  by_cases h:60<=b.length
  .rw[OF h]
  .rw[Rn (Qs h),ON (by rw[M6];exact Nc _),ON (by rw[M6];exact Qs h)]
 have f:(b.take 60).length<=60:=by rw[OV];exact QG _ _
 refine ah j ⟨_,rfl,Au (b.take 60) [] none none none (by rw[N5];exact M1 (ND (N1 _)) (M1 f (by decide))) ?_⟩;rw[O1];generalize b.take 60=cs at f
 match cs,f with
 |[],_=>
  refine⟨false,rfl,fun a1 l a g=>⟨rfl,?_⟩⟩;have k:a≠a1:=fun e=>by rw[e,aa.uS]at g;exact ba g
  exact A5 (σ:=aa.nil.upd a1 (.lst [.int 0])) (cl:= .ref a1) (cs:=[0]) i ⟨by decide,by decide,fun m=>bf (by rw[aa.uN _ _ (NT k),aa.uS];rfl)⟩
 |c::cs,f=>refine⟨true,rfl,fun a g=>⟨rfl,?_⟩⟩;exact A5 (σ:=aa.nil) (cl:= .lst ((c::cs).map .int)) (cs:=c::cs) i ⟨Ob _,M1 f (by decide),fun m=>rfl⟩
end
set_option tactic.hygienic true
theorem DI(P:Nk):Ov (gj P) "law"=some (.ref 924):=by kernel_rfl
theorem DJ{h:Og}{m e:Str->Option M4}(x:h.Ns a m)(y:h.Ns a e)(n:Str):m n=e n:=by
 apply bc;intro f;obtain⟨o,es,p,g,i,_,j⟩:=x;obtain⟨o',k,l,b,c,_,d⟩:=y;apply f;rw[g]at b;injection b with z0;subst z0
 rw[i]at c;injection c with z0 z1;subst z0 z1
 rw[←j,←d]
theorem Av{P:Nk}{fz:Fz}{ws:List M4}{a:List Int}(h:IntsAre ws a):aL P fz (a.map .int) ws:=by
 induction h with
 |nil=>exact .nil
 |cons n t _ b=>exact .cons (.int n t) b
theorem DK:WalkX qw eE (fun _ _=>True) GD GE rl.row.toRowW bZ.1 bZ.2 fun f vs=>PySem.call f vs:=by
 intro w i s₁ mg mb G y O o pm cd Q dV kV V Y m Z n hg K vals as L j k p t u;have y1:i.heap=H1 w.params:=Np Prod.fst y;have l:=L.keeps;have a2:=L.os;clear Y m Z V
 wrow_args j k p t u
 rename_i A q1 q2 q3 q4 q5 p4 p3 a ws p0 hL ra w1 r0 hI hr c1 c2;have D:=PySem.W.X.script_obj L hL
 let C:Cx:=⟨w,s₁.heap,fun b o h=>l b o (by rw[y1];exact h)⟩
 have M:aw C aa.nil (fun b=>s₁.heap.get? b) [] s₁.heap:=⟨fun _ _ h=>h,fun _ _ h=>h,fun _ h=>absurd h Nq,fun _ _ h=>aj h⟩
 have E:O=924:=by have e:=(DJ G.T.g (xZ M) bZ.1.name).symm.trans n;have e2:Ov (gj C.P) bZ.1.name=some (.ref 924):=DI C.P;rw[e2]at e;cases e;rfl
 subst E;have F:rU callerA [] 341:=⟨rfl,⟨[],rfl,rfl,fun _ h=>(absurd h Nq)⟩,by decide,by decide⟩
 have hl:fb (A.map PV.int):=by unfold fb;rw[M6];exact M1 (show A.length<=63 by omega) (by decide)
 have hv:aL C.P (fun b=>s₁.heap.get? b) [.lst (A.map .int)] [.ref a]:= .cons (.lst D hl (Av hI)) .nil;refine Nj (gu (C:=C) (s:=s₁) (vals:=[.ref a]) F M hv (LI (d:=340) (Nc _))) (fun v s' h=>?_) fun e s' h=>?_
 .obtain⟨b,H,fz',g,r,q⟩:=h;have q:b= .bool true:=q;subst q;cases r;refine⟨.inl ⟨_,.bool true,[],rfl,fun cls=>rfl,.bool true,?_,fun _=>⟨Q0,fun _ h=>(absurd h Nq)⟩⟩,OldK.of_keep fun b o h=>g.stp.keep b o h rfl fun z=>(absurd z Nq),g.stp.os,AllBare.of_eq (g.stp.gens.trans hg)⟩
  wrow_post
 .obtain⟨c,H,fz',g,x,q⟩:=h;exact q.elim
theorem done:rl.Holds:=xq DK
end Mine.Tactic
theorem PySem.Challenge.cw_nn0067_01_holds : PySem.Challenge.rw_nn0067_01.Holds :=
  Mine.Tactic.done
