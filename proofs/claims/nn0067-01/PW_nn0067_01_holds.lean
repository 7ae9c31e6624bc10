import PyProof.Rows.All
import Wide.All
import OpenK.AllK
import Wide.FinOn
import Lean
import PySem.Challenge.RW_nn0067_01
open PySem PySem.W PySem.Calls PyProof.Rows
set_option Elab.async false
set_option maxRecDepth 100000
set_option linter.all false
set_option compiler.extract_closed false
set_option backward.match.sparseCases false
namespace Mine.Tactic
open _root_.Nat renaming le_trans->M7,lt_of_le_of_lt->Nf,le_refl->Nj,le_add_right->Nn,le_of_ble_eq_true->No,le_of_succ_le->Nr,lt_of_lt_of_le->Nv,le_add_left->Ny,succ_le_succ->NE,le_of_eq->NJ,add_le_add_right->NL,add_le_add_left->NM,le_of_succ_le_succ->NO,zero_le->NP,le_of_lt->NW,lt_succ_self->NX,ne_of_lt->N4,zero_add->N7,add_assoc->Oc,add_le_add->Od,succ_pos->Oh,le_succ->Oi,add_comm->Ol,mul_le_mul_left->Op,lt_succ_of_le->Oz,le_succ_of_le->OA,min_eq_left->OL,toDigits->OW,sub_lt_left_of_lt_add->O0,succ_add->O3,lt_trans->Pe,le_of_lt_succ->Pl,lt_succ_of_lt->PG,digitChar->P7,add_right_comm->Qa,lt_add_of_pos_right->Qh,succ_lt_succ->Qx,le_of_not_le->Qy,pow_le_pow_right->QB,not_succ_le_zero->QC,two_pow_pos->QM,min_le_left->QN,le_antisymm->QO,add_lt_add_left->QW,sub_le->Q9,mul_add->Rj,lt_irrefl->Ro,min_le_right->Ru,min_eq_right->Rv,lt_of_not_le->Rw,ne_of_gt->RD,lt_of_succ_lt_succ->RE,not_lt_zero->RJ,add_sub_cancel'->R7,mod_lt->Sg,sub_self->Su,mul_comm->Sv,succ_ne_zero->SG,casesOn->SL,div_add_mod->S2,and_le_left->S3,mul_lt_mul_of_pos_right->S7,toDigits_of_lt_base->Tp,add_sub_cancel_left->Tq,pow_succ->TI,le_mul_of_pos_left->TJ,lt_of_sub_eq_succ->TU,le_of_sub_eq_zero->TV,add_sub_add_right->TW,pow_lt_pow_right->T0,one_pos->T2,not_succ_le_self->T3,sub_le_sub_left->Uc,sub_lt->Un,eq_or_lt_of_le->Uo,ble->Uu,toList_repr->UQ,sub_add_eq->U2,mul_le_mul->U3,add_lt_add->U4,succ_sub->Vx,sub_zero->Vy,pow_add->VN,one_mul->VO,repr->Wv,pred->Ww
open _root_.PySem renaming wpAny_bind->M8,Value->M_,Shared->Nc,wpAny_pure->Nl,Params->Np,wpAny_mono->Nq,wpAny->Nt,Addr->NC,Scope->NR,Around->NT,Arguments->NY,DictEntry->N6,model->Ob,NameKind->Oj,Heap->Om,nsFind->OB,wpAny_holding->OG,SetTable->OI,wpAny_loadPart_at->OK,Stmt->OP,World->OY,clipAt->O5,wpAny_standAt->O6,OsState->O7,codeAny_builtin->Pd,compareOp->Ph,builtinLookup_eq_fast->Pk,wpAny_newObj_type->Po,rawInt->Pt,Program->Px,wpAny_execs_cons->Py,wpAny_Call_NameR->PA,strKind_is->PD,wpAny_execs_nil->PJ,wpAny_setState_of->PQ,foldedSetIterable->PT,wpAny_field->P1,sizeLine->P2,excClassObj->P3,codeAny->P5,call->P6,wpAny_isSubtype_exc->P_,FuncData->Qi,typeLookup_type->Qj,swapsWith->Qo,wpAny_truthy_bool->Qs,wpAny_setField->Qt,starEach->Qu,isSubtype_type->Qv,getMethod_builtin->Qw,plainObj_wpAny_Assign_Attribute->QA,wpAny_call_entry->QI,scanBound->QJ,plainId_quiet->QU,Builtin->Q0,wpAny_of_eq->Q1,eval->Q2,letOwnedTupleGo->Q8,callEnv->Re,treeTable->Rg,getMethod->Rh,typeLookup->Rn,wpAny_Assign_Name->Rx,interactive->Ry,behindInMarks->RC,wpAny_askSetting->RM,setField->RN,checkBuiltinCall->RP,cellsFrom->RR,wpAny_typeOf->R2,call_meets->R3,importedModules->R5,pyIter->Sd,codeAny_call_builtin->Se,Result->Sf,setNext->Si,noteFrame->Sj,methodCallPos->Sx,attributeBase->Sy,wpAny_call->SE,pyNext->SF,wpAny_assign_Name->SO,wpAny_Return_some->SQ,relayAll->SU,notedBy->SW,codeAny_mono->SY,binaryOp->SZ,GenState->S5,wpAny_isInstance->S_,setFlight->Ta,wpAny_specialOf->Tm,codeAny_of_tree->Tn,holding->To,wpAny_seqItems->Tw,wpAny_runValue->Tx,wpAny_rule->Tz,recursionLimit->TA,methodCallForm->TB,letTemporaryGo->TC,evalEach->TD,cLine->TE,assignEach->TF,Operator->TH,wpAny_excMatches_sub_self->TS,wpAny_callSpecial?_slot->T_,seqItems?->Ua,pickOrder->Ub,truthy->Ui,boolOp->Uj,backTo->Uk,argsOk->Ul,BindsTo->Ut,wpAny_loadName_local->UA,wpAny_letTemporaryGo->UB,subscripted->UC,raiseNew->UD,entryFor->UG,bindArgs->UI,CmpOp->UM,wpAny_setEntries_of->UN,wpAny_pyIter_tuple->UT,wpAny_Constant_str->UU,sysModules->UW,getattributeRaised->UZ,cameBackBy->U0,wpAny_setEpoch_of->U8,wpAny_pyIter_slot->U9,wpAny_pyIter_list->U_,standAt->Va,slot_list_setitem->Vb,setItem->Vc,setAttr->Vd,getItem->Vf,collect->Vg,Keyword->Vi,Drawn->Vk,wpAny_madeBy_exc->Vl,wpAny_lookBehind->Vm,wpAny_Try_except->Vn,pastItsLine_dict->Vp,opaqueClassAbove->Vq,isSubtype->Vr,entryFor_of_tree->Vs,dropValue->Vt,codeAny_call_def->Vu,wpAny_updateSeq->VF,wpAny_loadPart->VX,storeSet->VY,refuseLoop_ref->VZ,newExc->V2,firstArgMember->V5,entryFor_alias->V6,compPost->V7,cellOf->V8,assign->V9,Walks->Wa,PyData->Wc,Flow->We,wpAny_UnaryOp->Wg,swappedStores->Wh,comprehension->Wi,arm_eval_Call->Wj,Comprehension->Wm,setNextDrawn->Wn,setAddHashed->Wo,newList->Wq,leaving->Wr,instanceDict->Ws,getAttr->Wu,ItemsOf->Wx
open _root_.List renaming length_append->M9,length_map->Nb,mem_cons_self->Ng,mem_cons_of_mem->Ni,append_assoc->Nk,not_mem_nil->Nx,length_cons->Nz,getElem?_eq_getElem->NA,append_nil->NB,replicate->NF,map_append->NG,map_cons->NU,cons_ne_nil->NV,find?_cons_of_neg->N8,countP_append->N_,length_nil->Oa,length_drop->Oe,filter_cons_of_pos->Of,find?_cons_of_pos->Og,mem_append_right->On,mem_of_getElem?->Oq,mem_append_left->Os,findIdx?_eq_some_iff_getElem->Ov,map_map->Ox,getElem?_map->Oy,getD_eq_getElem?_getD->OE,range->OM,lookup_cons->ON,getElem_mem->OO,take_of_length_le->OT,drop_drop->OU,map_congr_left->OX,drop_eq_getElem_cons->OZ,length_take->O1,nil_append->O8,filterMap_cons->Pb,any_cons->Pf,length_replicate->Pg,nodup_cons->Pj,filter_cons_of_neg->Pq,cons_append->Pr,sum_cons->PC,drop_left->PN,pairwise_singleton->Qb,countP_cons_of_pos->Qc,countP_cons_of_neg->Qd,reverse_cons->Qk,length_range->Ql,getElem?_set_self->Qm,of_mem_zip->QF,find?_cons->QG,filter_nil->QH,length_reverse->QP,filter_sublist->QQ,nodup_nil->Q6,getElem?_append_right->Q7,range'->Rf,mem_cons->Rk,take_length->Rq,drop_length->Rr,all_eq_true->Rt,map_nil->Rz,foldl_cons->RF,getElem?_eq_none->RK,range_eq_range'->RT,map_id->RU,length_take_le'->RV,length->RW,getLastD_concat->RX,getElem?_set_ne->RY,drop_zero->RZ,dropLast_concat->R0,map_drop->R8,foldl->Sa,take_sublist->Sm,drop_sublist->Sn,getElem_map->SA,append_inj'->SC,take_append_of_le_length->SH,mem_append->SM,forIn_cons->SN,length_eraseIdx_of_lt->S8,mem_of_find?_eq_some->Tb,findIdx?_eq_none_iff->Tc,map_take->Ti,length_pos_of_mem->Ts,drop_of_length_le->Tt,take_append_drop->TK,mem_of_mem_erase->TL,length_filter_le->TM,findIdx?_toArray->TN,dropLast_eq_take->TO,length_dropLast->TX,getLast?_concat->TY,toList_toArray->T4,replicate_succ->T5,append_toArray->T6,findIdx?_cons->Ud,find?->Ue,filter_append->Uf,contains_cons->Ug,take_add_one->Up,size_toArray->Uq,countP_congr->Ur,toArray_inj->Uv,isEmpty_iff->Uw,idxOf?_cons->Ux,append_cons->Uy,any_toArray->Uz,mem_filter->UJ,find?_some->UK,countP_map->UL,lookup->Vz,idxOf?->VA,map->Wk
open _root_ renaming if_neg->Na,if_pos->Nd,congrFun->Nu,congrArg->Nw,beq_self_eq_true->ND,decide_eq_true->NN,decide_eq_false->NQ,of_decide_eq_true->N2,decide_eq_true_eq->OD,beq_iff_eq->Qn,Decidable->Rl,if_false->RO,beq_false_of_ne->R6,eq_false_of_ne_true->UP,or_false->V0,or_congr->V1
open _root_.Option.some renaming inj->Nh
open _root_.PySem.Heap renaming get?_push_of_some->Nm,get?_push_size->NI,get?_update_self->N0,get?_update_other->N3,lt_size->Oo,size_push->PO,SameBut->QZ,get?_none_of_le->R1,get?_update_ne->T9
open _root_.PySem.Str renaming ofString->NH,ofString_eq_toList->TG,length->Wb
open _root_.Int renaming natCast_nonneg->NK,toNat_of_nonneg->Ow,neg_lt_of_neg_lt->OQ,le_trans->O4,eq_ofNat_of_zero_le->Pu,natAbs_add_le->PH,sub_zero->PY,le_of_lt->PZ,neg_nonneg_of_nonpos->P8,add_sub_cancel->Qe,natAbs_of_nonneg->QD,zero_add->Q5,neg_lt_neg->Q_,natAbs_neg->Ra,add_zero->RG,lt_of_le_of_lt->Sh,max_eq_right->SJ,ofNat_natAbs_of_nonpos->Td,natAbs_mul->Te,fmod_eq_emod_of_nonneg->Tf,fdiv_eq_ediv_of_nonneg->Tg,fdiv->Th,natAbs_tdiv_le_natAbs->Tj,natAbs_fdiv_le_natAbs->Tl,neg_add_cancel_left->Tu,ne_of_gt->TP,lt_trans->TQ,sub_sub->T7,negSucc->T8,sub_add_cancel->Us,min_eq_left->UR,le_antisymm->US,natAbs_pow->U5,fmod->U6,le_natAbs->Vj,mul_zero->VD,two_mul->VP,neg_neg->VQ,neg_add->VS,ofNat->Wl
open _root_.Classical renaming byContradiction->NS
open _root_.Ne renaming symm->NZ
open _root_.Bool renaming and_eq_true->N1,false_ne_true->N5,noConfusion->Ps,not_eq_true->PW,or_false->Rm,not_eq_true'->Sr,and_false->S9,or_true->Tv,and_true->U7
open _root_.LawfulBEq renaming eq_of_beq->N9
open _root_.PyProof.Rows renaming StrsAre->Ok,subscriptTail->RA,markedEach_of_false->UO,seqObj->UX,bitOr_and->Vw,notIn_str->VG,len_tuple->VH,len_list->VI,in_str->VJ,getItem_tuple->VK,getItem_str->VL,add_str->VM,risingS->Wp
open _root_.PySem.Value renaming none->Ot,ref->OF,isStrOf_shape->R4,str->Ss,type->S0
open _root_.PySem.Obj renaming data_mapFields->Ou,mapFields->OS,mapSeq->Pa,isFreed_of_fields->PE,cls_mapFields->Ri,putName->SK,putSet->Wd
open _root_.PySem.NameKind renaming cell->OC,free->PU,globalImplicit->S4
open _root_.PySem.Builtin renaming bitAnd->OH,bitXor->QR,bitNot->QT,bitOr->S6
open _root_.Pure renaming pure->OJ
open _root_.ForInStep renaming yield->OR
open _root_.Array renaming length_toList->OV,getElem?_toList->RI,toList_push->Uh
open _root_.PySem.Around renaming under_plainId->O2,frames_deeper->RL
open _root_.List.cons renaming inj->O9
open _root_.Char renaming toNat->O_
open _root_.PySem.Builtin.Int renaming intBits->Pi
open _root_.PySem.W.Looks renaming of_pure->Pm
open _root_.PySem.PyData renaming keyHash->Pn,depthAll->Sz,eqv->TT
open _root_.Nat.succ renaming inj->Pp
open _root_.Int.ofNat renaming inj->Pv
open _root_.PySem.Calls renaming spliced_cons->Pw,evalArgs_plain->PL,Name_function_global->Q4,spliced_nil->Rb,loadGlobal_builtin->UY,loadGlobal_global->Ve
open _root_.PySem.Env renaming kindOf->PB
open _root_.Option renaming bind_some->PM,isNone_iff_eq_none->PP,map_eq_some_iff->Qg,map->Rp,getD_some->Sl,map_some->Um
open _root_.PySem.W renaming emptyDict->P4,boot_heap->Qp,findIn->QK,callWith_of->Q3,behindTheImports->RS,takerIn->SR,looks_findIn->SX,piecesOf->UE,looks_clsIn->UF,clsIn->UH,typeIn->UV,boot_drawn->U1,Looks->Vh,plainOver->Vo,boot_toks->Vv,keepIn->V3,handedIn->V4,any_some->V_
open _root_.PySem.SetTable renaming below->P9,grown->QE
open _root_.PySem.Builtin.Str renaming strSliceIndices->Qq,occurrences->Wf
open _root_.PySem.Data renaming noConfusion->Qr
open _root_.List.Pairwise renaming map->Qz,of_map->VB,nil->VC
open _root_.List.Sublist renaming map->QY
open _root_.PyProof.Rows.F renaming plain_set_update_loop->RH,entry_set_update_loop->TZ
open _root_.PySem.Builtin.List renaming listLengthHint->R9,listExtendWith->R_,listSameRef->Sq,listTouch->VT,listSubscript?->VU
open _root_.PySem.Code renaming quiet_builtin->Sb,builtin->So,weight->VE
open _root_.Prod.mk renaming inj->Sk,injEq->S1
open _root_.PySem.Builtin.Dict renaming updateFrom->Sw,pairItems->SD,selfAndRest->VV,addKeywords->VW
noncomputable abbrev N:M_:= .none
noncomputable abbrev B(b:Bool):M_:= .bool b
noncomputable abbrev I(i:Int)(t:Nat):M_:= .int i t
noncomputable abbrev J(i:Nat):M_:= .int i 0
noncomputable abbrev S(s:String)(t:Nat):M_:= .str (NH s) t
noncomputable abbrev G(t:Nat):M_:=S "/claim/cut.py" t
noncomputable abbrev T(s:String):M_:= .type s
noncomputable abbrev U(s:String):M_:= .builtin s
noncomputable abbrev R(a:Nat):M_:= .ref a
noncomputable abbrev nd:=BT.node
noncomputable abbrev nl:=BT.nil
noncomputable abbrev pw:Px:=PySem.Challenge.pw_nn0067_01
noncomputable def i9:Option OP->NY×List OP×NR
 |some (.FunctionDef _ a b _ _ _ sc _ _ _)=>(a,b,sc)
 |_=>(⟨[],[],none,[],[],none,[]⟩,[],default)
noncomputable def aB(i:Nat):NY×List OP×NR:=i9 pw.main.body[i]?
noncomputable def ay(i j:Nat):NY×List OP×NR:=match pw.main.body[i]? with
 |some (.ClassDef _ _ _ b _ _ _ _ _ _ _)=>i9 b[j]?
 |_=>i9 none
noncomputable abbrev xh(x:NY×List OP×NR)(name qual:Str)(gl:NC)(cl:List (Str×NC))(dV kV doc pm:M_)(an:Option NC)(cd ct:M_)(b:NC):Qi:=
 {name,qualname:=qual,params:=x.1,body:= .stmts x.2.1,scope:=x.2.2,globals:=gl,closure:=cl,defaults:=dV,kwdefaults:=kV,doc,pyModule:=pm,annotations:=an,code:=cd,closureTuple:=ct,builtins:=b}
noncomputable abbrev ob(c:M_)(d:Data):Obj:=⟨c,none,d,#[]⟩
noncomputable abbrev tu(l:List M_):Obj:=ob (T "tuple") (.seq l.toArray 0)
noncomputable abbrev zt:Obj:=tu []
noncomputable abbrev fd(c:M_)(l:List M_):Obj:=ob c (.fields l.toArray)
noncomputable abbrev ze:Obj:=fd N []
noncomputable abbrev co(n q:String)(t l k r x:Nat):Obj:=fd (T "code") [S n t,S q (t+1),G (t+2),J l,J k,J 0,J 0,J 3,R r,B true,J 181,R (r+1),N,R (r+2),R (r+3),R (r+4),J x,J l,G (x+1)]
noncomputable abbrev cm(n q:String)(t l r y x:Nat):Obj:=fd (T "code") [S n t,S q (t+1),G (t+2),J l,J 0,J 0,J 0,J 0,R r,B false,J y,R (r+1),N,N,N,N,J x,J l,G (x+1)]
noncomputable abbrev fp(x:NY×List OP×NR)(n q:String):Obj:=ob N (.func (xh x (NH n) (NH q) 0 [] N N N N none N N 0))
noncomputable abbrev fq(x:NY×List OP×NR)(n q:String)(d m:M_)(c:Nat):Obj:=ob (T "function") (.func (xh x (NH n) (NH q) 3 [] d N N m none (R c) N 0))
noncomputable def G3(P:Np):List (String×Nat×M_)->List N6
 |[]=>[]
 |(s,t,v)::r=>⟨Pn P (NH s),.str (NH s) t,v⟩::G3 P r
noncomputable abbrev di(P:Np)(c:M_)(l:List (String×Nat×M_))(n:Nat):Obj:=ob c (.dict (G3 P l).toArray n)
noncomputable abbrev fr(a b c:Nat)(m:M_):Obj:=⟨T "frame",none,.plain,#[some (R a),some (R b),some (R c),none,some m,none,some (R 0)]⟩
noncomputable abbrev s1(v:M_):Option M_:=some v
noncomputable abbrev na:Option M_:=none
noncomputable abbrev ty(n:String)(b m:List M_)(ns:Nat)(su:List M_)(sl:List (Option M_)):Obj:=⟨T "type",none,.cls {name:=NH n,bases:=b,mro:=m,ns:=ns,qualname:=NH n,hasDict:=true,slotNames:=[],subclasses:=su,abstract:=false,collection:=none,hasDel:=false},sl.toArray⟩
noncomputable abbrev m0:=S "__main__" 164
noncomputable abbrev m1:=S "law_nn0067_01" 1228
noncomputable abbrev m2:=S "octetmint.basics" 194
noncomputable abbrev m3:=S "octetmint.tokens" 304
noncomputable abbrev m4:=S "octetmint.expressions" 696
noncomputable def G4:Nat->List String->List (String×Nat×M_)
 |_,[]=>[]
 |i,s::r=>(s,i,T s)::G4 (i+1) r
noncomputable def G5:Nat->List String->List (String×Nat×M_)
 |_,[]=>[]
 |i,s::r=>(s,i,U s)::G5 (i+1) r
noncomputable abbrev bp:Obj:=fd (T "builtin_function_or_method") [U "type.__prepare__",T "type"]
noncomputable def dB(P:Np):Obj:=di P (T "dict") ([("__name__",1,S "builtins" 160),("__doc__",2,U "builtins.__doc__:str#opaque"),("__package__",3,U "builtins.__package__:str#opaque"),("__loader__",4,U "builtins.__loader__:shared#opaque"),("__spec__",5,U "builtins.__spec__#opaque")]++(G5 6 ["__build_class__","__import__","abs","all","any","ascii","bin","breakpoint","callable","chr","compile","delattr","dir","divmod","eval","exec","format","getattr","globals","hasattr","hash","hex","id","input","isinstance","issubclass","iter","aiter","len","locals","max","min","next","anext","oct","ord","pow","print","repr","round","setattr","sorted","sum","vars"]++([("None",50,N),("Ellipsis",51,Value.ellipsis),("NotImplemented",52,Value.notImplemented),("False",53,B false),("True",54,B true)]++(G4 55 ["bool","memoryview","bytearray","bytes","classmethod","complex","dict","enumerate","filter","float","frozenset","property","int","list","map","object","range","reversed","set","slice","staticmethod","str","super","tuple","type","zip"]++([("__debug__",81,B true)]++(G4 82 ["BaseException","BaseExceptionGroup","Exception","GeneratorExit","KeyboardInterrupt","SystemExit","ArithmeticError","AssertionError","AttributeError","BufferError","EOFError","ImportError","LookupError","MemoryError","NameError","OSError","ReferenceError","RuntimeError","StopAsyncIteration","StopIteration","SyntaxError","SystemError","TypeError","ValueError","Warning","FloatingPointError","OverflowError","ZeroDivisionError","BytesWarning","DeprecationWarning","EncodingWarning","FutureWarning","ImportWarning","PendingDeprecationWarning","ResourceWarning","RuntimeWarning","SyntaxWarning","UnicodeWarning","UserWarning","BlockingIOError","ChildProcessError","ConnectionError","FileExistsError","FileNotFoundError","InterruptedError","IsADirectoryError","NotADirectoryError","PermissionError","ProcessLookupError","TimeoutError","IndentationError","_IncompleteInputError","IndexError","KeyError","ModuleNotFoundError","NotImplementedError","PythonFinalizationError","RecursionError","UnboundLocalError","UnicodeError","BrokenPipeError","ConnectionAbortedError","ConnectionRefusedError","ConnectionResetError","TabError","UnicodeDecodeError","UnicodeEncodeError","UnicodeTranslateError","ExceptionGroup"]++([("EnvironmentError",151,T "OSError"),("IOError",152,T "OSError")]++(G5 153 ["open"]++([("quit",154,U "builtins.quit#opaque"),("exit",155,U "builtins.exit#opaque"),("copyright",156,U "builtins.copyright#opaque"),("credits",157,U "builtins.credits#opaque"),("license",158,U "builtins.license#opaque"),("help",159,U "builtins.help#opaque")]))))))))) 159
noncomputable def L0(P:Np):List Obj:=[dB P,di P (T "dict") [("builtins",162,R 4),("__main__",163,R 5)] 2,di P N [] 0,di P (T "dict") [("__name__",165,m0),("__doc__",166,N),("__package__",167,N),("__loader__",168,U "__main__.__loader__#opaque"),("__spec__",169,N),("__annotations__",170,R 6),("__builtins__",171,R 4),("__file__",173,G 172),("__cached__",174,N)] 9,⟨(T "module"),(some 0),.plain,[].toArray⟩,⟨(T "module"),(some 3),.plain,[].toArray⟩,di P (T "dict") [] 0,zt,ze,cm "<module>" "<module>" 176 1 7 175 179,fr 9 3 3 m0,zt,ze,cm "<module>" "<module>" 182 1 11 181 185,fr 13 3 3 m0]
noncomputable def ge:List (String×Nat×M_):=[("__doc__",166,N),("__package__",167,N),("__loader__",168,U "__main__.__loader__#opaque"),("__spec__",169,N),("__annotations__",170,R 6),("__builtins__",171,R 4),("__file__",173,G 172),("__cached__",174,N),("_wall",193,R 21),("Place",233,R 45),("MintError",271,R 74),("ReadError",287,R 87),("SymbolError",303,R 99),("SIGNS",307,(S "+-*/%&|^~!()[],:$=<>" 306)),("ESCAPE_SIGNS",309,S "btnfr\"'\\" 308),("ESCAPE_CODES",311,S "\x08\t\n\x0c\x0d\"'\\" 310),("TOP",313,I 18446744073709551615 312),("digit_of",321,R 108),("is_letter",329,R 115),("begins_name",336,R 122),("is_name_sign",344,R 129),("read_escape",356,R 136),("read_char",366,R 143),("number_worth",378,R 150),("local_worth",387,R 157),("Token",444,R 195),("LineReader",571,R 286),("line_tokens",581,R 297),("Cursor",695,R 391),("MOST_DEPTH",699,I 10 698),("MOST_SHIFT",701,I 63 700),("Expr",737,R 419),("Number",770,R 447),("Symbol",803,R 473),("Here",827,R 492),("Unary",862,R 518),("Binary",903,R 544),("left_spine",912,R 553),("level_of",919,R 560),("binary_level",926,R 567),("read_part",936,R 574),("read_level",948,R 581),("read_expr",955,R 588),("expr_of",964,R 595),("Affine",1043,R 655),("affine_of",1049,R 664),("Scope",1105,R 703),("quotient",1113,R 714),("shifted",1122,R 721),("reckoned",1131,R 728),("combined",1140,R 735),("turned",1148,R 742),("evaluate",1162,R 750),("number_of",1171,R 757),("bracketed",1179,R 764),("show_leaf",1186,R 771),("show_expr",1199,R 778),("show_affine",1207,R 785),("names_in",1217,R 792),("has_here",1227,R 799),("_law_NAMES",1236,R 800),("_law_BINARY",1247,R 801),("_law_LEVELS",1253,R 808),("_law_UNARY",1257,R 809),("_law_draw",1267,R 816),("_law_leaf",1275,R 823),("_law_part",1283,R 830),("_law_row",1294,R 837),("_law_digits",1304,R 844),("_law_word",1315,R 851),("_law_text",1327,R 858),("_law_is_deep",1337,R 865),("_law_tree",1353,R 872),("_law_sum",1359,R 877),("_law_two",1370,R 884),("_law_worth",1383,R 891),("_law_read",1390,R 898),("_law_single",1398,R 905),("_law_leaves",1405,R 912),("_law_is_spare",1417,R 919),("law",1423,R 924)]
noncomputable def gf:List M_:=[J 1,J 0,R 20,J 5,J 0,R 27,J 13,J 0,R 55,J 24,J 0,R 83,J 26,J 0,R 95,J 33,J 0,R 107,J 42,J 0,R 114,J 45,J 0,R 121,J 47,J 0,R 128,J 50,J 0,R 135,J 73,J 0,R 142,J 85,J 0,R 149,J 106,J 0,R 156,J 115,J 0,R 163,J 131,J 0,R 205,J 227,J 0,R 296,J 234,J 0,R 303,J 289,J 0,R 401,J 296,J 0,R 429,J 304,J 0,R 455,J 312,J 0,R 481,J 316,J 0,R 500,J 325,J 0,R 526,J 339,J 0,R 552,J 347,J 0,R 559,J 355,J 0,R 566,J 359,J 0,R 573,J 380,J 0,R 580,J 388,J 0,R 587,J 390,J 0,R 594,J 395,J 0,R 601,J 419,J 0,R 663,J 430,J 0,R 670,J 453,J 0,R 713,J 459,J 0,R 720,J 465,J 0,R 727,J 479,J 0,R 734,J 487,J 0,R 741,J 495,J 0,R 749,J 510,J 0,R 756,J 515,J 0,R 763,J 519,J 0,R 770,J 527,J 0,R 777,J 538,J 0,R 784,J 550,J 0,R 791,J 563,J 0,R 798,J 574,J 0,R 807,J 577,J 0,R 815,J 582,J 0,R 822,J 591,J 0,R 829,J 595,J 0,R 836,J 607,J 0,R 843,J 614,J 0,R 850,J 635,J 0,R 857,J 645,J 0,R 864,J 664,J 0,R 871,J 706,J 0,R 876,J 714,J 0,R 883,J 733,J 0,R 890,J 761,J 0,R 897,J 766,J 0,R 904,J 771,J 0,R 911,J 777,J 0,R 918,J 785,J 0,R 923]
noncomputable def K0(P:Np):List Obj:=[dB P,di P (T "dict") [("builtins",162,R 4),("__main__",163,R 5)] 2,di P N [("type.__subclasses__.Exception.0",268,J 74),("type.__subclasses__.Exception.n",269,J 1)] 2,di P (T "dict") (("__name__",165,m1)::ge) 82,⟨(T "module"),(some 0),.plain,[].toArray⟩,⟨(T "module"),(some 3),.plain,[].toArray⟩,di P (T "dict") [] 0,zt,ze,cm "<module>" "<module>" 176 1 7 175 179,fr 9 3 3 m0,zt,fd N gf,cm "<module>" "<module>" 182 1 11 181 185,fr 13 3 3 m0,zt,ze,tu [S "k" 190],zt,fp (aB 0) "_wall" "_wall",co "_wall" "_wall" 187 1 1 15 191,fq (aB 0) "_wall" "_wall" N m0 20,zt,bp,di P (T "dict") [("__module__",203,m2),("__qualname__",205,S "Place" 204),("__firstlineno__",207,I 5 206),("__init__",216,R 35),("told",223,R 42),("__static_attributes__",226,R 43)] 6,zt,fd N [J 7,J 4,R 34,J 11,J 4,R 41],cm "Place" "Place" 198 5 25 181 201,fr 27 3 24 m2,zt,ze,tu [S "self" 211,S "line" 212,S "column" 213],zt,fp (ay 2 0) "__init__" "Place.__init__",co "__init__" "Place.__init__" 208 7 3 29 214,fq (ay 2 0) "__init__" "Place.__init__" N m2 34,zt,ze,tu [S "self" 220],zt,fp (ay 2 1) "told" "Place.told",co "told" "Place.told" 217 11 1 36 221,fq (ay 2 1) "told" "Place.told" N m2 41,tu [S "column" 224,S "line" 225],di P (T "dict") [("__module__",203,m2),("__firstlineno__",207,I 5 206),("__init__",216,R 35),("told",223,R 42),("__static_attributes__",226,R 43),("__dict__",228,R 46),("__weakref__",230,R 47),("__doc__",231,N)] 4,ty "Place" [T "object"] [R 45,T "object"] 44 [] [na,na,s1 (S "Place" 196),s1 (S "Place" 204),s1 (U "object.__new__"),s1 (B true)],fd (T "getset_descriptor") [S "__dict__" 227,R 45,U "function.__dict__",U "function.__dict__#set"],fd (T "getset_descriptor") [S "__weakref__" 229,R 45,U "ExceptionGroup.__weakref__",N],fd (T "super") [R 45,R 45,R 45],fd (T "builtin_function_or_method") [U "object.__init_subclass__",R 45],tu [T "Exception"],bp,di P (T "dict") [("__module__",241,m2),("__qualname__",243,S "MintError" 242),("__firstlineno__",245,I 13 244),("__init__",254,R 64),("told",261,R 71),("__static_attributes__",264,R 72)] 6,zt,fd N [J 15,J 4,R 63,J 20,J 4,R 70],cm "MintError" "MintError" 236 13 53 181 239,fr 55 3 52 m2,tu [N],zt,ze]
noncomputable def K1(P:Np):List Obj:=[tu [S "self" 249,S "what" 250,S "at" 251],zt,fp (ay 3 0) "__init__" "MintError.__init__",co "__init__" "MintError.__init__" 246 15 3 58 252,fq (ay 3 0) "__init__" "MintError.__init__" (R 57) m2 63,zt,ze,tu [S "self" 258],zt,fp (ay 3 1) "told" "MintError.told",co "told" "MintError.told" 255 20 1 65 259,fq (ay 3 1) "told" "MintError.told" N m2 70,tu [S "at" 262,S "what" 263],di P (T "dict") [("__module__",241,m2),("__firstlineno__",245,I 13 244),("__init__",254,R 64),("told",261,R 71),("__static_attributes__",264,R 72),("__weakref__",266,R 75),("__doc__",267,N)] 3,ty "MintError" [T "Exception"] [R 74,T "Exception",T "BaseException",T "object"] 73 [R 87,R 99] [s1 (R 50),na,s1 (S "MintError" 234),s1 (S "MintError" 242),s1 (U "Exception.__new__"),s1 (B true)],fd (T "getset_descriptor") [S "__weakref__" 265,R 74,U "ExceptionGroup.__weakref__",N],fd (T "super") [R 74,R 74,R 74],fd (T "builtin_function_or_method") [U "object.__init_subclass__",R 74],tu [R 74],bp,di P (T "dict") [("__module__",279,m2),("__qualname__",281,S "ReadError" 280),("__firstlineno__",283,I 24 282),("__static_attributes__",284,R 85)] 4,zt,ze,cm "ReadError" "ReadError" 274 24 81 181 277,fr 83 3 80 m2,zt,di P (T "dict") [("__module__",279,m2),("__firstlineno__",283,I 24 282),("__static_attributes__",284,R 85),("__doc__",285,N)] 2,ty "ReadError" [R 74] [R 87,R 74,T "Exception",T "BaseException",T "object"] 86 [] [s1 (R 78),na,s1 (S "ReadError" 272),s1 (S "ReadError" 280),s1 (U "Exception.__new__"),s1 (B true)],fd (T "super") [R 87,R 87,R 87],fd (T "builtin_function_or_method") [U "object.__init_subclass__",R 87],tu [R 74],bp,di P (T "dict") [("__module__",295,m2),("__qualname__",297,S "SymbolError" 296),("__firstlineno__",299,I 26 298),("__static_attributes__",300,R 97)] 4,zt,ze,cm "SymbolError" "SymbolError" 290 26 93 181 293,fr 95 3 92 m2,zt,di P (T "dict") [("__module__",295,m2),("__firstlineno__",299,I 26 298),("__static_attributes__",300,R 97),("__doc__",301,N)] 2,ty "SymbolError" [R 74] [R 99,R 74,T "Exception",T "BaseException",T "object"] 98 [] [s1 (R 90),na,s1 (S "SymbolError" 288),s1 (S "SymbolError" 296),s1 (U "Exception.__new__"),s1 (B true)],fd (T "super") [R 99,R 99,R 99],fd (T "builtin_function_or_method") [U "object.__init_subclass__",R 99],zt,ze,tu [S "sign" 317,S "code" 318],zt,fp (aB 11) "digit_of" "digit_of",co "digit_of" "digit_of" 314 33 1 102 319,fq (aB 11) "digit_of" "digit_of" N m3 107,zt,ze,tu [S "sign" 325,S "code" 326],zt,fp (aB 12) "is_letter" "is_letter",co "is_letter" "is_letter" 322 42 1 109 327,fq (aB 12) "is_letter" "is_letter" N m3 114,zt,ze,tu [S "sign" 333],zt]
noncomputable def K2(P:Np):List Obj:=[fp (aB 13) "begins_name" "begins_name",co "begins_name" "begins_name" 330 45 1 116 334,fq (aB 13) "begins_name" "begins_name" N m3 121,zt,ze,tu [S "sign" 340,S "code" 341],zt,fp (aB 14) "is_name_sign" "is_name_sign",co "is_name_sign" "is_name_sign" 337 47 1 123 342,fq (aB 14) "is_name_sign" "is_name_sign" N m3 128,zt,ze,tu [S "text" 348,S "at" 349,S "sign" 350,S "worth" 351,S "here" 352,S "number" 353],zt,fp (aB 15) "read_escape" "read_escape",co "read_escape" "read_escape" 345 50 2 130 354,fq (aB 15) "read_escape" "read_escape" N m3 135,zt,ze,tu [S "text" 360,S "at" 361,S "code" 362,S "end" 363],zt,fp (aB 16) "read_char" "read_char",co "read_char" "read_char" 357 73 2 137 364,fq (aB 16) "read_char" "read_char" N m3 142,zt,ze,tu [S "word" 370,S "base" 371,S "begin" 372,S "worth" 373,S "sign" 374,S "figure" 375],zt,fp (aB 17) "number_worth" "number_worth",co "number_worth" "number_worth" 367 85 1 144 376,fq (aB 17) "number_worth" "number_worth" N m3 149,zt,ze,tu [S "word" 382,S "worth" 383,S "sign" 384],zt,fp (aB 18) "local_worth" "local_worth",co "local_worth" "local_worth" 379 106 1 151 385,fq (aB 18) "local_worth" "local_worth" N m3 156,zt,bp,di P (T "dict") [("__module__",395,m3),("__qualname__",397,S "Token" 396),("__firstlineno__",399,I 115 398),("__init__",410,R 171),("is_sign",418,R 178),("is_backward",425,R 185),("told",432,R 192),("__static_attributes__",437,R 193)] 8,zt,fd N [J 117,J 4,R 170,J 123,J 4,R 177,J 126,J 4,R 184,J 129,J 4,R 191],cm "Token" "Token" 390 115 161 181 393,fr 163 3 160 m3,zt,ze,tu [S "self" 403,S "kind" 404,S "text" 405,S "worth" 406,S "at" 407],zt,fp (ay 19 0) "__init__" "Token.__init__",co "__init__" "Token.__init__" 400 117 5 165 408,fq (ay 19 0) "__init__" "Token.__init__" N m3 170,zt,ze,tu [S "self" 414,S "text" 415],zt,fp (ay 19 1) "is_sign" "Token.is_sign",co "is_sign" "Token.is_sign" 411 123 2 172 416,fq (ay 19 1) "is_sign" "Token.is_sign" N m3 177,zt]
noncomputable def K3(P:Np):List Obj:=[ze,tu [S "self" 422],zt,fp (ay 19 2) "is_backward" "Token.is_backward",co "is_backward" "Token.is_backward" 419 126 1 179 423,fq (ay 19 2) "is_backward" "Token.is_backward" N m3 184,zt,ze,tu [S "self" 429],zt,fp (ay 19 3) "told" "Token.told",co "told" "Token.told" 426 129 1 186 430,fq (ay 19 3) "told" "Token.told" N m3 191,tu [S "at" 433,S "kind" 434,S "text" 435,S "worth" 436],di P (T "dict") [("__module__",395,m3),("__firstlineno__",399,I 115 398),("__init__",410,R 171),("is_sign",418,R 178),("is_backward",425,R 185),("told",432,R 192),("__static_attributes__",437,R 193),("__dict__",439,R 196),("__weakref__",441,R 197),("__doc__",442,N)] 4,ty "Token" [T "object"] [R 195,T "object"] 194 [] [na,na,s1 (S "Token" 388),s1 (S "Token" 396),s1 (U "object.__new__"),s1 (B true)],fd (T "getset_descriptor") [S "__dict__" 438,R 195,U "function.__dict__",U "function.__dict__#set"],fd (T "getset_descriptor") [S "__weakref__" 440,R 195,U "ExceptionGroup.__weakref__",N],fd (T "super") [R 195,R 195,R 195],fd (T "builtin_function_or_method") [U "object.__init_subclass__",R 195],zt,bp,di P (T "dict") [("__module__",452,m3),("__qualname__",454,S "LineReader" 453),("__firstlineno__",456,I 131 455),("__init__",465,R 213),("place",473,R 220),("is_done",480,R 227),("passed",489,R 234),("name_end",498,R 241),("number",508,R 248),("constant",518,R 255),("quote",530,R 262),("register",540,R 269),("mark",550,R 276),("token",560,R 283),("__static_attributes__",564,R 284)] 15,zt,fd N [J 133,J 4,R 212,J 138,J 4,R 219,J 141,J 4,R 226,J 146,J 4,R 233,J 151,J 4,R 240,J 157,J 4,R 247,J 170,J 4,R 254,J 177,J 4,R 261,J 196,J 4,R 268,J 204,J 4,R 275,J 212,J 4,R 282],cm "LineReader" "LineReader" 447 131 203 181 450,fr 205 3 202 m3,zt,ze,tu [S "self" 460,S "text" 461,S "line" 462],zt,fp (ay 20 0) "__init__" "LineReader.__init__",co "__init__" "LineReader.__init__" 457 133 3 207 463,fq (ay 20 0) "__init__" "LineReader.__init__" N m3 212,zt,ze,tu [S "self" 469,S "at" 470],zt,fp (ay 20 1) "place" "LineReader.place",co "place" "LineReader.place" 466 138 2 214 471,fq (ay 20 1) "place" "LineReader.place" N m3 219,zt,ze,tu [S "self" 477],zt,fp (ay 20 2) "is_done" "LineReader.is_done",co "is_done" "LineReader.is_done" 474 141 1 221 478,fq (ay 20 2) "is_done" "LineReader.is_done" N m3 226,zt,ze,tu [S "self" 484,S "end" 485,S "begin" 486],zt,fp (ay 20 3) "passed" "LineReader.passed",co "passed" "LineReader.passed" 481 146 2 228 487,fq (ay 20 3) "passed" "LineReader.passed" N m3 233,zt,ze,tu [S "self" 493,S "at" 494,S "here" 495],zt,fp (ay 20 4) "name_end" "LineReader.name_end"]
noncomputable def K4(P:Np):List Obj:=[co "name_end" "LineReader.name_end" 490 151 2 235 496,fq (ay 20 4) "name_end" "LineReader.name_end" N m3 240,zt,ze,tu [S "self" 502,S "at" 503,S "word" 504,S "worth" 505],zt,fp (ay 20 5) "number" "LineReader.number",co "number" "LineReader.number" 499 157 1 242 506,fq (ay 20 5) "number" "LineReader.number" N m3 247,zt,ze,tu [S "self" 512,S "at" 513,S "code" 514,S "end" 515],zt,fp (ay 20 6) "constant" "LineReader.constant",co "constant" "LineReader.constant" 509 170 1 249 516,fq (ay 20 6) "constant" "LineReader.constant" N m3 254,zt,ze,tu [S "self" 522,S "at" 523,S "worth" 524,S "here" 525,S "code" 526,S "end" 527],zt,fp (ay 20 7) "quote" "LineReader.quote",co "quote" "LineReader.quote" 519 177 1 256 528,fq (ay 20 7) "quote" "LineReader.quote" N m3 261,zt,ze,tu [S "self" 534,S "at" 535,S "here" 536,S "word" 537],zt,fp (ay 20 8) "register" "LineReader.register",co "register" "LineReader.register" 531 196 1 263 538,fq (ay 20 8) "register" "LineReader.register" N m3 268,zt,ze,tu [S "self" 544,S "at" 545,S "pair" 546,S "word" 547],zt,fp (ay 20 9) "mark" "LineReader.mark",co "mark" "LineReader.mark" 541 204 1 270 548,fq (ay 20 9) "mark" "LineReader.mark" N m3 275,zt,ze,tu [S "self" 554,S "sign" 555,S "at" 556,S "word" 557],zt,fp (ay 20 10) "token" "LineReader.token",co "token" "LineReader.token" 551 212 1 277 558,fq (ay 20 10) "token" "LineReader.token" N m3 282,tu [S "at" 561,S "line" 562,S "text" 563],di P (T "dict") [("__module__",452,m3),("__firstlineno__",456,I 131 455),("__init__",465,R 213),("place",473,R 220),("is_done",480,R 227),("passed",489,R 234),("name_end",498,R 241),("number",508,R 248),("constant",518,R 255),("quote",530,R 262),("register",540,R 269),("mark",550,R 276),("token",560,R 283),("__static_attributes__",564,R 284),("__dict__",566,R 287),("__weakref__",568,R 288),("__doc__",569,N)] 4,ty "LineReader" [T "object"] [R 286,T "object"] 285 [] [na,na,s1 (S "LineReader" 445),s1 (S "LineReader" 453),s1 (U "object.__new__"),s1 (B true)],fd (T "getset_descriptor") [S "__dict__" 565,R 286,U "function.__dict__",U "function.__dict__#set"],fd (T "getset_descriptor") [S "__weakref__" 567,R 286,U "ExceptionGroup.__weakref__",N],fd (T "super") [R 286,R 286,R 286],fd (T "builtin_function_or_method") [U "object.__init_subclass__",R 286],zt,ze,tu [S "text" 575,S "line" 576,S "reader" 577,S "found" 578],zt,fp (aB 21) "line_tokens" "line_tokens",co "line_tokens" "line_tokens" 572 227 2 291 579,fq (aB 21) "line_tokens" "line_tokens" N m3 296,zt,bp]
noncomputable def K5(P:Np):List Obj:=[di P (T "dict") [("__module__",589,m3),("__qualname__",591,S "Cursor" 590),("__firstlineno__",593,I 234 592),("__init__",601,R 311),("peek",608,R 318),("ahead",616,R 325),("take",624,R 332),("is_sign",632,R 339),("is_end",639,R 346),("skip",647,R 353),("skip_name",655,R 360),("need",663,R 367),("need_end",670,R 374),("name",678,R 381),("rest_place",685,R 388),("__static_attributes__",688,R 389)] 16,zt,fd N [J 236,J 4,R 310,J 240,J 4,R 317,J 243,J 4,R 324,J 248,J 4,R 331,J 254,J 4,R 338,J 257,J 4,R 345,J 260,J 4,R 352,J 266,J 4,R 359,J 269,J 4,R 366,J 273,J 4,R 373,J 277,J 4,R 380,J 284,J 4,R 387],cm "Cursor" "Cursor" 584 234 301 181 587,fr 303 3 300 m3,zt,ze,tu [S "self" 597,S "tokens" 598],zt,fp (ay 22 0) "__init__" "Cursor.__init__",co "__init__" "Cursor.__init__" 594 236 2 305 599,fq (ay 22 0) "__init__" "Cursor.__init__" N m3 310,zt,ze,tu [S "self" 605],zt,fp (ay 22 1) "peek" "Cursor.peek",co "peek" "Cursor.peek" 602 240 1 312 606,fq (ay 22 1) "peek" "Cursor.peek" N m3 317,zt,ze,tu [S "self" 612,S "count" 613],zt,fp (ay 22 2) "ahead" "Cursor.ahead",co "ahead" "Cursor.ahead" 609 243 2 319 614,fq (ay 22 2) "ahead" "Cursor.ahead" N m3 324,zt,ze,tu [S "self" 620,S "token" 621],zt,fp (ay 22 3) "take" "Cursor.take",co "take" "Cursor.take" 617 248 1 326 622,fq (ay 22 3) "take" "Cursor.take" N m3 331,zt,ze,tu [S "self" 628,S "text" 629],zt,fp (ay 22 4) "is_sign" "Cursor.is_sign",co "is_sign" "Cursor.is_sign" 625 254 2 333 630,fq (ay 22 4) "is_sign" "Cursor.is_sign" N m3 338,zt,ze,tu [S "self" 636],zt,fp (ay 22 5) "is_end" "Cursor.is_end",co "is_end" "Cursor.is_end" 633 257 1 340 637,fq (ay 22 5) "is_end" "Cursor.is_end" N m3 345,zt,ze,tu [S "self" 643,S "text" 644],zt,fp (ay 22 6) "skip" "Cursor.skip",co "skip" "Cursor.skip" 640 260 2 347 645,fq (ay 22 6) "skip" "Cursor.skip" N m3 352,zt,ze,tu [S "self" 651,S "text" 652],zt,fp (ay 22 7) "skip_name" "Cursor.skip_name",co "skip_name" "Cursor.skip_name" 648 266 2 354 653]
noncomputable def K6(P:Np):List Obj:=[fq (ay 22 7) "skip_name" "Cursor.skip_name" N m3 359,zt,ze,tu [S "self" 659,S "text" 660],zt,fp (ay 22 8) "need" "Cursor.need",co "need" "Cursor.need" 656 269 2 361 661,fq (ay 22 8) "need" "Cursor.need" N m3 366,zt,ze,tu [S "self" 667],zt,fp (ay 22 9) "need_end" "Cursor.need_end",co "need_end" "Cursor.need_end" 664 273 1 368 668,fq (ay 22 9) "need_end" "Cursor.need_end" N m3 373,zt,ze,tu [S "self" 674,S "token" 675],zt,fp (ay 22 10) "name" "Cursor.name",co "name" "Cursor.name" 671 277 1 375 676,fq (ay 22 10) "name" "Cursor.name" N m3 380,zt,ze,tu [S "self" 682],zt,fp (ay 22 11) "rest_place" "Cursor.rest_place",co "rest_place" "Cursor.rest_place" 679 284 1 382 683,fq (ay 22 11) "rest_place" "Cursor.rest_place" N m3 387,tu [S "at" 686,S "tokens" 687],di P (T "dict") [("__module__",589,m3),("__firstlineno__",593,I 234 592),("__init__",601,R 311),("peek",608,R 318),("ahead",616,R 325),("take",624,R 332),("is_sign",632,R 339),("is_end",639,R 346),("skip",647,R 353),("skip_name",655,R 360),("need",663,R 367),("need_end",670,R 374),("name",678,R 381),("rest_place",685,R 388),("__static_attributes__",688,R 389),("__dict__",690,R 392),("__weakref__",692,R 393),("__doc__",693,N)] 4,ty "Cursor" [T "object"] [R 391,T "object"] 390 [] [na,na,s1 (S "Cursor" 582),s1 (S "Cursor" 590),s1 (U "object.__new__"),s1 (B true)],fd (T "getset_descriptor") [S "__dict__" 689,R 391,U "function.__dict__",U "function.__dict__#set"],fd (T "getset_descriptor") [S "__weakref__" 691,R 391,U "ExceptionGroup.__weakref__",N],fd (T "super") [R 391,R 391,R 391],fd (T "builtin_function_or_method") [U "object.__init_subclass__",R 391],zt,bp,di P (T "dict") [("__module__",709,m4),("__qualname__",711,S "Expr" 710),("__firstlineno__",713,I 289 712),("__init__",721,R 409),("told",728,R 416),("__static_attributes__",730,R 417)] 6,zt,fd N [J 291,J 4,R 408,J 294,J 4,R 415],cm "Expr" "Expr" 704 289 399 181 707,fr 401 3 398 m4,zt,ze,tu [S "self" 717,S "kind" 718],zt,fp (ay 26 0) "__init__" "Expr.__init__",co "__init__" "Expr.__init__" 714 291 2 403 719,fq (ay 26 0) "__init__" "Expr.__init__" N m4 408,zt,ze,tu [S "self" 725],zt,fp (ay 26 1) "told" "Expr.told",co "told" "Expr.told" 722 294 1 410 726,fq (ay 26 1) "told" "Expr.told" N m4 415,tu [S "kind" 729],di P (T "dict") [("__module__",709,m4),("__firstlineno__",713,I 289 712),("__init__",721,R 409),("told",728,R 416),("__static_attributes__",730,R 417),("__dict__",732,R 420),("__weakref__",734,R 421),("__doc__",735,N)] 4,ty "Expr" [T "object"] [R 419,T "object"] 418 [R 447,R 473,R 492,R 518,R 544] [na,na,s1 (S "Expr" 702),s1 (S "Expr" 710),s1 (U "object.__new__"),s1 (B true)]]
noncomputable def K7(P:Np):List Obj:=[fd (T "getset_descriptor") [S "__dict__" 731,R 419,U "function.__dict__",U "function.__dict__#set"],fd (T "getset_descriptor") [S "__weakref__" 733,R 419,U "ExceptionGroup.__weakref__",N],fd (T "super") [R 419,R 419,R 419],fd (T "builtin_function_or_method") [U "object.__init_subclass__",R 419],tu [R 419],bp,di P (T "dict") [("__module__",745,m4),("__qualname__",747,S "Number" 746),("__firstlineno__",749,I 296 748),("__init__",757,R 437),("told",764,R 444),("__static_attributes__",767,R 445)] 6,zt,fd N [J 298,J 4,R 436,J 302,J 4,R 443],cm "Number" "Number" 740 296 427 181 743,fr 429 3 426 m4,zt,ze,tu [S "self" 753,S "worth" 754],zt,fp (ay 27 0) "__init__" "Number.__init__",co "__init__" "Number.__init__" 750 298 2 431 755,fq (ay 27 0) "__init__" "Number.__init__" N m4 436,zt,ze,tu [S "self" 761],zt,fp (ay 27 1) "told" "Number.told",co "told" "Number.told" 758 302 1 438 762,fq (ay 27 1) "told" "Number.told" N m4 443,tu [S "kind" 765,S "worth" 766],di P (T "dict") [("__module__",745,m4),("__firstlineno__",749,I 296 748),("__init__",757,R 437),("told",764,R 444),("__static_attributes__",767,R 445),("__doc__",768,N)] 2,ty "Number" [R 419] [R 447,R 419,T "object"] 446 [] [s1 (R 424),na,s1 (S "Number" 738),s1 (S "Number" 746),s1 (U "object.__new__"),s1 (B true)],fd (T "super") [R 447,R 447,R 447],fd (T "builtin_function_or_method") [U "object.__init_subclass__",R 447],tu [R 419],bp,di P (T "dict") [("__module__",778,m4),("__qualname__",780,S "Symbol" 779),("__firstlineno__",782,I 304 781),("__init__",790,R 463),("told",797,R 470),("__static_attributes__",800,R 471)] 6,zt,fd N [J 306,J 4,R 462,J 310,J 4,R 469],cm "Symbol" "Symbol" 773 304 453 181 776,fr 455 3 452 m4,zt,ze,tu [S "self" 786,S "name" 787],zt,fp (ay 28 0) "__init__" "Symbol.__init__",co "__init__" "Symbol.__init__" 783 306 2 457 788,fq (ay 28 0) "__init__" "Symbol.__init__" N m4 462,zt,ze,tu [S "self" 794],zt,fp (ay 28 1) "told" "Symbol.told",co "told" "Symbol.told" 791 310 1 464 795,fq (ay 28 1) "told" "Symbol.told" N m4 469,tu [S "kind" 798,S "name" 799],di P (T "dict") [("__module__",778,m4),("__firstlineno__",782,I 304 781),("__init__",790,R 463),("told",797,R 470),("__static_attributes__",800,R 471),("__doc__",801,N)] 2,ty "Symbol" [R 419] [R 473,R 419,T "object"] 472 [] [s1 (R 450),na,s1 (S "Symbol" 771),s1 (S "Symbol" 779),s1 (U "object.__new__"),s1 (B true)],fd (T "super") [R 473,R 473,R 473],fd (T "builtin_function_or_method") [U "object.__init_subclass__",R 473],tu [R 419],bp,di P (T "dict") [("__module__",811,m4),("__qualname__",813,S "Here" 812),("__firstlineno__",815,I 312 814),("__init__",822,R 489),("__static_attributes__",824,R 490)] 5,zt]
noncomputable def K8(P:Np):List Obj:=[fd N [J 314,J 4,R 488],cm "Here" "Here" 806 312 479 181 809,fr 481 3 478 m4,zt,ze,tu [S "self" 819],zt,fp (ay 29 0) "__init__" "Here.__init__",co "__init__" "Here.__init__" 816 314 1 483 820,fq (ay 29 0) "__init__" "Here.__init__" N m4 488,tu [S "kind" 823],di P (T "dict") [("__module__",811,m4),("__firstlineno__",815,I 312 814),("__init__",822,R 489),("__static_attributes__",824,R 490),("__doc__",825,N)] 2,ty "Here" [R 419] [R 492,R 419,T "object"] 491 [] [s1 (R 476),na,s1 (S "Here" 804),s1 (S "Here" 812),s1 (U "object.__new__"),s1 (B true)],fd (T "super") [R 492,R 492,R 492],fd (T "builtin_function_or_method") [U "object.__init_subclass__",R 492],tu [R 419],bp,di P (T "dict") [("__module__",835,m4),("__qualname__",837,S "Unary" 836),("__firstlineno__",839,I 316 838),("__init__",848,R 508),("told",855,R 515),("__static_attributes__",859,R 516)] 6,zt,fd N [J 318,J 4,R 507,J 323,J 4,R 514],cm "Unary" "Unary" 830 316 498 181 833,fr 500 3 497 m4,zt,ze,tu [S "self" 843,S "sign" 844,S "body" 845],zt,fp (ay 30 0) "__init__" "Unary.__init__",co "__init__" "Unary.__init__" 840 318 3 502 846,fq (ay 30 0) "__init__" "Unary.__init__" N m4 507,zt,ze,tu [S "self" 852],zt,fp (ay 30 1) "told" "Unary.told",co "told" "Unary.told" 849 323 1 509 853,fq (ay 30 1) "told" "Unary.told" N m4 514,tu [S "body" 856,S "kind" 857,S "sign" 858],di P (T "dict") [("__module__",835,m4),("__firstlineno__",839,I 316 838),("__init__",848,R 508),("told",855,R 515),("__static_attributes__",859,R 516),("__doc__",860,N)] 2,ty "Unary" [R 419] [R 518,R 419,T "object"] 517 [] [s1 (R 495),na,s1 (S "Unary" 828),s1 (S "Unary" 836),s1 (U "object.__new__"),s1 (B true)],fd (T "super") [R 518,R 518,R 518],fd (T "builtin_function_or_method") [U "object.__init_subclass__",R 518],tu [R 419],bp,di P (T "dict") [("__module__",870,m4),("__qualname__",872,S "Binary" 871),("__firstlineno__",874,I 325 873),("__init__",884,R 534),("told",895,R 541),("__static_attributes__",900,R 542)] 6,zt,fd N [J 327,J 4,R 533,J 333,J 4,R 540],cm "Binary" "Binary" 865 325 524 181 868,fr 526 3 523 m4,zt,ze,tu [S "self" 878,S "sign" 879,S "left" 880,S "right" 881],zt,fp (ay 31 0) "__init__" "Binary.__init__",co "__init__" "Binary.__init__" 875 327 4 528 882,fq (ay 31 0) "__init__" "Binary.__init__" N m4 533,zt,ze,tu [S "self" 888,S "inner" 889,S "spine" 890,S "worth" 891,S "part" 892],zt,fp (ay 31 1) "told" "Binary.told"]
noncomputable def K9(P:Np):List Obj:=[co "told" "Binary.told" 885 333 1 535 893,fq (ay 31 1) "told" "Binary.told" N m4 540,tu [S "kind" 896,S "left" 897,S "right" 898,S "sign" 899],di P (T "dict") [("__module__",870,m4),("__firstlineno__",874,I 325 873),("__init__",884,R 534),("told",895,R 541),("__static_attributes__",900,R 542),("__doc__",901,N)] 2,ty "Binary" [R 419] [R 544,R 419,T "object"] 543 [] [s1 (R 521),na,s1 (S "Binary" 863),s1 (S "Binary" 871),s1 (U "object.__new__"),s1 (B true)],fd (T "super") [R 544,R 544,R 544],fd (T "builtin_function_or_method") [U "object.__init_subclass__",R 544],zt,ze,tu [S "node" 907,S "spine" 908,S "inner" 909],zt,fp (aB 32) "left_spine" "left_spine",co "left_spine" "left_spine" 904 339 1 547 910,fq (aB 32) "left_spine" "left_spine" N m4 552,zt,ze,tu [S "sign" 916],zt,fp (aB 33) "level_of" "level_of",co "level_of" "level_of" 913 347 1 554 917,fq (aB 33) "level_of" "level_of" N m4 559,zt,ze,tu [S "token" 923],zt,fp (aB 34) "binary_level" "binary_level",co "binary_level" "binary_level" 920 355 1 561 924,fq (aB 34) "binary_level" "binary_level" N m4 566,zt,ze,tu [S "cursor" 930,S "depth" 931,S "token" 932,S "inner" 933],zt,fp (aB 35) "read_part" "read_part",co "read_part" "read_part" 927 359 2 568 934,fq (aB 35) "read_part" "read_part" N m4 573,zt,ze,tu [S "cursor" 940,S "least" 941,S "depth" 942,S "left" 943,S "level" 944,S "sign" 945],zt,fp (aB 36) "read_level" "read_level",co "read_level" "read_level" 937 380 3 575 946,fq (aB 36) "read_level" "read_level" N m4 580,zt,ze,tu [S "cursor" 952],zt,fp (aB 37) "read_expr" "read_expr",co "read_expr" "read_expr" 949 388 1 582 953,fq (aB 37) "read_expr" "read_expr" N m4 587,zt,ze,tu [S "text" 959,S "cursor" 960,S "node" 961],zt,fp (aB 38) "expr_of" "expr_of",co "expr_of" "expr_of" 956 390 1 589 962,fq (aB 38) "expr_of" "expr_of" N m4 594,zt,bp,di P (T "dict") [("__module__",972,m4),("__qualname__",974,S "Affine" 973),("__firstlineno__",976,I 395 975),("__init__",988,R 610),("told",995,R 617),("is_number",1002,R 624),("is_symbol",1009,R 631),("negate",1016,R 638),("add",1024,R 645),("places",1032,R 652),("__static_attributes__",1036,R 653)] 11,zt]
noncomputable def Mn(P:Np):List Obj:=[fd N [J 397,J 4,R 609,J 402,J 4,R 616,J 405,J 4,R 623,J 408,J 4,R 630,J 411,J 4,R 637,J 414,J 4,R 644,J 417,J 4,R 651],cm "Affine" "Affine" 967 395 599 181 970,fr 601 3 598 m4,tu [S "" 977,S "" 978],zt,ze,tu [S "self" 982,S "worth" 983,S "plus" 984,S "minus" 985],zt,fp (ay 39 0) "__init__" "Affine.__init__",co "__init__" "Affine.__init__" 979 397 4 604 986,fq (ay 39 0) "__init__" "Affine.__init__" (R 603) m4 609,zt,ze,tu [S "self" 992],zt,fp (ay 39 1) "told" "Affine.told",co "told" "Affine.told" 989 402 1 611 993,fq (ay 39 1) "told" "Affine.told" N m4 616,zt,ze,tu [S "self" 999],zt,fp (ay 39 2) "is_number" "Affine.is_number",co "is_number" "Affine.is_number" 996 405 1 618 1000,fq (ay 39 2) "is_number" "Affine.is_number" N m4 623,zt,ze,tu [S "self" 1006],zt,fp (ay 39 3) "is_symbol" "Affine.is_symbol",co "is_symbol" "Affine.is_symbol" 1003 408 1 625 1007,fq (ay 39 3) "is_symbol" "Affine.is_symbol" N m4 630,zt,ze,tu [S "self" 1013],zt,fp (ay 39 4) "negate" "Affine.negate",co "negate" "Affine.negate" 1010 411 1 632 1014,fq (ay 39 4) "negate" "Affine.negate" N m4 637,zt,ze,tu [S "self" 1020,S "other" 1021],zt,fp (ay 39 5) "add" "Affine.add",co "add" "Affine.add" 1017 414 2 639 1022,fq (ay 39 5) "add" "Affine.add" N m4 644,zt,ze,tu [S "self" 1028,S "known" 1029],zt,fp (ay 39 6) "places" "Affine.places",co "places" "Affine.places" 1025 417 2 646 1030,fq (ay 39 6) "places" "Affine.places" N m4 651,tu [S "minus" 1033,S "plus" 1034,S "worth" 1035],di P (T "dict") [("__module__",972,m4),("__firstlineno__",976,I 395 975),("__init__",988,R 610),("told",995,R 617),("is_number",1002,R 624),("is_symbol",1009,R 631),("negate",1016,R 638),("add",1024,R 645),("places",1032,R 652),("__static_attributes__",1036,R 653),("__dict__",1038,R 656),("__weakref__",1040,R 657),("__doc__",1041,N)] 4,ty "Affine" [T "object"] [R 655,T "object"] 654 [] [na,na,s1 (S "Affine" 965),s1 (S "Affine" 973),s1 (U "object.__new__"),s1 (B true)],fd (T "getset_descriptor") [S "__dict__" 1037,R 655,U "function.__dict__",U "function.__dict__#set"],fd (T "getset_descriptor") [S "__weakref__" 1039,R 655,U "ExceptionGroup.__weakref__",N],fd (T "super") [R 655,R 655,R 655],fd (T "builtin_function_or_method") [U "object.__init_subclass__",R 655]]
noncomputable def Mo(P:Np):List Obj:=[zt,ze,fp (aB 40) "affine_of" "affine_of",fd (T "code") [S "affine_of" 1044,S "affine_of" 1045,G 1046,J 419,J 3,J 0,J 0,J 3,R 660,B true,J 181,R 661,N,N,N,R 662,J 1047,J 419,G 1048],fq (aB 40) "affine_of" "affine_of" N m4 663,zt,bp,di P (T "dict") [("__module__",1057,m4),("__qualname__",1059,S "Scope" 1058),("__firstlineno__",1061,I 430 1060),("__init__",1069,R 679),("put",1078,R 686),("find",1086,R 693),("settled",1096,R 700),("__static_attributes__",1098,R 701)] 8,zt,fd N [J 432,J 4,R 678,J 435,J 4,R 685,J 438,J 4,R 692,J 441,J 4,R 699],cm "Scope" "Scope" 1052 430 668 181 1055,fr 670 3 667 m4,tu [N],zt,ze,tu [S "self" 1065,S "equates" 1066],zt,fp (ay 41 0) "__init__" "Scope.__init__",co "__init__" "Scope.__init__" 1062 432 2 673 1067,fq (ay 41 0) "__init__" "Scope.__init__" (R 672) m4 678,zt,ze,tu [S "self" 1073,S "name" 1074,S "affine" 1075],zt,fp (ay 41 1) "put" "Scope.put",co "put" "Scope.put" 1070 435 3 680 1076,fq (ay 41 1) "put" "Scope.put" N m4 685,zt,ze,tu [S "self" 1082,S "name" 1083],zt,fp (ay 41 2) "find" "Scope.find",co "find" "Scope.find" 1079 438 2 687 1084,fq (ay 41 2) "find" "Scope.find" N m4 692,zt,ze,tu [S "self" 1090,S "affine" 1091,S "left" 1092,S "found" 1093],zt,fp (ay 41 3) "settled" "Scope.settled",co "settled" "Scope.settled" 1087 441 2 694 1094,fq (ay 41 3) "settled" "Scope.settled" N m4 699,tu [S "equates" 1097],di P (T "dict") [("__module__",1057,m4),("__firstlineno__",1061,I 430 1060),("__init__",1069,R 679),("put",1078,R 686),("find",1086,R 693),("settled",1096,R 700),("__static_attributes__",1098,R 701),("__dict__",1100,R 704),("__weakref__",1102,R 705),("__doc__",1103,N)] 4,ty "Scope" [T "object"] [R 703,T "object"] 702 [] [na,na,s1 (S "Scope" 1050),s1 (S "Scope" 1058),s1 (U "object.__new__"),s1 (B true)],fd (T "getset_descriptor") [S "__dict__" 1099,R 703,U "function.__dict__",U "function.__dict__#set"],fd (T "getset_descriptor") [S "__weakref__" 1101,R 703,U "ExceptionGroup.__weakref__",N],fd (T "super") [R 703,R 703,R 703],fd (T "builtin_function_or_method") [U "object.__init_subclass__",R 703],zt,ze,tu [S "one" 1109,S "other" 1110],zt,fp (aB 42) "quotient" "quotient",co "quotient" "quotient" 1106 453 2 708 1111,fq (aB 42) "quotient" "quotient" N m4 713,zt,ze,tu [S "sign" 1117,S "one" 1118,S "count" 1119],zt,fp (aB 43) "shifted" "shifted"]
noncomputable def Mp(P:Np):List Obj:=[co "shifted" "shifted" 1114 459 3 715 1120,fq (aB 43) "shifted" "shifted" N m4 720,zt,ze,tu [S "sign" 1126,S "one" 1127,S "other" 1128],zt,fp (aB 44) "reckoned" "reckoned",co "reckoned" "reckoned" 1123 465 3 722 1129,fq (aB 44) "reckoned" "reckoned" N m4 727,zt,ze,tu [S "sign" 1135,S "left" 1136,S "right" 1137],zt,fp (aB 45) "combined" "combined",co "combined" "combined" 1132 479 3 729 1138,fq (aB 45) "combined" "combined" N m4 734,zt,ze,tu [S "sign" 1144,S "affine" 1145],zt,fp (aB 46) "turned" "turned",co "turned" "turned" 1141 487 2 736 1146,fq (aB 46) "turned" "turned" N m4 741,tu [S "" 1149],zt,ze,tu [S "node" 1153,S "scope" 1154,S "here" 1155,S "inner" 1156,S "spine" 1157,S "worth" 1158,S "part" 1159],zt,fp (aB 47) "evaluate" "evaluate",co "evaluate" "evaluate" 1150 495 3 744 1160,fq (aB 47) "evaluate" "evaluate" (R 743) m4 749,zt,ze,tu [S "node" 1166,S "scope" 1167,S "worth" 1168],zt,fp (aB 48) "number_of" "number_of",co "number_of" "number_of" 1163 510 2 751 1169,fq (aB 48) "number_of" "number_of" N m4 756,zt,ze,tu [S "node" 1175,S "least" 1176],zt,fp (aB 49) "bracketed" "bracketed",co "bracketed" "bracketed" 1172 515 2 758 1177,fq (aB 49) "bracketed" "bracketed" N m4 763,zt,ze,tu [S "node" 1183],zt,fp (aB 50) "show_leaf" "show_leaf",co "show_leaf" "show_leaf" 1180 519 1 765 1184,fq (aB 50) "show_leaf" "show_leaf" N m4 770,zt,ze,tu [S "node" 1190,S "inner" 1191,S "spine" 1192,S "text" 1193,S "level" 1194,S "part" 1195,S "own" 1196],zt,fp (aB 51) "show_expr" "show_expr",co "show_expr" "show_expr" 1187 527 1 772 1197,fq (aB 51) "show_expr" "show_expr" N m4 777,zt]
noncomputable def Mq(P:Np):List Obj:=[ze,tu [S "affine" 1203,S "text" 1204],zt,fp (aB 52) "show_affine" "show_affine",co "show_affine" "show_affine" 1200 538 1 779 1205,fq (aB 52) "show_affine" "show_affine" N m4 784,zt,ze,tu [S "node" 1211,S "found" 1212,S "todo" 1213,S "part" 1214],zt,fp (aB 53) "names_in" "names_in",co "names_in" "names_in" 1208 550 1 786 1215,fq (aB 53) "names_in" "names_in" N m4 791,zt,ze,tu [S "node" 1221,S "inner" 1222,S "spine" 1223,S "part" 1224],zt,fp (aB 54) "has_here" "has_here",co "has_here" "has_here" 1218 563 1 793 1225,fq (aB 54) "has_here" "has_here" N m4 798,tu [S "a" 1230,S "b" 1231,S "c" 1232,S "d" 1233,S "e" 1234,S "_n.1$" 1235],tu [S "*" 1237,S "/" 1238,S "%" 1239,S "<<" 1240,S ">>" 1241,S "|" 1242,S "&" 1243,S "^" 1244,S "+" 1245,S "-" 1246],zt,ze,zt,zt,fp (aB 58) "_law_LEVELS" "_law_LEVELS",co "_law_LEVELS" "_law_LEVELS" 1248 574 0 802 1251,fq (aB 58) "_law_LEVELS" "_law_LEVELS" N m1 807,tu [S "-" 1254,S "~" 1255,S "!" 1256],zt,ze,tu [S "source" 1261,S "limit" 1262,S "cells" 1263,S "at" 1264],zt,fp (aB 60) "_law_draw" "_law_draw",co "_law_draw" "_law_draw" 1258 577 2 810 1265,fq (aB 60) "_law_draw" "_law_draw" N m1 815,zt,ze,tu [S "source" 1271,S "way" 1272],zt,fp (aB 61) "_law_leaf" "_law_leaf",co "_law_leaf" "_law_leaf" 1268 582 1 817 1273,fq (aB 61) "_law_leaf" "_law_leaf" N m1 822,zt,ze,tu [S "source" 1279,S "depth" 1280],zt,fp (aB 62) "_law_part" "_law_part",co "_law_part" "_law_part" 1276 591 2 824 1281,fq (aB 62) "_law_part" "_law_part" N m1 829,zt,ze,tu [S "source" 1287,S "depth" 1288,S "way" 1289,S "sign" 1290,S "left" 1291],zt,fp (aB 63) "_law_row" "_law_row",co "_law_row" "_law_row" 1284 595 2 831 1292,fq (aB 63) "_law_row" "_law_row" N m1 836,zt,ze]
noncomputable def Mr(P:Np):List Obj:=[tu [S "worth" 1298,S "base" 1299,S "found" 1300,S "rest" 1301],zt,fp (aB 64) "_law_digits" "_law_digits",co "_law_digits" "_law_digits" 1295 607 2 838 1302,fq (aB 64) "_law_digits" "_law_digits" N m1 843,zt,ze,tu [S "source" 1308,S "token" 1309,S "worth" 1310,S "way" 1311,S "escape" 1312],zt,fp (aB 65) "_law_word" "_law_word",co "_law_word" "_law_word" 1305 614 2 845 1313,fq (aB 65) "_law_word" "_law_word" N m1 850,zt,ze,tu [S "source" 1319,S "row" 1320,S "text" 1321,S "spot" 1322,S "gap" 1323,S "both" 1324],zt,fp (aB 66) "_law_text" "_law_text",co "_law_text" "_law_text" 1316 635 2 852 1325,fq (aB 66) "_law_text" "_law_text" N m1 857,zt,ze,tu [S "row" 1331,S "open_ones" 1332,S "ended" 1333,S "token" 1334],zt,fp (aB 67) "_law_is_deep" "_law_is_deep",co "_law_is_deep" "_law_is_deep" 1328 645 1 859 1335,fq (aB 67) "_law_is_deep" "_law_is_deep" N m1 864,zt,ze,tu [S "row" 1341,S "depth" 1342,S "ended" 1343,S "best" 1344,S "level" 1345,S "spot" 1346,S "token" 1347,S "left" 1348,S "right" 1349,S "body" 1350],zt,fp (aB 68) "_law_tree" "_law_tree",co "_law_tree" "_law_tree" 1338 664 1 866 1351,fq (aB 68) "_law_tree" "_law_tree" N m1 871,zt,ze,fp (aB 69) "_law_sum" "_law_sum",fd (T "code") [S "_law_sum" 1354,S "_law_sum" 1355,G 1356,J 706,J 3,J 0,J 0,J 3,R 873,B true,J 181,R 874,N,N,N,R 875,J 1357,J 706,G 1358],fq (aB 69) "_law_sum" "_law_sum" N m1 876,zt,ze,tu [S "sign" 1363,S "one" 1364,S "other" 1365,S "cut" 1366,S "rest" 1367],zt,fp (aB 70) "_law_two" "_law_two",co "_law_two" "_law_two" 1360 714 3 878 1368,fq (aB 70) "_law_two" "_law_two" N m1 883,zt,ze,tu [S "tree" 1374,S "known" 1375,S "here" 1376,S "body" 1377,S "left" 1378,S "right" 1379,S "worth" 1380],zt,fp (aB 71) "_law_worth" "_law_worth",co "_law_worth" "_law_worth" 1371 733 3 885 1381,fq (aB 71) "_law_worth" "_law_worth" N m1 890,zt,ze,tu [S "text" 1387],zt,fp (aB 72) "_law_read" "_law_read",co "_law_read" "_law_read" 1384 761 1 892 1388,fq (aB 72) "_law_read" "_law_read" N m1 897,zt]
noncomputable def Ms(P:Np):List Obj:=[ze,tu [S "node" 1394,S "scope" 1395],zt,fp (aB 73) "_law_single" "_law_single",co "_law_single" "_law_single" 1391 766 2 899 1396,fq (aB 73) "_law_single" "_law_single" N m1 904,zt,ze,tu [S "tree" 1402],zt,fp (aB 74) "_law_leaves" "_law_leaves",co "_law_leaves" "_law_leaves" 1399 771 1 906 1403,fq (aB 74) "_law_leaves" "_law_leaves" N m1 911,zt,ze,tu [S "text" 1409,S "at" 1410,S "tree" 1411,S "depth" 1412,S "end" 1413,S "node" 1414],zt,fp (aB 75) "_law_is_spare" "_law_is_spare",co "_law_is_spare" "_law_is_spare" 1406 777 3 913 1415,fq (aB 75) "_law_is_spare" "_law_is_spare" N m1 918,zt,ze,fp (aB 76) "law" "law",fd (T "code") [S "law" 1418,S "law" 1419,G 1420,J 785,J 1,J 0,J 0,J 3,R 920,B true,J 181,R 921,N,N,N,R 922,J 1421,J 785,G 1422],fq (aB 76) "law" "law" N m1 923]
noncomputable def Lf(P:Np):List Obj:=K0 P++(K1 P++(K2 P++(K3 P++(K4 P++(K5 P++(K6 P++(K7 P++(K8 P++(K9 P++(Mn P++(Mo P++(Mp P++(Mq P++(Mr P++(Ms P)))))))))))))))
noncomputable def H1(P:Np):Om:=⟨⟨Lf P⟩,{}⟩
noncomputable def Lm(P:Np):List Obj:=(((Lf P).take 547).set 3 (di P (T "dict") (("__name__",165,m4)::ge.take 37) 38)).set 12 (fd N (gf.take 69))
noncomputable def ev:List Obj->List Obj
 |[]=>[]
 |[x]=>[x]
 |x::_::r=>x::ev r
noncomputable def D5:Nat->List Obj->BT
 |n+1,x::r=>nd x (D5 n (ev r)) (D5 n (ev (r.drop 1)))
 |_,_=>nl
noncomputable def kR:Env:={scope:=pw.main.scope,locals:=mainNs,globals:=mainNs,cells:=[],code:= .ref 13,frame:=some 14}
noncomputable def cE:Code:= .body (RS pw) kR
noncomputable def oy(a n:Nat):List OP:=(pw.main.body.drop a).take n
noncomputable def st(t:BT)(n toks:Nat)(os:O7):SharedT:=⟨t,n,{},#[],{},toks,os⟩
noncomputable abbrev tf:Frame:=topFrame ⟨0,0,0,0⟩
noncomputable abbrev iw:Option M_:=some (.ref 6)
noncomputable abbrev t0(P:Np):BT:=D5 12 (L0 P)
noncomputable abbrev t1(P:Np):BT:=D5 12 (Lf P)
noncomputable abbrev tm(P:Np):BT:=D5 12 (Lm P)
theorem bv(w:OY)(os:O7):topGo Rg pw w 11 iw 12 ⟨Qp w.params,#[],U1,Vv,os⟩ (topStub pw)=
  some ((st (t0 w.params) 15 187 os).abs,⟨denote Rg cE,cE,⟨0,0,0,0⟩,[tf]⟩):=by kernel_rfl
theorem D6(w:OY)(os:O7):segRun Rg pw w 11 iw 1 1 (st (t0 w.params) 15 187 os).abs (blockOf (RS pw) kR cE ⟨0,0,0,0⟩ [tf])=
  some (.next,(st (t0 w.params) 15 187 os).abs,cE,⟨0,0,0,0⟩):=by kernel_rfl
theorem Mt(w:OY)(os:O7):PySem.W.Fast.tw10110043849684766642 PySem.W.Fast.tw14364793385576792824 pw w 11 iw 1 4404 (st (t0 w.params) 15 187 os) (UE (oy 0 32) kR cE ⟨0,0,0,0⟩ [tf])=
  some (.next,st (tm w.params) 547 904 os,cE,⟨325,0,338,20⟩):=by kernel_rfl
theorem p0(w:OY)(os:O7):segRun Rg pw w 11 iw 1 4404 (st (t0 w.params) 15 187 os).abs (UE (oy 0 32) kR cE ⟨0,0,0,0⟩ [tf])=
  some (.next,(st (tm w.params) 547 904 os).abs,cE,⟨325,0,338,20⟩):=by
 have h:=Mt w os;rw[←PySem.W.Fast.te10110043849684766642,←PySem.W.Fast.te14364793385576792824]at h;exact segRun_of h
theorem Mu(w:OY)(os:O7):PySem.W.Fast.tw10110043849684766642 PySem.W.Fast.tw14364793385576792824 pw w 11 iw 1 2012 (st (tm w.params) 547 904 os) (UE (oy 32 45) kR cE ⟨325,0,338,20⟩ [tf])=
  some (.next,st (t1 w.params) 925 1424 os,cE,⟨785,0,854,77⟩):=by kernel_rfl
theorem p1(w:OY)(os:O7):segRun Rg pw w 11 iw 1 2012 (st (tm w.params) 547 904 os).abs (UE (oy 32 45) kR cE ⟨325,0,338,20⟩ [tf])=
  some (.next,(st (t1 w.params) 925 1424 os).abs,cE,⟨785,0,854,77⟩):=by
 have h:=Mu w os;rw[←PySem.W.Fast.te10110043849684766642,←PySem.W.Fast.te14364793385576792824]at h;exact segRun_of h
theorem G6(w:OY)(os:O7):PySem.W.Fast.tw14082659384304107361 PySem.W.Fast.tw14364793385576792824 pw w 11 iw 2 (st (t1 w.params) 925 1424 os).abs (restOf [] kR cE ⟨785,0,854,77⟩ [tf])=
  some ⟨H1 w.params,#[],{},1424,os⟩:=by kernel_rfl
theorem fin(w:OY)(os:O7):topRun Rg pw w 11 iw 2 (st (t1 w.params) 925 1424 os).abs (restOf [] kR cE ⟨785,0,854,77⟩ [tf])=
  some ⟨H1 w.params,#[],{},1424,os⟩:=by
 have h:=G6 w os;rw[←PySem.W.Fast.te14082659384304107361,←PySem.W.Fast.te14364793385576792824]at h;exact h
theorem A8:RS pw=oy 0 32++(oy 32 45++[]):=by kernel_rfl
theorem D7(w:OY)(os:O7):topRun Rg pw w 11 iw 6418 (st (t0 w.params) 15 187 os).abs (restOf (RS pw) kR cE ⟨0,0,0,0⟩ [tf])=some ⟨H1 w.params,#[],{},1424,os⟩:=by rw[A8];exact piece_app (p0 w os) (piece_app (p1 w os) (fin w os))
theorem A9(w:OY)(os:O7):topRun Rg pw w 11 iw 6431 ⟨Qp w.params,#[],U1,Vv,os⟩ (topStub pw)=some ⟨H1 w.params,#[],{},1424,os⟩:=
 go_top (n:=12) (N:=6419) (bv w os) (piece_block (n:=1) (N:=6418) (D6 w os) (D7 w os))
set_option backward.match.sparseCases true
noncomputable def qw:Px:={pw with main:={pw.main with body:=pw.main.body.drop 76}}
noncomputable def eE:List Str:=(pw.main.scope.names.map (·.1)).filter (fun n=>n != "law")
theorem D8:opening pw=plainProg pw.main.scope.names:=by kernel_rfl
theorem A_(s:Nc):fenceModules? pw s=some s:=by kernel_rfl
theorem D9(w:OY):((Qp w.params).isNs mainGlobals&&(#[]:Array S5).size==0,(Qp w.params).objs.size,(Qp w.params).nsMap mainGlobals (NH "__annotations__"))=(true,11,iw):=by kernel_rfl
noncomputable abbrev sF(w:OY)(os:O7):Nc:=⟨H1 w.params,#[],{},1424,os⟩
noncomputable abbrev GG:Nc->Bool:=fun _=>true
theorem D_(w:OY)(os:O7):staticsOk (R5 pw.main.body) (Qp w.params) (H1 w.params)=true:=by kernel_rfl
theorem D'(w:OY)(os:O7):namesBound pw (H1 w.params)=true:=by kernel_rfl
theorem Ea(w:OY)(os:O7):gensDone (sF w os)=true:=by kernel_rfl
theorem Eb(w:OY)(os:O7):laidKept (Qp w.params) (H1 w.params)=true:=by kernel_rfl
theorem A'(w:OY)(os:O7):PySem.W.Fast.tw4187177175401517315 qw eE (R5 pw.main.body) GG true (sF w os)=openGood qw eE:=by kernel_rfl
theorem aI{a b:Bool}(h:a=true)(k:b=true):(a&&b)=true:=by subst h;exact k
set_option maxHeartbeats 4000000 in
theorem Ec:PySem.W.Fast.tw9446332074065402090 PySem.Challenge.rw_nn0067_01=true:=by
 delta PySem.W.Fast.tw9446332074065402090;refine aI (aI (aI (aI (aI (aI (aI (aI (aI (aI (aI (aI (aI (aI (aI (aI (aI (aI ?_ ?_) ?_) ?_) ?_) ?_) ?_) ?_) ?_) ?_) ?_) ?_) ?_) ?_) ?_) ?_) ?_) ?_) ?_
 .delta PySem.W.Fast.tw17960256430627541270;refine aI (aI ?_ ?_) ?_
  .delta PySem.W.Fast.tw2436336058641802641;refine aI (aI (aI (aI (aI (aI (aI (aI (aI (aI (aI (aI (aI ?_ ?_) ?_) ?_) ?_) ?_) ?_) ?_) ?_) ?_) ?_) ?_) ?_) ?_
   .delta PySem.W.Fast.tw12908688711261696721;refine aI (aI (aI (aI (aI ?_ ?_) ?_) ?_) ?_) ?_
    case refine_5=>
     rw[show PySem.W.R.filterR (PySem.W.Fast.tw13343964577679436407 (PySem.W.Fast.tw2368527892694137696 PySem.Challenge.rw_nn0067_01).prog (PySem.W.Fast.tw2368527892694137696 PySem.Challenge.rw_nn0067_01).prog.main.body) [⟨⟨[118,97,114,115]⟩⟩,⟨⟨[100,105,114]⟩⟩,⟨⟨[108,111,99,97,108,115]⟩⟩]=[] from by as_aux_lemma=>kernel_rfl]
     as_aux_lemma=>kernel_rfl
    all_goals as_aux_lemma=>kernel_rfl
   all_goals kernel_rfl
  all_goals kernel_rfl
 all_goals kernel_rfl
abbrev rl:OpenLaw:=PySem.Challenge.rw_nn0067_01
noncomputable abbrev GH:Nc->Om×Nat:=fun s=>(s.heap,s.toks)
noncomputable abbrev GI:OY->Om×Nat:=fun w=>(H1 w.params,1424)
theorem Ed(w:OY)(os:O7):openSeen qw eE (R5 pw.main.body) GG true (sF w os)=openGood qw eE:=by have h:=A' w os;rw[←PySem.W.Fast.te4187177175401517315]at h;exact h
theorem xp:LeftO pw qw eE GG GH GI 20000:=
 LeftO.of_pieces (H₀:=Qp) (H₁:=H1) (gs₀:=#[]) (gs₁:=#[]) (d₀:=U1) (d₁:={}) (k₀:=Vv) (k₁:=1424) (m₀:=11) (ann:=iw)
  (boot_open D8 (by decide) A_) D9 A9 (by decide) (fun w=>by
   funext os
   refine Prod.ext ?_ (Prod.ext ?_ rfl)
   .show(staticsOk (R5 pw.main.body) (Qp w.params) (H1 w.params)&&namesBound pw (H1 w.params)&&gensDone (sF w os)&&laidKept (Qp w.params) (H1 w.params))=true;rw[D_ w os,D' w os,Ea w os,Eb w os];rfl
   .exact Ed w os)
theorem G7:rl.wellSaid=true:=by have h:=Ec;rw[←PySem.W.Fast.te9446332074065402090]at h;exact h
noncomputable def b_:DefRec×List (Str×PySem.Expr):=(defOf qw "law").getD (⟨"law",⟨[],[],none,[],[],none,[]⟩,[],default,default⟩,[])
theorem Ee:defOf qw rl.row.name=some (b_.1,b_.2):=by kernel_rfl
theorem tW:rl.row.prog.theDef rl.row.name=some (b_.1.params,b_.1.body,b_.1.scope):=by kernel_rfl
theorem G8:kwWritten? b_.1.params.kwonlyargs b_.1.params.kw_defaults=some b_.2:=by kernel_rfl
theorem G9:(chainsOk qw&&opensWell rl.row.prog&&(frees rl.row.toRowW&&rl.row.within.isEmpty))=true:=by kernel_rfl
theorem Ba:rl.row.prog.bare:=⟨rfl,rfl,rfl,rfl,rfl,by decide+kernel⟩
theorem oE:rl.row.toRowW.promised:=by w_witness2
theorem xq(P6:WalkX qw eE (fun _ _=>True) GH GI rl.row.toRowW b_.1 b_.2 fun f vs=>PySem.call f vs):rl.Holds:=
 holds_law G7 fun hs=>holds_openX (r:=rl.row) (q:=qw) (loose:=eE) (Xt:=GG) (XP:=fun _ _=>True) (Yf:=GH) (Ya:=GI) (N:=20000) xp
  (fun _ _=>trivial) (fun _ _ _ _ _=>trivial) Ee tW G8 (fun s _=>recFacts_of (by rfl)) (by rfl) hs G9 Ba oE P6
set_option bootstrap.genMatcherCode false
set_option maxHeartbeats 1000000
set_option genSizeOf false
set_option genInjectivity false
theorem aj{α:Type}{p:Prop}{a:α}(h:none=some a):p:=nomatch h
theorem bb{α:Type}{p:Prop}{a:α}(h:some a=none):p:=nomatch h
theorem Bb{α:Type}{p:Prop}{a:α}{l:List α}(h:[]=a::l):p:=nomatch h
theorem kT{α:Type}{p:Prop}{a:α}{l:List α}(h:a::l=[]):p:=nomatch h
theorem aK{p:Prop}(h:false=true):p:=nomatch h
theorem df{p:Prop}(h:true=false):p:=nomatch h
theorem bc{p:Prop}(h:(p->False)->False):p:=NS h
theorem bF{α β:Type}{a:Option α}{f:α->Option β}{b:β}{p:Prop}(h:a.bind f=some b)(k:∀x,a=some x->f x=some b->p):p:=(Option.bind_eq_some_iff.mp h).elim fun x e=>k x e.1 e.2
theorem cq{α β:Type}{a:Option α}{f:α->β}{b:β}{p:Prop}(h:a.map f=some b)(k:∀x,a=some x->f x=b->p):p:=(Option.map_eq_some_iff.mp h).elim fun x e=>k x e.1 e.2
theorem i_{α β:Type}{l:List α}{f:α->β}{b:β}{p:Prop}(h:b∈l.map f)(k:∀x,x∈l->f x=b->p):p:=(List.mem_map.mp h).elim fun x e=>k x e.1 e.2
theorem fA{α:Type}{c p:Prop}{i:Rl c}{a:Option α}{b:α}(h:(if c then a else none)=some b)(k:c->a=some b->p):p:=(Decidable.em c).elim (fun c=>k c ((Nd c).symm.trans h)) fun c=>aj ((Na c).symm.trans h)
theorem qh{a b:Bool}{p:Prop}(h:(a&&b)=true)(k:a=true->b=true->p):p:=k ((N1 a b).mp h).1 ((N1 a b).mp h).2
theorem M4{α:Type}{q:α->Prop}{p:Prop}(h:∃x,q x)(k:∀x,q x->p):p:=h.elim k
theorem DO{α:Type}{a:Option α}{p:Prop}(h:a.isSome=true)(k:∀x,a=some x->p):p:=(Option.isSome_iff_exists.mp h).elim k
set_option backward.match.sparseCases false
set_option genCtorIdx false
theorem cF(h:(a&&b)=true):a=true/\b=true:=(N1 a b).mp h
theorem Ax(h:a=true)(c:b=true):(a&&b)=true:=(N1 a b).mpr ⟨h,c⟩
theorem cf{d:Type}{c:Prop}{i:Rl c}{a b r:d}(h:c)(e:ite c a b=r):a=r:=(Nd h).symm.trans e
theorem bV{d:Type}{c:Prop}{i:Rl c}{a b r:d}(h:¬c)(e:ite c a b=r):b=r:=(Na h).symm.trans e
theorem dt{a:Type}{p:a->Prop}{c:Prop}{i:Rl c}{x y:a}(b:c->p x)(d:¬c->p y):p (if c then x else y):=by
 by_cases h:c
 .rw[Nd h];exact b h
 .rw[Na h];exact d h
structure Cx where
 w:OY
 B0:Om
 base:∀a o,(H1 w.params).get? a=some o->B0.get? a=some o
noncomputable abbrev Cx.M(C:Cx):Model:=Ob pw C.w
noncomputable abbrev Cx.P(C:Cx):Np:=C.w.params
set_option genCtorIdx true in
inductive PV where
 |none
 |bool (b:Bool)
 |int (i:Int)
 |str (s:List Nat)
 |tup (vs:List PV)
 |lst (vs:List PV)
 |obj (c:Nat) (fs:List PV)
 |ref (a:NC)
 |iref (c:Nat) (d:NC)
 deriving Inhabited
noncomputable abbrev Fz:=NC->Option Obj
noncomputable abbrev fJ(c d:NC):Obj:={cls:= .ref c,dict:=some d,data:= .plain}
noncomputable abbrev bH(t:String)(vs:Array M_)(n:Nat):Obj:={cls:= .type t,data:= .seq vs n}
noncomputable abbrev ez(es:Array N6)(n:Nat):Obj:={cls:= .type "dict",data:= .dict es n}
noncomputable def f7:List Str:=["line","column","kind","text","worth","at","tokens","name","sign","body","left","right","plus","minus","equates","what"]
noncomputable def aC(i:Nat):Str:=f7.getD i "other"
noncomputable def oF:List (Nat×List Nat):=[(45,[0,1]),(195,[2,3,4,5]),(286,[3,0,5]),(391,[6,5]),(447,[2,4]),(473,[2,7]),(492,[2]),(518,[2,8,9]),(544,[2,8,10,11]),(655,[4,12,13]),(703,[14])]
noncomputable def aP(c:Nat):List Nat:=(oF.lookup c).getD []
noncomputable def e'(s:List Nat):Prop:=s.length<=1048576/\∀c∈s,c<1114112
noncomputable def fa{a:Type}(s:List a):Prop:=s.length<=1048576
noncomputable def mB(P:Np)(n:Str)(e:N6):Prop:=e.hash=Pn P n/\∃t,e.key= .str n t
mutual
inductive VR(P:Np)(fz:Fz):PV->M_->Prop
 |none:VR P fz .none .none
 |bool (b:Bool):VR P fz (.bool b) (.bool b)
 |int (i:Int) (t:Tok):VR P fz (.int i) (.int i t)
 |str (s:List Nat) (t:Tok) (hs:e' s):VR P fz (.str s) (.str ⟨s.toArray⟩ t)
 |tup {vs:List PV} {a:NC} {ws:List M_} {n:Nat} (ha:fz a=some (bH "tuple" ws.toArray n)) (hl:fa vs) (h:aL P fz vs ws):VR P fz (.tup vs) (.ref a)
 |lst {vs:List PV} {a:NC} {ws:List M_} {n:Nat} (ha:fz a=some (bH "list" ws.toArray n)) (hl:fa vs) (h:aL P fz vs ws):VR P fz (.lst vs) (.ref a)
 |obj {c:Nat} {fs:List PV} {a dx:NC} {es:List N6} {n:Nat} (ha:fz a=some (fJ c dx)) (hd:fz dx=some (ez es.toArray n))
   (h:dI P fz ((aP c).map aC) fs es):VR P fz (.obj c fs) (.ref a)
 |ref (a:NC):VR P fz (.ref a) (.ref a)
 |iref {c:Nat} {a dx:NC} (ha:fz a=some (fJ c dx)):VR P fz (.iref c dx) (.ref a)
inductive aL(P:Np)(fz:Fz):List PV->List M_->Prop
 |nil:aL P fz [] []
 |cons {v:PV} {vs:List PV} {x:M_} {xs:List M_} (h:VR P fz v x) (hs:aL P fz vs xs):aL P fz (v::vs) (x::xs)
inductive dI(P:Np)(fz:Fz):List Str->List PV->List N6->Prop
 |nil:dI P fz [] [] []
 |cons {n:Str} {ns:List Str} {v:PV} {vs:List PV} {e:N6} {es:List N6} (hk:mB P n e) (h:VR P fz v e.val) (hs:dI P fz ns vs es):dI P fz (n::ns) (v::vs) (e::es)
end
theorem aL.ind{P:Np}{fz:Fz}{m:List PV->List M_->Prop}(h:aL P fz v x)(n:m [] [])(c:∀{v vs x xs},VR P fz v x->aL P fz vs xs->m vs xs->m (v::vs) (x::xs)):m v x:=
 aL.rec (motive_1:=fun _ _ _=>True) (motive_2:=fun a b _=>m a b) (motive_3:=fun _ _ _ _=>True) trivial (fun _=>trivial) (fun _ _=>trivial) (fun _ _ _=>trivial) (fun _ _ _ _=>trivial) (fun _ _ _ _=>trivial) (fun _ _ _ _=>trivial) (fun _=>trivial) (fun _=>trivial) n (fun h hs _ d=>c h hs d) trivial (fun _ _ _ _ _=>trivial) h
theorem dI.ind{P:Np}{fz:Fz}{m:List Str->List PV->List N6->Prop}(h:dI P fz n v x)(z:m [] [] [])(c:∀{n ns v vs e es},mB P n e->VR P fz v e.val->dI P fz ns vs es->m ns vs es->m (n::ns) (v::vs) (e::es)):m n v x:=
 dI.rec (motive_1:=fun _ _ _=>True) (motive_2:=fun _ _ _=>True) (motive_3:=fun a b c _=>m a b c) trivial (fun _=>trivial) (fun _ _=>trivial) (fun _ _ _=>trivial) (fun _ _ _ _=>trivial) (fun _ _ _ _=>trivial) (fun _ _ _ _=>trivial) (fun _=>trivial) (fun _=>trivial) trivial (fun _ _ _ _=>trivial) z (fun k h hs _ d=>c k h hs d) h
theorem VR.mono{P:Np}{fz fz':Fz}(k:∀a o,fz a=some o->fz' a=some o)(h:VR P fz v x):VR P fz' v x:=
 VR.rec (motive_1:=fun a b _=>VR P fz' a b) (motive_2:=fun a b _=>aL P fz' a b) (motive_3:=fun a b c _=>dI P fz' a b c) .none .bool .int .str (fun d e _ h=> .tup (k _ _ d) e h) (fun d e _ h=> .lst (k _ _ d) e h) (fun d f _ h=> .obj (k _ _ d) (k _ _ f) h) .ref (fun d=> .iref (k _ _ d)) .nil (fun _ _ h hs=> .cons h hs) .nil (fun g _ _ h hs=> .cons g h hs) h
theorem aL.mono{P:Np}{fz fz':Fz}(k:∀a o,fz a=some o->fz' a=some o)(h:aL P fz v x):aL P fz' v x:=h.ind .nil fun a _ b=> .cons (a.mono k) b
theorem dI.mono{P:Np}{fz fz':Fz}(k:∀a o,fz a=some o->fz' a=some o)(h:dI P fz n v x):dI P fz' n v x:=h.ind .nil fun b a _ c=> .cons b (a.mono k) c
theorem aL.append{P:Np}{fz:Fz}(h:aL P fz v x)(h':aL P fz b c):aL P fz (v++b) (x++c):=h.ind (m:=fun v x=>aL P fz (v++b) (x++c)) h' fun a _ d=> .cons a d
theorem aL.length{P:Np}{fz:Fz}{v:List PV}{x:List M_}(h:aL P fz v x):x.length=v.length:=h.ind (m:=fun v x=>x.length=v.length) rfl fun _ _ a=>Nw (·+1) a
inductive G_(P:Np)(fz:Fz)(v:PV)(vs:List PV)(x:List M_):Prop
 |mk (y:M_) (ys:List M_) (e:x=y::ys) (h:VR P fz v y) (t:aL P fz vs ys)
noncomputable def Ha(P:Np)(fz:Fz)(v:List PV)(x:List M_):Prop:=match v with
 |[]=>x=[]
 |v::vs=>G_ P fz v vs x
theorem aL.inv{P:Np}{fz:Fz}(h:aL P fz v x):Ha P fz v x:=h.ind rfl fun a b _=>⟨_,_,rfl,a,b⟩
theorem aL.get{P:Np}{fz:Fz}{v:List PV}{x:List M_}{i:Nat}{p:PV}(h:aL P fz v x):v[i]? =some p->∃q,x[i]? =some q/\VR P fz p q:=
 h.ind (m:=fun v x=>∀i,v[i]? =some p->∃q,x[i]? =some q/\VR P fz p q) (fun _ h=>by exact aj h) (fun a _ b i h=>by
  cases i with
  |zero=>exact⟨_,rfl,Nh h▸a⟩
  |succ i=>exact b i h) i
theorem aL.take{P:Np}{fz:Fz}{v:List PV}{x:List M_}(i:Nat)(h:aL P fz v x):aL P fz (v.take i) (x.take i):=
 h.ind (m:=fun v x=>∀i,aL P fz (v.take i) (x.take i)) (fun i=>SL i .nil fun _=> .nil) (fun a _ b i=>SL i .nil fun i=> .cons a (b i)) i
theorem aL.drop{P:Np}{fz:Fz}{v:List PV}{x:List M_}(i:Nat)(h:aL P fz v x):aL P fz (v.drop i) (x.drop i):=
 h.ind (m:=fun v x=>∀i,aL P fz (v.drop i) (x.drop i)) (fun i=>SL i .nil fun _=> .nil) (fun a b c i=>SL i (.cons a b) c) i
theorem aL.reverse{P:Np}{fz:Fz}{v:List PV}{x:List M_}(h:aL P fz v x):aL P fz v.reverse x.reverse:=
 h.ind (m:=fun v x=>aL P fz v.reverse x.reverse) .nil fun a _ b=>by rw[Qk,Qk];exact b.append (.cons a .nil)
inductive Hb(P:Np)(fz:Fz)(n:Str)(ns:List Str)(v:List PV)(x:List N6):Prop
 |mk (w:PV) (vs:List PV) (e:N6) (es:List N6) (ev:v=w::vs) (ex:x=e::es) (k:mB P n e) (h:VR P fz w e.val) (t:dI P fz ns vs es)
noncomputable def Hc(P:Np)(fz:Fz)(n:List Str)(v:List PV)(x:List N6):Prop:=match n with
 |[]=>v=[]/\x=[]
 |n::ns=>Hb P fz n ns v x
theorem dI.inv{P:Np}{fz:Fz}(h:dI P fz n v x):Hc P fz n v x:=h.ind ⟨rfl,rfl⟩ fun k a b _=>⟨_,_,_,_,rfl,rfl,k,a,b⟩
inductive Ef(P:Np)(fz:Fz)(k:String)(vs:List PV)(x:M_):Prop
 |mk (a:NC) (ws:List M_) (n:Nat) (e:x= .ref a) (ha:fz a=some (bH k ws.toArray n)) (hl:fa vs) (h:aL P fz vs ws)
inductive Hd(P:Np)(fz:Fz)(c:Nat)(fs:List PV)(x:M_):Prop
 |mk (a dx:NC) (es:List N6) (n:Nat) (e:x= .ref a) (ha:fz a=some (fJ c dx)) (hd:fz dx=some (ez es.toArray n)) (h:dI P fz ((aP c).map aC) fs es)
noncomputable def LO(P:Np)(fz:Fz)(v:PV)(x:M_):Prop:=match v with
 |.none=>x= .none
 |.bool b=>x= .bool b
 |.int i=>∃t,x= .int i t
 |.str s=>∃t,x= .str ⟨s.toArray⟩ t/\e' s
 |.tup vs=>Ef P fz "tuple" vs x
 |.lst vs=>Ef P fz "list" vs x
 |.obj c d=>Hd P fz c d x
 |.ref a=>x= .ref a
 |.iref c e=>∃a,x= .ref a/\fz a=some (fJ c e)
theorem VR.inv{P:Np}{fz:Fz}(h:VR P fz v x):LO P fz v x:=
 VR.rec (motive_1:=fun v x _=>LO P fz v x) (motive_2:=fun _ _ _=>True) (motive_3:=fun _ _ _ _=>True) rfl (fun _=>rfl) (fun _ t=>⟨t,rfl⟩) (fun _ t h=>⟨t,rfl,h⟩) (fun a b h _=>⟨_,_,_,rfl,a,b,h⟩) (fun a b h _=>⟨_,_,_,rfl,a,b,h⟩) (fun a c h _=>⟨_,_,_,_,rfl,a,c,h⟩) (fun _=>rfl) (fun a=>⟨_,rfl,a⟩) trivial (fun _ _ _ _=>trivial) trivial (fun _ _ _ _ _=>trivial) h
set_option genCtorIdx true in
inductive MO where
 |lst (vs:List PV)
 |dct (kvs:List (List Nat×PV))
 |ins (c:Nat) (as:List Nat) (vs:List PV)
noncomputable abbrev aa:=NC->Option MO
noncomputable def aa.upd(σ:aa)(a:NC)(m:MO):aa:=fun b=>if b=a then some m else σ b
theorem aa.uS(σ:aa)(a:NC)(m:MO):σ.upd a m a=some m:=by simp[aa.upd]
theorem aa.uN(σ:aa)(m:MO)(h:b≠a):σ.upd a m b=σ b:=by simp[aa.upd,h]
noncomputable def aa.nil:aa:=fun _=>none
noncomputable def aq(s:List Nat):Str:=⟨s.toArray⟩
inductive MR(P:Np)(fz:Fz):MO->Obj->Prop
 |lst {vs:List PV} {ws:List M_} {n:Nat} (hl:fa vs) (h:aL P fz vs ws):MR P fz (.lst vs) (bH "list" ws.toArray n)
 |dct {kvs:List (List Nat×PV)} {es:List N6} {n:Nat} (hl:fa kvs) (hk:∀k∈kvs,e' k.1) (hd:(kvs.map (·.1)).Nodup)
   (h:dI P fz (kvs.map fun k=>aq k.1) (kvs.map (·.2)) es):MR P fz (.dct kvs) (ez es.toArray n)
 |ins {c:Nat} {as:List Nat} {vs:List PV} {es:List N6} {n:Nat} (hb:∀a∈as,a<16) (h:dI P fz (as.map aC) vs es):MR P fz (.ins c as vs) (ez es.toArray n)
theorem MR.mono{P:Np}{fz fz':Fz}(k:∀a o,fz a=some o->fz' a=some o){o:Obj}(h:MR P fz m o):MR P fz' m o:=by
 cases h with
 |lst b h=>exact .lst b (h.mono k)
 |dct b c d h=>exact .dct b c d (h.mono k)
 |ins e h=>exact .ins e (h.mono k)
noncomputable def Mv(P:Np)(fz:Fz)(m:MO)(o:Obj):Prop:=match m with
 |.lst vs=>∃ws n,o=bH "list" ws.toArray n/\fa vs/\aL P fz vs ws
 |.dct kvs=>∃es n,o=ez es.toArray n/\fa kvs/\(∀k∈kvs,e' k.1)/\(kvs.map (·.1)).Nodup/\dI P fz (kvs.map fun k=>aq k.1) (kvs.map (·.2)) es
 |.ins _ as vs=>∃es n,o=ez es.toArray n/\(∀a∈as,a<16)/\dI P fz (as.map aC) vs es
theorem MR.inv{P:Np}{fz:Fz}{o:Obj}(h:MR P fz m o):Mv P fz m o:=by
 cases h with
 |lst a h=>exact⟨_,_,rfl,a,h⟩
 |dct a b c h=>exact⟨_,_,rfl,a,b,c,h⟩
 |ins d h=>exact⟨_,_,rfl,d,h⟩
inductive He(h:Om)(a:NC):Prop
 |mk (o:Obj) (es:Array N6) (n:Nat) (e:h.get? a=some o) (d:o.data= .dict es n)
structure GJ(fz:Fz)(σ:aa)(h:Om)(a:NC):Prop where
 f:fz a=none
 l:σ a=none
 d:He h a
inductive Hf(P:Np)(fz:Fz)(h:Om)(a:NC)(m:MO):Prop
 |mk (o:Obj) (e:h.get? a=some o) (r:MR P fz m o)
structure Hg(P:Np)(fz:Fz)(h:Om)(a:NC)(m:MO):Prop where
 f:fz a=none
 d:Hf P fz h a m
structure aw(C:Cx)(σ:aa)(fz:Fz)(FR:List NC)(h:Om):Prop where
 base:∀a o,C.B0.get? a=some o->fz a=some o
 sub:∀a o,fz a=some o->h.get? a=some o
 fr:∀a∈FR,GJ fz σ h a
 led:∀a m,σ a=some m->Hg C.P fz h a m
structure oH(FR:List NC)(σ:aa)(fz:Fz)(s:Nc)(Z6:aa)(fz':Fz)(s':Nc):Prop where
 fzk:∀a o,fz a=some o->fz' a=some o
 keep:∀a o,s.heap.get? a=some o->σ a=none->a∉FR->s'.heap.get? a=some o
 frk:∀a∈FR,∀o,s.heap.get? a=some o->∃sl,s'.heap.get? a=some {o with slots:=sl}
 lk:∀a,σ a≠none->∃o,s'.heap.get? a=some o
 ledn:∀a,Z6 a≠none->σ a≠none\/s.heap.get? a=none
 fzn:∀a,fz' a≠none->fz a≠none\/σ a≠none\/s.heap.get? a=none
 gens:s'.gens=s.gens
 os:s'.os=s.os
theorem oH.refl{C:Cx}{σ:aa}{fz:Fz}{s:Nc}(G:aw C σ fz b s.heap):oH b σ fz s σ fz s:=
 ⟨fun _ _ h=>h,fun _ _ h _ _=>h,fun a _ o h=>⟨o.slots,h⟩,fun a h=>by
  cases q:σ a with
  |none=>exact absurd q h
  |some m=>obtain⟨_,o,c,_⟩:=G.led a m q;exact⟨o,c⟩,fun _ h=> .inl h,fun _ h=> .inl h,rfl,rfl⟩
theorem oH.there{σ b:aa}{fz fz':Fz}{s s':Nc}(x:oH c σ fz s b fz' s'){o:Obj}(h:s.heap.get? a=some o):∃o',s'.heap.get? a=some o':=by
 by_cases q:σ a=none
 .by_cases r:a∈c
  .obtain⟨d,e⟩:=x.frk a r o h;exact⟨_,e⟩
  .exact⟨_,x.keep a o h q r⟩
 .exact x.lk a q
theorem oH.gone{σ b:aa}{fz fz':Fz}{s s':Nc}(x:oH c σ fz s b fz' s')(h:s'.heap.get? a=none):s.heap.get? a=none:=by
 cases q:s.heap.get? a with
 |none=>rfl
 |some o=>obtain⟨o',e⟩:=x.there q;rw[e]at h;exact bb h
theorem oH.trans{σ d b:aa}{fz fz' c:Fz}{s s' f:Nc}(x:oH g σ fz s d fz' s')(y:oH g d fz' s' b c f):oH g σ fz s b c f:=by
 refine⟨fun a o h=>y.fzk a o (x.fzk a o h),fun a o h q r=>?_,fun a r o h=>?_,fun a q=>?_,fun a q=>?_,fun a q=>?_,y.gens.trans x.gens,y.os.trans x.os⟩
 .have h':=x.keep a o h q r;refine y.keep a o h' ?_ r;cases z:d a with
  |none=>rfl
  |some m=>
   rcases x.ledn a (by rw[z];simp)with u|u
   .exact absurd q u
   .rw[u]at h;exact aj h
 .obtain⟨k,e⟩:=x.frk a r o h;obtain⟨i,j⟩:=y.frk a r _ e;exact⟨i,j⟩
 .obtain⟨o,e⟩:=x.lk a q;exact y.there e
 .rcases y.ledn a q with u|u
  .exact x.ledn a u
  .exact .inr (x.gone u)
 .rcases y.fzn a q with u|u|u
  .exact x.fzn a u
  .exact(x.ledn a u).elim (fun z=> .inr (.inl z)) fun z=> .inr (.inr z)
  .exact .inr (.inr (x.gone u))
theorem oH.via_keep{σ:aa}{fz:Fz}{s s':Nc}(c:∀b o,s.heap.get? b=some o->s'.heap.get? b=some o)
 (f:∀a,σ a≠none->∃o,s.heap.get? a=some o) (g:s'.gens=s.gens) (i:s'.os=s.os):oH d σ fz s σ fz s':=
 ⟨fun _ _ h=>h,fun a o h _ _=>c a o h,fun a _ o h=>⟨o.slots,c a o h⟩,fun a h=>let ⟨o,e⟩:=f a h;⟨o,c a o e⟩,fun _ h=> .inl h,fun _ h=> .inl h,g,i⟩
noncomputable def Fz.ext(fz:Fz)(a:NC)(o:Obj):Fz:=fun b=>if b=a then some o else fz b
structure GS(C:Cx)(FR:List NC)(σ:aa)(fz:Fz)(s:Nc)(Z6:aa)(fz':Fz)(s':Nc):Prop where
 stp:oH FR σ fz s Z6 fz' s'
 good:aw C Z6 fz' FR s'.heap
section
variable{C:Cx}{FR:List NC}{σ:aa}{fz:Fz}{s s':Nc}
theorem aw.there(G:aw C σ fz FR s.heap)(a:NC)(h:σ a≠none):∃o,s.heap.get? a=some o:=by
 cases q:σ a with
 |none=>exact absurd q h
 |some m=>obtain⟨_,o,b,_⟩:=G.led a m q;exact⟨o,b⟩
theorem aw.free(G:aw C σ fz FR s.heap)(h:s.heap.get? a=none):fz a=none/\σ a=none/\a∉FR:=by
 refine⟨?_,?_,fun q=>?_⟩
 .cases q:fz a with
  |none=>rfl
  |some o=>have:=G.sub a o q;rw[h]at this;exact aj this
 .cases q:σ a with
  |none=>rfl
  |some m=>obtain⟨o,b⟩:=G.there a (by rw[q];simp);rw[h]at b;exact aj b
 .obtain⟨_,_,o,_,_,e,_⟩:=G.fr a q;rw[h]at e;exact aj e
theorem GS.keep(G:aw C σ fz FR s.heap)(c:∀b o,s.heap.get? b=some o->s'.heap.get? b=some o)(f:s'.gens=s.gens:=by rfl)(g:s'.os=s.os:=by rfl):GS C FR σ fz s σ fz s':=by
 refine⟨.via_keep c G.there f g,G.base,fun a o h=>c a o (G.sub a o h),fun a h=>?_,fun a m h=>?_⟩
 .obtain⟨x,y,o,es,n,e,d⟩:=G.fr a h;exact⟨x,y,o,es,n,c a o e,d⟩
 .obtain⟨x,o,e,r⟩:=G.led a m h;exact⟨x,o,c a o e,r⟩
theorem GS.fzNew(G:aw C σ fz FR s.heap){o:Obj}(f:s.heap.get? a=none)(c:∀b o,s.heap.get? b=some o->s'.heap.get? b=some o)(g:s'.heap.get? a=some o)
 (i:s'.gens=s.gens:=by rfl) (j:s'.os=s.os:=by rfl):GS C FR σ fz s σ (fz.ext a o) s':=by
 obtain⟨k,l,p⟩:=G.free f;have ex:∀b o',fz b=some o'->fz.ext a o b=some o':=fun b o' h=>by
  have:b≠a:=fun e=>by rw[e,k]at h;exact aj h
  simp[Fz.ext,this,h]
 refine⟨⟨ex,fun b o h _ _=>c b o h,fun a _ o h=>⟨o.slots,c a o h⟩,fun a h=>let ⟨o,e⟩:=G.there a h;⟨o,c a o e⟩,fun _ h=> .inl h,fun b h=>?_,i,j⟩,
  fun b o' h=>ex b o' (G.base b o' h),fun b o' h=>?_,fun b h=>?_,fun b m h=>?_⟩
 .by_cases e:b=a
  .exact .inr (.inr (e▸f))
  .simp only[Fz.ext,e,RO]at h;exact .inl h
 .by_cases e:b=a
  .subst e;simp[Fz.ext]at h;subst h;exact g
  .simp only[Fz.ext,e,RO]at h;exact c b o' (G.sub b o' h)
 .obtain⟨x,y,o',es,n,e,d⟩:=G.fr b h;have:b≠a:=fun q=>aj (f.symm.trans (q▸e));exact⟨by simp[Fz.ext,this,x],y,o',es,n,c b o' e,d⟩
 .obtain⟨x,o',e,r⟩:=G.led b m h;have:b≠a:=fun q=>aj (f.symm.trans (q▸e));exact⟨by simp[Fz.ext,this,x],o',c b o' e,r.mono ex⟩
theorem GS.ledNew(G:aw C σ fz FR s.heap){o:Obj}(f:s.heap.get? a=none)(c:∀b o,s.heap.get? b=some o->s'.heap.get? b=some o)(g:s'.heap.get? a=some o)
 (i:MR C.P fz m o) (j:s'.gens=s.gens:=by rfl) (k:s'.os=s.os:=by rfl):GS C FR σ fz s (σ.upd a m) fz s':=by
 obtain⟨l,u,v⟩:=G.free f;refine⟨⟨fun _ _ h=>h,fun b o h _ _=>c b o h,fun a _ o h=>⟨o.slots,c a o h⟩,fun a h=>let ⟨o,e⟩:=G.there a h;⟨o,c a o e⟩,fun b h=>?_,fun b h=> .inl h,j,k⟩,
  G.base,fun b o' h=>c b o' (G.sub b o' h),fun b h=>?_,fun b p h=>?_⟩
 .by_cases e:b=a
  .exact .inr (e▸f)
  .rw[aa.uN _ _ e]at h;exact .inl h
 .obtain⟨x,y,o',es,n,e,d⟩:=G.fr b h;have:b≠a:=fun q=>by rw[q,f]at e;exact aj e
  exact⟨x,by rw[aa.uN _ _ this];exact y,o',es,n,c b o' e,d⟩
 .by_cases e:b=a
  .subst e;rw[aa.uS]at h;injection h with z0;subst z0;exact⟨l,o,g,i⟩
  .rw[aa.uN _ _ e]at h;obtain⟨x,o',t,r⟩:=G.led b p h;exact⟨x,o',c b o' t,r⟩
theorem GS.ledUpd(G:aw C σ fz FR s.heap){o:Obj}(g:σ a≠none)(f:∀b o,b≠a->s.heap.get? b=some o->s'.heap.get? b=some o)(j:s'.heap.get? a=some o)
 (l:MR C.P fz m o) (p:s'.gens=s.gens:=by rfl) (t:s'.os=s.os:=by rfl):GS C FR σ fz s (σ.upd a m) fz s':=by
 obtain⟨m0,i⟩:∃m,σ a=some m:=by
  cases q:σ a with
  |none=>exact absurd q g
  |some m=>exact⟨m,rfl⟩
 obtain⟨k,w,h0,_⟩:=G.led a m0 i;have c:∀b∈FR,b≠a:=fun b h e=>by obtain⟨_,y,_⟩:=G.fr b h;rw[e]at y;exact g y
 refine⟨⟨fun _ _ h=>h,fun b o h q _=>f b o (fun e=>g (e▸q)) h,fun b h o e=>⟨o.slots,f b o (c b h) e⟩,fun b h=>?_,fun b h=>?_,fun b h=> .inl h,p,t⟩,
  G.base,fun b o' h=>f b o' (fun e=>by rw[e,k]at h;exact aj h) (G.sub b o' h),fun b h=>?_,fun b u h=>?_⟩
 .by_cases e:b=a
  .exact⟨o,e▸j⟩
  .obtain⟨o',h'⟩:=G.there b h;exact⟨o',f b o' e h'⟩
 .by_cases e:b=a
  .exact .inl (e▸g)
  .rw[aa.uN _ _ e]at h;exact .inl h
 .obtain⟨x,y,o',es,n,e,d⟩:=G.fr b h;exact⟨x,by rw[aa.uN _ _ (c b h)];exact y,o',es,n,f b o' (c b h) e,d⟩
 .by_cases e:b=a
  .subst e;rw[aa.uS]at h;injection h with z0;subst z0;exact⟨k,o,j,l⟩
  .rw[aa.uN _ _ e]at h;obtain⟨x,o',v,r⟩:=G.led b u h;exact⟨x,o',f b o' e v,r⟩
theorem GS.refl(G:aw C σ fz FR s.heap):GS C FR σ fz s σ fz s:=⟨.refl G,G⟩
theorem GS.trans{a b:aa}{c d:Fz}{s₁ e:Nc}(x:GS C FR σ fz s a c s₁)(y:GS C FR a c s₁ b d e):GS C FR σ fz s b d e:=⟨x.1.trans y.1,y.2⟩
end
structure rM(A:NT)(FR:List NC)(d:Nat):Prop where
 hand:A.handled=none
 frames:∃envs,A.frames=some envs/\envs.filterMap (·.frame)=FR/\∀env∈envs,env.scope.kind= .function/\env.frame.isSome=true
 depth:A.depth+2*d+4<=TA
 units:A.units+12*d+200<=TE
noncomputable def rN(c:Nat):NC:=match c with|0=>87|_=>99
inductive Mw(s:Nc)(FR:List NC)(σ:aa)(fz:Fz)(h:Om)(ea:NC)(vs:Array M_):Prop
 |mk (T:NC) (oT:Obj) (ts:Array M_) (r1:vs[1]? =some (.ref T)) (r2:T≠ea) (r3:s.heap.get? T=none) (r4:h.get? T=some oT) (r5:oT.data= .fields ts) (r6:4<=ts.size) (r7:σ T=none) (r8:fz T=none) (r9:T∉FR)
inductive jZ(s:Nc)(FR:List NC)(σ:aa)(fz:Fz)(h:Om)(c:Nat)(e:M_):Prop
 |mk (ea:NC) (oe:Obj) (vs:Array M_) (q1:e= .ref ea) (q2:s.heap.get? ea=none) (q3:h.get? ea=some oe) (q4:oe.cls= .ref (rN c)) (q5:oe.data= .fields vs) (q6:2<=vs.size) (q7:σ ea=none) (q8:fz ea=none) (q9:ea∉FR)
  (q10:vs[1]? =some .none\/Mw s FR σ fz h ea vs)
inductive PK{α β:Type}(C:Cx)(FR:List NC)(σ:aa)(fz:Fz)(s:Nc)(R:Fz->β->α->Prop)(Q:β->aa->Prop)(v:α)(s':Nc):Prop
 |mk (b:β) (Z6:aa) (fz':Fz) (g:GS C FR σ fz s Z6 fz' s') (r:R fz' b v) (q:Q b Z6)
inductive PX(C:Cx)(FR:List NC)(σ:aa)(fz:Fz)(s:Nc)(X:Nat->aa->Prop)(e:M_)(s':Nc):Prop
 |mk (c:Nat) (Z6:aa) (fz':Fz) (g:GS C FR σ fz s Z6 fz' s') (x:jZ s FR Z6 fz' s'.heap c e) (q:X c Z6)
theorem PK.via{f i:Type}{C:Cx}{d:List NC}{σ a:aa}{fz c:Fz}{s s₁ s':Nc}{R:Fz->i->f->Prop}{Q:i->aa->Prop}{v:f}(x:GS C d σ fz s a c s₁)
  (h:PK C d a c s₁ R Q v s'):PK C d σ fz s R Q v s':=let ⟨b,e,fz',g,r,q⟩:=h;⟨b,e,fz',x.trans g,r,q⟩
theorem PX.via{C:Cx}{σ a:aa}{fz b:Fz}{s s₁ s':Nc}{X:Nat->aa->Prop}(x:GS C d σ fz s a b s₁)
 (h:PX C d a b s₁ X e s'):PX C d σ fz s X e s':=by obtain⟨c,f,fz',g,⟨j,k,vs,l,m,n,o,p,r,t,u,v,i⟩,q⟩:=h;refine⟨c,f,fz',x.trans g,⟨j,k,vs,l,x.1.gone m,n,o,p,r,t,u,v,i.imp id ?_⟩,q⟩;rintro⟨T,w,y,z,A,D,E,F,H,K,L,M⟩;exact⟨T,w,y,z,A,x.1.gone D,E,F,H,K,L,M⟩
noncomputable def rO(C:Cx)(a:List NC)(σ:aa)(fz:Fz)(s:Nc)(Q:PV->aa->Prop)(X:Nat->aa->Prop)(r:Sf)(s':Nc):Prop:=match r with
 |.ok (.ret v)=>PK C a σ fz s (VR C.P) Q v s'
 |.ok _=>False
 |.error e=>PX C a σ fz s X e s'
noncomputable def af(d:Nat)(c:M_)(a:List PV)(σ:aa)(Q:PV->aa->Prop)(X:Nat->aa->Prop):Prop:=
 ∀(C:Cx)(A:NT)(b:List NC)(fz:Fz)(s:Nc)(vals:List M_),rM A b d->aw C σ fz b s.heap->aL C.P fz a vals->
  P5 C.M A (.call c ⟨vals,[]⟩) (rO C b σ fz s Q X) s
set_option tactic.hygienic false
set_option genCtorIdx true in
inductive BI where
 |len|ord|chr|abs|int|str|sum|tuple|divmod|sorted|sortset|dict
 deriving DecidableEq
inductive ME where
 |lit (v:PV)
 |loc (i:Nat)
 |glb (n:Nat)
 |tup (es:List ME)
 |lst (fr:Bool) (es:List ME)
 |dct (ks:List (List Nat)) (vs:List ME)
 |bin (op:TH) (l r:ME)
 |neg (e:ME)
 |nt (e:ME)
 |bop (all:Bool) (es:List ME)
 |cmp (op:UM) (l r:ME)
 |cmp2 (l m r:ME)
 |ite (c t e:ME)
 |att (o:ME) (a:Nat)
 |idx (o i:ME)
 |sli (o lo hi:ME)
 |calF (f:Nat) (args:List ME)
 |calB (b:BI) (args:List ME)
 |calM (o:ME) (m:Nat) (args:List ME)
 |isin (e:ME) (isStr:Bool)
 |comp (fr:Bool) (Zp:List (Option Nat)) (ZK:List Nat) (Zm iter:ME) (ifs:List ME)
 |rng (e:ME)
 |tru (e:ME)
 |itm (e:ME)
inductive MS where
 |asg (i:Nat) (e:ME)
 |asgT (is:List Nat) (e:ME)
 |asgA (o:ME) (a:Nat) (e:ME)
 |asgS (o i e:ME)
 |expr (e:ME)
 |ite (c:ME) (t e:List MS)
 |whl (c:ME) (b:List MS)
 |forl (ZK:List Nat) (it:ME) (b:List MS)
 |ret (e:ME)
 |rai (f:Nat) (args:List ME)
 |asgc (i:Nat) (e:ME)
 |tryR (e:ME) (cls:Nat)
 |tryA (i:Nat) (e:ME) (cls:Nat)
noncomputable abbrev ar:=List (Option PV)
noncomputable abbrev QV:=PV->aa->Prop
noncomputable abbrev QX:=Nat->aa->Prop
mutual
noncomputable def fB:PV->PV->Bool
 |.none,b=>match b with|.none=>true|_=>false
 |.bool a,b=>match b with|.bool b=>a==b|_=>false
 |.int a,b=>match b with|.int b=>a==b|_=>false
 |.str a,b=>match b with|.str b=>a==b|_=>false
 |.tup a,b=>match b with|.tup b=>dX a b|_=>false
 |.lst a,b=>match b with|.lst b=>dX a b|_=>false
 |_,_=>false
noncomputable def dX:List PV->List PV->Bool
 |[],b=>b.isEmpty
 |a::as,b=>match b with
  |[]=>false
  |b::bs=>fB a b&&dX as bs
end
mutual
noncomputable def b':PV->Nat->Bool
 |.none,_=>true
 |.int _,_=>true
 |.str _,_=>true
 |.tup a,n=>match n with
  |0=>false
  |n+1=>bd a n
 |.lst a,n=>match n with
  |0=>false
  |n+1=>bd a n
 |_,_=>false
noncomputable def bd:List PV->Nat->Bool
 |[],_=>true
 |a::as,n=>b' a n&&bd as n
end
noncomputable abbrev xr(v:PV):Bool:=b' v 60
noncomputable abbrev gT(v:List PV):Bool:=bd v 60
noncomputable def i'(kvs:List (List Nat×PV))(k:List Nat):Option PV:=(kvs.find? fun kv=>kv.1=k).map (·.2)
noncomputable def rP(kvs:List (List Nat×PV))(k:List Nat)(v:PV):List (List Nat×PV):=
 if kvs.any (fun kv=>kv.1=k)then kvs.map (fun kv=>if kv.1=k then(kv.1,v)else kv)else kvs++[(k,v)]
noncomputable def PV.seen(σ:aa):PV->PV
 |.ref a=>match σ a with
  |some (.lst vs)=> .lst vs
  |_=> .ref a
 |v=>v
noncomputable def ja:PV->Option Bool
 |.bool b=>some b
 |_=>none
noncomputable def dD:PV->Option Int
 |.int i=>some i
 |_=>none
noncomputable def dq:PV->Option (List Nat)
 |.str i=>some i
 |_=>none
noncomputable def ix:PV->Option (List PV)
 |.lst i=>some i
 |_=>none
noncomputable def mC:PV->Option (List PV)
 |.lst i=>some i
 |.tup i=>some i
 |_=>none
noncomputable def isNone:PV->Bool
 |.none=>true
 |_=>false
noncomputable def fP(σ:aa):PV->Option (NC×List (List Nat×PV))
 |.ref a=>match σ a with
  |some (.dct kvs)=>some (a,kvs)
  |_=>none
 |_=>none
noncomputable def rQ(σ:aa):PV->Option (NC×List PV)
 |.ref a=>match σ a with
  |some (.lst kvs)=>some (a,kvs)
  |_=>none
 |_=>none
noncomputable def cG{b:Type}:List b->Option b
 |[]=>none
 |a::r=>match r with
  |[]=>some a
  |_=>none
noncomputable def tX{c:Type}:List c->Option (c×c)
 |[]=>none
 |a::r=>(cG r).map fun b=>(a,b)
noncomputable def mD:PV->Bool
 |.lst []=>true
 |_=>false
noncomputable def fK(a b:PV)(σ:aa):Option Bool:=match ja (a.seen σ)with
 |some x=>(ja (b.seen σ)).map fun y=>x==y
 |none=>if xr (a.seen σ)&&xr (b.seen σ)then some (fB (a.seen σ) (b.seen σ))else if mD (b.seen σ)then(ix (a.seen σ)).map (·.isEmpty)else none
noncomputable def Eg(v:PV):Option Bool:=match v with
 |.none=>some false
 |.bool b=>some b
 |.int i=>some (i != 0)
 |.str s=>some (!s.isEmpty)
 |.tup vs=>some (!vs.isEmpty)
 |.lst vs=>some (!vs.isEmpty)
 |_=>none
noncomputable def eH(v:PV)(σ:aa):Option Bool:=Eg (v.seen σ)
noncomputable def kU(a b:PV)(σ:aa):Option Bool:=match mC (b.seen σ)with
 |some vs=>if xr a&&gT vs then some (vs.any fun v=>fB v a)else none
 |none=>(dq a).bind fun x=>match dq b with
  |some y=>(cG x).map y.contains
  |none=>(fP σ b).map fun kvs=>(i' kvs.2 x).isSome
noncomputable def oJ(a b:PV):Option (Int×Int):=(dD a).bind fun x=>(dD b).map fun y=>(x,y)
noncomputable def tY(a b:PV)(f:Int->Int->Bool):Option Bool:=(oJ a b).map fun p=>f p.1 p.2
noncomputable def eJ(c:UM)(a b:PV)(σ:aa):Option Bool:=match c with
 |.Eq=>fK a b σ
 |.NotEq=>(fK a b σ).map (!·)
 |.Lt=>tY a b fun x y=>decide (x<y)
 |.LtE=>tY a b fun x y=>decide (x<=y)
 |.Gt=>tY a b fun x y=>decide (y<x)
 |.GtE=>tY a b fun x y=>decide (y<=x)
 |.Is=>if isNone b then some (isNone a)else none
 |.IsNot=>if isNone b then some (!isNone a)else none
 |.In=>kU a b σ
 |.NotIn=>(kU a b σ).map (!·)
noncomputable def aV:Nat:=1048576
noncomputable def small(i:Int):Prop:=Pi i<=8000
noncomputable def dJ{b:Type}(o:Option b)(K:b->Prop):Prop:=match o with
 |some a=>K a
 |none=>False
theorem tZ{b:Type}{o:Option b}{K:b->Prop}(h:dJ o K):∃a,o=some a/\K a:=by
 cases o with
 |none=>exact h.elim
 |some a=>exact⟨a,rfl,h⟩
theorem fb{b:Type}{o:Option b}{K:b->Prop}{p:Prop}(h:dJ o K)(k:∀a,o=some a->K a->p):p:=(tZ h).elim fun x e=>k x e.1 e.2
theorem kW{v:PV}{i:Int}:dD v=some i->v= .int i:=
 PV.casesOn (motive_1:=fun v=>dD v=some i->v= .int i) v aj (fun _=>aj) (fun _ h=>Nw PV.int (Nh h)) (fun _=>aj) (fun _=>aj) (fun _=>aj) (fun _ _=>aj) (fun _=>aj) (fun _ _=>aj)
theorem xt{v:PV}{i:List Nat}:dq v=some i->v= .str i:=
 PV.casesOn (motive_1:=fun v=>dq v=some i->v= .str i) v aj (fun _=>aj) (fun _=>aj) (fun _ h=>Nw PV.str (Nh h)) (fun _=>aj) (fun _=>aj) (fun _ _=>aj) (fun _=>aj) (fun _ _=>aj)
theorem jb{v:PV}{i:Bool}:ja v=some i->v= .bool i:=
 PV.casesOn (motive_1:=fun v=>ja v=some i->v= .bool i) v aj (fun _ h=>Nw PV.bool (Nh h)) (fun _=>aj) (fun _=>aj) (fun _=>aj) (fun _=>aj) (fun _ _=>aj) (fun _=>aj) (fun _ _=>aj)
theorem du{v:PV}{i:List PV}:ix v=some i->v= .lst i:=
 PV.casesOn (motive_1:=fun v=>ix v=some i->v= .lst i) v aj (fun _=>aj) (fun _=>aj) (fun _=>aj) (fun _=>aj) (fun _ h=>Nw PV.lst (Nh h)) (fun _ _=>aj) (fun _=>aj) (fun _ _=>aj)
theorem kX{v:PV}{i:List PV}:mC v=some i->v= .lst i\/v= .tup i:=
 PV.casesOn (motive_1:=fun v=>mC v=some i->v= .lst i\/v= .tup i) v aj (fun _=>aj) (fun _=>aj) (fun _=>aj) (fun _ h=> .inr (Nw PV.tup (Nh h))) (fun _ h=> .inl (Nw PV.lst (Nh h))) (fun _ _=>aj) (fun _=>aj) (fun _ _=>aj)
theorem rS{v:PV}:isNone v=true->v= .none:=
 PV.casesOn (motive_1:=fun v=>isNone v=true->v= .none) v (fun _=>rfl) (fun _=>aK) (fun _=>aK) (fun _=>aK) (fun _=>aK) (fun _=>aK) (fun _ _=>aK) (fun _=>aK) (fun _ _=>aK)
theorem xu{a b:PV}{p:Int×Int}(h:oJ a b=some p):a= .int p.1/\b= .int p.2:=by unfold oJ at h;rw[Option.bind_eq_some_iff]at h;obtain⟨x,c,h⟩:=h;rw[Qg]at h;obtain⟨y,d,rfl⟩:=h;exact⟨kW c,kW d⟩
theorem f8{σ:aa}{v:PV}{p:NC×List (List Nat×PV)}:fP σ v=some p->v= .ref p.1/\σ p.1=some (.dct p.2):=
 PV.casesOn (motive_1:=fun v=>fP σ v=some p->v= .ref p.1/\σ p.1=some (.dct p.2)) v aj (fun _=>aj) (fun _=>aj) (fun _=>aj) (fun _=>aj) (fun _=>aj) (fun _ _=>aj) (fun a h=>by
  have h:(match σ a with|some (.dct kvs)=>some (a,kvs)|_=>none)=some p:=h;cases q:σ a with
  |none=>rw[q]at h;exact aj h
  |some m=>
   rw[q]at h;cases m<;>first|exact aj h|(injection h with z0;subst z0;exact⟨rfl,q⟩)) (fun _ _=>aj)
theorem xv{σ:aa}{v:PV}{p:NC×List PV}:rQ σ v=some p->v= .ref p.1/\σ p.1=some (.lst p.2):=
 PV.casesOn (motive_1:=fun v=>rQ σ v=some p->v= .ref p.1/\σ p.1=some (.lst p.2)) v aj (fun _=>aj) (fun _=>aj) (fun _=>aj) (fun _=>aj) (fun _=>aj) (fun _ _=>aj) (fun a h=>by
  have h:(match σ a with|some (.lst kvs)=>some (a,kvs)|_=>none)=some p:=h;cases q:σ a with
  |none=>rw[q]at h;exact aj h
  |some m=>
   rw[q]at h;cases m<;>first|exact aj h|(injection h with z0;subst z0;exact⟨rfl,q⟩)) (fun _ _=>aj)
theorem aS{c:Type}{l:List c}{a:c}(h:cG l=some a):l=[a]:=by
 cases l with
 |nil=>exact aj h
 |cons b r=>cases r<;>first|(injection h with z0;subst z0;rfl)|exact aj h
theorem iH{d:Type}{l:List d}{a:d×d}(h:tX l=some a):l=[a.1,a.2]:=by
 cases l with
 |nil=>exact aj h
 |cons b r=>have h:(cG r).map (fun c=>(b,c))=some a:=h;rw[Qg]at h;obtain⟨c,e,rfl⟩:=h;rw[aS e]
noncomputable def Bc(a b:PV)(σ:aa)(Q:QV):Prop:=match dD a with
 |some x=>dJ (dD b) fun y=>small x/\small y/\Q (.int (x*y)) σ
 |none=>dJ (dq a) fun s=>dJ (cG s) fun c=>dJ (dD b) fun y=>0<=y/\y<=64/\Q (.str (NF y.toNat c)) σ
noncomputable def oK(a b:PV)(σ:aa)(Q:QV):Prop:=match dD a with
 |some x=>dJ (dD b) fun y=>Q (.int (x+y)) σ
 |none=>match dq a with
  |some x=>dJ (dq b) fun y=>x.length+y.length<=aV/\Q (.str (x++y)) σ
  |none=>dJ (ix (a.seen σ)) fun vs=>dJ (ix (b.seen σ)) fun ws=>vs.length+ws.length<=aV/\Q (.lst (vs++ws)) σ
noncomputable def Be(a:TH)(x y:Int)(σ:aa)(Q:QV):Prop:=match a with
 |.Sub=>Q (.int (x-y)) σ
 |.FloorDiv=>y≠0/\small y/\Q (.int (x.fdiv y)) σ
 |.Mod=>y≠0/\Q (.int (x.fmod y)) σ
 |.BitAnd=>Q (.int (OH x y)) σ
 |.BitOr=>Q (.int (S6 x y)) σ
 |.BitXor=>Q (.int (QR x y)) σ
 |.LShift=>0<=y/\y<=64/\small x/\Q (.int (x*2^y.toNat)) σ
 |.RShift=>0<=y/\Q (.int (x.fdiv (2^y.toNat))) σ
 |.Pow=>x=2/\0<=y/\y<=64/\Q (.int (2^y.toNat)) σ
 |_=>False
noncomputable def Eh(c:TH)(a b:PV)(σ:aa)(Q:QV):Prop:=match c with
 |.Add=>oK a b σ Q
 |.Mult=>Bc a b σ Q
 |c=>dJ (oJ a b) fun p=>Be c p.1 p.2 σ Q
noncomputable def Ei(a:PV)(σ:aa)(Q:QV):Prop:=dJ (dD a) fun x=>Q (.int (-x)) σ
noncomputable def kY(i:Int)(n:Nat):Option Nat:=if -1000000000<=i/\i<=1000000000 then seqIndex? i n else none
noncomputable def bl(o i:PV)(σ:aa):Option PV:=match mC (o.seen σ)with
 |some vs=>(dD i).bind fun k=>(kY k vs.length).bind fun j=>vs[j]?
 |none=>match dq o with
  |some s=>(dD i).bind fun k=>(kY k s.length).bind fun j=>(s[j]?).map fun c=> .str [c]
  |none=>(fP σ o).bind fun kvs=>(dq i).bind (i' kvs.2)
noncomputable def rT(v:PV)(n a:Nat):Option Nat:=match v with
 |.none=>some a
 |.int i=>some (O5 n i)
 |_=>none
noncomputable def fC(o lo hi:PV)(σ:aa):Option PV:=match dq o with
 |some s=>(rT lo s.length 0).bind fun l=>(rT hi s.length s.length).map fun h=> .str ((s.drop l).take (h-l))
 |none=>(ix (o.seen σ)).bind fun s=>(rT lo s.length 0).bind fun l=>(rT hi s.length s.length).map fun h=> .lst ((s.drop l).take (h-l))
noncomputable def xw(o:PV)(a:Nat)(σ:aa):Option PV:=match o with
 |.obj c b=>((aP c).idxOf? a).bind fun j=>b[j]?
 |.iref c d=>match σ d with
  |some (.ins e as vs)=>if e=c/\(aP c).contains a=true then(as.idxOf? a).bind fun j=>vs[j]? else none
  |_=>none
 |_=>none
noncomputable def aE(i:Int):List Nat:=(NH (toString i)).cps.toList
noncomputable def cy:List PV->Option (List Int)
 |[]=>some []
 |.int i::r=>(cy r).map (i::·)
 |_=>Option.none
noncomputable def bo:List PV->Option (List (List Nat))
 |[]=>some []
 |.str i::r=>(bo r).map (i::·)
 |_=>Option.none
noncomputable def gU(v:PV)(σ:aa):Option Nat:=match mC (v.seen σ)with
 |some s=>some s.length
 |none=>match dq v with
  |some s=>some s.length
  |none=>(fP σ v).map (·.2.length)
noncomputable def t_(v:PV)(σ:aa)(Q:QV):Prop:=match dD v with
 |some i=>Q (.int i) σ
 |none=>dJ (ja v) fun b=>Q (.int (if b then 1 else 0)) σ
noncomputable def mE(ss:List (List Nat))(σ:aa)(Q:QV):Prop:=ss.length<64/\∀c:List (List Nat),c.Perm ss->c.Pairwise (fun a b=>¬b<a)->Q (.lst (c.map .str)) σ
noncomputable def dY(v:PV)(σ:aa)(Q:QV):Prop:=match ix (v.seen σ)with
 |some vs=>dJ (bo vs) fun ss=>mE ss σ Q
 |none=>dJ (fP σ v) fun kvs=>mE (kvs.2.map (·.1)) σ Q
noncomputable def Bf:PV->Option (List PV)
 |.tup i=>some i
 |_=>none
theorem xx{v:PV}{i:List PV}:Bf v=some i->v= .tup i:=
 PV.casesOn (motive_1:=fun v=>Bf v=some i->v= .tup i) v aj (fun _=>aj) (fun _=>aj) (fun _=>aj) (fun _ h=>Nw PV.tup (Nh h)) (fun _=>aj) (fun _ _=>aj) (fun _=>aj) (fun _ _=>aj)
noncomputable def Bg(b:BI)(v:PV)(σ:aa)(Q:QV):Prop:=match b with
 |.len=>dJ (gU v σ) fun n=>Q (.int n) σ
 |.ord=>dJ (dq v) fun s=>dJ (cG s) fun c=>Q (.int c) σ
 |.chr=>dJ (dD v) fun i=>0<=i/\i<55296/\Q (.str [i.toNat]) σ
 |.abs=>dJ (dD v) fun i=>Q (.int i.natAbs) σ
 |.int=>t_ v σ Q
 |.str=>dJ (dD v) fun i=> -(2^64)<i/\i<2^64/\e' (aE i)/\Q (.str (aE i)) σ
 |.sum=>dJ (ix v) fun vs=>dJ (cy vs) fun e=>Q (.int e.sum) σ
 |.tuple=>dJ (ix v) fun vs=>Q (.tup vs) σ
 |.sorted=>dY v σ Q
 |.sortset=>dJ (ix v) fun vs=>dJ (bo vs) fun ss=>ss.length<64/\∀d:List (List Nat),(∀x,x∈d↔x∈ss)->d.Nodup->d.Pairwise (fun a b=>¬b<a)->Q (.lst (d.map .str)) σ
 |.dict=>dJ (Bf v) fun vs=>∃kvs:List (List Nat×PV),vs=kvs.map (fun p=>PV.tup [.str p.1,p.2])/\(kvs.map (·.1)).Nodup/\∀a,σ a=none->Q (.ref a) (σ.upd a (.dct kvs))
 |.divmod=>False
noncomputable def GK(b:BI)(as:List PV)(σ:aa)(Q:QV):Prop:=match cG as with
 |some v=>Bg b v σ Q
 |none=>b= .divmod/\dJ (tX as) fun p=>dJ (oJ p.1 p.2) fun q=>q.2≠0/\small q.2/\Q (.tup [.int (q.1.fdiv q.2),.int (q.1.fmod q.2)]) σ
noncomputable def iI:List (Nat×Nat×Nat):=[(195,7,178),(195,6,192),(286,8,220),(286,9,227),(286,10,234),(286,11,241),(286,12,248),(286,13,255),(286,14,262),(286,15,269),(286,16,276),(286,17,283),
 (391,18,318),(391,19,332),(391,7,339),(391,20,346),(391,21,353),(391,22,367),(391,23,374),(391,24,388),(447,6,444),(473,6,470),(492,6,416),(518,6,515),(544,6,541),
 (655,6,617),(655,25,624),(655,26,631),(655,27,638),(655,28,645),(703,29,686),(703,30,693),(703,31,700)]
noncomputable def dg(c m:Nat):Option Nat:=(iI.find? fun x=>x.1==c&&x.2.1==m).map (·.2.2)
noncomputable def xy(a:NC)(vs:List PV)(m:Nat)(as:List PV)(σ:aa)(Q:QV):Prop:=
 if m=0 then dJ (cG as) fun v=>vs.length<aV/\Q .none (σ.upd a (.lst (vs++[v])))
 else if m=1 then as=[]/\∃ws w,vs=ws++[w]/\Q w (σ.upd a (.lst ws))
 else if m=2 then dJ (cG as) fun v=>dJ (dq v) fun x=>dJ (bo vs) fun ss=>ss.contains x=true/\Q .none (σ.upd a (.lst ((ss.erase x).map .str)))
 else if m=3 then as=[]/\Q .none (σ.upd a (.lst vs.reverse))
 else False
noncomputable def xi(o:PV)(m:Nat)(as:List PV)(σ:aa)(Q:QV):Prop:=match rQ σ o with
 |some p=>xy p.1 p.2 m as σ Q
 |none=>match fP σ o with
  |some p=>m=4/\dJ (tX as) fun q=>dJ (dq q.1) fun k=>Q ((i' p.2 k).getD q.2) σ
  |none=>dJ (dq o) fun s=>m=5/\as=[]/\(∀c∈s,c<128)/\Q (.str (s.map fun c=>if 97<=c&&c<=122 then c-32 else c)) σ
noncomputable def xj(o:PV)(m:Nat)(σ:aa):Prop:=match o with
 |.ref a=>match σ a with
  |some (.lst _)=>m<4
  |some (.dct _)=>m=4
  |_=>False
 |.str _=>m=5
 |.obj c _=>(dg c m).isSome=true
 |.iref c d=>(dg c m).isSome=true/\match σ d with
  |some (.ins b _ _)=>b=c
  |_=>False
 |_=>False
noncomputable def Mx{b:Type}(l:List b)(i:Nat)(a:b):List b:=l.set i a
noncomputable def xz(a:ar):List Nat->List PV->Option ar
 |[],[]=>some a
 |i::b,v::vs=>xz (a.set i (some v)) b vs
 |_,_=>Option.none
noncomputable def oM(b:ar)(a:List Nat)(v:PV):Option ar:=match a,v with
 |[i],v=>some (b.set i (some v))
 |c,.tup vs=>xz b c vs
 |_,_=>Option.none
noncomputable def ua(v:PV):Option (List PV):=match v with
 |.str s=>some (s.map fun c=> .str [c])
 |.tup vs=>some vs
 |.lst vs=>some vs
 |_=>Option.none
noncomputable def rU(v:PV):Option (List PV):=match v with
 |.int n=>if -(2^62)<=n/\n<=1048576 then some ((OM n.toNat).map fun(i:Nat)=>PV.int i)else Option.none
 |_=>Option.none
noncomputable def Hh{a:Type}(l:List (String×a)):List (Str×a):=l.map fun p=>(NH p.1,p.2)
noncomputable def Ay:List (Str×PV):=Hh [("SIGNS",.str (NH "+-*/%&|^~!()[],:$=<>").cps.toList),("ESCAPE_SIGNS",.str (NH "btnfr\"'\\").cps.toList),
 ("ESCAPE_CODES",.str [8,9,10,12,13,34,39,92]),("TOP",.int 18446744073709551615),("MOST_DEPTH",.int 10),("MOST_SHIFT",.int 63),
 ("_law_NAMES",.tup (["a","b","c","d","e","_n.1$"].map fun(x:String)=>PV.str (NH x).cps.toList)),
 ("_law_BINARY",.tup (["*","/","%","<<",">>","|","&","^","+","-"].map fun(x:String)=>PV.str (NH x).cps.toList)),
 ("_law_UNARY",.tup (["-","~","!"].map fun(x:String)=>PV.str (NH x).cps.toList))]
noncomputable def ub:List Str:=Ay.map (·.1)
noncomputable def f_:List Str:=Wk NH ["append","pop","remove","reverse","get","upper","told","is_sign","place","is_done","passed","name_end","number","constant","quote","register","mark","token",
 "peek","take","is_end","skip","need","need_end","rest_place","is_number","is_symbol","negate","add","put","find","settled"]
noncomputable def cu(n:Nat):PV:=(Ay.map (·.2)).getD n .none
noncomputable def dK(f:ar->aa->(Option PV->aa->Prop)->Prop)(ZK:List Nat):List PV->ar->List PV->aa->(List PV->aa->Prop)->Prop
 |[],ρ,acc,σ,Q=>Q acc σ
 |v::r,ρ,acc,σ,Q=>∃ZY,oM ρ ZK v=some ZY/\acc.length<aV/\f ZY σ fun o Z6=>dK f ZK r ZY (match o with|some x=>acc++[x]|Option.none=>acc) Z6 Q
noncomputable def Hi(Q:QV):List PV->aa->Prop:=fun vs σ=>Q (.tup vs) σ
noncomputable def Ej(fr:Bool)(Q:QV):List PV->aa->Prop:=fun vs b=>match fr with
  |true=>Q (.lst vs) b
  |false=>∀a,b a=Option.none->Q (.ref a) (b.upd a (.lst vs))
noncomputable def Hj(ks:List (List Nat))(Q:QV):List PV->aa->Prop:=fun vs b=>ks.length=vs.length/\ks.Nodup/\∀a,b a=Option.none->Q (.ref a) (b.upd a (.dct (ks.zip vs)))
noncomputable def Hk(c:TH)(R:aa->QV->Prop)(Q:QV):QV:=fun a σ=>R σ fun b σ=>Eh c a b σ Q
noncomputable def Hl(Q:QV):QV:=fun a σ=>Ei a σ Q
noncomputable def My(Q:QV):QV:=fun a σ=>∃b,eH a σ=some b/\Q (.bool (!b)) σ
noncomputable def kB(Q:QV):Bool->aa->Prop:=fun c σ=>Q (.bool c) σ
noncomputable def Ek(d:UM)(R:aa->QV->Prop)(Q:Bool->aa->Prop):QV:=fun a σ=>R σ fun b σ=>∃c,eJ d a b σ=some c/\Q c σ
noncomputable def El(R:aa->QV->Prop)(b:PV)(Q:Bool->aa->Prop):Bool->aa->Prop:=fun c σ=>match c with
 |true=>R σ fun e σ=>∃a,eJ .LtE b e σ=some a/\Q a σ
 |false=>Q false σ
noncomputable def Az(R d:aa->QV->Prop)(Q:Bool->aa->Prop):QV:=fun a σ=>R σ fun b σ=>∃c,eJ .LtE a b σ=some c/\El d b Q c σ
noncomputable def LP{a:Type}(R c:aa->a->Prop)(Q:a):Bool->aa->Prop:=fun b σ=>match b with|true=>R σ Q|false=>c σ Q
noncomputable def Hm(a:Nat)(Q:QV):QV:=fun v σ=>∃w,xw v a σ=some w/\Q w σ
noncomputable def Hn(R:aa->QV->Prop)(Q:QV):QV:=fun v σ=>R σ fun k σ=>∃w,bl v k σ=some w/\Q w σ
noncomputable def Ho(R a:aa->QV->Prop)(Q:QV):QV:=fun v σ=>R σ fun l σ=>a σ fun h σ=>∃w,fC v l h σ=some w/\Q w σ
noncomputable def Hp(d f:Nat)(Q:QV)(X:QX):List PV->aa->Prop:=fun vs σ=>af d (.ref f) vs σ Q X
noncomputable def Mz(b:BI)(Q:QV):List PV->aa->Prop:=fun vs σ=>GK b vs σ Q
noncomputable def Hq(d:Nat)(v:PV)(m:Nat)(Q:QV)(X:QX):List PV->aa->Prop:=fun vs σ=>match v with
 |.obj c b=>∃f,dg c m=some f/\af d (.ref f) (v::vs) σ Q X
 |.iref c a=>∃f,dg c m=some f/\af d (.ref f) (v::vs) σ Q X
 |_=>xi v m vs σ Q
noncomputable def Em(d m:Nat)(R:aa->(List PV->aa->Prop)->Prop)(Q:QV)(X:QX):QV:=fun v σ=>xj v m σ/\R σ (Hq d v m Q X)
noncomputable def En(st:Bool)(Q:QV):QV:=fun v σ=>match v,st with
 |.str _,b=>Q (.bool b) σ
 |.tup _,b=>Q (.bool (!b)) σ
 |_,_=>False
noncomputable def nX:QX:=fun _ _=>False
noncomputable def Hr(R:aa->QV->Prop)(K:Option PV->aa->Prop):Bool->aa->Prop:=fun a σ=>match a with
 |true=>R σ fun v σ=>K (some v) σ
 |false=>K Option.none σ
noncomputable def uc(R:aa->(List PV->aa->Prop)->Prop)(Q:List PV->aa->Prop):QV:=fun v σ=>R σ fun vs σ=>Q (v::vs) σ
noncomputable def Hs(Q:Bool->aa->Prop):Bool->aa->Prop:=fun b σ=>Q (!b) σ
noncomputable def Ht(Q:Bool->aa->Prop):QV:=fun v σ=>∃b,eH v σ=some b/\Q b σ
noncomputable def LT(a:Bool)(R:aa->(Bool->aa->Prop)->Prop)(Q:Bool->aa->Prop):Bool->aa->Prop:=fun b σ=>if b=a then R σ Q else Q b σ
noncomputable def MA(a:Bool)(R:aa->QV->Prop)(Q:QV):QV:=fun v σ=>∃b,eH v σ=some b/\if b=a then R σ Q else Q v σ
noncomputable def kC(R:aa->(Bool->aa->Prop)->Prop)(Q:Bool->aa->Prop):Bool->aa->Prop:=fun b σ=>match b with|true=>R σ Q|false=>Q false σ
noncomputable def Hu(Q:List PV->aa->Prop):QV:=fun v σ=>∃l,rU v=some l/\Q l σ
noncomputable def Hv(Q:List PV->aa->Prop):QV:=fun v σ=>∃l,ua v=some l/\Q l σ
mutual
noncomputable def nE(d:Nat):ME->ar->QX->aa->QV->Prop
 |.lit v,ρ,X,σ,Q=>Q v σ
 |.loc i,ρ,X,σ,Q=>match ρ[i]? with
  |some (some v)=>Q v σ
  |_=>False
 |.glb n,ρ,X,σ,Q=>Q (cu n) σ
 |.tup es,ρ,X,σ,Q=>ud d es ρ X σ (Hi Q)
 |.lst fr es,ρ,X,σ,Q=>ud d es ρ X σ (Ej fr Q)
 |.dct ks es,ρ,X,σ,Q=>ud d es ρ X σ (Hj ks Q)
 |.bin op l r,ρ,X,σ,Q=>nE d l ρ X σ (Hk op (nE d r ρ X) Q)
 |.neg e,ρ,X,σ,Q=>nE d e ρ X σ (Hl Q)
 |.nt e,ρ,X,σ,Q=>nE d e ρ X σ (My Q)
 |.bop al es,ρ,X,σ,Q=>nB d al es ρ X σ Q
 |.cmp op l r,ρ,X,σ,Q=>nE d l ρ X σ (Ek op (nE d r ρ X) (kB Q))
 |.cmp2 l m r,ρ,X,σ,Q=>nE d l ρ X σ (Az (nE d m ρ X) (nE d r ρ X) (kB Q))
 |.ite c t e,ρ,X,σ,Q=>nT d c ρ X σ (LP (nE d t ρ X) (nE d e ρ X) Q)
 |.att o a,ρ,X,σ,Q=>nE d o ρ X σ (Hm a Q)
 |.idx o i,ρ,X,σ,Q=>nE d o ρ X σ (Hn (nE d i ρ X) Q)
 |.sli o lo hi,ρ,X,σ,Q=>nE d o ρ X σ (Ho (nE d lo ρ X) (nE d hi ρ X) Q)
 |.calF f as,ρ,X,σ,Q=>ud d as ρ X σ (Hp d f Q X)
 |.calB b as,ρ,X,σ,Q=>ud d as ρ X σ (Mz b Q)
 |.calM o m as,ρ,X,σ,Q=>nE d o ρ X σ (Em d m (ud d as ρ X) Q X)
 |.isin e st,ρ,X,σ,Q=>nE d e ρ X σ (En st Q)
 |.comp fr Zp ZK Zm iter ifs,ρ,X,σ,Q=>nI d iter ρ X σ (fun Z8 Z_=>
   dK (fun ZY Z6 K=>nC d ifs ZY nX Z6 (Hr (nE d Zm ZY nX) K)) ZK Z8 (Zp.map fun o=>o.bind fun i=>(ρ[i]?).join) [] Z_ (Ej fr Q))
 |.rng e,ρ,X,σ,Q=>False
 |.tru e,ρ,X,σ,Q=>False
 |.itm e,ρ,X,σ,Q=>False
noncomputable def ud(d:Nat):List ME->ar->QX->aa->(List PV->aa->Prop)->Prop
 |[],ρ,X,σ,Q=>Q [] σ
 |e::es,ρ,X,σ,Q=>nE d e ρ X σ (uc (ud d es ρ X) Q)
noncomputable def nT(d:Nat):ME->ar->QX->aa->(Bool->aa->Prop)->Prop
 |.nt e,ρ,X,σ,Q=>nT d e ρ X σ (Hs Q)
 |.bop al es,ρ,X,σ,Q=>Hw d al es ρ X σ Q
 |.ite c t e,ρ,X,σ,Q=>nT d c ρ X σ (LP (nT d t ρ X) (nT d e ρ X) Q)
 |.cmp op l r,ρ,X,σ,Q=>nE d l ρ X σ (Ek op (nE d r ρ X) Q)
 |.cmp2 l m r,ρ,X,σ,Q=>nE d l ρ X σ (Az (nE d m ρ X) (nE d r ρ X) Q)
 |.tru e,ρ,X,σ,Q=>nE d e ρ X σ (Ht Q)
 |_,ρ,X,σ,Q=>False
noncomputable def Hw(d:Nat)(al:Bool):List ME->ar->QX->aa->(Bool->aa->Prop)->Prop
 |[],ρ,X,σ,Q=>Q al σ
 |e::es,ρ,X,σ,Q=>nT d e ρ X σ (LT al (Hw d al es ρ X) Q)
noncomputable def nB(d:Nat)(al:Bool):List ME->ar->QX->aa->QV->Prop
 |[],ρ,X,σ,Q=>False
 |[e],ρ,X,σ,Q=>nE d e ρ X σ Q
 |e::es,ρ,X,σ,Q=>nE d e ρ X σ (MA al (nB d al es ρ X) Q)
noncomputable def nC(d:Nat):List ME->ar->QX->aa->(Bool->aa->Prop)->Prop
 |[],ρ,X,σ,Q=>Q true σ
 |e::es,ρ,X,σ,Q=>nT d e ρ X σ (kC (nC d es ρ X) Q)
noncomputable def nI(d:Nat):ME->ar->QX->aa->(List PV->aa->Prop)->Prop
 |.rng e,ρ,X,σ,Q=>nE d e ρ X σ (Hu Q)
 |.itm e,ρ,X,σ,Q=>nE d e ρ X σ (Hv Q)
 |_,ρ,X,σ,Q=>False
end
noncomputable abbrev cR(d:Nat)(e:ME)(a:ar)(σ:aa)(Q:QV)(X:QX):Prop:=nE d e a X σ Q
noncomputable abbrev mF(d:Nat)(e:List ME)(a:ar)(σ:aa)(Q:List PV->aa->Prop)(X:QX):Prop:=ud d e a X σ Q
noncomputable abbrev fQ(d:Nat)(e:ME)(a:ar)(σ:aa)(Q:Bool->aa->Prop)(X:QX):Prop:=nT d e a X σ Q
noncomputable abbrev Eo(d:Nat)(a:Bool)(e:List ME)(b:ar)(σ:aa)(Q:Bool->aa->Prop)(X:QX):Prop:=Hw d a e b X σ Q
noncomputable abbrev Ep(d:Nat)(a:Bool)(e:List ME)(b:ar)(σ:aa)(Q:QV)(X:QX):Prop:=nB d a e b X σ Q
noncomputable abbrev jc(d:Nat)(e:List ME)(a:ar)(σ:aa)(Q:Bool->aa->Prop)(X:QX):Prop:=nC d e a X σ Q
noncomputable abbrev Er(d:Nat)(e:ME)(a:ar)(σ:aa)(Q:List PV->aa->Prop)(X:QX):Prop:=nI d e a X σ Q
noncomputable abbrev QS:=Option PV->ar->aa->Prop
noncomputable def bE(c:ar->aa->(Bool->aa->Prop)->Prop)(b:ar->aa->QS->Prop):Nat->ar->aa->QS->Prop
 |0,_,_,_=>False
 |n+1,ρ,σ,K=>c ρ σ fun t Z_=>match t with
  |true=>b ρ Z_ fun o ZY Z6=>match o with
   |some v=>K (some v) ZY Z6
   |Option.none=>bE c b n ZY Z6 K
  |false=>K Option.none ρ Z_
noncomputable def bu(b:ar->aa->QS->Prop)(ZK:List Nat):List PV->ar->aa->QS->Prop
 |[],ρ,σ,K=>K Option.none ρ σ
 |v::r,ρ,σ,K=>∃ZY,oM ρ ZK v=some ZY/\b ZY σ fun o ρ'' Z6=>match o with
  |some v=>K (some v) ρ'' Z6
  |Option.none=>bu b ZK r ρ'' Z6 K
noncomputable def gb(as:List Nat)(vs:List PV)(a:Nat)(v:PV):List Nat×List PV:=match as.idxOf? a with
 |some j=>(as,vs.set j v)
 |Option.none=>(as++[a],vs++[v])
noncomputable def mG(o:PV)(a:Nat)(v:PV)(σ:aa)(K:aa->Prop):Prop:=match o with
 |.iref c d=>match σ d with
  |some (.ins b as vs)=>b=c/\as.length<=100/\(aP c).contains a=true/\K (σ.upd d (.ins c (gb as vs a v).1 (gb as vs a v).2))
  |_=>False
 |_=>False
noncomputable def qi(o i v:PV)(σ:aa)(K:aa->Prop):Prop:=match o,i with
 |.ref a,.int k=>match σ a with
  |some (.lst vs)=>0<=k/\k.toNat<vs.length/\K (σ.upd a (.lst (vs.set k.toNat v)))
  |_=>False
 |.ref a,.str k=>match σ a with
  |some (.dct kvs)=>kvs.length<aV/\K (σ.upd a (.dct (rP kvs k v)))
  |_=>False
 |_,_=>False
noncomputable def eq(f:Nat):Nat:=if f=87 then 0 else 1
noncomputable def ue(R:ar->aa->QS->Prop)(K:QS):QS:=fun o ρ σ=>match o with
 |some v=>K (some v) ρ σ
 |Option.none=>R ρ σ K
noncomputable def Es(i:Nat)(a:ar)(K:QS):QV:=fun v σ=>K Option.none (a.set i (some v)) σ
noncomputable def Et(b:List Nat)(c:ar)(K:QS):QV:=fun v σ=>∃vs a,v= .tup vs/\xz c b vs=some a/\K Option.none a σ
noncomputable def Hx(a:ar)(K:QS):aa->Prop:=fun σ=>K Option.none a σ
noncomputable def Eu(R:aa->QV->Prop)(a:Nat)(b:ar)(K:QS):QV:=fun v σ=>R σ fun c σ=>mG c a v σ (Hx b K)
noncomputable def Ev(R a:aa->QV->Prop)(b:ar)(K:QS):QV:=fun v σ=>R σ fun c σ=>a σ fun iv σ=>qi c iv v σ (Hx b K)
noncomputable def Hy(a:ar)(K:QS):QV:=fun _ σ=>K Option.none a σ
noncomputable def Ew(a:ar)(K:QS):QV:=fun v σ=>K (some v) a σ
noncomputable def Hz(R c:ar->aa->QS->Prop)(a:ar)(K:QS):Bool->aa->Prop:=fun b σ=>match b with|true=>R a σ K|false=>c a σ K
noncomputable def HA(R:ar->aa->QS->Prop)(b:List Nat)(c:ar)(K:QS):List PV->aa->Prop:=fun a σ=>bu R b a c σ K
mutual
noncomputable def nS(d:Nat):MS->QX->ar->aa->QS->Prop
 |.asg i e,X,ρ,σ,K=>nE d e ρ X σ (Es i ρ K)
 |.asgT is e,X,ρ,σ,K=>nE d e ρ X σ (Et is ρ K)
 |.asgA o a e,X,ρ,σ,K=>nE d e ρ X σ (Eu (nE d o ρ X) a ρ K)
 |.asgS o i e,X,ρ,σ,K=>nE d e ρ X σ (Ev (nE d o ρ X) (nE d i ρ X) ρ K)
 |.expr e,X,ρ,σ,K=>nE d e ρ X σ (Hy ρ K)
 |.ite c t e,X,ρ,σ,K=>nT d c ρ X σ (Hz (xk d t X) (xk d e X) ρ K)
 |.whl c b,X,ρ,σ,K=>∃n,bE (fun ρ σ K'=>nT d c ρ X σ K') (xk d b X) n ρ σ K
 |.forl ZK it b,X,ρ,σ,K=>nI d it ρ X σ (HA (xk d b X) ZK ρ K)
 |.ret e,X,ρ,σ,K=>nE d e ρ X σ (Ew ρ K)
 |.rai f as,X,ρ,σ,K=>ud d as ρ X σ (fun vs Z6=>1<=d/\(f=87\/f=99)/\(∃m r,vs= .str m::r/\r.length<=1)/\X (eq f) Z6)
 |.asgc i e,X,ρ,σ,K=>nE d e ρ X σ (fun v Z6=>ρ[i]? =some Option.none/\K Option.none (ρ.set i (some v)) Z6)
 |.tryR e cls,X,ρ,σ,K=>nE d e ρ (fun c Z6=>c=cls/\K (some .none) ρ Z6) σ (Ew ρ K)
 |.tryA i e cls,X,ρ,σ,K=>nE d e ρ (fun c Z6=>c=cls/\K Option.none (ρ.set i (some .none)) Z6) σ (Es i ρ K)
noncomputable def xk(d:Nat):List MS->QX->ar->aa->QS->Prop
 |[],X,ρ,σ,K=>K Option.none ρ σ
 |s::ss,X,ρ,σ,K=>nS d s X ρ σ (ue (xk d ss X) K)
end
noncomputable abbrev HB(d:Nat)(e:MS)(a:ar)(σ:aa)(K:QS)(X:QX):Prop:=nS d e X a σ K
noncomputable abbrev ai(d:Nat)(e:List MS)(a:ar)(σ:aa)(K:QS)(X:QX):Prop:=xk d e X a σ K
set_option genCtorIdx true
mutual
noncomputable def kg:PV->Wc
 |.none=> .none
 |.bool b=> .bool b
 |.int i=> .int i
 |.str s=> .str ⟨s.toArray⟩
 |.tup vs=> .tuple (jd vs)
 |.lst vs=> .list (jd vs)
 |_=> .none
noncomputable def jd:List PV->List Wc
 |[]=>[]
 |v::vs=>kg v::jd vs
end
theorem mH{m:PV->Nat->Prop}{k:List PV->Nat->Prop}(h0:∀n,m .none n)(hi:∀i n,m (.int i) n)(hs:∀s n,m (.str s) n)(d:∀a n,k a n->m (.tup a) (n+1))(e:∀a n,k a n->m (.lst a) (n+1))
  (f:∀n,k [] n) (g:∀v vs n,m v n->k vs n->k (v::vs) n):(∀v n,b' v n=true->m v n)/\∀vs n,bd vs n=true->k vs n:=
 have c:∀v vs,(∀n,b' v n=true->m v n)->(∀n,bd vs n=true->k vs n)->∀n,bd (v::vs) n=true->k (v::vs) n:=fun v vs j l n h=>g v vs n (j n (cF h).1) (l n (cF h).2)
 ⟨fun v=>PV.rec (motive_1:=fun v=>∀n,b' v n=true->m v n) (motive_2:=fun vs=>∀n,bd vs n=true->k vs n) (fun n _=>h0 n) (fun _ _ h=>aK h) (fun i n _=>hi i n) (fun s n _=>hs s n) (fun a b n=>n.casesOn (fun h=>aK h) fun n h=>d a n (b n h))
  (fun a b n=>n.casesOn (fun h=>aK h) fun n h=>e a n (b n h)) (fun _ _ _ _ h=>aK h) (fun _ _ h=>aK h) (fun _ _ _ h=>aK h) (fun n _=>f n) c v,
 fun v=>PV.rec_1 (motive_1:=fun v=>∀n,b' v n=true->m v n) (motive_2:=fun vs=>∀n,bd vs n=true->k vs n) (fun n _=>h0 n) (fun _ _ h=>aK h) (fun i n _=>hi i n) (fun s n _=>hs s n) (fun a b n=>n.casesOn (fun h=>aK h) fun n h=>d a n (b n h))
  (fun a b n=>n.casesOn (fun h=>aK h) fun n h=>e a n (b n h)) (fun _ _ _ _ h=>aK h) (fun _ _ h=>aK h) (fun _ _ _ h=>aK h) (fun n _=>f n) c v⟩
noncomputable def DR(h:Om)(d:Wc)(x:M_):Prop:=d.canLay0=true/\∃as,Reads h x d as
noncomputable def LU(h:Om)(d:List Wc)(x:List M_):Prop:=PyData.canLayAll0 d=true/\∃as,ReadsAll h x d as
noncomputable def GL(fz:Fz)(h:Om):Prop:=∀a o,fz a=some o->h.get? a=some o
theorem qj:(∀(v:PV)(n:Nat),b' v n=true->(kg v).depth<=n/\∀(P:Np)(fz:Fz)(h:Om)(x:M_),GL fz h->VR P fz v x->DR h (kg v) x)/\∀(v:List PV)(n:Nat),bd v n=true->Sz (jd v)<=n/\∀(P:Np)(fz:Fz)(h:Om)(x:List M_),GL fz h->aL P fz v x->LU h (jd v) x:=by
 refine mH (fun n=>⟨NP n,fun _ _ _ _ _ r=>?_⟩) (fun _ n=>⟨NP n,fun _ _ _ _ _ r=>?_⟩) (fun _ n=>⟨NP n,fun _ _ _ _ _ r=>?_⟩) (fun _ n b=>⟨NE b.1,fun _ _ _ _ k r=>?_⟩) (fun _ n b=>⟨NE b.1,fun _ _ _ _ k r=>?_⟩)
  (fun n=>⟨NP n,fun _ _ _ _ _ r=>?_⟩) fun _ _ n d e=>⟨Nat.max_le.mpr ⟨d.1,e.1⟩,fun _ _ _ _ k r=>?_⟩
 .cases r.inv;exact⟨rfl,_,.none⟩
 .obtain⟨t,rfl⟩:=r.inv;exact⟨rfl,_,.int ..⟩
 .obtain⟨t,rfl,hs⟩:=r.inv;exact⟨Array.all_eq_true_iff_forall_mem.mpr fun c o=>NN (hs.2 c (by simpa using o)),_,.str ..⟩
 .apply bc;intro f;obtain⟨a,ws,_,rfl,l,_,g⟩:=r.inv;obtain⟨i,as,j⟩:=b.2 _ _ _ _ k g;apply f;exact⟨i,_,.tuple (k _ _ l) rfl rfl j⟩
 .apply bc;intro f;obtain⟨a,ws,_,rfl,l,_,g⟩:=r.inv;obtain⟨i,as,j⟩:=b.2 _ _ _ _ k g;apply f;exact⟨i,_,.list (k _ _ l) rfl rfl j⟩
 .cases r.inv;exact⟨rfl,_,.nil⟩
 .apply bc;intro f;obtain⟨_,_,rfl,g,m⟩:=r.inv;obtain⟨i,as,j⟩:=d.2 _ _ _ _ k g;obtain⟨p,s,q⟩:=e.2 _ _ _ _ k m;apply f;exact⟨Ax i p,_,.cons j q⟩
theorem dL(v:PV)(n:Nat)(h:b' v n=true):(kg v).depth<=n/\∀(P:Np)(fz:Fz)(h:Om)(x:M_),GL fz h->VR P fz v x->DR h (kg v) x:=qj.1 v n h
theorem je(v:List PV)(n:Nat)(h:bd v n=true):Sz (jd v)<=n/\∀(P:Np)(fz:Fz)(h:Om)(x:List M_),GL fz h->aL P fz v x->LU h (jd v) x:=qj.2 v n h
theorem c_{m:PV->Prop}(h0:m .none)(hi:∀i,m (.int i))(hs:∀s,m (.str s))(b:∀a n,bd a n=true->m (.tup a))(c:∀a n,bd a n=true->m (.lst a))(v:PV)(n:Nat)(h:b' v n=true):m v:=
 PV.casesOn (motive_1:=fun v=>b' v n=true->m v) v (fun _=>h0) (fun _ h=>aK h) (fun i _=>hi i) (fun s _=>hs s) (fun a=>n.casesOn (fun h=>aK h) fun n h=>b a n h)
  (fun a=>n.casesOn (fun h=>aK h) fun n h=>c a n h) (fun _ _ h=>aK h) (fun _ h=>aK h) (fun _ _ h=>aK h) h
theorem xA:(∀(a:PV)(n:Nat),b' a n=true->∀b m,b' b m=true->TT (kg a) (kg b)=fB a b)/\∀(a:List PV)(n:Nat),bd a n=true->∀b m,bd b m=true->PyData.eqvAll (jd a) (jd b)=dX a b:=by
 refine mH (fun n=>?_) (fun i n=>?_) (fun s n=>?_) (fun a n c=>?_) (fun a n c=>?_) (fun n b m d=>?_) fun v vs n e f b m d=>?_
 .exact c_ rfl (fun _=>rfl) (fun _=>rfl) (fun _ _ _=>rfl) fun _ _ _=>rfl
 .exact c_ rfl (fun _=>rfl) (fun _=>rfl) (fun _ _ _=>rfl) fun _ _ _=>rfl
 .exact c_ rfl (fun _=>rfl) (fun i=>Bool.eq_iff_iff.mpr (beq_iff_eq.trans (Iff.trans ⟨fun h=>Uv (Str.mk.inj h),fun h=>h▸rfl⟩ beq_iff_eq.symm))) (fun _ _ _=>rfl) fun _ _ _=>rfl
 .exact c_ rfl (fun _=>rfl) (fun _=>rfl) (fun b n h=>c b n h) fun _ _ _=>rfl
 .exact c_ rfl (fun _=>rfl) (fun _=>rfl) (fun _ _ _=>rfl) fun b n h=>c b n h
 .cases b<;>rfl
 .cases b with
  |nil=>rfl
  |cons b g=>exact(Nw (·&&_) (e b m (cF d).1)).trans (Nw (_&&·) (f g m (cF d).2))
theorem qk(a b:PV)(n m:Nat)(c:b' a n=true)(d:b' b m=true):TT (kg a) (kg b)=fB a b:=xA.1 a n c b m d
theorem uf(n m:Nat)(x:PV)(a:b' x m=true)(vs:List PV)(h:bd vs n=true):((jd vs).any fun y=>TT y (kg x))=vs.any fun v=>fB v x:=by
 induction vs with
 |nil=>rfl
 |cons v vs b=>exact(Nw (·||_) (qk v x n m (cF h).1 a)).trans (Nw (_||·) (b (cF h).2))
section
variable{C:Cx}{A:NT}{FR:List NC}{σ:aa}{fz:Fz}{s:Nc}{E:M_->Nc->Prop}
noncomputable def hY(C:Cx)(σ:aa)(fz:Fz)(h:Om)(p:PV)(v:M_):Prop:=match p with
 |.tup vs=>∃a ws,v= .ref a/\IsTup h a ws/\aL C.P fz vs ws.toList/\fa vs
 |.lst vs=>∃a ws,v= .ref a/\h.IsList a ws/\aL C.P fz vs ws.toList/\fa vs
 |p=>VR C.P fz p v
theorem mI(σ:aa)(a:NC):(∃vs,σ a=some (.lst vs)/\(PV.ref a).seen σ= .lst vs)\/(PV.ref a).seen σ= .ref a:=by
 show(∃vs,σ a=some (.lst vs)/\(match σ a with|some (.lst vs)=>PV.lst vs|_=>PV.ref a)= .lst vs)\/(match σ a with|some (.lst vs)=>PV.lst vs|_=>PV.ref a)= .ref a;generalize σ a=m;cases m with
 |none=>exact .inr rfl
 |some m=>
  cases m with
  |lst vs=>exact .inl ⟨vs,rfl,rfl⟩
  |_=>exact .inr rfl
theorem iJ(G:aw C σ fz FR s.heap){p:PV}{v:M_}:VR C.P fz p v->hY C σ fz s.heap (p.seen σ) v:=
 PV.casesOn (motive_1:=fun p=>VR C.P fz p v->hY C σ fz s.heap (p.seen σ) v) p id (fun _=>id) (fun _=>id) (fun _=>id)
  (fun vs r=>by obtain⟨a,ws,n,e,d,b,c⟩:=r.inv;exact⟨a,ws.toArray,e,⟨_,G.sub _ _ d,rfl,_,rfl⟩,c,b⟩) (fun vs r=>by obtain⟨a,ws,n,e,d,b,c⟩:=r.inv;exact⟨a,ws.toArray,e,⟨_,G.sub _ _ d,rfl,_,rfl⟩,c,b⟩) (fun _ _=>id)
  (fun a r=>by
   rcases mI σ a with⟨vs,q,e⟩|e
   .apply bc;intro f;obtain⟨_,o,g,h⟩:=G.led a _ q;obtain⟨ws,n,rfl,b,c⟩:=h.inv;apply f;rw[e];exact⟨a,ws.toArray,r.inv,⟨_,g,rfl,_,rfl⟩,c,b⟩
   .rw[e];exact r) fun _ _=>id
theorem bO(G:aw C σ fz FR s.heap){p q:PV}{v:M_}(r:VR C.P fz p v)(h:p.seen σ=q):hY C σ fz s.heap q v:=h▸iJ G r
theorem kh{σ:aa}{p:PV}{b:Bool}:p.seen σ= .bool b->p= .bool b:=
 PV.casesOn (motive_1:=fun p=>p.seen σ= .bool b->p= .bool b) p id (fun _=>id) (fun _=>id) (fun _=>id) (fun _=>id) (fun _=>id) (fun _ _=>id) (fun a h=>by
  rcases mI σ a with⟨_,_,e⟩|e<;>exact PV.noConfusion (e.symm.trans h)) fun _ _=>id
theorem hY.data(G:aw C σ fz FR s.heap)(r:hY C σ fz s.heap q v)(n:Nat)(c:b' q n=true):
  (kg q).canLay0=true/\(kg q).depth<=n/\∃as,Reads s.heap v (kg q) as:=by
 have z:DR s.heap (kg q) v:=by
  refine c_ (m:=fun q=>hY C σ fz s.heap q v->DR s.heap (kg q) v) (fun r=>(dL .none 0 rfl).2 _ _ _ _ G.sub r) (fun i r=>(dL (.int i) 0 rfl).2 _ _ _ _ G.sub r) (fun i r=>(dL (.str i) 0 rfl).2 _ _ _ _ G.sub r) (fun vs n c r=>?_) (fun vs n c r=>?_) q n c r
  .apply bc;intro d;obtain⟨a,ws,rfl,⟨o,e,f,h,b⟩,g,_⟩:=r;obtain⟨g1,as,g2⟩:=(je vs n c).2 _ _ _ _ G.sub g;apply d;exact⟨g1,_,.tuple e f b g2⟩
  .apply bc;intro d;obtain⟨a,ws,rfl,⟨o,e,f,h,b⟩,g,_⟩:=r;obtain⟨g1,as,g2⟩:=(je vs n c).2 _ _ _ _ G.sub g;apply d;exact⟨g1,_,.list e f b g2⟩
 exact⟨z.1,(dL q n c).1,z.2⟩
theorem aY{c a:Type}{R:Fz->a->c->Prop}{Q:a->aa->Prop}{b:a}{v:c}(G:aw C σ fz FR s.heap)(r:R fz b v)(q:Q b σ):PK C FR σ fz s R Q v s:=
 ⟨b,σ,fz,.refl G,r,q⟩
theorem aW{c a:Type}{R:Fz->a->c->Prop}{Q:a->aa->Prop}{b:a}{v:c}{k:Nat}(G:aw C σ fz FR s.heap)(r:R fz b v)(q:Q b σ):PK C FR σ fz s R Q v {s with toks:=k}:=
 ⟨b,σ,fz,.keep G (fun _ _ h=>h),r,q⟩
noncomputable abbrev RB:Fz->Bool->M_->Prop:=fun _ b v=>v= .bool b
theorem GN(d:∀{Q:M_->Nc->Prop},Q (.bool c) s->Nt C.M A (Ph .Eq x y) Q E s)(e:∀{Q:M_->Nc->Prop},Q (.bool !c) s->Nt C.M A (Ph .NotEq x y) Q E s){Q:M_->Nc->Prop}(a:Bool)(b:Q (.bool (a^^c)) s):Nt C.M A (Ph (if a then .NotEq else .Eq) x y) Q E s:=by
 cases a with
 |false=>exact d (by cases c<;>exact b)
 |true=>exact e (by cases c<;>exact b)
theorem ug:mD p=true->p= .lst []:=
 PV.casesOn (motive_1:=fun p=>mD p=true->p= .lst []) p aK (fun _=>aK) (fun _=>aK) (fun _=>aK) (fun _=>aK) (fun l=>List.casesOn (motive:=fun l=>mD (.lst l)=true->PV.lst l= .lst []) l (fun _=>rfl) fun _ _=>aK) (fun _ _=>aK) (fun _=>aK) fun _ _=>aK
theorem aL.nil_inv{P:Np}{fz:Fz}{x:Array M_}(h:aL P fz [] x.toList):x=#[]:=Array.toList_inj.mp h.inv
theorem Ex{x y:M_}{l g:NC}{ws c:Array M_}{vs:List PV}(n:x= .ref l)(o:y= .ref g)(d:s.heap.IsList l ws)(a:s.heap.IsList g c)(i:aL C.P fz vs ws.toList)(p:aL C.P fz [] c.toList)(f:A.units<TE){Q:M_->Nc->Prop}(b:Bool)(k:Q (.bool (b^^vs.isEmpty)) s):
  Nt C.M A (Ph (if b then .NotEq else .Eq) x y) Q E s:=by
 subst n o;cases p.nil_inv;cases vs with
 |nil=>cases i.nil_inv;exact GN (SeqAt.RcAt.lists (e:=fun _=>true) d a rfl f (fun j h=>absurd h (RJ j)) _ _ _ _) (SeqAt.RcNeAt.lists (e:=fun _=>true) d a rfl f (fun j h=>absurd h (RJ j)) _ _ _ _) b k
 |cons v vs=>
  apply bc;intro q;obtain⟨y,ys,e,_,_⟩:=i.inv;apply q;have m:(ws.size != (#[]:Array M_).size)=true:=(Nw (fun l:List M_=>l.length != 0) e:_)
  exact GN (SeqAt.RcAt.lists_lengths d a m f _ _ _ _) (SeqAt.RcNeAt.lists_lengths d a m f _ _ _ _) b k
theorem uh(G:aw C σ fz FR s.heap)(t:A.units+64<TE){a b:PV}{x y:M_}(g:VR C.P fz a x)(i:VR C.P fz b y){c:Bool}(h:fK a b σ=some c){Q:M_->Nc->Prop}(d:Bool)
  (f:Q (.bool (d^^c)) s):Nt C.M A (Ph (if d then .NotEq else .Eq) x y) Q E s:=by
 unfold fK at h;cases j:ja (a.seen σ)with
 |some p=>rw[j]at h;refine cq h fun q F k=>?_;subst k;obtain rfl:=kh (jb j);obtain rfl:=kh (jb F);cases g.inv;cases i.inv;exact GN eq_bool (fun h=>ne_bool (by cases p<;>cases q<;>exact h)) d f
 |none=>
  rw[j]at h;by_cases hi:(xr (a.seen σ)&&xr (b.seen σ))=true
  .have i0:=cf hi h;injection i0 with z0;subst z0
   apply bc;intro m;obtain⟨u,d1,as,v⟩:=(iJ G g).data G 60 (cF hi).1;obtain⟨w,d2,V,z⟩:=(iJ G i).data G 60 (cF hi).2;apply m;have D:=Nf (NM (M7 (QN (kg (a.seen σ)).depth (kg (b.seen σ)).depth) (M7 d1 (by decide))) A.units) t;rw[←qk _ _ 60 60 (cF hi).1 (cF hi).2]at f;exact GN (SeqAt.compareEq_reads v z u w D) (SeqAt.compareNe_reads v z u w D) d f
  .have h:=bV hi h;by_cases n:mD (b.seen σ)=true
   .apply bc;intro m;refine cq (cf n h) fun vs H k=>?_;subst k;obtain⟨l,ws,ex,K,o,_⟩:=bO G g (du H);obtain⟨W,L,O,r,e,_⟩:=bO G i (ug n);apply m;exact Ex ex O K r o e (Nf (Nn _ _) t) d f
   .exact aj (bV n h)
end
set_option tactic.hygienic true
section
variable{C:Cx}{A:NT}{FR:List NC}{σ:aa}{fz:Fz}{s:Nc}{E:M_->Nc->Prop}
theorem eK(s:List Nat):(⟨s.toArray⟩:Str).length=s.length:=by simp[Wb]
theorem aA:16777216<=P2:=by decide
theorem kZ{a:Type}{ws:Array a}{l:List a}(e:ws.toList=l):ws=l.toArray:=by cases ws;exact Nw _ e
theorem ql{P:Np}{fz:Fz}{ws:Array M_}{vs:List PV}(a:aL P fz vs ws.toList)(b:fa vs):ws.isEmpty=vs.isEmpty/\ws.size<2^63:=by
 refine⟨?_,Nf (a.length▸b:ws.toList.length<=1048576) (by decide)⟩;cases vs with
 |nil=>rw[kZ a.inv];rfl
 |cons v vs=>obtain⟨y,ys,e,_⟩:=a.inv;rw[kZ e];rfl
theorem gV(G:aw C σ fz FR s.heap)(o:VR C.P fz a x)(h:eH a σ=some c){Q:Bool->Nc->Prop}
 (g:∀k,Q c {s with toks:=k}):Nt C.M A (Ui x) Q E s:=by
 have f:Q c s:=g s.toks;refine PV.casesOn (motive_1:=fun v=>Eg v=some c->hY C σ fz s.heap v x->Nt C.M A (Ui x) Q E s) (a.seen σ) (fun h d=>?_) (fun b h d=>?_) (fun i h d=>?_) (fun t h d=>?_) (fun vs h d=>?_) (fun vs h d=>?_) (fun _ _=>aj) (fun _=>aj) (fun _ _=>aj) h (iJ G o)
 .injection h with z0;subst z0;cases d.inv;exact truthy_none f
 .injection h with z0;subst z0;cases d.inv;exact Qs f
 .injection h with z0;subst z0;obtain⟨t,rfl⟩:=d.inv;exact P.truthy_int f
 .injection h with z0;subst z0
  obtain⟨tk,rfl,hs⟩:=d.inv;refine P.truthy_str (Int.not_le.mpr (Int.ofNat_lt.mpr (Nf hs.1 (by decide:1048576<2^63)))) ?_;cases t<;>exact g _
 .injection h with z0;subst z0
  obtain⟨l,ws,rfl,j,m,n⟩:=d;obtain⟨e,k⟩:=ql m n;exact truthy_tuple j (Int.ofNat_lt.mpr k) (by rw[e];exact g _)
 .injection h with z0;subst z0
  obtain⟨l,ws,rfl,j,m,n⟩:=d;obtain⟨e,k⟩:=ql m n;exact wpAny_truthy_list j (Int.ofNat_lt.mpr k) (by rw[e];exact g _)
theorem Bh(h:xr x=true){fz:Fz}{b:Om}{C:Cx}(k:∀a o,fz a=some o->b.get? a=some o)(r:VR C.P fz x v):
  (kg x).canLay0=true/\(kg x).depth<=60/\∃as,Reads b v (kg x) as:=by
 have f:=dL x 60 h;obtain⟨g1,g2⟩:=f.2 C.P fz b v k r;exact⟨g1,f.1,g2⟩
theorem dI.pairs(w:OY){fz:Fz}{ns:List Str}{vs:List PV}{es:List N6}(h:dI w.params fz ns vs es):
  Pairs (strKind pw w) es (ns.zip (es.map (·.val)))/\(∀e∈es,∃k,(strKind pw w).is k e.key=true/\e.hash=(strKind pw w).hash k)/\aL w.params fz vs (es.map (·.val))/\ns.length=es.length/\vs.length=es.length:=by
 refine h.ind (m:=fun ns vs es=>Pairs (strKind pw w) es (ns.zip (es.map (·.val)))/\(∀e∈es,∃k,(strKind pw w).is k e.key=true/\e.hash=(strKind pw w).hash k)/\aL w.params fz vs (es.map (·.val))/\ns.length=es.length/\vs.length=es.length) ⟨.nil,(fun e h=>by cases h),.nil,rfl,rfl⟩ fun{n ns v vs e es} b h _ a=>?_;apply bc;intro c;obtain⟨d,t,f⟩:=b;apply c;have k:(strKind pw w).is n e.key=true:=by rw[f];exact PD pw w _ t
 exact⟨.cons k rfl a.1,List.forall_mem_cons.mpr ⟨⟨_,k,d⟩,a.2.1⟩,.cons h a.2.2.1,Nw (·+1) a.2.2.2.1,Nw (·+1) a.2.2.2.2⟩
theorem dI.of_pairs(w:OY){fz:Fz}{kvs:List (Str×M_)}{es:List N6}(b:Pairs (strKind pw w) es kvs):∀{vs:List PV},
  (∀e∈es,∃k,(strKind pw w).is k e.key=true/\e.hash=(strKind pw w).hash k)->aL w.params fz vs (kvs.map (·.2))->dI w.params fz (kvs.map (·.1)) vs es:=by
 induction b with
 |nil=>intro vs _ h;cases vs with
  |nil=>exact .nil
  |cons v vs=>obtain⟨_,_,e,_⟩:=h.inv;exact Bb e
 |cons c f b g=>
  intro vs d h;cases vs with
  |nil=>exact kT h.inv
  |cons v vs=>
   apply bc;intro i;obtain⟨_,_,e,j,a⟩:=h.inv;injection e with z0 z1;subst z0 z1
   obtain⟨k,l,m⟩:=d _ Ng;obtain⟨t,n⟩:=R4 c;apply i;obtain rfl:=(strKind pw w).inj _ _ _ l c;exact .cons ⟨m,t,n⟩ (f▸j) (g (fun e o=>d e (Ni _ o)) a)
theorem da(h:aq a=aq b):a=b:=Uv (Nw Str.cps h)
inductive gd(P:Np)(fz:Fz):List (List Nat×PV)->List (Str×M_)->Prop
 |nil:gd P fz [] []
 |cons {k:List Nat} {p:PV} {kvs:List (List Nat×PV)} {v:M_} {r:List (Str×M_)} (h:VR P fz p v) (t:gd P fz kvs r):gd P fz ((k,p)::kvs) ((aq k,v)::r)
section
variable{P:Np}{fz:Fz}{k:List Nat}{kvs:List (List Nat×PV)}{r:List (Str×M_)}
theorem gd.of:∀{xs:List M_},aL P fz (kvs.map (·.2)) xs->gd P fz kvs ((kvs.map fun k=>aq k.1).zip xs):=by
 induction kvs with
 |nil=>intro xs h;exact .nil
 |cons a r b=>intro xs h;obtain⟨_,_,rfl,c,hs⟩:=h.inv;exact .cons c (b hs)
theorem gd.keys(h:gd P fz kvs r):r.map (·.1)=kvs.map fun k=>aq k.1:=by
 induction h with
 |nil=>rfl
 |cons _ _ a=>exact Nw (_::·) a
theorem gd.len(h:gd P fz kvs r):r.length=kvs.length:=by
 induction h with
 |nil=>rfl
 |cons _ _ a=>exact Nw (·+1) a
theorem gd.vals(h:gd P fz kvs r):aL P fz (kvs.map (·.2)) (r.map (·.2)):=by
 induction h with
 |nil=>exact .nil
 |cons h _ a=>exact .cons h a
theorem ki(a:List Nat):decide (aq a=aq k)=decide (a=k):=decide_eq_decide.mpr ⟨da,Nw _⟩
theorem gd.valueAt(h:gd P fz kvs r):(∀p,i' kvs k=some p->∃v,PySem.valueAt r (aq k)=some v/\VR P fz p v)/\(i' kvs k=none->PySem.valueAt r (aq k)=none):=by
 induction h with
 |nil=>exact⟨fun p=>aj,fun _=>rfl⟩
 |cons h t a=>
  rename_i b d kvs e r;unfold i' PySem.valueAt at a⊢;rw[QG,QG,ki];cases decide (b=k)with
  |true=>exact⟨fun p c=>⟨_,rfl,Nh c▸h⟩,bb⟩
  |false=>exact a
theorem gd.any(h:gd P fz kvs r):(r.any fun kv=>decide (kv.1=aq k))=kvs.any fun kv=>decide (kv.1=k):=by
 induction h with
 |nil=>rfl
 |cons h t a=>rw[Pf,Pf,a,ki]
theorem gd.map(b:VR P fz p v)(h:gd P fz kvs r):gd P fz (kvs.map fun kv=>if kv.1=k then(kv.1,p)else kv) (r.map fun kv=>if kv.1=aq k then(kv.1,v)else kv):=by
 induction h with
 |nil=>exact .nil
 |cons h t a=>
  rename_i c _ _ _ _;rw[NU,NU];by_cases e:c=k
  .rw[Nd e,Nd (Nw _ e)];exact .cons b a
  .rw[Na e,Na fun q=>e (da q)];exact .cons h a
theorem gd.snoc(a:VR P fz p v)(h:gd P fz kvs r):gd P fz (kvs++[(k,p)]) (r++[(aq k,v)]):=by
 induction h with
 |nil=>exact .cons a .nil
 |cons h _ b=>exact .cons h b
end
theorem gd.stored{P:Np}{fz:Fz}(a:VR P fz p v)(h:gd P fz kvs r):gd P fz (rP kvs k p) (PySem.stored r (aq k) v):=by
 unfold rP PySem.stored;rw[h.any];split
 .exact h.map a
 .exact h.snoc a
theorem dZ(G:aw C σ fz FR s.heap){a:NC}{kvs:List (List Nat×PV)}(h:σ a=some (.dct kvs)):
  ∃r,s.heap.DictOf (strKind pw C.w) a r/\gd C.P fz kvs r/\fa kvs/\(∀k∈kvs,e' k.1)/\(kvs.map (·.1)).Nodup:=by
 apply bc;intro c;obtain⟨_,o,i,j⟩:=G.led a _ h;apply c;cases j with
 |dct l m f n=>apply bc;intro c;obtain⟨p1,p,t,v,x⟩:=dI.pairs C.w n;apply c;have g:=gd.of t;refine⟨_,⟨_,_,_,i,⟨rfl,rfl,rfl⟩,rfl,fun e u=>p e (by simpa using u),by simpa using p1,?_⟩,g,l,m,f⟩;rw[g.keys,show(fun k:List Nat×PV=>aq k.1)=aq∘(·.1)from rfl,←Ox];exact Qz _ (fun a b d q=>d (da q)) f
theorem k9{h:Om}(p:h.DictOf (strKind pw C.w) a r)(i:gd C.P fz kvs r)(s:fa kvs)(t:∀k∈kvs,e' k.1):
  ∃o,h.get? a=some o/\MR C.P fz (.dct kvs) o:=by
 apply bc;intro u;obtain⟨⟨c,d,A,D⟩,es,E,v,⟨j,l,m⟩,n,x,y,f⟩:=p;apply u;simp only at j l m n;subst j l m n;refine⟨_,v,?_⟩;have:=dI.of_pairs C.w (fz:=fz) (vs:=kvs.map (·.2)) y (fun e z=>x e (by simpa using z)) i.vals;rw[i.keys]at this f;have e:(es:Array N6)=es.toList.toArray:=by simp
 rw[e];refine MR.dct s t ?_ this;rw[show(fun k:List Nat×PV=>aq k.1)=aq∘(·.1)from rfl,←Ox]at f;exact VB _ (fun a b g q=>g (Nw _ q)) f
end
set_option tactic.hygienic false
section
variable{C:Cx}{A:NT}{FR:List NC}{σ:aa}{fz:Fz}{s:Nc}{E:M_->Nc->Prop}
theorem aJ(C:Cx){o:Obj}(h:(H1 C.P).get? a=some o)(G:aw C σ fz FR s.heap):fz a=some o/\s.heap.get? a=some o:=
 ⟨G.base a o (C.base a o h),G.sub a o (G.base a o (C.base a o h))⟩
theorem iK(C:Cx)(G:aw C σ fz FR s.heap)(h:σ a≠none):(a==UW)=false:=by
 obtain⟨o,c⟩:∃o,(H1 C.P).get? UW=some o:=⟨_,rfl⟩
 have:=(aJ C c G).1;rw[beq_eq_false_iff_ne];intro e;cases q:σ a with
 |none=>exact h q
 |some m=>have b:=(G.led a m q).1;rw[e,this]at b;exact bb b
theorem k_(C:Cx)(G:aw C σ fz FR s.heap):s.heap.NoLimit:=by
 obtain⟨o,a⟩:∃o,(H1 C.P).get? cStatics=some o:=⟨_,rfl⟩
 have d:=(aJ C a G).2;have b:(H1 C.P).get? cStatics=some _:=rfl;rw[a]at b;injection b with z0;subst z0
 refine⟨_,⟨_,_,_,d,rfl,?_,fun _=>rfl⟩,rfl⟩;intro e c;simp only[G3,List.mem_toArray,Rk,Nx,V0]at c;rcases c with rfl|rfl<;>exact⟨_,_,rfl⟩
theorem HC{P:Np}{fz:Fz}(h:dD a=some i)(r:VR P fz a x):∃t,x= .int i t:=by obtain rfl:=kW h;exact r.inv
theorem HD{P:Np}{fz:Fz}{a:PV}{x:M_}{i:List Nat}(h:dq a=some i)(r:VR P fz a x):∃t,x= .str ⟨i.toArray⟩ t/\e' i:=by obtain rfl:=xt h;exact r.inv
theorem tR{P:Np}{fz:Fz}{p:Prop}(h:dD a=some i)(r:VR P fz a x)(k:∀t,x= .int i t->p):p:=(HC h r).elim k
theorem rV{P:Np}{fz:Fz}{a:PV}{x:M_}{i:List Nat}{p:Prop}(h:dq a=some i)(r:VR P fz a x)(k:∀t,x= .str ⟨i.toArray⟩ t->e' i->p):p:=(HD h r).elim fun t e=>k t e.1 e.2
theorem GO{s':Nc}(d:∀{Q:M_->Nc->Prop},Q (.bool c) s'->Nt C.M A (Ph .In x y) Q E s)(e:∀{Q:M_->Nc->Prop},Q (.bool !c) s'->Nt C.M A (Ph .NotIn x y) Q E s){Q:M_->Nc->Prop}(a:Bool)(b:Q (.bool (a^^c)) s'):Nt C.M A (Ph (if a then .NotIn else .In) x y) Q E s:=by
 cases a with
 |false=>exact d (by cases c<;>exact b)
 |true=>exact e (by cases c<;>exact b)
theorem xB(G:aw C σ fz FR s.heap)(n:A.units+100<TE){a b:PV}{x y:M_}(o:VR C.P fz a x)(l:VR C.P fz b y){vs:List PV}(hs:b.seen σ= .lst vs\/b.seen σ= .tup vs)(hi:(xr a&&gT vs)=true){Q:M_->Nc->Prop}(c:Bool)
  (j:Q (.bool (c^^vs.any fun v=>fB v a)) s):Nt C.M A (Ph (if c then .NotIn else .In) x y) Q E s:=by
 apply bc;intro d;refine qh hi fun m k=>?_;obtain⟨g,d1,as,h⟩:=Bh m G.sub o;apply d;have i:=Nf (NM (M7 (Ru (Sz (jd vs)) _) d1) (A.units+1)) (Pe (by omega) n);rw[←uf 60 60 a m vs k]at j;rcases hs with hs|hs
 .apply bc;intro d;obtain⟨e,_,p,f⟩:=(bO G l hs).data G 61 k;apply d;exact GO (SeqAt.in_list_reads f h e g i) (SeqAt.notIn_list_reads f h e g i) c j
 .apply bc;intro d;obtain⟨e,_,p,f⟩:=(bO G l hs).data G 61 k;apply d;exact GO (SeqAt.in_tuple_reads f h e g i) (SeqAt.notIn_tuple_reads f h e g i) c j
theorem qm(u:List Nat)(a:Nat):(!(Wf ⟨u.toArray⟩ ⟨[a].toArray⟩ 0 (⟨u.toArray⟩:Str).length 1).isEmpty)=u.contains a:=by rw[show(⟨[a].toArray⟩:Str)=⟨#[a]⟩ from rfl,StrLaws.found_one ⟨u.toArray⟩ a,Bool.eq_iff_iff];simp
theorem ui(G:aw C σ fz FR s.heap)(L:A.units+100<TE)(o:VR C.P fz a x)(m:VR C.P fz b y)(h:kU a b σ=some c){Q:M_->Nc->Prop}(d:Bool)
 (v:∀k,Q (.bool (d^^c)) {s with toks:=k}):Nt C.M A (Ph (if d then .NotIn else .In) x y) Q E s:=by
 have f:Q (.bool (d^^c)) s:=v s.toks;unfold kU at h;cases hs:mC (b.seen σ)with
 |some vs=>
  rw[hs]at h;by_cases hi:(xr a&&gT vs)=true
  .have i0:=cf hi h;injection i0 with z0;subst z0
   exact xB G L o m (kX hs) hi d f
  .exact aj (bV hi h)
 |none=>
  rw[hs]at h;apply bc;intro g;refine bF h fun t O h=>?_;refine rV O o fun D i Z=>?_;subst i;apply g;cases n:dq b with
  |some u=>rw[n]at h;apply bc;intro g;refine cq h fun F V i=>?_;subst i;obtain rfl:=aS V;refine rV n m fun tb i _=>?_;subst i;apply g;exact GO (fun h=>VJ ((qm u F).symm▸h)) (fun h=>VG ((qm u F).symm▸h)) d f
  |none=>
   rw[n]at h;apply bc;intro g;refine cq h fun p W X=>?_;obtain⟨rfl,j⟩:=f8 W;cases m.inv;obtain⟨r,H,K,_⟩:=dZ G j;apply g;have e:(valueAt r (aq t)).isSome=c:=by
    rw[←X];cases q:i' p.2 t with
    |none=>rw[K.valueAt.2 q];rfl
    |some p=>obtain⟨z,Y,_⟩:=K.valueAt.1 p q;rw[Y];rfl
   have l:=iK C G (a:=p.1) fun q=>aj (q.symm.trans j);exact GO (fun h=>wpAny_in_of (knd:=strKind pw C.w) (k:=aq t) (PD pw C.w _ D) l H.mapOf (e.symm▸h)) (fun h=>wpAny_notIn_of (knd:=strKind pw C.w) (k:=aq t) (PD pw C.w _ D) l H.mapOf (e.symm▸h)) d (v (s.toks+1))
theorem LV{b:PV}{n c:Bool}(h:(if isNone b=true then some n else none)=some c):b= .none/\n=c:=by
 by_cases e:isNone b=true
 .exact⟨rS e,Nh (cf e h)⟩
 .exact aj (bV e h)
theorem uj{P:Np}{fz:Fz}{a b:PV}{x y:M_}{p:Int×Int}(h:oJ a b=some p)(c:VR P fz a x)(d:VR P fz b y):∃t u,x= .int p.1 t/\y= .int p.2 u:=by obtain⟨rfl,rfl⟩:=xu h;obtain⟨t,rfl⟩:=c.inv;obtain⟨u,rfl⟩:=d.inv;exact⟨t,u,rfl,rfl⟩
theorem gg(e:VR C.P fz a x)(g:VR C.P fz b y){f:Int->Int->Bool}(h:tY a b f=some c){Q:M_->Nc->Prop}(l:Q (.bool c) s)
 (k:∀{i j:Int}{t u:Tok},Q (.bool (f i j)) s->Nt C.M A (Ph d (.int i t) (.int j u)) Q E s):Nt C.M A (Ph d x y) Q E s:=by refine cq h fun p m n=>?_;subst n;obtain⟨_,_,rfl,rfl⟩:=uj m e g;exact k l
theorem Bi(d:VR C.P fz a x)(e:VR C.P fz b y)(h:(if isNone b=true then some (isNone a)else none)=some c){Q:M_->Nc->Prop}(f:Q (.bool c) s):Nt C.M A (Ph .Is x y) Q E s:=by obtain⟨rfl,rfl⟩:=LV h;cases e.inv;refine PySem.is_none ?_;cases d<;>exact f
theorem xC(d:VR C.P fz a x)(e:VR C.P fz b y)(h:(if isNone b=true then some (!isNone a)else none)=some c){Q:M_->Nc->Prop}(f:Q (.bool c) s):Nt C.M A (Ph .IsNot x y) Q E s:=by obtain⟨rfl,rfl⟩:=LV h;cases e.inv;refine PySem.isNot_none ?_;cases d<;>exact f
theorem fe(G:aw C σ fz FR s.heap)(j:A.units+100<TE)(e:VR C.P fz a x)(g:VR C.P fz b y)(h:eJ l a b σ=some c){Q:M_->Nc->Prop}
 (m:∀k,Q (.bool c) {s with toks:=k}):Nt C.M A (Ph l x y) Q E s:=by
 have d:Q (.bool c) s:=m s.toks;have i:A.units+64<TE:=Pe (QW (by decide) _) j;cases l
 case Eq=>exact uh G i e g h false (by cases c<;>exact d)
 case NotEq=>
  apply bc;intro n;refine cq h fun o h' p=>?_;subst p;apply n;exact uh G i e g h' true (by cases o<;>exact d)
 case In=>exact ui G j e g h false (by cases c<;>exact m)
 case NotIn=>
  apply bc;intro n;refine cq h fun o h' p=>?_;subst p;apply n;exact ui G j e g h' true (by cases o<;>exact m)
 case Is=>exact Bi e g h d
 case IsNot=>exact xC e g h d
 case Lt=>exact gg (f:=fun x y=>decide (x<y)) e g h d P.lt_int
 case LtE=>exact gg (f:=fun x y=>decide (x<=y)) e g h d P.le_int
 case Gt=>exact gg (f:=fun x y=>decide (y<x)) e g h d P.gt_int
 case GtE=>exact gg (f:=fun x y=>decide (y<=x)) e g h d P.ge_int
noncomputable abbrev eM(C:Cx)(a:List NC)(σ:aa)(fz:Fz)(s:Nc)(Q:QV):M_->Nc->Prop:=PK C a σ fz s (VR C.P) Q
theorem rW(a:small x)(b:small y):IntMulOk x y:=IntMulOk.of_bits (by unfold small at a;exact M7 a (by decide)) (by unfold small at b;exact M7 b (by decide))
theorem xD(C:Cx){σ:aa}{fz:Fz}{h:Om}(r:hY C σ fz h (.lst vs) v):∃a ws,v= .ref a/\h.IsList a ws/\aL C.P fz vs ws.toList/\fa vs:=r
theorem oN{a b:List Nat}(d:e' a)(e:e' b)(f:a.length+b.length<=aV):e' (a++b):=
 ⟨by simpa [aV]using f,fun c g=>(List.mem_append.mp g).elim (d.2 c) (e.2 c)⟩
theorem fresh(h:Om):h.get? h.objs.size=none:=by
 cases q:h.get? h.objs.size with
 |none=>rfl
 |some o=>exact absurd (Oo q) (Ro _)
theorem Ey{a:Type}{R:Fz->PV->a->Prop}{Q:QV}{o:Obj}{k:Nat}{p:PV}{v:a}(G:aw C σ fz FR s.heap)(c:o.isFreed=false)
  (d:(∀b x,fz b=some x->fz.ext s.heap.objs.size o b=some x)->fz.ext s.heap.objs.size o s.heap.objs.size=some o->R (fz.ext s.heap.objs.size o) p v) (f:Q p σ):
  PK C FR σ fz s R Q v {s with heap:=s.heap.push o,toks:=k}:=by
 have g:=GS.fzNew (s':={s with heap:=s.heap.push o,toks:=k}) G (o:=o) (fresh s.heap) (fun b o' e=>Nm _ e) (NI _ c);exact⟨p,σ,_,g,d g.1.fzk (by simp[Fz.ext]),f⟩
theorem oO{vs:List PV}{ws:List M_}{Q:QV}{k:Nat}(G:aw C σ fz FR s.heap)(a:aL C.P fz vs ws)(b:fa vs)(c:Q (.lst vs) σ):
  PK C FR σ fz s (VR C.P) Q (.ref s.heap.objs.size) {s with heap:=s.heap.push (bH "list" ws.toArray 0),toks:=k}:=
 Ey G rfl (fun k e=> .lst e b (a.mono k)) c
theorem uk{vs:List PV}{ws:List M_}{Q:QV}{k:Nat}(G:aw C σ fz FR s.heap)(a:aL C.P fz vs ws)(b:fa vs)(c:Q (.tup vs) σ):
  PK C FR σ fz s (VR C.P) Q (.ref s.heap.objs.size) {s with heap:=s.heap.push (bH "tuple" ws.toArray 0),toks:=k}:=
 Ey G rfl (fun k e=> .tup e b (a.mono k)) c
theorem AA{o:Obj}{Q:QV}(G:aw C σ fz FR s.heap)(c:o.isFreed=false)(d:MR C.P fz m o)(f:∀a,σ a=none->Q (.ref a) (σ.upd a m)):
  PK C FR σ fz s (VR C.P) Q (.ref s.heap.objs.size) {s with heap:=s.heap.push o,toks:=k}:=
 ⟨_,_,_,GS.ledNew (s':={s with heap:=s.heap.push o,toks:=k}) G (fresh s.heap) (fun b o' e=>Nm _ e) (NI _ c) d,.ref _,f _ (G.free (fresh s.heap)).2.1⟩
theorem HE{Q:M_->Nc->Prop}(p:s.heap.IsList l xs)(q:s.heap.IsList b ys)
 (h:Q (.ref s.heap.objs.size) {s with heap:=s.heap.push {cls:= .type "list",data:= .seq (xs++ys)}}) (e:xs.size+ys.size<=P2):Nt C.M A (SZ .Add (.ref l) (.ref b)) Q E s:=by apply bc;intro r;obtain⟨⟨cls,t,data,u⟩,j,k,n,m⟩:=id p;obtain⟨⟨o,f,g,i⟩,a,c,v,d⟩:=id q;apply r;simp only at k m c d;subst k m c d;exact concat_meets ⟨_,j,rfl⟩ ⟨_,a,rfl⟩ noFill_list_add seq_list_add PySem.F.slot_list_add PySem.F.entry_list_add (PySem.F.args_list_add_2 _ _) (list_addW l b xs ys n v t f u i e) ⟨j,a,h⟩
theorem xE(G:aw C σ fz FR s.heap){Q:QV}(h:Be d i j σ Q):Nt C.M A (SZ d (.int i u) (.int j v)) (eM C FR σ fz s Q) E s:=by
 have tk:∀{b:PV}{v:M_}{k:Nat},VR C.P fz b v->Q b σ->eM C FR σ fz s Q v {s with toks:=k}:=fun r q=>aW G r q;cases d
 case Sub=>exact P.sub_int (tk (.int ..) h)
 case FloorDiv=>
  obtain⟨h0,a,c⟩:=h;refine floordiv_int h0 (tk (.int ..) c) (.inl (PyProof.noPylong_of_log2 ?_));unfold small Pi at a;have:¬(j==0)=true:=by simpa using h0
  rw[Na this]at a;exact M7 a (by decide)
 case Mod=>exact mod_int' h.1 (tk (.int ..) h.2)
 case BitAnd=>exact and_int (tk (.int ..) h)
 case BitOr=>exact or_int (tk (.int ..) h)
 case BitXor=>exact xor_int (tk (.int ..) h)
 case LShift=>
  obtain⟨h0,a,c,e⟩:=h;refine lshift_int h0 ?_ (tk (.int ..) e);unfold small at c;lia
 case RShift=>exact rshift_int h.1 (tk (.int ..) h.2)
 case Pow=>
  obtain⟨h0,a,c,e⟩:=h;subst h0;refine pow_int a ?_ (tk (.int ..) e);have:Pi 2=2:=by decide+kernel
  rw[this];lia
 all_goals exact h.elim
theorem lb(i j:List Nat):(⟨i.toArray⟩:Str)++(⟨j.toArray⟩:Str)=⟨(i++j).toArray⟩:=Nw Str.mk (T6 i j)
theorem xF(G:aw C σ fz FR s.heap)(m:VR C.P fz a x)(n:VR C.P fz b y){Q:QV}(h:oK a b σ Q):Nt C.M A (SZ .Add x y) (eM C FR σ fz s Q) E s:=by
 unfold oK at h;cases hi:dD a with
 |some i=>rw[hi]at h;apply bc;intro e;refine fb h fun j o h=>?_;refine tR hi m fun _ c=>?_;subst c;refine tR o n fun _ c=>?_;subst c;apply e;exact P.add_int (aW G (.int ..) h)
 |none=>
 rw[hi]at h;cases d:dq a with
 |some i=>rw[d]at h;apply bc;intro e;refine fb h fun j o h=>?_;refine rV d m fun F c u=>?_;subst c;refine rV o n fun H c w=>?_;subst c;apply e;refine VM (fun r k=>?_) (by rw[eK,eK];exact M7 h.1 (M7 (by decide) aA));rw[lb];exact aW (k:=k) (R:=VR C.P) (v:= .str ⟨(i++j).toArray⟩ r) G (.str _ r (oN u w h.1)) h.2
 |none=>
 rw[d]at h;apply bc;intro e;refine fb h fun vs hs h=>?_;refine fb h fun ws p h=>?_;obtain⟨l,xs,rfl,z,t,K⟩:=bO G m (du hs);obtain⟨L,f,rfl,q,g,D⟩:=bO G n (du p);apply e;refine HE z q ?_ ?_
 .rw[show xs++f=(xs.toList++f.toList).toArray from kZ Array.toList_append];exact oO (k:=s.toks) G (t.append g) (M7 (NJ M9) h.1) h.2
 .rw[←OV,←OV,t.length,g.length];exact M7 h.1 (M7 (by decide) aA)
theorem xG(c m:Nat)(acc:Array Nat):(NF m (⟨[c].toArray⟩:Str).cps).foldl (·++·) acc=acc++(NF m c).toArray:=by
 induction m generalizing acc with
 |zero=>exact(Array.append_empty).symm
 |succ m a=>rw[T5,RF,a,T5];exact Array.append_assoc.trans (Nw (acc++·) (T6 [c] _))
theorem ul{c:Nat}{n:Int}{t:Tok}{Q:M_->Nc->Prop}(h0:0<=n)(b:n<=64)(main:∀t k,Q (.str ⟨(NF n.toNat c).toArray⟩ t) {s with toks:=k}):
  (if n<1 then Made.str Str.empty else if(n==1||(⟨[c].toArray⟩:Str).length==0)=true then Made.val (Ss ⟨[c].toArray⟩ t)else Made.str {cps:=Sa (fun d e=>d++e) #[] (NF n.toNat (⟨[c].toArray⟩:Str).cps)}).post Q s:=by
 by_cases n0:n<1
 .rw[Nd n0];obtain rfl:=US (Int.lt_add_one_iff.mp n0) h0;exact⟨by decide,main _ _⟩
 .rw[Na n0];by_cases a:n=1
  .subst a;exact main _ s.toks
  .rw[Na (by rw[beq_eq_false_iff_ne.mpr a];exact Ps),xG,Array.empty_append];exact⟨by rw[eK,Pg];exact M7 (Int.toNat_le.mpr (O4 b (by decide:(64:Int)<=16777216))) aA,main _ _⟩
theorem xH(G:aw C σ fz FR s.heap){a b:PV}{x y:M_}(m:VR C.P fz a x)(o:VR C.P fz b y){Q:QV}(h:Bc a b σ Q):Nt C.M A (SZ .Mult x y) (eM C FR σ fz s Q) E s:=by
 unfold Bc at h;cases hi:dD a with
 |some i=>rw[hi]at h;apply bc;intro f;refine fb h fun j p h=>?_;refine tR hi m fun _ e=>?_;subst e;refine tR p o fun _ e=>?_;subst e;apply f;exact P.mul_int (aW G (.int ..) h.2.2) (rW h.1 h.2.1)
 |none=>
 rw[hi]at h;apply bc;intro f;refine fb h fun ss l h=>?_;refine fb h fun c q h=>?_;refine fb h fun n r u=>?_;obtain⟨h0,g,v⟩:=u;refine rV l m fun D e w=>?_;subst e;refine tR r o fun F e=>?_;subst e;apply f;obtain rfl:=aS q;have b:0<=n/\n<=64->(decide (n< -2^63)||decide (n>=2^63))=false/\(¬n<1->¬((1:Nat):Int)>(2^63-1) / n)/\1*n.toNat<=16777216:=by
  intro ⟨h0,g⟩;refine⟨?_,fun a1=>?_,by omega⟩
  .rw[NQ (by omega),NQ (by omega)];rfl
  .exact Int.not_lt.mpr ((Int.le_ediv_iff_mul_le (Int.not_lt.mp a1)).mpr (by omega))
 apply bc;intro f;obtain⟨b1,b2,b3⟩:=b ⟨h0,g⟩;apply f;refine P.mul_str b1 (fun a _=>b2 a) (fun _ _=>NQ (Nat.not_lt.mpr (M7 b3 aA))) (ul h0 g fun t k=>aW G (.str _ t ⟨?_,fun d z=>?_⟩) v)
 .rw[Pg];exact M7 (NJ (VO _).symm) (M7 (Op 1 (Int.toNat_le.mpr (O4 g (by decide:(64:Int)<=1048576)))) (by decide))
 .rw[(List.mem_replicate.mp z).2];exact w.2 c Ng
theorem xI(G:aw C σ fz FR s.heap)(i:A.units+100<TE)(d:VR C.P fz a x)(e:VR C.P fz b y){Q:QV}(h:Eh c a b σ Q):
  Nt C.M A (SZ c x y) (eM C FR σ fz s Q) E s:=by
 have f:(dJ (oJ a b) fun p=>Be c p.1 p.2 σ Q)->Nt C.M A (SZ c x y) (eM C FR σ fz s Q) E s:=fun h=>by refine fb h fun p g h=>?_;obtain⟨_,_,rfl,rfl⟩:=uj g d e;exact xE G h
 cases c
 case Add=>exact xF G d e h
 case Mult=>exact xH G d e h
 all_goals exact f h
theorem xJ(G:aw C σ fz FR s.heap)(b:VR C.P fz a x){Q:QV}(h:Ei a σ Q):
  Nt C.M A (unaryOp .USub x) (eM C FR σ fz s Q) E s:=by
 refine fb h fun i hi h=>?_;refine tR hi b fun _ c=>?_;subst c;exact P.neg_int (aW G (.int ..) h)
end
set_option tactic.hygienic true
section
variable{C:Cx}{A:NT}{FR:List NC}{σ:aa}{fz:Fz}{s:Nc}{E:M_->Nc->Prop}
theorem jf(a:Expr)(o i:M_):UC a false o i=operate [i,o] (Vf o i)\/UC a false o i=operate [o,i] (Vf o i):=by
 cases a
 case Slice _ _ st _=>cases st with
  |none=>exact .inl rfl
  |some _=>exact .inr rfl
 all_goals exact .inr rfl
theorem fg{a b:Expr}{o i:M_}{T id:String}{Q:M_->Nc->Prop}(f:s.TypeIs o T)
  (g:Rn (.type T) "__getitem__"=OJ (some (.builtin id))) (h:Nt C.M A (Vf o i) Q E s):Nt C.M A (RA a b o i) Q E s:=by
 unfold RA;apply M8;rw[getitemInPython_of_ne f.not_modules];refine M8 (Tm f g ?_);have j:Nt C.M A (Vf o i) (fun r c=>Nt C.M A (TC a o r>>=fun _=>OJ r) Q E c) E s:=
  Nq h (fun r c d=>M8 (UB (Nl d))) fun _ _ x=>x
 have fin:Nt C.M A (UC b false o i) (fun r c=>Nt C.M A (TC a o r>>=fun _=>OJ r) Q E c) E s:=by rcases jf b o i with e|e<;>rw[e]<;>exact wpAny_operating j
 first
  |exact Nl (M8 fin)
  |exact M8 (Nl (M8 fin))
  |exact M8 fin
theorem aL.get'{P:Np}{fz:Fz}{v:List PV}{x:Array M_}{i:Nat}{p:PV}(h:aL P fz v x.toList)(hi:v[i]? =some p):∃q,x[i]? =some q/\VR P fz p q:=by obtain⟨q,a,r⟩:=h.get hi;exact⟨q,Array.getElem?_toList.symm.trans a,r⟩
theorem aL.size{P:Np}{fz:Fz}{v:List PV}{x:Array M_}(h:aL P fz v x.toList):x.size=v.length:=h.length
theorem mJ{k:Int}{n j:Nat}(h:kY k n=some j):(-1000000000<=k/\k<=1000000000)/\seqIndex? k n=some j/\(k<0/\ -(n:Int)<=k/\(k+n).toNat=j\/0<=k/\k.toNat=j):=by
 unfold kY at h;by_cases c: -1000000000<=k/\k<=1000000000
 .have h:=cf c h;refine⟨c,h,?_⟩;have h:(if(decide (0<=(if k<0 then k+n else k))&&decide ((if k<0 then k+n else k)<(n:Int)))=true then some (if k<0 then k+n else k).toNat else none)=some j:=h;by_cases a:(decide (0<=(if k<0 then k+n else k))&&decide ((if k<0 then k+n else k)<(n:Int)))=true
  .have h:=Nh (cf a h);have a:=N2 (cF a).1;by_cases b:k<0
   .rw[Nd b]at h a;exact .inl ⟨b,Int.le_of_sub_nonneg (by rw[Int.sub_neg];exact a),h⟩
   .rw[Na b]at h;exact .inr ⟨Int.not_lt.mp b,h⟩
  .exact aj (bV a h)
 .exact aj (bV c h)
theorem LW(h: -1000000000<=k/\k<=1000000000): -2^63<=k/\k<2^63:=⟨O4 (by decide) h.1,Sh h.2 (by decide)⟩
theorem Ez(h: -2^63<=k/\k<2^63):(decide (k< -2^63)||decide (k>=2^63))=false:=by rw[NQ (Int.not_lt.mpr h.1),NQ (Int.not_le.mpr h.2)];rfl
theorem xK(G:aw C σ fz FR s.heap){c d:Expr}{o w:PV}{n:M_}{k:Int}{j:Nat}{u:Tok}{vs:List PV}(p:VR C.P fz o n)(hs:o.seen σ= .lst vs\/o.seen σ= .tup vs)(i:kY k vs.length=some j)(t:vs[j]? =some w) {Q:QV} (l:Q w σ):
  Nt C.M A (RA c d n (.int k u)) (eM C FR σ fz s Q) E s:=by
 apply bc;intro h;obtain⟨e,hi,i⟩:=mJ i;apply h;have e:=LW e;rcases hs with hs|hs
 .apply bc;intro h;obtain⟨a,ws,rfl,f,g,v⟩:=bO G p hs;obtain⟨q,b,r⟩:=g.get' t;apply h;refine fg f.typeIs PySem.slot_list_getitem.lookup ?_;rcases i with⟨m,x,rfl⟩|⟨m,rfl⟩
  .exact wpAny_getItem_list_neg f m (by rw[g.size];exact x) e.1 (by rw[g.size];exact b) (aY G r l)
  .exact wpAny_getItem_list f m e.2 b (aY G r l)
 .apply bc;intro h;obtain⟨a,ws,rfl,f,g,v⟩:=bO G p hs;obtain⟨q,b,r⟩:=g.get' t;apply h;exact fg f.typeIs PyProof.Rows.slot_tuple_getitem.lookup (VK f e.1 e.2 (by rw[g.size];exact hi) b (aY G r l))
theorem xL(G:aw C σ fz FR s.heap)(l:VR C.P fz o D)(m:VR C.P fz i iv)(h:bl o i σ=some w){Q:QV}(n:Q w σ):
  Nt C.M A (RA b e D iv) (eM C FR σ fz s Q) E s:=by
 unfold bl at h;cases hs:mC (o.seen σ)with
 |some vs=>rw[hs]at h;apply bc;intro f;refine bF h fun k g h=>?_;refine bF h fun j q u=>?_;refine tR g m fun _ a=>?_;subst a;apply f;exact xK G l (kX hs) q u n
 |none=>
  rw[hs]at h;cases x:dq o with
  |some t=>rw[x]at h;apply bc;intro f;refine bF h fun k g h=>?_;refine bF h fun j q h=>?_;refine cq h fun c F a=>?_;subst a;refine tR g m fun _ a=>?_;subst a;refine rV x l fun K a y=>?_;subst a;obtain⟨L,hi,_⟩:=mJ q;apply f;refine fg (typeIs_str s _ K) PyProof.Rows.slot_str_getitem.lookup (VL (c:=c) (Ez (LW L)) (by rw[eK,hi];exact List.getElem?_toArray.trans F) ?_);exact aW (k:=s.toks+1) (R:=VR C.P) (v:= .str ⟨[c].toArray⟩ s.toks) (Q:=Q) G (.str [c] s.toks ⟨No rfl,fun d O=>by obtain rfl:=List.mem_singleton.mp O;exact y.2 _ (Oq F)⟩) n
  |none=>rw[x]at h;apply bc;intro f;refine bF h fun p g h=>?_;refine bF h fun t y u=>?_;obtain⟨rfl,z⟩:=f8 g;refine rV y m fun V a _=>?_;subst a;cases l.inv;obtain⟨r,H,W,_⟩:=dZ G z;obtain⟨v,X,Y⟩:=W.valueAt.1 _ u;apply f;exact fg H.typeIs PySem.slot_dict_getitem.lookup (wpAny_getItem_of (knd:=strKind pw C.w) (k:=aq t) (PD pw C.w _ V) H.mapOf X (aW G Y n))
theorem iL{fz:Fz}{P:Np}(r:VR P fz v x)(h:rT v n d=some k):
  ∃l:Option (Int×Tok),x=partValue l/\IsPart x (l.map (·.1))/\(l.map (·.1)).elim d (O5 n)=k:=
 PV.casesOn (motive_1:=fun v=>VR P fz v x->rT v n d=some k->∃l:Option (Int×Tok),x=partValue l/\IsPart x (l.map (·.1))/\(l.map (·.1)).elim d (O5 n)=k) v (fun r h=>⟨none,r.inv,r.inv▸.none,Nh h⟩) (fun _ _=>aj)
  (fun i r h=>by obtain⟨t,rfl⟩:=r.inv;exact⟨some (i,t),rfl,.int _ t,Nh h⟩) (fun _ _=>aj) (fun _ _=>aj) (fun _ _=>aj) (fun _ _ _=>aj) (fun _ _=>aj) (fun _ _ _=>aj) r h
theorem Bj(lo hi:Option Int)(n:Nat):Qq lo hi 1 n=sliceRange ((lo.elim 0 (O5 n):Nat):Int) ((hi.elim n (O5 n):Nat):Int) 1:=by cases lo<;>cases hi<;>simp[Qq,clipAt_cast]
theorem xM(n:Nat)(i:Int):O5 n i<=n:=Int.toNat_le.mpr (Int.max_le.mpr ⟨NK n,Int.min_le_right _ _⟩)
theorem qn{s t:List Nat}(h:e' s)(hs:t.Sublist s):e' t:=⟨M7 hs.length_le h.1,fun c a=>h.2 c (hs.subset a)⟩
theorem xN{t:List Nat}{l u:Nat}(a:u<=t.length)(h:u-l=t.length):(t.drop l).take (u-l)=t:=by
 rw[h];cases t with
 |nil=>rw[List.drop_nil];rfl
 |cons c t=>
  cases l with
  |zero=>exact Rq
  |succ l=>exact absurd h (N4 (Nv (Un (Nv (Oh _) (h▸Q9 _ _:(c::t).length<=u)) (Oh l)) a))
theorem um{t:List Nat}{pl c:Option (Int×Tok)}{l u:Nat}(d:(pl.map (·.1)).elim 0 (O5 t.length)=l)(b:(c.map (·.1)).elim t.length (O5 t.length)=u)(g:e' t){tt:Tok}{Q:M_->Nc->Prop}
  (h:∀k i,Q (.str ⟨((t.drop l).take (u-l)).toArray⟩ i) {s with toks:=k}):(sliceMade ⟨t.toArray⟩ tt pl c none).post Q s:=by
 have e:slicePicked ⟨t.toArray⟩ pl c none=(OM (u-l)).map fun x=>l+x:=by show Qq _ _ 1 (Wb _)=_;rw[eK,Bj,sliceRange_one,d,b]
 unfold sliceMade;rw[e];by_cases a:(((Rp (fun x:Int×Tok=>x.1) none).getD 1==1)&&((OM (u-l)).map fun x=>l+x).length==(⟨t.toArray⟩:Str).length)=true
 .rw[Nd a];have a:=beq_iff_eq.mp (cF a).2;rw[Nb,Ql,eK]at a;have j:u<=t.length:=by
   rw[←b];cases c with
   |none=>exact Nj _
   |some q=>exact xM _ _
  have:=h s.toks tt;rw[xN j a]at this;exact this
 .rw[Na a,pick_run];have f:=qn g ((Sm (u-l) _).trans (Sn l t));exact⟨by rw[eK];exact M7 f.1 (M7 (by decide) aA),h _ _⟩
theorem xO(G:aw C σ fz FR s.heap){o lo hi w:PV}{K lv c:M_}(L:VR C.P fz o K)(rl:VR C.P fz lo lv)(O:VR C.P fz hi c)(h:fC o lo hi σ=some w){Q:QV}(V:Q w σ){d:Expr}{f g:Option Expr}{p:Pos}:
  Nt C.M A (RA d (.Slice f g none p) K (.ref s.heap.objs.size)) (eM C FR σ fz s Q) E {s with heap:=s.heap.push {cls:= .type "slice",data:= .fields #[lv,c,.none]}}:=by
 have i:GS C FR σ fz s σ fz {s with heap:=s.heap.push {cls:= .type "slice",data:= .fields #[lv,c,.none]}}:=GS.keep G (fun b o' e=>Nm _ e);have y:(s.heap.push {cls:= .type "slice",data:= .fields #[lv,c,.none]}).get? s.heap.objs.size=some {cls:= .type "slice",data:= .fields #[lv,c,.none]}:=NI _ rfl;generalize s.heap.objs.size=a0 at y⊢;generalize h':s.heap.push {cls:= .type "slice",data:= .fields #[lv,c,.none]}=W at i y⊢;clear h';generalize X:({s with heap:=W}:Nc)=s' at i⊢;have e:s'.heap=W:=X▸rfl;clear X;subst e;unfold fC at h;cases hs:dq o with
 |some t=>
  rw[hs]at h;apply bc;intro z;refine bF h fun l D h=>?_;refine cq h fun u F n=>?_;subst n;obtain⟨pl,rfl,q,j⟩:=iL rl D;obtain⟨Y,rfl,r,m⟩:=iL O F;refine rV hs L fun tt n v=>?_;subst n;apply z;exact fg (typeIs_str _ _ tt) PyProof.Rows.slot_str_getitem.lookup (wpAny_getItem_str_slice (l:=pl) (u:=Y) (st:=none) ⟨_,y,rfl,rfl⟩ rfl (um j m v fun k Z=>
   PK.via i (aW (k:=k) i.2 (.str _ Z (qn v ((Sm (u-l) _).trans (Sn l t)))) V)))
 |none=>rw[hs]at h;apply bc;intro z;refine bF h fun vs H h=>?_;refine bF h fun l D h=>?_;refine cq h fun u F n=>?_;subst n;obtain⟨pl,rfl,q,j⟩:=iL rl D;obtain⟨Y,rfl,r,m⟩:=iL O F;obtain⟨a,ws,rfl,v,c,x⟩:=bO i.2 L (du H);apply z;refine fg v.typeIs PySem.slot_list_getitem.lookup (wpAny_getItem_list_slice v ⟨_,y,rfl,rfl⟩ q r .none aj ?_ (by rw[c.size];exact M7 x (M7 (by decide) aA)));rw[slicePick_plain,c.size,j,m];exact PK.via i (oO (k:=s'.toks) i.2 ((c.drop l).take (u-l)) (M7 ((Sm (u-l) _).trans (Sn l vs)).length_le x) V)
end
set_option tactic.hygienic false
noncomputable def fE:List (Str×Nat):=Hh [("Place",45),("ReadError",87),("SymbolError",99),("digit_of",108),("is_letter",115),("begins_name",122),("is_name_sign",129),
 ("read_escape",136),("read_char",143),("number_worth",150),("local_worth",157),("Token",195),("LineReader",286),("line_tokens",297),("Cursor",391),
 ("Number",447),("Symbol",473),("Here",492),("Unary",518),("Binary",544),("left_spine",553),("level_of",560),("binary_level",567),("read_part",574),("read_level",581),
 ("read_expr",588),("expr_of",595),("Affine",655),("affine_of",664),("Scope",703),("quotient",714),("shifted",721),("reckoned",728),("combined",735),("turned",742),
 ("evaluate",750),("number_of",757),("bracketed",764),("show_leaf",771),("show_expr",778),("show_affine",785),("names_in",792),("has_here",799),
 ("_law_LEVELS",808),("_law_draw",816),("_law_leaf",823),("_law_part",830),("_law_row",837),("_law_digits",844),("_law_word",851),("_law_text",858),("_law_is_deep",865),
 ("_law_tree",872),("_law_sum",877),("_law_two",884),("_law_worth",891),("_law_read",898),("_law_single",905),("_law_leaves",912),("_law_is_spare",919)]
noncomputable def lc:List (Str×BI):=Hh [("len",.len),("ord",.ord),("chr",.chr),("abs",.abs),("int",.int),("str",.str),("sum",.sum),("tuple",.tuple),("divmod",.divmod),("sorted",.sorted),("dict",.dict)]
noncomputable def iy(l:List Str)(n:Str):Option Nat:=l.findIdx? (·==n)
noncomputable def oP(l:List (Str×Oj))(n:Str):Option Nat:=l.findIdx? (·.1==n)
noncomputable def dh{a b:Type}(f:a->Option b):List a->Option (List b)
 |[]=>some []
 |e::r=>(f e).bind fun m=>(dh f r).map (m::·)
theorem uo{b c:Type}{f:b->Option c}{e:b}{r:List b}{ms:List c}(h:dh f (e::r)=some ms):∃m a,f e=some m/\dh f r=some a/\ms=m::a:=by apply bc;intro d;obtain⟨m,g,h⟩:=Option.bind_eq_some_iff.mp h;obtain⟨a,i,j⟩:=Option.map_eq_some_iff.mp h;apply d;exact⟨m,a,g,i,j.symm⟩
theorem uq{g i:Type}{f:g->Option i}{e:g}{r:List g}{ms:List i}{p:Prop}(h:dh f (e::r)=some ms)(k:∀m d,f e=some m->dh f r=some d->ms=m::d->p):p:=by obtain⟨m,d,a,b,c⟩:=uo h;exact k m d a b c
theorem ld{e:Type}{c:Prop}[Rl c]{a:Option e}{b:e}(h:(if c then a else none)=some b):c/\a=some b:=by
 by_cases d:c
 .rw[Nd d]at h;exact⟨d,h⟩
 .rw[Na d]at h;exact aj h
noncomputable def EB:Const->Option Str
 |.str x=>some x
 |_=>none
theorem xP:EB c=some x->c= .str x:=by cases c<;>first|exact aj|exact fun h=>Nw Const.str (Nh h)
noncomputable def lg(e:Expr):Option Const:=by cases e with|Constant c _ _=>exact some c|_=>exact none
theorem kj:lg e=some x->∃k p,e= .Constant x k p:=by cases e<;>first|exact aj|exact fun h=>by injection h with z0;subst z0;exact⟨_,_,rfl⟩
noncomputable def j0(e:Expr):Option (Str×Pos):=by cases e with|Name x p=>exact some (x,p)|_=>exact none
theorem gi{e:Expr}{x:Str×Pos}:j0 e=some x->e= .Name x.1 x.2:=by cases e<;>first|exact aj|exact fun h=>by injection h with z0;subst z0;rfl
noncomputable def eN(e:Expr):Option Str:=(j0 e).map (·.1)
theorem cv{e:Expr}{x:Str}(h:eN e=some x):∃p,e= .Name x p:=by obtain⟨q,a,rfl⟩:=Option.map_eq_some_iff.mp h;exact⟨q.2,gi a⟩
noncomputable def mK(e:Expr):Option (List Expr):=by cases e with|Tuple es _ _=>exact some es|_=>exact none
noncomputable def jg(e:Expr):Option ((Expr×Pos)×List Expr×List Vi):=by cases e with|Call f as kws p=>exact some ((f,p),as,kws)|_=>exact none
theorem gW{e:Expr}{q:(Expr×Pos)×List Expr×List Vi}:jg e=some q->e= .Call q.1.1 q.2.1 q.2.2 q.1.2:=by cases e<;>first|exact aj|exact fun h=>by injection h with z0;subst z0;rfl
noncomputable def qo(e:Expr):Option (Expr×Str×Pos):=by cases e with|Attribute o m p=>exact some (o,m,p)|_=>exact none
theorem jh{e:Expr}{q:Expr×Str×Pos}:qo e=some q->e= .Attribute q.1 q.2.1 q.2.2:=by cases e<;>first|exact aj|exact fun h=>by injection h with z0;subst z0;rfl
noncomputable def Bk(e:Expr):Option ((Option Expr×Option Expr)×Option Expr×Pos):=by cases e with|Slice lo hi st p=>exact some ((lo,hi),st,p)|_=>exact none
theorem xQ{e:Expr}{q:(Option Expr×Option Expr)×Option Expr×Pos}:Bk e=some q->e= .Slice q.1.1 q.1.2 q.2.1 q.2.2:=by cases e<;>first|exact aj|exact fun h=>by injection h with z0;subst z0;rfl
noncomputable def EC(k:Option Expr):Option Str:=(k.bind lg).bind EB
theorem xR(h:EC k=some x):∃j p,k=some (.Constant (.str x) j p):=by apply bc;intro b;obtain⟨c,a,h⟩:=Option.bind_eq_some_iff.mp h;obtain⟨e,d,a⟩:=Option.bind_eq_some_iff.mp a;obtain⟨j,p,rfl⟩:=kj a;apply b;obtain rfl:=xP h;exact⟨j,p,d⟩
noncomputable def keysOf(ks:List (Option Expr)):Option (List (List Nat)):=dh (fun k=>(EC k).map (·.cps.toList)) ks
noncomputable def oQ(x:Str):Bool:=decide (x.cps.size<=1048576)&&x.cps.toList.all (·<1114112)
noncomputable def kk(a:NR)(e:Expr):Option Nat:=(eN e).bind fun x=>(oP a.names x).bind fun i=>if a.names[i]? ==some (x,.local)then some i else none
theorem ji{a:NR}{e:Expr}{i:Nat}(h:kk a e=some i):∃x p,e= .Name x p/\oP a.names x=some i/\a.names[i]? =some (x,.local):=by apply bc;intro c;obtain⟨x,d,h⟩:=Option.bind_eq_some_iff.mp h;obtain⟨j,f,h⟩:=Option.bind_eq_some_iff.mp h;obtain⟨g,b⟩:=ld h;obtain⟨p,rfl⟩:=cv d;apply c;exact⟨x,p,rfl,Nh b▸f,Nh b▸beq_iff_eq.mp g⟩
noncomputable def dM(b:NR)(e:Expr):Option (List Nat):=match mK e with
 |some a=>if 2<=a.length then dh (kk b) a else none
 |none=>(kk b e).map fun i=>[i]
noncomputable def bB(a:NR):Bool:=a.kind== .function&&decide (a.names.map (·.1)).Nodup&&decide ((a.names.filter (·.2== .cell)).length<=1)&& !a.isGenerator&& !a.isCoroutine
noncomputable def xS(a:NR)(x:Str×Oj):Option (Option Nat):=match x.2 with
 |.free=>(oP a.names x.1).bind fun i=>if a.names[i]? ==some (x.1,.cell)then some (some i)else none
 |.local=>some none
 |.globalImplicit=>some none
 |_=>none
noncomputable def kl(a isc:NR):Option (List (Option Nat)):=dh (xS a) isc.names
noncomputable def bX(a isc:NR):NR:={isc with names:=isc.names.map fun(n,k)=>if k== .free&&true&&a.names.lookup n==some .cell then(n,.cell)else(n,k)}
noncomputable def bW(a:NR)(n:Str):Bool:=a.names.lookup n==some .globalImplicit
inductive Md|v|t|i
noncomputable abbrev Rc:=NR->Md->Expr->Option ME
noncomputable def qp(c:Const):Option ME:=match c with
 |.none=>some (.lit .none)
 |.bool b=>some (.lit (.bool b))
 |.int i=>some (.lit (.int i))
 |.str x=>if oQ x then some (.lit (.str x.cps.toList))else none
 |_=>none
noncomputable def Bl(i:Nat)(x:Str)(k:Oj):Option ME:=match k with
 |.globalImplicit=>(iy ub x).map .glb
 |.local=>some (.loc i)
 |.cell=>some (.loc i)
 |.free=>some (.loc i)
 |_=>none
noncomputable def oR(a:NR)(x:Str):Option ME:=if x=="__debug__"||x=="__classdict__" then none else(oP a.names x).bind fun i=>(a.names[i]?).bind fun p=>Bl i x p.2
noncomputable def oS(R:Rc)(a:NR):Option Expr->Option ME
 |some x=>R a .v x
 |none=>some (.lit .none)
noncomputable def qq(R:Rc)(d:NR)(l:Expr)(e:List UM)(f:List Expr):Option ME:=match cG e with
 |some g=>(cG f).bind fun r=>(R d .v l).bind fun a=>(R d .v r).map fun b=> .cmp g a b
 |none=>if e==[.LtE,.LtE] then(tX f).bind fun p=>(R d .v l).bind fun a=>(R d .v p.1).bind fun b=>(R d .v p.2).map fun c=> .cmp2 a b c else none
noncomputable def Bm(R:Rc)(a:NR)(x:Str)(as:List Expr):Option ME:=(lc.lookup x).bind fun b=>(dh (R a .v) as).map (.calB b)
noncomputable def oU(R:Rc)(a:NR)(as:List Expr):Option ME:=(tX as).bind fun p=>(eN p.2).bind fun t=>if bW a t then(if t=="str" then(R a .v p.1).map (.isin · true)else if t=="tuple" then(R a .v p.1).map (.isin · false)else none)else none
noncomputable def km(a:NR)(y:Str)(e:Expr):Option Expr:=(jg e).bind fun q=>(eN q.1.1).bind fun x=>if x==y&&q.2.2.isEmpty&&bW a x then cG q.2.1 else none
theorem mL{a:NR}{y:Str}{e z:Expr}(h:km a y e=some z):∃p q,e= .Call (.Name y p) [z] [] q/\bW a y=true:=by apply bc;intro b;obtain⟨q,c,h⟩:=Option.bind_eq_some_iff.mp h;obtain⟨x,d,h⟩:=Option.bind_eq_some_iff.mp h;obtain⟨p,f⟩:=cv d;obtain⟨g,i⟩:=ld h;obtain⟨j,k⟩:=cF g;obtain⟨l,m⟩:=cF j;apply b;obtain rfl:=beq_iff_eq.mp l;exact⟨p,q.1.2,by rw[gW c,f,aS i,List.isEmpty_iff.mp m],k⟩
noncomputable def iM(R:Rc)(b:NR)(x:Str)(as:List Expr):Option ME:=if bW b x then(match fE.lookup x with
  |some a=>(dh (R b .v) as).map (.calF a)
  |none=>if x=="isinstance" then oU R b as
   else match(if x=="sorted" then(cG as).bind (km b "set")else none)with
    |some z=>(R b .v z).map fun z=> .calB .sortset [z]
    |none=>Bm R b x as)else none
noncomputable def gX(R:Rc)(a:NR)(f:Expr)(as:List Expr)(pos:Pos):Option ME:=match j0 f with
 |some q=>iM R a q.1 as
 |none=>(qo f).bind fun q=>if q.2.2.endLine==pos.line&&decide (as.length<20)then(R a .v q.1).bind fun o=>(iy f_ q.2.1).bind fun i=>(dh (R a .v) as).map fun as=> .calM o i as else none
noncomputable def ur(R:Rc)(a:NR)(o b:Expr):Option ME:=match Bk b with
 |some q=>if q.2.1.isNone then(R a .v o).bind fun o=>(oS R a q.1.1).bind fun lo=>(oS R a q.1.2).map fun hi=> .sli o lo hi else none
 |none=>(R a .v o).bind fun o=>(R a .v b).map fun i=> .idx o i
noncomputable def ut(ml:List Nat)(R:Rc)(a:NR)(d:Expr)(b:List Wm)(isc:NR)(pos:Pos):Option ME:=(cG b).bind fun g=>
 if g.is_async==0&&(bB isc&&bB (bX a isc)&&isc.names.all (fun x=>x.2 != .cell))then
  (R a .i g.iter).bind fun f=>(dM (bX a isc) g.target).bind fun t=>(kl a isc).bind fun c=>(R (bX a isc) .v d).bind fun e=>(dh (R (bX a isc) .t) g.ifs).map fun h=> .comp (!ml.contains pos.line) c t e f h
 else none
noncomputable def Bn(R:Rc)(b:NR)(ks:List (Option Expr))(vs:List Expr):Option ME:=(keysOf ks).bind fun a=>(dh (R b .v) vs).bind fun vs'=>
 if ks.length==vs.length&&decide (vs.length<=15)&&a.all (fun k=>oQ ⟨k.toArray⟩)then some (.dct a vs')else none
noncomputable def LY(ml:List Nat)(R:Rc)(d:NR)(e:Expr):Option ME:=match e with
 |.Constant c _ _=>qp c
 |.Name x _=>oR d x
 |.Tuple es _ _=>if es.length<=1000 then(dh (R d .v) es).map .tup else none
 |.List es pos=>if es.length<=1000 then(dh (R d .v) es).map (.lst (!ml.contains pos.line))else none
 |.Dict ks vs _=>Bn R d ks vs
 |.BinOp l g r _=>(R d .v l).bind fun a=>(R d .v r).map fun b=> .bin g a b
 |.UnaryOp g x _=>if g== .USub then(R d .v x).map .neg else if g== .Not then(R d .v x).map .nt else none
 |.BoolOp g vs _=>if 2<=vs.length then(dh (R d .v) vs).map (.bop (g== .And))else none
 |.IfExp c a b _=>(R d .t c).bind fun c=>(R d .v a).bind fun a=>(R d .v b).map fun b=> .ite c a b
 |.Compare l j n _=>qq R d l j n
 |.Attribute o a _=>(R d .v o).bind fun o=>(iy f7 a).map fun i=> .att o i
 |.Subscript o p _=>ur R d o p
 |.Call f as k pos=>if k.isEmpty then gX R d f as pos else none
 |.ListComp m h isc pos=>ut ml R d m h isc pos
 |_=>none
noncomputable def LZ(R:Rc)(d:NR)(e:Expr):Option ME:=match e with
 |.UnaryOp f x _=>if f== .Not then(R d .t x).map .nt else(R d .v e).map .tru
 |.BoolOp f vs _=>(dh (R d .t) vs).map (.bop (f== .And))
 |.IfExp c a b _=>(R d .t c).bind fun c=>(R d .t a).bind fun a=>(R d .t b).map fun b=> .ite c a b
 |.Compare l g h _=>qq R d l g h
 |e=>(R d .v e).map .tru
noncomputable def HF(R:Rc)(a:NR)(e:Expr):Option ME:=match km a "range" e with
 |some x=>(R a .v x).map .rng
 |none=>(R a .v e).map .itm
noncomputable def bq(ml:List Nat):Nat->Rc
 |0=>fun _ _ _=>none
 |n+1=>fun a md e=>match md with
  |.v=>LY ml (bq ml n) a e
  |.t=>LZ (bq ml n) a e
  |.i=>HF (bq ml n) a e
noncomputable def lh(as:List NC)(h:Om):Frag:=as.filterMap fun a=>(h.get? a).map fun o=>(a,o)
theorem fh(h h':Om)(hh:∀a o,h.get? a=some o->h'.get? a=some o)(as:List NC):(lh as h).In h':=by
 induction as with
 |nil=>intro a o e;exact aj e
 |cons x r b=>
  intro a o e;unfold lh at e;rw[Pb]at e;cases q:h.get? x with
  |none=>rw[q]at e;exact b a o e
  |some y=>
   rw[q]at e;simp only[Um,ON]at e;cases z:a==x with
   |true=>rw[z]at e;injection e with z0;subst z0;rw[beq_iff_eq.mp z];exact hh _ _ q
   |false=>rw[z]at e;exact b a o e
noncomputable def ca:List Nat:=[45,195,286,391,419,447,473,492,518,544,655,703]
noncomputable def ED:List Nat:=[44,45,194,195,285,286,390,391,418,419,446,447,472,473,491,492,517,518,543,544,654,655,702,703,73,74,86,87,98,99]
noncomputable def EE:List Nat:=[35,42,171,178,192,213,220,227,234,241,248,255,262,269,276,283,311,318,332,339,346,353,367,374,388,409,416,437,444,463,470,489,508,515,534,541,610,617,624,631,638,645,679,686,693,700,64,71]
noncomputable def KK(P:Np):Frag:=lh (ED++EE) (H1 P)
theorem uu(P:Np):(ca.all fun c=>QK (KK P) (.ref c) "__getattribute__"==some (some (.builtin "object.__getattribute__"))&&QK (KK P) (.ref c) "__getattr__"==some none&&Vo (KK P) c&&
  (UH (KK P) c).any (·.hasDict)&&QK (KK P) (.ref c) "__setattr__"==some (some (.builtin "object.__setattr__"))&&makesIn (KK P) c&&
  (OM 16).all (fun a=> !(aP c).contains a||(QK (KK P) (.ref c) (aC a)==some none&&SR (KK P) c (aC a)==some none)))=true:=by kernel_rfl
noncomputable def mM(c:Nat):Nat:=match c with
 |45=>35|195=>171|286=>213|391=>311|419=>409|447=>437|473=>463|492=>489|518=>508|544=>534|655=>610|703=>679|_=>0
theorem rX(P:Np):(ca.all fun c=>QK (KK P) (.ref c) "__init__"==some (some (.ref (mM c)))&&UV (KK P) (.ref (mM c))==some (.type "function"))=true:=by kernel_rfl
theorem rY(P:Np):(ca.all fun c=>(OM 32).all fun m=>match dg c m with
 |some f=>QK (KK P) (.ref c) (f_.getD m "")==some (some (.ref f))&&UV (KK P) (.ref f)==some (.type "function")
 |none=>true)=true:=by kernel_rfl
theorem oV:((OM 16).all fun a=> !f_.contains (aC a))=true:=by kernel_rfl
theorem gY:∀i,i<16->∀j,j<16->aC i=aC j->i=j:=by decide+kernel
theorem mN{c d:Type}[BEq c][LawfulBEq c]{l:List (c×d)}{a:c}{b:d}(h:l.lookup a=some b):(a,b)∈l:=by
 induction l with
 |nil=>exact aj h
 |cons p l e=>
  rw[ON]at h;cases q:a==p.1 with
  |true=>rw[q]at h;obtain rfl:=beq_iff_eq.mp q;injection h with z0;subst z0;exact Ng
  |false=>rw[q]at h;exact Ni _ (e h)
theorem mO{c a:Nat}(h:a∈aP c):a<16/\c∈ca:=by
 have q:(oF.all fun p=>p.2.all (Nat.blt · 16)&&ca.contains p.1)=true:=by decide+kernel
 unfold aP at h;cases e:oF.lookup c with
 |none=>rw[e]at h;cases h
 |some as=>rw[e]at h;refine qh (List.all_eq_true.mp q _ (mN e)) fun b d=>?_;exact⟨No (List.all_eq_true.mp b a h),List.contains_iff_mem.mp d⟩
theorem iN:∀c,∀a∈aP c,a<16:=fun _ _ h=>(mO h).1
structure HG(P:Np)(c:Nat):Prop where
 ga:QK (KK P) (.ref c) "__getattribute__"=some (some (.builtin "object.__getattribute__"))
 gx:QK (KK P) (.ref c) "__getattr__"=some none
 po:Vo (KK P) c=true
 hd:(UH (KK P) c).any (·.hasDict)=true
 sa:QK (KK P) (.ref c) "__setattr__"=some (some (.builtin "object.__setattr__"))
 mkk:makesIn (KK P) c=true
 at_:∀a,(aP c).contains a=true->QK (KK P) (.ref c) (aC a)=some none/\SR (KK P) c (aC a)=some none
 ini:QK (KK P) (.ref c) "__init__"=some (some (.ref (mM c)))
 inf:UV (KK P) (.ref (mM c))=some (.type "function")
 me:∀m f,dg c m=some f->QK (KK P) (.ref c) (f_.getD m "")=some (some (.ref f))/\UV (KK P) (.ref f)=some (.type "function")/\m<32
theorem kn(h:dg c m=some f):(c,m,f)∈iI:=by refine cq h fun d b e=>?_;obtain⟨i,j,k⟩:=d;subst e;have a:=UK b;refine qh a fun a g=>?_;obtain rfl:=beq_iff_eq.mp a;obtain rfl:=beq_iff_eq.mp g;exact Tb b
theorem mP(h:dg c m=some f):m<32/\c∈ca:=by
 have q:(iI.all fun x=>decide (x.2.1<32/\x.1∈ca))=true:=by decide+kernel
 exact N2 (List.all_eq_true.mp q _ (kn h))
theorem xT(P:Np)(h:c∈ca):HG P c:=by
 have i:=List.all_eq_true.mp (uu P) c h;have b:=List.all_eq_true.mp (rX P) c h;have n:=List.all_eq_true.mp (rY P) c h;simp only[N1,Qn]at i b;obtain⟨⟨⟨⟨⟨⟨a1,o⟩,a3⟩,p⟩,q⟩,r⟩,a7⟩:=i;refine⟨a1,o,a3,p,q,r,fun a j=>?_,b.1,b.2,fun m f k=>?_⟩
 .have d:=List.contains_iff_mem.mp j;have:=List.all_eq_true.mp a7 a (List.mem_range.mpr (iN c a d));rw[j]at this;refine qh this fun e g=>?_;exact⟨beq_iff_eq.mp e,beq_iff_eq.mp g⟩
 .have l:=(mP k).1;have:=List.all_eq_true.mp n m (List.mem_range.mpr l);rw[k]at this;refine qh this fun e g=>?_;exact⟨beq_iff_eq.mp e,beq_iff_eq.mp g,l⟩
theorem jj{P:Np}{e:N6}{n m:Str}(h:mB P n e):e.key.isStr m=(n==m)/\e.refKey=false:=by obtain⟨_,t,h⟩:=h;exact⟨by rw[h];rfl,by unfold DictEntry.refKey;rw[h]⟩
theorem uv{P:Np}{fz:Fz}{a:Nat}(g:a<16){as:List Nat}:∀{vs:List PV}{es:List N6}{j:Nat}{p:PV},(∀x∈as,x<16)->dI P fz (as.map aC) vs es->as.idxOf? a=some j->vs[j]? =some p->
  ∃e v,es.find? (·.key.isStr (aC a))=some e/\e.val=v/\VR P fz p v:=by
 induction as with
 |nil=>intro vs es j p _ _;exact aj
 |cons b as k=>
  intro vs es j p d h c f;obtain⟨w,vs,e,es,rfl,rfl,l,m,hs⟩:=h.inv;rw[Ux]at c;rw[QG,(jj l).1];by_cases q:b=a
  .subst q;rw[ND]at c;injection c with z0;subst z0
   injection f with z0;subst z0
   exact⟨e,e.val,by rw[ND],rfl,m⟩
  .rw[beq_eq_false_iff_ne.mpr q]at c;refine cq (bV Ps c) fun i hi n=>?_;subst n;rw[beq_eq_false_iff_ne.mpr fun z=>q (gY b (d b Ng) a g z)];exact k (fun x o=>d x (Ni _ o)) hs hi f
theorem mQ{P:Np}{fz:Fz}{nm:Str}{as:List Nat}:∀{vs:List PV}{es:List N6},(∀x∈as,aC x≠nm)->dI P fz (as.map aC) vs es->
  es.find? (·.key.isStr nm)=none/\es.any (·.refKey)=false:=by
 induction as with
 |nil=>intro vs es _ h;obtain rfl:=h.inv.2;exact⟨rfl,rfl⟩
 |cons b as d=>intro vs es a h;apply bc;intro f;obtain⟨w,vs,e,es,rfl,rfl,c,k,hs⟩:=h.inv;obtain⟨g,i⟩:=d (fun x j=>a x (Ni _ j)) hs;apply f;rw[QG,(jj c).1,beq_eq_false_iff_ne.mpr (a b Ng),Pf,(jj (m:=nm) c).2,i];exact⟨g,rfl⟩
section
variable{C:Cx}{A:NT}{FR:List NC}{σ:aa}{fz:Fz}{s:Nc}{E:M_->Nc->Prop}
theorem AB(G:aw C σ fz FR s.heap):(KK C.P).In s.heap:=fh _ _ (fun a o h=>(aJ C h G).2) _
theorem VR.handed{P:Np}{fz:Fz}(r:VR P fz p v):V4 v=true:=
 VR.rec (motive_1:=fun _ v _=>V4 v=true) (motive_2:=fun _ _ _=>True) (motive_3:=fun _ _ _ _=>True) rfl (fun _=>rfl) (fun _ _=>rfl) (fun _ _ _=>rfl) (fun _ _ _ _=>rfl) (fun _ _ _ _=>rfl) (fun _ _ _ _=>rfl) (fun _=>rfl) (fun _=>rfl) trivial (fun _ _ _ _=>trivial) trivial (fun _ _ _ _ _=>trivial) r
structure Inst(C:Cx)(σ:aa)(fz:Fz)(h:Om)(o:PV)(c:Nat)(x dx:NC)(as:List Nat)(vs:List PV)(es:List N6)(n:Nat):Prop where
 at_:h.get? x=some (fJ c dx)
 dict:h.get? dx=some (ez es.toArray n)
 b:∀a∈as,a<16
 e:dI C.P fz (as.map aC) vs es
theorem Inst.of_obj(G:aw C σ fz FR s.heap){c:Nat}{b:List PV}{v:M_}(r:VR C.P fz (.obj c b) v):∃x d es n,v= .ref x/\Inst C σ fz s.heap (.obj c b) c x d (aP c) b es n:=by apply bc;intro e;obtain⟨a,d,es,n,rfl,f,g,h⟩:=r.inv;apply e;exact⟨_,_,_,_,rfl,G.sub _ _ f,G.sub _ _ g,iN c,h⟩
theorem Inst.of_iref(G:aw C σ fz FR s.heap){c d:Nat}{as:List Nat}{vs:List PV}{b:Nat}{v:M_}(r:VR C.P fz (.iref c d) v)(h:σ d=some (.ins b as vs)):∃x es n,v= .ref x/\Inst C σ fz s.heap (.iref c d) c x d as vs es n:=by apply bc;intro e;obtain⟨a,rfl,f⟩:=r.inv;obtain⟨_,o,g,i⟩:=G.led _ _ h;obtain⟨es,n,rfl,j,k⟩:=i.inv;apply e;exact⟨_,_,_,rfl,G.sub _ _ f,g,j,k⟩
theorem Inst.instAt{h:Om}{o:PV}{c:Nat}{x a:NC}{as:List Nat}{vs:List PV}{es:List N6}{n:Nat}(I:Inst C σ fz h o c x a as vs es n):InstAt h x (fJ c a) c (some (ez es.toArray n)):=
 ⟨I.at_,rfl,rfl,I.dict⟩
theorem qr(G:aw C σ fz FR s.heap){o:PV}{c a j:Nat}{x l:NC}{as:List Nat}{vs:List PV}{es:List N6}{n:Nat}{w:PV}(I:Inst C σ fz s.heap o c x l as vs es n)(m:c∈ca)(h:(aP c).contains a=true)
  (p:as.idxOf? a=some j) (q:vs[j]? =some w) {Q:QV} (r:Q w σ):Nt C.M A (Wu (.ref x) (aC a) true) (eM C FR σ fz s Q) E s:=by
 have F:=xT C.P m;have d:a<16:=iN c a (List.contains_iff_mem.mp h);apply bc;intro t;obtain⟨e,v,u,y,i⟩:=uv d I.b I.e p q;have z:lookIn (aC a) (ez es.toArray n)=some (some v):=by show(match es.find? (·.key.isStr (aC a))with|some e=>some (some e.val)|none=>_)=_;rw[u,←y]
 obtain⟨k,f,g⟩:=V_ F.hd;apply t;refine get_value (v:=v) (AB G) I.instAt F.ga ?_ i.handed (aW G i r);have D:W.ownOf k (some (ez es.toArray n)) (aC a)=some (some v):=(Nd g).trans z;unfold findObj;rw[f,(F.at_ a h).1];show(W.ownOf k (some (ez es.toArray n)) (aC a)).bind _=_;rw[D];rfl
theorem eO(h:(aP c).contains a=true):c∈ca:=(mO (List.contains_iff_mem.mp h)).2
theorem jk{l:List Nat}{a j:Nat}(h:l.idxOf? a=some j):l.contains a=true:=by rw[VA,Ov]at h;obtain⟨b,c,_⟩:=h;exact List.contains_iff_mem.mpr (beq_iff_eq.mp c▸OO b)
theorem rZ{σ:aa}(h:xw (.iref c d) a σ=some w):∃as vs j,σ d=some (.ins c as vs)/\(aP c).contains a=true/\as.idxOf? a=some j/\vs[j]? =some w:=by
 have h:(match σ d with|some (.ins b as vs)=>if b=c/\(aP c).contains a=true then(as.idxOf? a).bind fun j=>vs[j]? else none|_=>none)=some w:=h;generalize σ d=x at h⊢;cases x with
 |none=>exact aj h
 |some x=>cases x with
  |ins b as vs=>
   obtain⟨⟨rfl,e⟩,f⟩:(b=c/\(aP c).contains a=true)/\((as.idxOf? a).bind fun j=>vs[j]?)=some w:=by
    by_cases q:b=c/\(aP c).contains a=true
    .exact⟨q,cf q h⟩
    .exact aj (bV q h)
   refine bF f fun j g i=>?_;exact⟨as,vs,j,rfl,e,g,i⟩
  |_=>exact aj h
theorem xU(G:aw C σ fz FR s.heap)(r:VR C.P fz o i)(h:xw o a σ=some w){Q:QV}(k:Q w σ):
  Nt C.M A (Wu i (aC a) true) (eM C FR σ fz s Q) E s:=by
 cases o with
 |obj c l=>apply bc;intro f;refine bF h fun j e g=>?_;obtain⟨x,m,es,n,rfl,I⟩:=Inst.of_obj G r;apply f;have b:=jk e;exact qr G I (eO b) b e g k
 |iref c d=>apply bc;intro f;obtain⟨as,vs,j,hs,b,e,g⟩:=rZ h;obtain⟨x,es,n,rfl,I⟩:=Inst.of_iref G r hs;apply f;exact qr G I (eO b) b e g k
 |_=>exact aj h
theorem uw(b:m<32)(c:a<16):aC a≠f_.getD m "":=by
 intro e;have:=List.all_eq_true.mp oV a (List.mem_range.mpr c);rw[e]at this;have d:f_.contains (f_.getD m "")=true:=by rw[OE,NA (show m<f_.length from b),Sl];exact List.contains_iff_mem.mpr (OO _)
 rw[d]at this;exact aK this
theorem mR(G:aw C σ fz FR s.heap){o:PV}{c m f:Nat}{x g:NC}{as:List Nat}{vs:List PV}{es:List N6}{n:Nat}(I:Inst C σ fz s.heap o c x g as vs es n)(d:dg c m=some f){pl:Sem Bool}
  {Q:M_×List M_->Nc->Prop} (h:Q (.ref f,[.ref x]) s):Nt C.M A (Rh (.ref x) (f_.getD m "") pl) Q E s:=by
 have F:=xT C.P (mP d).2;obtain⟨i,j,k⟩:=F.me m f d;refine method_fn (AB G) I.instAt F.ga F.gx i j ?_ h;obtain⟨g1,g2⟩:=mQ (fun a l=>uw k (I.b a l)) I.e;show Rp _ (match es.find? (·.key.isStr (f_.getD m ""))with|some e=>some (some e.val)|none=>if es.any (·.refKey)then none else some none)=_;rw[g1,g2];rfl
end
noncomputable def aa.del(σ:aa)(a:NC):aa:=fun b=>if b=a then none else σ b
theorem aa.dN(σ:aa)(h:b≠a):σ.del a b=σ b:=by simp[aa.del,h]
section
variable{C:Cx}{A:NT}{FR:List NC}{σ:aa}{fz:Fz}{s:Nc}{E:M_->Nc->Prop}
theorem GS.freeze(G:aw C σ fz FR s.heap){o:Obj}(d:σ a≠none)(f:s.heap.get? a=some o):GS C FR σ fz s (σ.del a) (fz.ext a o) s:=by
 obtain⟨m,g⟩:∃m,σ a=some m:=by
  cases q:σ a with
  |none=>exact absurd q d
  |some m=>exact⟨m,rfl⟩
 have i:=(G.led a m g).1;have ex:∀b o',fz b=some o'->fz.ext a o b=some o':=fun b o' h=>by
  have:b≠a:=fun e=>by rw[e,i]at h;exact aj h
  simp[Fz.ext,this,h]
 have c:∀b∈FR,b≠a:=fun b h e=>by obtain⟨_,y,_⟩:=G.fr b h;rw[e]at y;exact d y
 refine⟨⟨ex,fun b o h _ _=>h,fun a _ o h=>⟨o.slots,h⟩,fun a h=>G.there a h,fun b h=>?_,fun b h=>?_,rfl,rfl⟩,fun b o' h=>ex b o' (G.base b o' h),fun b o' h=>?_,fun b h=>?_,fun b j h=>?_⟩
 .by_cases e:b=a
  .exact .inl (e▸d)
  .rw[aa.dN _ e]at h;exact .inl h
 .by_cases e:b=a
  .exact .inr (.inl (e▸d))
  .simp only[Fz.ext,e,RO]at h;exact .inl h
 .by_cases e:b=a
  .subst e;simp[Fz.ext]at h;subst h;exact f
  .simp only[Fz.ext,e,RO]at h;exact G.sub b o' h
 .obtain⟨x,y,r⟩:=G.fr b h;exact⟨by simp[Fz.ext,c b h,x],by rw[aa.dN _ (c b h)];exact y,r⟩
 .by_cases e:b=a
  .subst e;simp[aa.del]at h
  .rw[aa.dN _ e]at h;apply bc;intro k;obtain⟨x,o',l,n⟩:=G.led b j h;apply k;exact⟨by simp[Fz.ext,e,x],o',l,n.mono ex⟩
theorem GS.drop(G:aw C σ fz FR s.heap){c:aa}(h:∀a m,c a=some m->σ a=some m):GS C FR σ fz s c fz s:=by
 have d:∀a,c a≠none->σ a≠none:=fun a q=>by
  cases e:c a with
  |none=>exact absurd e q
  |some m=>rw[h a m e];simp
 refine⟨⟨fun _ _ h=>h,fun _ _ h _ _=>h,fun a _ o h=>⟨o.slots,h⟩,fun a h=>G.there a h,fun b q=> .inl (d b q),fun b q=> .inl q,rfl,rfl⟩,G.base,G.sub,fun b q=>?_,fun b m q=>G.led b m (h b m q)⟩;obtain⟨x,y,r⟩:=G.fr b q;refine⟨x,?_,r⟩;cases e:c b with
 |none=>rfl
 |some m=>have:=h b m e;rw[y]at this;exact aj this
theorem dI.set{P:Np}{fz:Fz}{a:Nat}{p:PV}{v:M_}(j:a<16)(l:VR P fz p v){as:List Nat}:∀{vs:List PV}{es:List N6}{i:Nat},(∀x∈as,x<16)->dI P fz (as.map aC) vs es->as.idxOf? a=some i->
  es.findIdx? (·.key.isStr (aC a))=some i/\dI P fz (as.map aC) (vs.set i p) (es.modify i fun e=>{e with val:=v}):=by
 induction as with
 |nil=>intro vs es i _ _;exact aj
 |cons b as m=>
  intro vs es i g h hi;obtain⟨w,vs,e,es,rfl,rfl,c,d,hs⟩:=h.inv;rw[Ux]at hi;rw[Ud,(jj c).1];by_cases q:b=a
  .subst q;rw[ND]at hi;injection hi with z0;subst z0
   exact⟨by rw[ND];rfl,.cons (e:={e with val:=v}) c l hs⟩
  .rw[beq_eq_false_iff_ne.mpr q]at hi;refine cq (bV Ps hi) fun k f n=>?_;subst n;rw[beq_eq_false_iff_ne.mpr fun z=>q (gY b (g b Ng) a j z)];obtain⟨g1,g2⟩:=m (fun x o=>g x (Ni _ o)) hs f;exact⟨by rw[g1];rfl,.cons c d g2⟩
theorem dI.new{P:Np}{fz:Fz}{n:Str}{p:PV}{e:N6}(c:mB P n e)(d:VR P fz p e.val){ns:List Str}{vs:List PV}{es:List N6}(h:dI P fz ns vs es):dI P fz (ns++[n]) (vs++[p]) (es++[e]):=
 h.ind (m:=fun ns vs es=>dI P fz (ns++[n]) (vs++[p]) (es++[e])) (.cons c d .nil) fun a b _ f=> .cons a b f
theorem oW{l:List Nat}{a:Nat}(h:l.idxOf? a=none):∀x∈l,x≠a:=by intro x b e;rw[VA,Tc]at h;have:=h x b;simp[e]at this
theorem xV{fz:Fz}{a:Nat}(g:a<16){as:List Nat}{vs:List PV}{es:List N6}{n:Nat}(f:∀x∈as,x<16)(i:dI C.P fz (as.map aC) vs es){p:PV}{v:M_}(k:VR C.P fz p v)(tk:Tok):
  ∃b l,SK (aC a) (Pn C.P (aC a)) (.str (aC a) tk) v (ez es.toArray n)=ez b.toArray l/\dI C.P fz ((gb as vs a p).1.map aC) (gb as vs a p).2 b/\(∀x∈(gb as vs a p).1,x<16)/\b.length<=es.length+1:=by
 rw[Obj.putName_eq];unfold Obj.putNameByArray gb;simp only;cases q:as.idxOf? a with
 |some j=>
  obtain⟨g1,g2⟩:=dI.set g k f i q;have c:es.toArray.findIdx? (fun e=>e.key.isStr (aC a))=some j:=by rw[TN];exact g1
  rw[c];refine⟨es.modify j fun e=>{e with val:=v},n,?_,g2,f,by simp⟩;simp[List.modify_toArray]
 |none=>
  have m:=oW q;obtain⟨g1,g2⟩:=mQ (nm:=aC a) (fun x d e=>m x d (gY x (f x d) a g e)) i;have c:es.toArray.findIdx? (fun e=>e.key.isStr (aC a))=none:=by
   rw[TN,Tc];rw[List.find?_eq_none]at g1;intro x d
   simpa using g1 x d
  rw[c];refine⟨es++[⟨Pn C.P (aC a),.str (aC a) tk,v⟩],n+1,by simp,?_,?_,by simp⟩
  .have:=dI.new (e:=⟨Pn C.P (aC a),.str (aC a) tk,v⟩) ⟨rfl,tk,rfl⟩ k i
   simpa using this
  .intro x d;rcases List.mem_append.mp d with h|h
   .exact f x h
   .simp at h;exact h▸g
theorem HH{K:Frag}{f x c:NC}{name:Str}{tk:Tok}{v:M_}{R:Sf->Nc->Prop}{es d:List N6}{n i:Nat}(X:K.In s.heap)(I:InstAt s.heap x (fJ c f) c (some (ez es.toArray n)))(j:Vo K c=true)(k:SR K c name=some none)
  (hh:(UH K c).any (·.hasDict)=true) (l:es.any (·.refKey)=false)
  (e:SK name (Pn C.P name) (.str name s.toks) v (ez es.toArray n)=ez d.toArray i) (m:d.length<=1000)
  (h:R (.ok (.ret .none)) {s with heap:=s.heap.update f (SK name (Pn C.P name) (.str name s.toks) v),toks:=s.toks+1}):
  P5 C.M A (.call (.builtin "object.__setattr__") ⟨[.ref x,.str name tk,v],[]⟩) R s:=by
 refine osa_open X I j k fun b=>?_;apply bc;intro o;obtain⟨t,p,g⟩:=V_ hh;apply o;have D:=I.dict;have q:(s.heap.update f (SK name (Pn C.P name) (.str name s.toks) v)).get? f=some (ez d.toArray i):=by rw[←e];exact N0 _ D (by rw[e];rfl)
 refine M8 (Nl (M8 (M8 (VX I.at_ (M8 ((UF X p).here ?_))))));rw[g];refine Nl (a:=some f) (M8 (Nl (M8 ?_)));unfold nsSet;refine M8 (M8 (RM (Nl (M8 (wpAny_mkText (M8 (VX D ?_)))))));have r:(!es.toArray.any (·.key.isStr name)&&es.toArray.any (·.refKey))=false:=by rw[Uz,Uz,l,S9]
 dsimp only;rw[aRefKeyMayBeTheName_at,r];refine wpAny_updatePart D ?_;refine M8 (Vm q (by exact Vp (by rw[Uq,sizeLine_eq];exact M7 m (by decide))) ?_);exact Nl h
theorem r_{P:Np}{fz:Fz}{ns:List Str}{vs:List PV}{es:List N6}(h:dI P fz ns vs es):es.any (·.refKey)=false:=
 h.ind (m:=fun _ _ es=>es.any (·.refKey)=false) rfl fun{n _ _ _ _ _} a _ _ b=>by rw[Pf,b,(jj (m:=n) a).2];rfl
theorem xW{P:Np}{fz:Fz}{ns:List Str}{vs:List PV}{es:List N6}(h:dI P fz ns vs es):ns.length=es.length:=
 h.ind (m:=fun ns _ es=>ns.length=es.length) rfl fun _ _ _ a=>Nw (·+1) a
theorem xX{σ:aa}{K:aa->Prop}(h:mG o a v σ K):∃c d as vs,o= .iref c d/\σ d=some (.ins c as vs)/\as.length<=100/\(aP c).contains a=true/\K (σ.upd d (.ins c (gb as vs a v).1 (gb as vs a v).2)):=by
 cases o with
 |iref c d=>
  have h:(match σ d with|some (.ins b as vs)=>b=c/\as.length<=100/\(aP c).contains a=true/\K (σ.upd d (.ins c (gb as vs a v).1 (gb as vs a v).2))|_=>False):=h;refine⟨c,d,?_⟩;cases q:σ d with
  |none=>rw[q]at h;exact h.elim
  |some m=>rw[q]at h;cases m with
   |ins b as vs=>obtain⟨rfl,h⟩:=h;exact⟨as,vs,rfl,rfl,h⟩
   |_=>exact h.elim
 |_=>exact h.elim
theorem ux(G:aw C σ fz FR s.heap)(t:VR C.P fz o p)(u:VR C.P fz v r){K:aa->Prop}(h:mG o a v σ K){Q:Unit->Nc->Prop}
 (w:∀f fz' s',GS C FR σ fz s f fz' s'->K f->Q () s'):Nt C.M A (Vd p (aC a) r) Q E s:=by apply bc;intro j;obtain⟨c,d,as,vs,rfl,hs,g,k,y⟩:=xX h;obtain⟨x,es,n,rfl,I⟩:=Inst.of_iref G t hs;apply j;have F:=xT C.P (eO k);have l:a<16:=iN _ a (List.contains_iff_mem.mp k);refine set_plain (AB G) I.instAt F.sa ?_;apply bc;intro j;obtain⟨m,z,e,g1,g2,g3⟩:=xV (C:=C) (n:=n) l I.b I.e u (s.toks+1);apply j;have i:es.length=as.length:=(xW I.e).symm.trans (Nb _);have D:GS C FR σ fz s σ fz {s with toks:=s.toks+1}:= .keep G fun _ _ h=>h;refine HH (s:={s with toks:=s.toks+1}) (AB D.2) ⟨I.at_,rfl,rfl,I.dict⟩ F.po (F.at_ a k).2 F.hd (r_ I.e) e (M7 g3 (M7 (NE (i▸g)) (by decide))) ?_;exact w _ fz _ (.ledUpd (o:=ez m.toArray z) G (fun q=>aj (q.symm.trans hs)) (fun b o H L=>(N3 _ _ (NZ H)).trans L) (by rw[←e];exact N0 _ I.dict (by rw[e];rfl)) (.ins g2 g1)) y
theorem rM.under(F:rM A FR (d+1))(v:M_)(c:NC)(vals:List M_):rM (A.under (.builtin "type.__call__" ⟨.ref c::vals,[]⟩)) FR d:=by
 obtain⟨g,h,i,j⟩:=F;have w:(So "type.__call__" ⟨.ref c::vals,[]⟩).weight=1:=rfl;have u:(So "type.__call__" ⟨.ref c::vals,[]⟩).cUnits=1:=rfl;have e:(So "type.__call__" ⟨.ref c::vals,[]⟩).envs=[]:=rfl;refine⟨g,?_,?_,?_⟩
 .obtain⟨f,a,b⟩:=h;exact⟨f,by show pushEnvs (Code.envs (So "type.__call__" ⟨.ref c::vals,[]⟩)) A.frames=_;rw[e];exact a,b⟩
 .show A.depth+VE _+2*d+4<=_;rw[w];lia
 .show A.units+Code.cUnits _+12*d+200<=_;rw[u];lia
theorem aM(hc:c∈ca){Q:QV}{X:QX}
 (h:∀D,σ D=none->af d (.ref (mM c)) (.iref c D::args) (σ.upd D (.ins c [] [])) (fun v Z6=>v= .none/\(Q (.iref c D) Z6\/∃fs,Z6 D=some (.ins c (aP c) fs)/\Q (.obj c fs) (Z6.del D))) X):
  af (d+1) (.ref c) args σ Q X:=by
 intro C A FR fz s vals F G hv;obtain⟨hh,g,dr,tk,os⟩:=s;have K:=xT C.P hc;have n1:hh.get? hh.objs.size=none:=fresh hh;have g1:=GS.ledNew (s:=⟨hh,g,dr,tk,os⟩) (s':=⟨hh.push P4,g,dr,tk,os⟩) (o:=P4) (m:= .ins c [] []) G n1 (fun b o e=>Nm _ e) (NI _ rfl) (.ins (es:=[]) (n:=0) (by simp) .nil);have g2:=GS.fzNew (s:=⟨hh.push P4,g,dr,tk,os⟩) (s':=⟨(hh.push P4).push (instObj c hh.objs.size),g,dr,tk,os⟩) (o:=fJ c hh.objs.size) g1.2 (fresh (hh.push P4)) (fun b o e=>Nm _ e) (NI _ rfl);have g3:=g1.trans g2;refine make_core (makes_of (AB G) K.mkk) (SX (AB G) K.ini) (fun self=>bind_fn (AB G) self K.inf) (.inl rfl) ?_;have hx:VR C.P (fz.ext (hh.objs.size+1) (fJ c hh.objs.size)) (.iref c hh.objs.size) (.ref (hh.objs.size+1)):= .iref (by simp[Fz.ext]);have z:=h hh.objs.size (G.free n1).2.1 C _ FR _ _ (.ref (hh.objs.size+1)::vals) (F.under (.ref c) c vals) (by have:=g3.2;rw[PO]at this;exact this) (.cons hx (hv.mono (by have:=g3.1.fzk;rw[PO]at this;exact this)));refine SY z fun r s' hr=>?_;have via:GS C FR σ fz ⟨hh,g,dr,tk,os⟩ (σ.upd hh.objs.size (.ins c [] [])) (fz.ext (hh.objs.size+1) (fJ c hh.objs.size)) ⟨(hh.push P4).push (instObj c hh.objs.size),g,dr,tk,os⟩:=by have:=g3;rw[PO]at this;exact this
 cases r with
 |error e=>exact PX.via via hr
 |ok f=>
  cases f with
  |ret v=>
   obtain⟨pv,Z6,fz',gs,rv,rfl,hq⟩:=hr;cases rv.inv;refine⟨rfl,?_⟩;have hx':=hx.mono gs.1.fzk;rcases hq with hq|⟨fs,hs,hq⟩
   .exact⟨_,Z6,fz',via.trans gs,hx',hq⟩
   .obtain⟨_,o,ho,hm⟩:=gs.2.led _ _ hs;have fzs:=GS.freeze gs.2 (fun q=>aj (q.symm.trans hs)) ho;obtain⟨_,_,rfl,hb,he⟩:=hm.inv;obtain⟨_,e,ha⟩:=hx'.inv;injection e with z0;subst z0
    exact⟨_,_,_,(via.trans gs).trans fzs,.obj (fzs.1.fzk _ _ ha) (Nd rfl) (he.mono fzs.1.fzk),hq⟩
  |_=>exact hr.elim
end
structure LR(C:Cx)(FR:List NC)(env:Env)(ρ:ar)(σ:aa)(fz:Fz)(h:Om):Prop where
 ns:∃m,h.Ns env.locals m/\∀(i:Nat)(v:PV),ρ[i]? =some (some v)->∃(n:Str) (k:Oj),env.scope.names[i]? =some (n,k)/\
  ((k= .local/\∃x,m n=some x/\VR C.P fz v x)\/((k= .cell\/k= .free)/\∃c o x,env.cells.lookup n=some c/\fz c=some o/\o.data= .cell (some x)/\VR C.P fz v x))
 cl:∀(i:Nat)(n:Str),env.scope.names[i]? =some (n,OC)->(env.cells.lookup n).isSome=true
 lσ:σ env.locals=none
 lf:fz env.locals=none
 cel:env.func≠none->∀(i:Nat)(n:Str),ρ[i]? =some none->env.scope.names[i]? =some (n,OC)->∃c,env.cells.lookup n=some c/\(∃o,h.get? c=some o/\o.data= .cell none)/\σ c=none/\fz c=none/\c∉FR/\c≠env.locals
theorem Ns.slots{h h':Om}{m:Str->Option M_}(n:h.Ns L m)(k:∀o,h.get? L=some o->∃a,h'.get? L=some {o with slots:=a}):h'.Ns L m:=by obtain⟨o,es,b,c,d,r⟩:=n;obtain⟨a,e⟩:=k o c;exact⟨_,es,b,e,d,r⟩
theorem LR.step{C:Cx}{env:Env}{σ l:aa}{fz fz':Fz}{s s':Nc}(x:LR C u env E σ fz s.heap)(g:GS C u σ fz s l fz' s'):LR C u env E l fz' s'.heap:=by
 apply bc;intro t;obtain⟨⟨m,F,K⟩,L,w,M,O⟩:=x;apply t;have p:∀a,(∃o,s.heap.get? a=some o)->σ a=none->l a=none:=fun a d h=>by
  obtain⟨o,d⟩:=d;cases q:l a with
  |none=>rfl
  |some z=>
   rcases g.1.ledn a (by rw[q];simp)with e|e
   .exact absurd h e
   .rw[d]at e;exact bb e
 have f:∀a,(∃o,s.heap.get? a=some o)->σ a=none->fz a=none->fz' a=none:=fun a d h r=>by
  obtain⟨o,d⟩:=d;cases q:fz' a with
  |none=>rfl
  |some z=>
   rcases g.1.fzn a (by rw[q];simp)with e|e|e
   .exact absurd r e
   .exact absurd h e
   .rw[d]at e;exact bb e
 have j:∃o,s.heap.get? env.locals=some o:=by obtain⟨o,_,_,d,_⟩:=F;exact⟨o,d⟩
 refine⟨⟨m,Ns.slots F fun o d=>?_,fun i v hi=>?_⟩,L,p _ j w,f _ j w M,fun P i n hi Q=>?_⟩
 .by_cases q:env.locals∈u
  .exact g.1.frk _ q o d
  .exact⟨o.slots,g.1.keep _ o d w q⟩
 .apply bc;intro t;obtain⟨n,k,A,r⟩:=K i v hi;apply t;refine⟨n,k,A,r.elim (fun h=>?_) fun h=>?_⟩
  .obtain⟨a,y,b,c⟩:=h;exact .inl ⟨a,y,b,c.mono g.1.fzk⟩
  .obtain⟨a,c,o,y,b1,b2,b3,b4⟩:=h;exact .inr ⟨a,c,o,y,b1,g.1.fzk _ _ b2,b3,b4.mono g.1.fzk⟩
 .apply bc;intro t;obtain⟨c,A,⟨o,r,V⟩,D,W,H,X⟩:=O P i n hi Q;apply t;exact⟨c,A,⟨o,g.1.keep _ o r D H,V⟩,p _ ⟨o,r⟩ D,f _ ⟨o,r⟩ D W,H,X⟩
structure St(C:Cx)(A:NT)(FR:List NC)(d:Nat)(sc:NR)(env:Env)(ρ:ar)(σ:aa)(fz:Fz)(s:Nc):Prop where
 fit:rM A FR d
 scE:env.scope=sc
 gl:env.globals=3
 bi:env.builtins=0
 ok:bB sc=true
 good:aw C σ fz FR s.heap
 lr:LR C FR env ρ σ fz s.heap
theorem St.step{C:Cx}{A:NT}{c:NR}{env:Env}{σ a:aa}{fz fz':Fz}{s s':Nc}(x:St C A b d c env e σ fz s)(g:GS C b σ fz s a fz' s'):St C A b d c env e a fz' s':=
 ⟨x.fit,x.scE,x.gl,x.bi,x.ok,g.2,x.lr.step g⟩
structure HI(sc:NR):Prop where
 kind:sc.kind= .function
 nd:(sc.names.map (·.1)).Nodup
 one:(sc.names.filter (·.2== .cell)).length<=1
 gen:sc.isGenerator=false
 cor:sc.isCoroutine=false
theorem ko{a:NR}(h:bB a=true):HI a:=by unfold bB at h;simp only[N1,Qn,OD,Sr]at h;exact⟨h.1.1.1.1,h.1.1.1.2,h.1.1.2,h.1.2,h.2⟩
theorem aO{l:List (Str×Oj)}:∀{i:Nat}{n:Str}{k:Oj},(l.map (·.1)).Nodup->l[i]? =some (n,k)->l.lookup n=some k:=by
 induction l with
 |nil=>intro _ _ _ _ h;simp at h
 |cons p r ih=>
  obtain⟨a,b⟩:=p;intro i n k c h;cases i with
  |zero=>simp at h;simp[h.1,h.2,ON]
  |succ i=>
   rw[NU,Pj]at c;have d:n∈r.map (·.1):=List.mem_map.mpr ⟨(n,k),Oq (by simpa using h),rfl⟩;have:(n==a)=false:=by rw[beq_eq_false_iff_ne];intro e;exact c.1 (e▸d)
   rw[ON,this];exact ih c.2 (by simpa using h)
noncomputable def sd:Fz->Bool->Bool->Prop:=fun _ b v=>b=v
noncomputable def SV(d:Nat)(c:NR)(e:Expr)(m:ME):Prop:=∀(C:Cx)(A:NT)(a:List NC)(env:Env)(b:ar)(σ:aa)(fz:Fz)(s:Nc)(Q:QV)(X:QX),
 St C A a d c env b σ fz s->cR d m b σ Q X->Nt C.M A (Q2 e env) (PK C a σ fz s (VR C.P) Q) (PX C a σ fz s X) s
noncomputable def L1(P:Np)(k:Nat):Fz->List PV->List M_->Prop:=fun fz b v=>aL P fz b v/\v.length=k
noncomputable def xY(d:Nat)(c:NR)(es:List Expr)(ms:List ME):Prop:=∀(C:Cx)(A:NT)(a:List NC)(env:Env)(b:ar)(σ:aa)(fz:Fz)(s:Nc)(Q:List PV->aa->Prop)(X:QX)(pos:Pos),
 St C A a d c env b σ fz s->mF d ms b σ Q X->Nt C.M A (spliced (Uk pos (Qu es env))) (PK C a σ fz s (L1 C.P es.length) Q) (PX C a σ fz s X) s
noncomputable def ST(d:Nat)(c:NR)(e:Expr)(m:ME):Prop:=∀(C:Cx)(A:NT)(a:List NC)(env:Env)(b:ar)(σ:aa)(fz:Fz)(s:Nc)(Q:Bool->aa->Prop)(X:QX),
 St C A a d c env b σ fz s->fQ d m b σ Q X->Nt C.M A (isTrue e env (Q2 e env)) (PK C a σ fz s sd Q) (PX C a σ fz s X) s
section
variable{C:Cx}{A:NT}{FR:List NC}{σ:aa}{fz:Fz}{s:Nc}{α β γ δ:Type}{R:Fz->β->α->Prop}{R':Fz->δ->γ->Prop}{X:QX}
theorem L4{k:α->Sem γ}{Q:β->aa->Prop}{Q':δ->aa->Prop}(h:Nt C.M A t (PK C FR σ fz s R Q) (PX C FR σ fz s X) s)
 (h':∀v s' b a fz',GS C FR σ fz s a fz' s'->R fz' b v->Q b a->Nt C.M A (k v) (PK C FR a fz' s' R' Q') (PX C FR a fz' s' X) s'):Nt C.M A (t>>=k) (PK C FR σ fz s R' Q') (PX C FR σ fz s X) s:=
 M8 (Nq h (fun v s' ⟨b,a,fz',g,r,q⟩=>Nq (h' v s' b a fz' g r q) (fun _ _ z=>z.via g) fun _ _ z=>z.via g) fun _ _ z=>z)
theorem MB{k:α->Sem γ}{Q:β->aa->Prop}{Q':δ->aa->Prop}(h:Nt C.M A t (PK C FR σ fz s R Q) (PX C FR σ fz s X) s)
 (h':∀v s' b a fz',GS C FR σ fz s a fz' s'->R fz' b v->Q b a->Nt C.M A (k v) (PK C FR a fz' s' R' Q') (PX C FR a fz' s' X) s'):Nt C.M A t (fun v s'=>Nt C.M A (k v) (PK C FR σ fz s R' Q') (PX C FR σ fz s X) s') (PX C FR σ fz s X) s:=
 Nq h (fun v s' ⟨b,a,fz',g,r,q⟩=>Nq (h' v s' b a fz' g r q) (fun _ _ z=>z.via g) fun _ _ z=>z.via g) fun _ _ z=>z
theorem fT{a:aa}{fz':Fz}{s':Nc}{Q:β->aa->Prop}(g:GS C FR σ fz s a fz' s')(h:Nt C.M A t (PK C FR a fz' s' R Q) (PX C FR a fz' s' X) s'):Nt C.M A t (PK C FR σ fz s R Q) (PX C FR σ fz s X) s':=
 Nq h (fun _ _ z=>z.via g) fun _ _ z=>z.via g
end
section
variable{d:Nat}{sc:NR}{ml:List Nat}
theorem eP(h:bq ml n sc .v e=some m)(rest:List Expr)(env:Env):Qu (e::rest) env=(false,Q2 e env)::Qu rest env:=by cases e<;>first|rfl|(cases n<;>exact aj (show(none:Option ME)=some m from h))
theorem dk(y:∀e m,bq ml n sc .v e=some m->SV d sc e m)(es:List Expr):∀(ms:List ME),dh (bq ml n sc .v) es=some ms->xY d sc es ms:=by
 induction es with
 |nil=>
  intro ms h C A p env t σ fz s Q X pos S w;injection h with z0;subst z0
  exact wpAny_items_nil (aY S.good ⟨.nil,rfl⟩ w)
 |cons e es ih=>intro ms h C A p env t σ fz s Q X pos S w;apply bc;intro l;refine uq h fun m u D F H=>?_;subst H;apply l;refine wpAny_items_cons ?_ (eP D es env);refine Nq (y e m D C A p env t σ fz s _ X S w) (fun v s₁ x=>?_) fun _ _ z=>z;apply bc;intro l;obtain⟨b,f,i,g,r,q⟩:=x;apply l;refine Nq (ih u F C A p env t f i s₁ _ X pos (S.step g) q) (fun vs E x=>?_) fun _ _ z=>z.via g;apply bc;intro l;obtain⟨K,j,k,a,c,o⟩:=x;apply l;exact⟨b::K,j,k,g.trans a,⟨.cons (r.mono a.1.fzk) c.1,by simp[c.2]⟩,o⟩
theorem dw(es:List Expr):∀(ms:List ME),dh (bq ml n sc .v) es=some ms->∀(pos:Pos)(env:Env),(Uk pos (Qu es env)).any (·.1)=false:=by
 induction es with
 |nil=>exact fun _ _ _ _=>rfl
 |cons e es b=>intro ms h pos env;apply bc;intro c;refine uq h fun m a d f g=>?_;subst g;apply c;rw[eP d es env];exact b a f pos env
end
set_option tactic.hygienic true
noncomputable def uy(h:Om)(a:NC):Array N6:=match h.get? a with
 |some ⟨_,_,.dict es _,_⟩=>es
 |_=>#[]
noncomputable def gj(P:Np):Array N6:=uy (H1 P) 3
noncomputable def qs(P:Np):Array N6:=uy (H1 P) 0
noncomputable def iO(e:N6):Bool:=match e.key with|.str .. =>true|_=>false
theorem d8{es:Array N6}(h:es.toList.all iO=true):StrKeys es:=by
 intro e a;have:=List.all_eq_true.mp h e (by simpa using a);unfold iO at this;split at this
 .rename_i x t q;exact⟨_,_,q⟩
 .exact aK this
theorem EF(P:Np):∃n,(H1 P).get? 3=some ⟨.type "dict",none,.dict (gj P) n,#[]⟩:=⟨_,rfl⟩
theorem EG(P:Np):∃n,(H1 P).get? 0=some ⟨.type "dict",none,.dict (qs P) n,#[]⟩:=⟨_,rfl⟩
theorem uz(P:Np):(gj P).toList.all iO=true:=by kernel_rfl
theorem uA(P:Np):(qs P).toList.all iO=true:=by kernel_rfl
noncomputable def eQ:BI->M_
 |.len=> .builtin "len"|.ord=> .builtin "ord"|.chr=> .builtin "chr"|.abs=> .builtin "abs"|.int=> .type "int"|.str=> .type "str"|.sum=> .builtin "sum"
 |.tuple=> .type "tuple"|.divmod=> .builtin "divmod"|.sorted=> .builtin "sorted"|.sortset=> .none|.dict=> .type "dict"
theorem EH(P:Np):(fE.all fun x=>OB (gj P) x.1==some (.ref x.2))=true:=by kernel_rfl
theorem EI(P:Np):(lc.all fun x=>(OB (gj P) x.1).isNone&&OB (qs P) x.1==some (eQ x.2))=true:=by kernel_rfl
theorem Bo(P:Np):((OB (gj P) "range").isNone&&OB (qs P) "range"==some (.type "range")&&(OB (gj P) "isinstance").isNone&&OB (qs P) "isinstance"==some (.builtin "isinstance")&&
 (OB (gj P) "set").isNone&&OB (qs P) "set"==some (.type "set"))=true:=by kernel_rfl
theorem qt(P:Np):OB (gj P) "range"=none/\OB (qs P) "range"=some (.type "range")/\OB (gj P) "isinstance"=none/\OB (qs P) "isinstance"=some (.builtin "isinstance")/\True:=by apply bc;intro a;refine qh (Bo P) fun h _=>?_;refine qh h fun h _=>?_;refine qh h fun h b=>?_;refine qh h fun h c=>?_;refine qh h fun d e=>?_;apply a;exact⟨Option.isNone_iff_eq_none.mp d,beq_iff_eq.mp e,Option.isNone_iff_eq_none.mp c,beq_iff_eq.mp b,trivial⟩
noncomputable def HJ:List Nat:=fE.map (·.2)
noncomputable def KA(P:Np):Frag:=lh (ED++EE++HJ) (H1 P)
theorem AC(P:Np):((HJ++[178,192,220,227,234,241,248,255,262,269,276,283,318,332,339,346,353,367,374,388,444,470,416,515,541,617,624,631,638,645,686,693,700]).all fun a=>V3 (KA P) (.ref a))=true:=by kernel_rfl
noncomputable def bw(s:String)(t:Nat):M_:= .str (NH s) t
theorem HK(P:Np):(OB (gj P) "SIGNS",OB (gj P) "ESCAPE_SIGNS",OB (gj P) "ESCAPE_CODES",OB (gj P) "TOP",OB (gj P) "MOST_DEPTH",OB (gj P) "MOST_SHIFT",OB (gj P) "_law_NAMES",OB (gj P) "_law_BINARY",OB (gj P) "_law_UNARY")=
 (some (bw "+-*/%&|^~!()[],:$=<>" 306),some (bw "btnfr\"'\\" 308),some (.str ⟨[8,9,10,12,13,34,39,92].toArray⟩ 310),some (.int 18446744073709551615 312),some (.int 10 698),some (.int 63 700),some (.ref 800),some (.ref 801),some (.ref 809)):=by kernel_rfl
theorem HL(P:Np):∃t1 a b c d e n,(H1 P).get? 800=some (bH "tuple" [bw "a" t1,bw "b" a,bw "c" b,bw "d" c,bw "e" d,bw "_n.1$" e].toArray n):=⟨_,_,_,_,_,_,_,rfl⟩
theorem HM(P:Np):∃t1 b c d e f g h i a n,(H1 P).get? 801=some (bH "tuple" [bw "*" t1,bw "/" b,bw "%" c,bw "<<" d,bw ">>" e,bw "|" f,bw "&" g,bw "^" h,bw "+" i,bw "-" a].toArray n):=⟨_,_,_,_,_,_,_,_,_,_,_,rfl⟩
theorem HN(P:Np):∃t1 a b n,(H1 P).get? 809=some (bH "tuple" [bw "-" t1,bw "~" a,bw "!" b].toArray n):=⟨_,_,_,_,rfl⟩
theorem a'(P:Np)(fz:Fz)(s:String)(t:Nat)(h:oQ (NH s)=true):VR P fz (.str (NH s).cps.toList) (bw s t):=by
 unfold oQ at h;simp only[N1,OD,Rt]at h;have:=VR.str (P:=P) (fz:=fz) (NH s).cps.toList t ⟨by simpa using h.1,fun c a=>by simpa using h.2 c a⟩
 simpa [bw]using this
section
variable{C:Cx}{A:NT}{FR:List NC}{σ:aa}{fz:Fz}{s:Nc}{E:M_->Nc->Prop}
theorem Bp(G:aw C σ fz FR s.heap)(h:iy ub n=some i):∃x,OB (gj C.P) n=some x/\VR C.P fz (cu i) x:=by
 unfold iy at h;rw[Ov]at h;obtain⟨f,a,_⟩:=h;have a:=beq_iff_eq.mp a;have b:=HK C.P;simp only[S1]at b;obtain⟨b0,b1,b2,b3,b4,b5,g,j,k⟩:=b;have l:i<9:=f;obtain rfl|rfl|rfl|rfl|rfl|rfl|rfl|rfl|rfl:i=0\/i=1\/i=2\/i=3\/i=4\/i=5\/i=6\/i=7\/i=8:=by lia
 .subst a;exact⟨_,b0,a' _ _ _ _ (by decide+kernel)⟩
 .subst a;exact⟨_,b1,a' _ _ _ _ (by decide+kernel)⟩
 .subst a;exact⟨_,b2,.str _ _ ⟨by decide,by decide⟩⟩
 .subst a;exact⟨_,b3,.int ..⟩
 .subst a;exact⟨_,b4,.int ..⟩
 .subst a;exact⟨_,b5,.int ..⟩
 .subst a;apply bc;intro c;obtain⟨t1,d,e,m,o,p,n,h⟩:=HL C.P;apply c;exact⟨_,g,.tup (aJ C h G).1 (by unfold fa;decide) (.cons (a' _ _ _ _ (by decide+kernel)) (.cons (a' _ _ _ _ (by decide+kernel)) (.cons (a' _ _ _ _ (by decide+kernel)) (.cons (a' _ _ _ _ (by decide+kernel)) (.cons (a' _ _ _ _ (by decide+kernel)) (.cons (a' _ _ _ _ (by decide+kernel)) .nil))))))⟩
 .subst a;apply bc;intro c;obtain⟨t1,d,e,m,o,p,r,t,u,q,n,h⟩:=HM C.P;apply c;exact⟨_,j,.tup (aJ C h G).1 (by unfold fa;decide) (.cons (a' _ _ _ _ (by decide+kernel)) (.cons (a' _ _ _ _ (by decide+kernel)) (.cons (a' _ _ _ _ (by decide+kernel)) (.cons (a' _ _ _ _ (by decide+kernel)) (.cons (a' _ _ _ _ (by decide+kernel)) (.cons (a' _ _ _ _ (by decide+kernel)) (.cons (a' _ _ _ _ (by decide+kernel)) (.cons (a' _ _ _ _ (by decide+kernel)) (.cons (a' _ _ _ _ (by decide+kernel)) (.cons (a' _ _ _ _ (by decide+kernel)) .nil))))))))))⟩
 .subst a;apply bc;intro c;obtain⟨t1,d,e,n,h⟩:=HN C.P;apply c;exact⟨_,k,.tup (aJ C h G).1 (by unfold fa;decide) (.cons (a' _ _ _ _ (by decide+kernel)) (.cons (a' _ _ _ _ (by decide+kernel)) (.cons (a' _ _ _ _ (by decide+kernel)) .nil)))⟩
theorem xZ(G:aw C σ fz FR s.heap):s.heap.Ns 3 (OB (gj C.P)):=by obtain⟨n,h⟩:=EF C.P;exact⟨_,_,_,(aJ C h G).2,rfl,d8 (uz C.P),fun _=>rfl⟩
theorem HO(G:aw C σ fz FR s.heap):s.heap.Ns 0 (OB (qs C.P)):=by obtain⟨n,h⟩:=EG C.P;exact⟨_,_,_,(aJ C h G).2,rfl,d8 (uA C.P),fun _=>rfl⟩
theorem Bq(G:aw C σ fz FR s.heap):(KA C.P).In s.heap:=fh _ _ (fun a o h=>(aJ C h G).2) _
theorem Br{b:Type}:∀{l:List (Str×b)}{n:Str}{a:b},l.lookup n=some a->(n,a)∈l:=mem_of_lookup
theorem li(h:fE.lookup n=some a)(P:Np):OB (gj P) n=some (.ref a)/\V3 (KA P) (.ref a)=true:=by have b:=mem_of_lookup h;have c:=List.all_eq_true.mp (EH P) _ b;have d:=List.all_eq_true.mp (AC P) a (Os _ (List.mem_map.mpr ⟨_,b,rfl⟩));exact⟨by simpa using c,d⟩
theorem iP(h:lc.lookup n=some b)(P:Np):OB (gj P) n=none/\OB (qs P) n=some (eQ b):=by
 have a:=List.all_eq_true.mp (EI P) _ (mem_of_lookup h)
 simpa using a
end
set_option tactic.hygienic false
structure Kp(s s':Nc):Prop where
 keep:∀b o,s.heap.get? b=some o->s'.heap.get? b=some o
 gens:s'.gens=s.gens
 os:s'.os=s.os
theorem Kp.trans{s s' a:Nc}(x:Kp s s')(y:Kp s' a):Kp s a:=⟨fun b o h=>y.keep b o (x.keep b o h),y.gens.trans x.gens,y.os.trans x.os⟩
theorem x0:Rn (.type "set") "__len__"=OJ (some (.builtin "set.__len__")):=by rw[Qj,Pk];kernel_rfl
theorem uB:Rn (.type "dict") "__len__"=OJ (some (.builtin "dict.__len__")):=by rw[Qj,Pk];kernel_rfl
inductive EJ(prog:Px)(w:OY)(A:NT)(d:NC)(rO:List M_->Prop)(s₁:Nc)(v:M_)(Z4:Nc):Prop
 |mk (I:NC) (fp wr:List NC) (n:Nat) (P:Nat->M_->Prop) (St:Nat->Nc->Prop) (e:v= .ref I) (W:WalksS prog w A I fp wr (fun a b=>b=a) n P St) (hn:n<=P2) (st:St 0 Z4) (hf:∀b∈fp,b=d\/s₁.heap.get? b=none)
  (hw:∀b∈wr,s₁.heap.get? b=none) (hr:∀acc,Wx P acc n->rO acc.toList)
structure mS(prog:Px)(w:OY)(A:NT)(d:NC)(rO:List M_->Prop)(s₁:Nc)(v:M_)(Z4:Nc):Prop where
 w:EJ prog w A d rO s₁ v Z4
 kp:Kp s₁ Z4
section
variable{prog:Px}{w:OY}{A:NT}{E:M_->Nc->Prop}{s:Nc}
theorem uC{A:NT}{T:String}(f:T="dict"\/T="set"){d:NC}(e:s.TypeIs (.ref d) T){Q:Bool->Nc->Prop}(g:Q false s):Nt (Ob prog w) A (R9 (.ref d)) Q E s:=by
 unfold R9;rcases f with rfl|rfl
 .refine M8 (Tm e uB ?_);generalize a:("dict.__len__":String)=c
  fail_if_success (clear a c)
  wp_delta
  rw[show splitId c=some ("dict","__len__")from by subst a;decide+kernel];subst a;refine M8 (S_ (b:=true) e (by rw[Qv];kernel_rfl) ?_);exact M8 (R2 e (Nl g))
 .refine M8 (Tm e x0 ?_);generalize a:("set.__len__":String)=c
  fail_if_success (clear a c)
  wp_delta
  rw[show splitId c=some ("set","__len__")from by subst a;decide+kernel];subst a;refine M8 (S_ (b:=true) e (by rw[Qv];kernel_rfl) ?_);exact M8 (R2 e (Nl g))
noncomputable abbrev EK:Obj:={cls:= .type "list",data:= .seq ([]:List M_).toArray}
theorem uD{T:String}(hTm:T="dict"\/T="set"){d S:NC}{s1:Nc}(k1:Kp s s1)(hT:s1.TypeIs (.ref d) T)(hSd:S≠d)(a1:s1.heap.get? S=some EK)(fS:s.heap.get? S=none){rO:List M_->Prop}{R:Sf->Nc->Prop}
  (Zl:∀(E':M_->Nc->Prop)(Q':M_->Nc->Prop),(∀v Z4,mS prog w A.in1 d rO s1 v Z4->Q' v Z4)->Nt (Ob prog w) A.in1 (Sd (.ref d)) Q' E' s1)
  (hQ:∀s'(acc:Array M_)n,Kp s s'->s'.heap.get? S=some {cls:= .type "list",data:= .seq acc n}->rO acc.toList->R (.ok (.ret (.ref S))) s'):P5 (Ob prog w) A (.builtin "list.__iadd__" ⟨[.ref S,.ref d],[]⟩) R s1:=by
 have h1:Sq (.ref S) (.ref d)=false:=by simp[Sq,hSd]
 have hT2:=fun s2 (k:Kp s1 s2)=>(show s2.TypeIs (.ref d) T from hT.elim fun od h=>⟨od,k.keep _ _ h.1,h.2⟩)
 have hres2:(false||["set","frozenset","dict","dict_keys","dict_values","dict_items"].any fun x=>S0 T== .type x)=true:=by rcases hTm with rfl|rfl<;>rfl
 refine Pd PySem.F.entry_list_iadd ?_;rw[O2 PySem.F.plain_list_iadd _];show Nt _ A.in1 (R_ (.ref S) (.ref d) (.ref S)) _ _ _;unfold R_;refine M8 (R2 hT ?_);rw[h1,Na (by rcases hTm with rfl|rfl<;>decide)];refine M8 (Zl _ _ fun v s2 it=>?_);obtain⟨⟨I,fp,wr,n,P,St,rfl,W,hn,hst,hfp,hwr,hres⟩,k2⟩:=it;have hSf:S∉fp:=fun h=>(hfp S h).elim hSd fun e=>aj (e.symm.trans a1);have a2:=k2.keep _ _ a1;have hS₂:=N0 (Pa (·.push Ot)) a2 rfl;have hS₃:=N0 (Pa (·.pop)) hS₂ rfl;have oth:∀b o,b≠S->s2.heap.get? b=some o->((s2.heap.update S (Pa (·.push Ot))).update S (Pa (·.pop))).get? b=some o:=
  fun b o hb e=>(N3 _ _ (NZ hb)).trans ((N3 _ _ (NZ hb)).trans e)
 refine M8 (OG (uC hTm (hT2 s2 k2) ?_));show Nt _ A.in1 (if(false||["set","frozenset","dict","dict_keys","dict_values","dict_items"].any fun x=>S0 T== .type x)=true then _ else _) _ _ _;rw[Nd hres2];refine M8 (m:=rule "list.extend.makes-room") (Tz ?_);refine M8 (m:=VT (.ref S)) (M8 (m:=updateSeq S (·.push .none)) (VF a2 rfl (VF hS₂ rfl ?_)));refine Nl ⟨QU PySem.F.plain_extend_loop _,codeAny_extend_loopS W hn _ hSf _ n 0 _ _ _ rfl (NP _)
  (W.frame 0 s2 _ s2.toks hst (Nj _) fun b hb o e=>oth b o (fun h=>hSf (h▸hb)) e) hS₃ (ItemsOf.nil P) fun s' acc' c' hm hS' ZC=>?_⟩
 refine hQ s' acc' _ ⟨fun b o e=>?_,hm.gens.trans (k2.gens.trans k1.gens),hm.os.trans (k2.os.trans k1.os)⟩ hS' (hres acc' ZC);have e1:=k1.keep _ _ e;have hb:b≠S:=fun q=>aj (fS.symm.trans (q▸e));exact hm.heap b o (fun h=>(List.mem_cons.mp h).elim hb fun q=>aj ((hwr b q).symm.trans e1)) (oth b o hb (k2.keep _ _ e1))
theorem hZ{T:String}(f:T="dict"\/T="set"){d:NC}(l:s.TypeIs (.ref d) T){rO:List M_->Prop}{Q:List M_->Nc->Prop}
  (g:∀(s₁:Nc)(h:M_->Nc->Prop)(Q':M_->Nc->Prop),Kp s s₁->(∀v a,mS prog w A.in1 d rO s₁ v a->Q' v a)->Nt (Ob prog w) A.in1 (Sd (.ref d)) Q' h s₁)
  (p:∀s' keys,Kp s s'->rO keys->Q keys s'):Nt (Ob prog w) A (Vg (.ref d)) Q E s:=by
 obtain⟨q,c,i⟩:=id l;unfold Vg;refine M8 (Tx (Pd PySem.F.entry_proto_collect ?_));rw[O2 PySem.F.plain_proto_collect _];refine M8 (m:=Wq []) (Po ?_);have j:Kp s {s with heap:=s.heap.push EK}:=⟨fun b o e=>Nm _ e,rfl,rfl⟩
 refine Nl ⟨QU PySem.F.plain_list_iadd _,uD f j ⟨q,j.keep _ _ c,i⟩ (NZ (N4 (Oo c))) (NI _ rfl) (fresh _) (fun h Q'=>g _ h Q' j) fun s' acc n k r t=>?_⟩;exact M8 (m:=load s.heap.objs.size) (wpAny_load r (Nl (p s' acc.toList k t)))
theorem oY{d:NC}{ss:List Str}(y:ss.length<64)(hh:A.handled=none){Q:M_->Nc->Prop}
  (g:∀(B:NT)(C:M_->Nc->Prop)(Q':List M_->Nc->Prop),B.handled=none->(∀s' keys,Kp s s'->(∃a,Ok keys a/\a.Perm ss)->Q' keys s')->Nt (Ob prog w) B (Vg (.ref d)) Q' C s)
  (D:∀s' r out n a,Kp s s'->s.heap.get? r=none->s'.heap.get? r=some (UX "list" out n)->Ok out.toList a->a.Perm ss->sortedS a=true->Q (.ref r) s'):
  Nt (Ob prog w) A (P6 (.builtin "sorted") [.ref d]) Q E s:=by
 refine Calls.call_function_entry kind_sorted plain_sorted entry_sorted (args_sorted1 _) ?_;unfold Q0.«sorted»;refine M8 (m:=checkCount "sorted" 1 1 _) (Nl ?_);refine M8 (g _ _ _ (by simpa using hh) fun s' keys k ⟨l,j,p⟩=>?_);have q:keys.length<64:=by
  have e:∀{ws:List M_}{ys:List Str},Ok ws ys->ys.length=ws.length:=by
   intro ws ys h;induction h with
   |nil=>rfl
   |cons _ _ _ F=>simp[F]
  have:=e j;have:=p.length_eq;lia
 refine M8 (wpAny_newList ?_ (by have:=aA;exact M7 (Nr q) (by decide)));have c:(s'.heap.push (UX "list" keys.toArray 0)).get? s'.heap.objs.size=some (UX "list" keys.toArray 0):=NI _ rfl;show Nt _ _ _ _ _ {s' with heap:=s'.heap.push (UX "list" keys.toArray 0)};refine M8 (OG (QI slot_list_sort ⟨_,c,rfl⟩ entry_list_sort (list_sort_treeK strKind_oneLt c j.keysOf (fun t u rest e=>keyKind_strs (by rw[←e];exact j)) q fun i p1 H=>⟨_,rfl,?_⟩) (args_list_sort _)));apply bc;intro K;obtain⟨f,L,M,O⟩:=sorted_out_str j p1 H;obtain⟨n,P⟩:=sortedHeap_at (out:=(arrOf i).map (·.2)) c;apply K;refine Nl ⟨_,rfl,D _ s'.heap.objs.size _ n f ⟨fun b o e=>?_,k.gens,k.os⟩ ?_ P L (M.trans p) O⟩
 .have v:=k.keep _ _ e;have x:=Oo v;show(sortedHeap (s'.heap.push (UX "list" keys.toArray 0)) s'.heap.objs.size keys ((arrOf i).map (·.2))).get? b=some o;rw[sortedHeap_old (N4 x) (by rw[size_push'];exact PG x)];exact Nm _ v
 .cases z:s.heap.get? s'.heap.objs.size with
  |none=>rfl
  |some o=>exact absurd (Oo (k.keep _ _ z)) (Ro _)
theorem oZ{ks:List Str}{acc:Array M_}(h:Wx (fun i v=>∃k t,ks[i]? =some k/\v=Ss k t) acc ks.length):Ok acc.toList ks:=by
 obtain⟨c,d⟩:=h;have:∀(vs:List M_)(ks:List Str),vs.length=ks.length->(∀(j:Nat)(v:M_),vs[j]? =some v->∃k t,ks[j]? =some k/\v=Ss k t)->Ok vs ks:=by
  intro vs;induction vs with
  |nil=>intro ks a _;cases ks<;>first|exact .nil|cases a
  |cons v vs e=>
   intro ks a h;cases ks with
   |nil=>cases a
   |cons k ks=>
    obtain⟨l,t,f,g⟩:=h 0 v rfl;injection f with z0;subst z0
    subst g;exact .cons k t (e ks (Pp a) fun j v b=>h (j+1) v b)
 exact this acc.toList ks (by simpa using c) fun j v b=>d j v (by simpa using b)
theorem se(hh:A.handled=none){d:NC}{kvs:List (Str×M_)}{g:Nat}(i:(d==UW)=false)(f:s.heap.DictAt (strKind prog w) d kvs g)(l:kvs.length<=P2){Q:M_->Nc->Prop}
  (m:∀v a,mS prog w A d (fun keys=>Ok keys (kvs.map (·.1))) s v a->Q v a):Nt (Ob prog w) A (Sd (.ref d)) Q E s:=by
 refine wpAny_pyIter_dict i f (m _ _ ⟨⟨s.heap.objs.size,_,_,kvs.length,_,_,rfl,(Walks.dictKeys (knd:=strKind prog w) hh s.heap.objs.size d (N4 f.lt_size) kvs g).toS,l,⟨⟨_,NI _ rfl,rfl,rfl⟩,f.push _⟩,fun b c=>?_,fun b c=>?_,fun acc h=>?_⟩,fun b o e=>Nm _ e,rfl,rfl⟩)
 .simp only[Rk,Nx,V0]at c;rcases c with rfl|rfl
  .exact .inr (fresh _)
  .exact .inl rfl
 .simp only[Rk,Nx,V0]at c;subst c;exact fresh _
 .refine oZ ⟨by simpa using h.1,fun j v n=>?_⟩;apply bc;intro p;obtain⟨k,x,q,r⟩:=h.2 j v n;obtain⟨t,rfl⟩:=R4 r;apply p;exact⟨k,t,by simp[q],rfl⟩
end
section
variable{prog:Px}{w:OY}{A:NT}{E:M_->Nc->Prop}{h:Om}{g:Array S5}{d:Vk}{t:Nat}{os:O7}{a:NC}{o:Obj}
theorem o0:Rn (.type "tuple") "keys"=OJ none:=by rw[Qj,Pk];kernel_rfl
theorem lj{Q:Option M_->Nc->Prop}(hh:A.handled=none)(hx:h.get? a=some (bH "tuple" ws n))(hq:∀s',Kp ⟨h,g,d,t,os⟩ s'->Q none s'):
  Nt (Ob prog w) A (getAttr? (.ref a) "keys") Q E ⟨h,g,d,t,os⟩:=by
 have hT:∀tk',(⟨h,g,d,tk',os⟩:Nc).TypeIs (.ref a) "tuple":=fun _=>⟨_,hx,rfl⟩
 have f1:=sub_AttributeError;have f3:=F.slot_tuple_getattribute.lookup;have f4:=F.slot_tuple_getattribute.bind (.ref a);have f5:=am_tuple_getattr_none;unfold getAttr? getAttrBy? getAttrBy
 repeat (any_goals (first|assumption|exact hT _|((with_reducible show Nt _ _ (P6 (Value.builtin "tuple.__getattribute__") _ _) _ _ _);refine R3 F.slot_tuple_getattribute (hT _) am_entry_tuple_getattribute (F.args_tuple_getattribute_2 _ _) (meets_getattribute_miss_tuple a ws n #[] _ _ o0 (by decide) (by decide+kernel)) ⟨hx,hh,fun h' tk' e hx'=>?_⟩)|wp_step))
 apply bc;intro qK;obtain⟨t',u',he⟩:=hx'.there;apply qK;show Nt _ _ (UZ _ _ _ _ _ _ _) _ _ _;unfold UZ
 repeat (any_goals (first|assumption|wp_step))
 exact hq _ ⟨hx'.of.keeps,rfl,rfl⟩
end
theorem er:UG table "dict.update.loop"=some Q0.«dict.update.loop»:=Vs (by kernel_rfl)
theorem bP:plainId "dict.update.loop"=true:=by decide+kernel
section
variable{prog:Px}{w:OY}{A:NT}{E:M_->Nc->Prop}{R:Sf->Nc->Prop}
noncomputable def qu(h:Om)(a:Array M_)(kvs:List (Str×M_)):Prop:=
 a.size=kvs.length/\∀(i:Nat)(kv:Str×M_),kvs[i]? =some kv->∃p t n,a[i]? =some (.ref p)/\h.get? p=some (bH "tuple" #[.str kv.1 t,kv.2] n)
theorem DP{b I:NC}(h:b≠I):b∉[I]:=fun e=>h (List.mem_singleton.mp e)
theorem o4{kvs:List (Str×M_)}{k:Str}{v:M_}(h:k∉kvs.map (·.1)):stored kvs k v=kvs++[(k,v)]:=by refine Na fun z=>?_;obtain⟨x,a,e⟩:=List.any_eq_true.mp z;exact h (List.mem_map.mpr ⟨x,a,N9 e⟩)
theorem mT{kvs:List (Str×M_)}(c:(kvs.map (·.1)).Nodup){i:Nat}(a:i<kvs.length):stored (kvs.take i) kvs[i].1 kvs[i].2=kvs.take (i+1):=by
 rw[o4,Up,NA a]
 .rfl
 .intro b;refine i_ b fun x g e=>?_;obtain⟨j,f,d⟩:=List.mem_take_iff_getElem.mp g;exact List.pairwise_iff_getElem.mp (List.nodup_iff_pairwise_ne.mp c) j i ((Nb ..).symm▸Nv f (Ru ..)) ((Nb ..).symm▸a) (Nv f (QN ..))
   ((SA ..).trans ((Nw Prod.fst d).trans (e.trans (SA ..).symm)))
theorem o5{s:Nc}{p:NC}{x:Str}{t:Tok}{v:M_}{n:Nat}{Q:List M_->Nc->Prop}(a:s.heap.get? p=some (bH "tuple" #[.str x t,v] n))(b:Q [.str x t,v] s):Nt (Ob prog w) A (SD (.ref p)) Q E s:=by unfold SD;refine M8 (R2 (T:="tuple") ⟨_,a,rfl⟩ ?_);rw[Nd (by decide)];exact M8 (Tw a rfl (Nl b))
theorem kq{h h':Om}{D:NC}{kvs:List (Str×M_)}(a:h.DictOf (strKind prog w) D kvs)(k:∀o,h.get? D=some o->h'.get? D=some o):h'.DictOf (strKind prog w) D kvs:=by obtain⟨o,es,b,c,r⟩:=a;exact⟨o,es,b,k o c,r⟩
theorem sf{D I a:NC}{d:Array M_}{kvs:List (Str×M_)}{c:Om}(P:qu c d kvs)(F:(kvs.map (·.1)).Nodup)(l:kvs.length<=1048576)(hh:A.handled=none)(H:a≠I)(r:D≠I)(K:D≠a)(L:c.get? D=none)(M:c.get? I=none)
  (k:Nat):∀(i:Nat)(s:Nc)(tk:Tok),kvs.length-i=k->i<=kvs.length->(∀b o,c.get? b=some o->s.heap.get? b=some o)->s.heap.IsTupleIter I a i->s.heap.IsTuple a d->s.heap.DictOf (strKind prog w) D (kvs.take i)->
   (∀s',s'.gens=s.gens->s'.os=s.os->(∀b o,c.get? b=some o->s'.heap.get? b=some o)->s'.heap.DictOf (strKind prog w) D kvs->R (.ok (.ret .none)) s')->
   P5 (Ob prog w) A (.builtin "dict.update.loop" ⟨[.ref D,.ref I,.int i tk,.none],[]⟩) R s:=by
 have W:=Walks.tuple (prog:=prog) (w:=w) (A:=A.in1) hh I a H d;have nI:∀b o,c.get? b=some o->b∉[I]:=fun b o e=>DP fun q=>aj (M.symm.trans (q▸e));have nD:∀b o,c.get? b=some o->b≠D:=fun b o e q=>aj (L.symm.trans (q▸e));have u:=DP r;induction k with
 |zero=>intro i s tk C hi O j Q E V;have X:=QO hi (TV C);subst X;rw[Rq]at E;refine Pd er ?_;rw[O2 bP _];refine M8 (m:=SF (.ref I)) (W.done s _ _ ⟨P.1.symm▸j,Q⟩ fun h' Y f=>?_);exact M8 (m:=VW D []) (Nl (Nl (V _ rfl rfl (fun b o e=>f b o (nI b o e) (O b o e)) (kq E fun o=>f D o u))))
 |succ k Z=>intro i s tk C hi O j Q E V;have h:=TU C;have Z:=Z (i+1);have e1:=mT F h;have hz:(kvs.take i).length<=1048576:=M7 (RV ..) l;obtain⟨p,t,n,hp,a0⟩:=P.2 i kvs[i] (NA h);refine Pd er ?_;rw[O2 bP _];refine M8 (m:=SF (.ref I)) (W.item i s _ _ (P.1.symm▸h) ⟨j,Q⟩ fun v h' Y hP x f=>?_);obtain rfl:=Nh (hp.symm.trans hP);have y:∀b o,c.get? b=some o->h'.get? b=some o:=fun b o e=>f b o (nI b o e) (O b o e);refine M8 (m:=To _ _) (OG ?_);refine M8 (wpAny_tryCatch (o5 (y _ _ a0) ?_));apply OG;refine wpAny_dictSet_pairs (knd:=strKind prog w) (k:=kvs[i].1) (PD prog w _ t) (kq E fun o=>f D o u) (fun a6 z g=>?_) (M7 hz (M7 (by decide:1048576<=16777216) aA));exact Nl ⟨QU bP _,Z _ _ ((U2 ..).trans (Nw Ww C)) h (fun b o e=>(g.2 b (nD b o e)).trans (y b o e)) (x.1.at fun o e=>(g.2 I r.symm).trans e) (x.2.at fun o e=>(g.2 a K.symm).trans e) (e1▸z) fun s' g1 g2 g3 g4=>V s' g1 g2 g3 g4⟩
theorem iz{s:Nc}{a:NC}{Z8:Array M_}{n:Nat}{kvs:List (Str×M_)}(hx:s.heap.get? a=some (bH "tuple" Z8 n))(P:qu s.heap Z8 kvs)(hnd:(kvs.map (·.1)).Nodup)(ZT:kvs.length<=1048576)(hh:A.handled=none){Q:M_->Nc->Prop}
  (hQ:∀s',s'.gens=s.gens->s'.os=s.os->(∀b o,s.heap.get? b=some o->s'.heap.get? b=some o)->s'.heap.DictOf (strKind prog w) s.heap.objs.size kvs->Q (.ref s.heap.objs.size) s'):
  Nt (Ob prog w) A (P6 (.type "dict") [.ref a]) Q E s:=by
 refine callType_codes (Q₁:=fun obj s₁=>obj= .ref s.heap.objs.size/\s₁={s with heap:=s.heap.push {cls:= .type "dict",data:= .dict #[]}}) PySem.F.kt_called_dict (PySem.F.kt_typeCall_dict_1 _) PySem.F.entry_dict_init (kt_code_dict_new _ ⟨rfl,rfl⟩) ?_;rintro obj s₁ ⟨rfl,rfl⟩;have Zv:(s.heap.push {cls:= .type "dict",data:= .dict #[]}).DictOf (strKind prog w) s.heap.objs.size []:=Heap.DictOf.new s.heap;have fD:s.heap.get? s.heap.objs.size=none:=fresh s.heap;have k0:∀b o,s.heap.get? b=some o->(s.heap.push {cls:= .type "dict",data:= .dict #[]}).get? b=some o:=fun b o e=>Nm _ e;have hDa:s.heap.objs.size≠a:=fun e=>by rw[e,hx]at fD;exact bb fD
 refine⟨Zv.typeIs,PySem.F.args_dict_init_2 _ _,?_⟩;unfold Q0.«dict.__init__»;apply M8;unfold VV;refine M8 (wpAny_notOrdered_dict Zv.typeIs ?_);show Nt _ _ (OJ (s.heap.objs.size,[OF a])) _ _ _;apply Nl;show Nt _ _ (Sw "dict.__init__" s.heap.objs.size (.ref a) [] .none) _ _ _;unfold Sw;generalize hs1:({s with heap:=s.heap.push {cls:= .type "dict",data:= .dict #[]}}:Nc)=s1 at Zv⊢;have q1:s1.heap=s.heap.push {cls:= .type "dict",data:= .dict #[]}:=by rw[←hs1]
 have k1:Kp s s1:=by rw[←hs1];exact⟨k0,rfl,rfl⟩
 have hnew1:s1.heap.DictOf (strKind prog w) s.heap.objs.size []:=by rw[q1];exact Zv
 have hx1:=k1.keep _ _ hx;refine M8 (R2 (T:="tuple") ⟨_,hx1,rfl⟩ ?_);rw[Nd (by decide)];obtain⟨h1,g1,d1,t1,os1⟩:=s1;refine M8 (lj (by simpa using hh) hx1 fun s2 k2=>?_);dsimp only;rw[Nd (by rfl)];have hx2:=k2.keep _ _ hx1;have ht2:s2.heap.IsTuple a Z8:=⟨_,hx2,rfl,n,rfl⟩
 refine M8 (Tz ?_);refine M8 (UT ht2 ?_);refine Nl ⟨QU bP _,?_⟩;have k12:=k1.trans k2;have fI:s2.heap.get? s2.heap.objs.size=none:=fresh s2.heap;have fI0:s.heap.get? s2.heap.objs.size=none:=by
  cases z:s.heap.get? s2.heap.objs.size with
  |none=>rfl
  |some o=>have:=k12.keep _ _ z;rw[fI]at this;exact aj this
 have hD2:s2.heap.DictOf (strKind prog w) s.heap.objs.size []:=by obtain⟨o,es,ep,ho,r⟩:=hnew1;exact⟨o,es,ep,k2.keep _ _ ho,r⟩
 have haI:a≠s2.heap.objs.size:=fun e=>by rw[←e,hx2]at fI;exact bb fI
 have hDI:s.heap.objs.size≠s2.heap.objs.size:=fun e=>by obtain⟨o,es,ep,ho,r⟩:=hD2;rw[←e,ho]at fI;exact bb fI
 refine sf P hnd ZT (by simpa using hh) haI hDI hDa fD fI0 kvs.length 0 _ _ rfl (NP _) (fun b o e=>Nm _ (k12.keep _ _ e)) ?_ ⟨_,Nm _ hx2,rfl,n,rfl⟩ ?_ fun s' e1 e2 e3 e4=>?_
 .exact⟨_,NI _ rfl,rfl,rfl⟩
 .exact hD2.push _
 .exact⟨rfl,hQ s' (e1.trans k12.gens) (e2.trans k12.os) e3 e4⟩
end
set_option backward.match.sparseCases true
set_option tactic.hygienic true
theorem AD(t:OI)(n:Nat):(t.standIn n).led=t.led/\(t.plain=false->(t.standIn n).plain=false):=⟨rfl,fun _=>rfl⟩
noncomputable def uE(t t':OI):Prop:=t'.led=t.led/\(t.plain=false->t'.plain=false)
theorem x1(t:OI)(n:Nat):uE t (t.orStandIn n):=dt (p:=uE t) (fun _=>⟨rfl,id⟩) fun _=>⟨rfl,fun _=>rfl⟩
theorem o6(t:OI)(es:Array (Int×M_))(h:Int)(x:M_):uE t (layNew t es h x).2.1:=by
 delta layNew;cases t.freeSlot h with
 |none=>exact⟨rfl,fun _=>rfl⟩
 |some p=>exact x1 (t.put p.1).1 _
theorem gm(t:OI)(es:Array (Int×M_))(n:Nat):uE t (SU t es n).2.1:=by
 delta SU;cases hr:t.relaid (es.map (·.1)) n with
 |none=>exact⟨rfl,fun _=>rfl⟩
 |some q=>
  refine dt (p:=fun x:Array (Int×M_)×OI×Bool=>uE t x.2.1) (fun _=>?_) fun _=>⟨rfl,fun _=>rfl⟩
  refine bF hr fun o ho h=>?_;cases h;exact⟨rfl,id⟩
noncomputable abbrev fU(w:OY):Bool:=w.params.followText "set-order"
structure ch(prog:Px)(w:OY)(h:Om)(a:NC)(ks:List Str)(o:Obj)(es:Array (Int×M_))(ep:Nat)(t:OI):Prop where
 at_:h.get? a=some o
 ex:o.ExactSet
 data:o.data= .set es ep t
 keys:∃ZQ,Ok (es.toList.map (·.2)) ZQ/\ZQ.Perm ks
 hs:∀e∈es.toList,∃k u,e=((strKind prog w).hash k,.str k u)
 size:es.size=ks.length
 small:es.size<QJ
 fits:t.fits es.size=true
 led:fU w=true\/t.led=true
 pl:ks≠[]->t.plain=false
theorem ch.elems{prog:Px}{w:OY}{h:Om}{a:NC}{ks:List Str}{o:Obj}{es:Array (Int×M_)}{ep:Nat}{t:OI}(S:ch prog w h a ks o es ep t):ElemsOf (strKind prog w) es.toList:=fun e he=>by obtain⟨k,u,rfl⟩:=S.hs e he;exact⟨⟨k,PD prog w k u,rfl⟩,rfl⟩
theorem mU{vs:List M_}{ks:List Str}(h:Ok vs ks):∀k,k∈ks↔∃u,Ss k u∈vs:=by
 induction h with
 |nil=>exact fun k=>⟨fun h=>absurd h Nx,fun h=>h.elim fun _ h=>absurd h Nx⟩
 |cons n t _ ih=>
  refine fun k=>⟨fun h=>(List.mem_cons.mp h).elim (fun e=>⟨t,e▸Ng⟩) fun h=>((ih k).mp h).elim fun u hu=>⟨u,Ni _ hu⟩,fun h=>h.elim fun u hu=>(List.mem_cons.mp hu).elim (fun e=>?_) fun hu=>Ni _ ((ih k).mpr ⟨u,hu⟩)⟩
  cases e;exact Ng
theorem uF{v:M_}{vs:List M_}{ks:List Str}(h:Ok (v::vs) ks):∃k t ZQ,v= .str k t/\ks=k::ZQ/\Ok vs ZQ:=by
 cases h with
 |cons k t h=>exact⟨k,t,_,rfl,rfl,h⟩
theorem EM{vs:List M_}{ks:List Str}(h:Ok vs ks):vs.length=ks.length:=by
 induction h with
 |nil=>rfl
 |cons _ _ _ ih=>exact Nw Nat.succ ih
theorem d9{vs vs':List M_}{ks:List Str}(h:Ok vs ks)(p:vs'.Perm vs):∃ZQ,Ok vs' ZQ/\ZQ.Perm ks:=by
 induction p generalizing ks with
 |nil=>exact⟨ks,h,.refl _⟩
 |cons x _ ih=>obtain⟨n,t,ZQ,rfl,rfl,h'⟩:=uF h;obtain⟨k2,h1,h2⟩:=ih h';exact⟨n::k2,.cons n t h1,h2.cons n⟩
 |swap x y l=>obtain⟨n,t,ZQ,rfl,rfl,h1⟩:=uF h;obtain⟨m,u,ZQ,rfl,rfl,h2⟩:=uF h1;exact⟨_,.cons m u (.cons n t h2),.swap ..⟩
 |trans _ _ ih1 ih2=>obtain⟨k1,h1,p1⟩:=ih2 h;obtain⟨k2,h2,p2⟩:=ih1 h1;exact⟨k2,h2,p2.trans p1⟩
theorem jl{vs vs':List M_}{ks ZQ:List Str}(h:Ok vs ks)(h':Ok vs' ZQ):Ok (vs++vs') (ks++ZQ):=by
 induction h with
 |nil=>exact h'
 |cons n t _ ih=>exact .cons n t ih
section
variable{prog:Px}{w:OY}{A:NT}{E:M_->Nc->Prop}{s:Nc}
theorem ch.has{h:Om}{a:NC}{ks:List Str}{o:Obj}{es:Array (Int×M_)}{ep:Nat}{t:OI}(S:ch prog w h a ks o es ep t)(x:Str):x∈ks↔∃e∈es.toList,(strKind prog w).is x e.2=true:=by
 obtain⟨ZQ,hS,hp⟩:=S.keys;refine hp.mem_iff.symm.trans ((mU hS x).trans ⟨?_,?_⟩)
 .intro ⟨u',hu⟩;refine i_ hu fun e he e2=>?_;exact⟨e,he,by rw[e2];exact PD prog w x u'⟩
 .intro ⟨e,he,e2⟩;obtain⟨u',e3⟩:=R4 e2;exact⟨u',List.mem_map.mpr ⟨e,he,e3⟩⟩
theorem ch.add{h h':Om}{a:NC}{ks:List Str}{o o':Obj}{es ZG:Array (Int×M_)}{ep ZP:Nat}{t t2:OI}{x:Str}{u:Tok}(S:ch prog w h a ks o es ep t)(hn:ks.length+1<QJ)
  (p:ZG.toList.Perm (es.toList++[((strKind prog w).hash x,.str x u)])) (p2:t2.fits ZG.size=true) (p3:t2.led=t.led) (p4:t2.plain=false) (a1:h'.get? a=some o') (a2:o'.ExactSet) (a3:o'.data= .set ZG ZP t2):ch prog w h' a (ks++[x]) o' ZG ZP t2:=by
 obtain⟨ZQ,hS,hp⟩:=S.keys;have hsz:ZG.size=ks.length+1:=by have:=p.length_eq;rw[M9,OV,OV,S.size]at this;exact this
 have hSx:Ok ((es.toList++[((strKind prog w).hash x,Ss x u)]).map (·.2)) (ZQ++[x]):=by rw[NG];exact jl hS (.cons x u .nil)
 obtain⟨k2,h1,h2⟩:=d9 hSx (p.map (·.2));refine⟨a1,a2,a3,⟨k2,h1,h2.trans (hp.append_right _)⟩,fun e he=>?_,by rw[hsz,M9];rfl,by rw[hsz];exact hn,p2,p3▸S.led,fun _=>p4⟩;rcases List.mem_append.mp (p.mem_iff.mp he)with he|he
 .exact S.hs e he
 .exact⟨x,u,List.mem_singleton.mp he⟩
theorem AE{b:Bool}{Q':Unit->Nc->Prop}(hq:Q' () s):Nt (Ob prog w) A (match b with|true=>rule "set.scan.the-table-gave-way"|false=>OJ ()) Q' E s:=by
 cases b with
 |true=>exact Tz hq
 |false=>exact Nl hq
theorem qv{a:NC}{ZJ ZG:Array (Int×M_)}{ep:Nat}{t1 t2:OI}{o:Obj}(h:s.heap.get? a=some o)(hd:o.data= .set ZJ ep t1)(hb:ZG.size<=P2){Q':Unit->Nc->Prop}
  (k:∀h',QZ a s.heap h'->h'.get? a=some {o with data:= .set ZG (ep+1) t2}->Q' () {s with heap:=h'}):Nt (Ob prog w) A (VY a ZG t2) Q' E s:=by
 refine wpAny_storeSet_of h hd (k _ (Heap.SameBut.update s.heap a (Wd ZG t2)) ?_) hb;have:=N0 (Wd ZG t2) h (by rw[putSet_of ZG t2 hd];rfl);rw[putSet_of ZG t2 hd]at this;exact this
theorem mV{a:NC}{ks:List Str}{o:Obj}{es ZJ:Array (Int×M_)}{ep:Nat}{t t2:OI}{x:Str}{u:Tok}{R:Option Bool->Nc->Prop}{wd:Bool}(S:ch prog w s.heap a ks o es ep t)(hn:ks.length+1<QJ)
  (hp:ZJ.toList.Perm (es.toList++[((strKind prog w).hash x,.str x u)])) (f1:t2.fits ZJ.size=true) (f2:t2.led=t.led) (f3:t2.plain=false)
  (hR:∀h' o' ZN ZP t',QZ a s.heap h'->ch prog w h' a (ks++[x]) o' ZN ZP t'->R (some true) {s with heap:=h'}):
    Nt (Ob prog w) A (do
     VY a ZJ t2
     if(!wd&&t2.tooFull)=true then do
       (match(SU t2 ZJ (QE ZJ.size)).2.2 with|true=>rule "set.scan.the-table-gave-way"|false=>OJ ())
       VY a (SU t2 ZJ (QE ZJ.size)).1 (SU t2 ZJ (QE ZJ.size)).2.1
       OJ (some true)
      else OJ (some true)) R E s:=by
 have q1:=relayAll_perm t2 ZJ (QE ZJ.size);have hb1:ZJ.size<=P2:=by have:=hp.length_eq;rw[M9,OV,OV,S.size]at this;exact this▸M7 (NW hn) (M7 (by decide:QJ<=16777216) aA)
 have hb2:(SU t2 ZJ (QE ZJ.size)).1.size<=P2:=by rw[←OV,q1.length_eq,OV];exact hb1
 refine M8 (qv S.at_ S.data hb1 fun h1 sb1 g1=>?_);refine dt (p:=fun p=>Nt _ _ p _ _ _) (fun _=>?_) fun _=>?_
 .refine M8 (AE ?_);refine M8 (qv g1 rfl hb2 fun h2 sb2 g2=>?_);exact Nl (hR _ _ _ _ _ (sb1.trans sb2) (S.add hn (q1.trans hp) (relayAll_fits ..) ((gm ..).1.trans f2) ((gm ..).2 f3) g2 S.ex rfl))
 .exact Nl (hR _ _ _ _ _ sb1 (S.add hn hp f1 f2 f3 g1 S.ex rfl))
theorem uG{a:NC}{ks:List Str}{o:Obj}{es:Array (Int×M_)}{ep:Nat}{t:OI}{x:Str}{u:Tok}{ad:Bool}{Q:ScanMet->Nc->Prop}(S:ch prog w s.heap a ks o es ep t)
  (h1:x∈ks->∀i,Q (.found i) s) (h2:x∉ks->Q .absent s):Nt (Ob prog w) A (setScan a (.str x u) ((strKind prog w).hash x) ad es) Q E s:=by
 refine wpAny_setScan_of (PD prog w x u) S.at_ S.data S.fits S.elems ?_;have hmem:=S.has x;cases hr:es.toList.findIdx? (fun e=>(strKind prog w).is x e.2)with
 |some j=>obtain⟨hj,hpj,_⟩:=List.findIdx?_eq_some_iff_getElem.mp hr;exact h1 (hmem.mpr ⟨es.toList[j],OO hj,hpj⟩) _
 |none=>refine h2 fun h=>?_;obtain⟨e,he,q⟩:=hmem.mp h;exact aK ((List.findIdx?_eq_none_iff.mp hr e he).symm.trans q)
theorem x2{a:NC}{ks:List Str}{o:Obj}{es:Array (Int×M_)}{ep:Nat}{t:OI}{x:Str}{u:Tok}{Q:Bool->Nc->Prop}(S:ch prog w s.heap a ks o es ep t)(hn:ks.length+1<QJ)
  (hq:∀h' b o' ZN ZP t',QZ a s.heap h'->ch prog w h' a (if x∈ks then ks else ks++[x]) o' ZN ZP t'->Q b {s with heap:=h'}):
  Nt (Ob prog w) A (Wo a (.str x u) ((strKind prog w).hash x)) Q E s:=by
 have Zz:=layNew_perm t es ((strKind prog w).hash x) (.str x u);have hfits:=layNew_fits t es ((strKind prog w).hash x) (.str x u);have Zu:=o6 t es ((strKind prog w).hash x) (.str x u);rw[Uh]at Zz;unfold Wo setAddHashedIn;refine OG (M8 (PQ S.at_ S.data S.fits ?_));dsimp only;rw[byScan_of rfl S.small S.elems,Nd rfl];unfold setAddByScan;apply M8;refine M8 (Tz ?_);refine M8 (uG S (fun hin i=>Nl (Nl (hq s.heap false o es ep t (Heap.SameBut.refl a s.heap) (by rw[Nd hin];exact S)))) fun hout=>?_);refine M8 (m:=match(layNew t es ((strKind prog w).hash x) (.str x u)).2.2.2 with|true=>rule "set.scan.the-table-gave-way"|false=>OJ ()) (AE ?_);have fin:∀h' o' ZN ZP t',QZ a s.heap h'->ch prog w h' a (ks++[x]) o' ZN ZP t'->Q true {s with heap:=h'}:=fun h' o' ZN ZP t' sb S'=>hq h' true o' ZN ZP t' sb (by rw[Na hout];exact S');refine dt (p:=fun p=>Nt _ _ p _ _ _) (fun hp=>?_) fun hp=>?_
 .refine M8 (Q1 (show hashByValue 8 (.str x u)=OJ false from rfl) ?_);exact mV S hn Zz (SetTable.fits_plain_off hfits) Zu.1 rfl fun h' o' ZN ZP t' sb S'=>Nl (fin h' o' ZN ZP t' sb S')
 .refine M8 (Nl ?_);exact mV S hn Zz hfits Zu.1 (UP hp) fun h' o' ZN ZP t' sb S'=>Nl (fin h' o' ZN ZP t' sb S')
end
noncomputable def bC(ks:List Str)(x:Str):List Str:=if x∈ks then ks else ks++[x]
theorem sh(ks:List Str)(x:Str):(bC ks x).length<=ks.length+1:=dt (p:=fun l:List Str=>l.length<=ks.length+1) (fun _=>Oi _) fun _=>NJ M9
theorem kr(ss:List Str):∀ks:List Str,(ss.foldl bC ks).length<=ks.length+ss.length:=by
 induction ss with
 |nil=>exact fun ks=>Nj _
 |cons x r ih=>exact fun ks=>M7 (ih (bC ks x)) (M7 (NL (sh ks x) _) (NJ (Nat.succ_add_eq_add_succ ..)))
theorem si(ks:List Str)(x y:Str):y∈bC ks x↔y∈ks\/y=x:=
 dt (p:=fun l:List Str=>y∈l↔y∈ks\/y=x) (fun h=>⟨.inl,fun q=>q.elim id fun e=>e▸h⟩) fun _=>List.mem_append.trans (V1 .rfl List.mem_singleton)
theorem kt(ss:List Str):∀(ks:List Str)(y:Str),y∈ss.foldl bC ks↔y∈ks\/y∈ss:=by
 induction ss with
 |nil=>exact fun ks y=>⟨.inl,fun h=>h.elim id fun h=>absurd h Nx⟩
 |cons x r ih=>exact fun ks y=>(ih (bC ks x) y).trans ((V1 (si ks x y) .rfl).trans (or_assoc.trans (V1 .rfl List.mem_cons.symm)))
theorem mW(ss:List Str):∀ks:List Str,ks.Nodup->(ss.foldl bC ks).Nodup:=by
 induction ss with
 |nil=>exact fun ks h=>h
 |cons x r ih=>exact fun ks h=>ih _ (dt (p:=List.Nodup) (fun _=>h) fun hx=>List.nodup_append.mpr ⟨h,.cons (fun _ h=>absurd h Nx) .nil,fun a ha b hb e=>hx ((e.trans (List.mem_singleton.mp hb))▸ha)⟩)
section
variable{prog:Px}{w:OY}{A:NT}{R:Sf->Nc->Prop}
theorem HP{ws:List M_}{ys:List Str}(h:Ok ws ys):∀(i:Nat)(v:M_),ws[i]? =some v->∃u,∃h:i<ys.length,v= .str ys[i] u:=by
 induction h with
 |nil=>exact fun _ _=>aj
 |cons n t _ ih=>
  intro i v h;cases i with
  |zero=>cases h;exact⟨t,Oh _,rfl⟩
  |succ i=>obtain⟨u,hl,e⟩:=ih i v h;exact⟨u,Qx hl,e⟩
theorem sj{ss:List Str}{i:Nat}(h:i<ss.length):bC ((ss.take i).foldl bC []) ss[i]=(ss.take (i+1)).foldl bC []:=by rw[Up,NA h,Option.toList_some,List.foldl_append];rfl
theorem uH{ss:List Str}(i:Nat)(h:ss.length<=1000):((ss.take i).foldl bC []).length+1<QJ:=
 Nf (NE (M7 (kr (ss.take i) []) (M7 (NJ (N7 _)) (M7 (RV ..) h)))) (by decide:1001<QJ)
theorem uI{S I l:NC}{Z8:Array M_}{ss:List Str}(hS:Ok Z8.toList ss)(ZT:ss.length<=1000)(hh:A.handled=none)(hlI:l≠I)(hSI:S≠I)(hSl:S≠l)
  (k:Nat):∀(i:Nat)(s:Nc)(o:Obj)(es:Array (Int×M_))(ep:Nat)(t:OI),ss.length-i=k->i<=ss.length->s.heap.IsListIter I l i->s.heap.IsList l Z8->ch prog w s.heap S ((ss.take i).foldl bC []) o es ep t->
   (∀s' o' ZN ZP t',s'.gens=s.gens->s'.os=s.os->(∀b o,b≠S->b≠I->s.heap.get? b=some o->s'.heap.get? b=some o)->ch prog w s'.heap S (ss.foldl bC []) o' ZN ZP t'->R (.ok (.ret .none)) s')->
   P5 (Ob prog w) A (.builtin "set.update.loop" ⟨[.ref S,.ref I],[]⟩) R s:=by
 have W:=Walks.list (prog:=prog) (w:=w) (A:=A.in1) hh I l hlI Z8;have hsz:Z8.size=ss.length:=EM hS;induction k with
 |zero=>intro i s o es ep t hk hi Zl hl hm hR;have hin:=QO hi (TV hk);subst hin;rw[Rq]at hm;refine Pd TZ ?_;rw[O2 RH _];refine M8 (m:=SF (.ref I)) (W.done s _ _ ⟨hsz.symm▸Zl,hl⟩ fun h' tk' hk'=>?_);exact Nl (hR _ o es ep t rfl rfl (fun b o' h1 h2 e=>hk' b o' (DP h2) e) {hm with at_:=hk' S o (DP hSI) hm.at_})
 |succ k ih=>intro i s o es ep t hk hi Zl hl hm hR;have Zk:=TU hk;have ih:=ih (i+1);have hn:=uH i ZT;have e1:=sj Zk;refine Pd TZ ?_;rw[O2 RH _];refine M8 (m:=SF (.ref I)) (W.item i s _ _ (hsz.symm▸Zk) ⟨Zl,hl⟩ fun v h' tk' hP st' hk'=>?_);obtain⟨u,hi',rfl⟩:=HP hS i v ((RI ..).trans hP);refine M8 (m:=To _ (setAdd S (.str ss[i] u))) (OG ?_);refine OG (M8 ((strKind prog w).pyHash (k:=ss[i]) (PD prog w _ u) ?_));refine x2 (s:={s with heap:=h',toks:=tk'+1}) {hm with at_:=hk' S o (DP hSI) hm.at_} hn fun h'' b o' ZN ZP t' sb S'=>?_;refine Nl ⟨QU RH _,ih _ o' ZN ZP t' ((U2 ..).trans (Nw Ww hk)) Zk (st'.1.at fun o e=>(sb.2 I hSI.symm).trans e) (st'.2.at fun o e=>(sb.2 l hSl.symm).trans e) (e1▸S') fun s' o2 ZG ep2 t2 g1 g2 g3 g4=>hR s' o2 ZG ep2 t2 g1 g2 (fun b o h1 h2 e=>g3 b o h1 h2 ((sb.2 b h1).trans (hk' b o (DP h2) e))) g4⟩
end
section
variable{prog:Px}{w:OY}{A:NT}{E:M_->Nc->Prop}{s:Nc}
noncomputable abbrev br(w:OY):Obj:={cls:= .type "set",dict:=none,data:= .set #[] 0 (.fresh 0 0 (!fU w))}
theorem lm(a:M_){Q₁:M_->Nc->Prop}(h:Q₁ (.ref s.heap.objs.size) {s with heap:=s.heap.push (br w)}):
  P5 (Ob prog w) A (.call (.builtin "set.__new__") ⟨[.type "set",a],[]⟩) (wants Q₁ E) s:=by
 apply Tn;show Nt _ A.in1 (do RP "set.__new__" ⟨[.type "set",a],[]⟩;again (.builtin "set.__new__" ⟨[.type "set",a],[]⟩)) _ _ s;refine M8 (Q1 (PySem.F.newCall_set_1 a) (Nl ⟨QU PySem.F.plain_set_new _,Pd PySem.F.entry_set_new ?_⟩));rw[O2 PySem.F.plain_set_new _];unfold Q0.«set.__new__» Builtin.Frozenset.newClass;have hsub:Vr (.type "set") (.type "set")=OJ true:=by rw[Qv];kernel_rfl
 obtain⟨hp,g,d,tk,os⟩:=s;dsimp only;wp_walk;refine RM (Nl ?_);dsimp only;simp only[newObj];refine M8 (wpAny_alloc (Nl ?_));exact Nl h
theorem sk(h:Om):ch prog w (h.push (br w)) h.objs.size [] (br w) #[] 0 (.fresh 0 0 (!fU w)) where
 at_:=NI _ rfl
 ex:=⟨rfl,rfl,rfl⟩
 data:=rfl
 keys:=⟨[],.nil,.refl _⟩
 hs:=fun e he=>by simp at he
 size:=rfl
 small:=by decide
 fits:=by rfl
 led:=by cases fU w<;>simp[SetTable.fresh]
 pl:=fun h=>absurd rfl h
theorem fM{c:Code}{Q E:M_->Nc->Prop}{R:Sf->Nc->Prop}(h:P5 (Ob prog w) A c (wants Q E) s)(h1:∀e s',E e s'->R (.error e) s')(h2:∀v s',Q v s'->R (.ok (.ret v)) s'):P5 (Ob prog w) A c R s:=
 SY h fun r s' h=>match r,h with
 |.error e,h=>h1 e s' h
 |.ok .next,h=>h.elim
 |.ok .brk,h=>h.elim
 |.ok .cont,h=>h.elim
 |.ok (.ret v),h=>h2 v s' h
theorem uJ{l:NC}{P:Nc->Prop}{Q:M_->Nc->Prop}(hi:P5 (Ob prog w) A.in1 (.call (.builtin "set.__init__") ⟨[.ref s.heap.objs.size,.ref l],[]⟩) (wants (fun r Z4=>r= .none/\P Z4) E) {s with heap:=s.heap.push (br w)})
  (hQ:∀s',P s'->Q (.ref s.heap.objs.size) s'):Nt (Ob prog w) A (P6 (.type "set") [.ref l]) Q E s:=by
 obtain⟨c,tl,hmro⟩:=PySem.F.called_set.mro;have hmade:=PySem.F.called_set.made;have hsub:=PySem.F.called_set.sub;have h1:=PySem.F.called_set.notType;have h2:=PySem.F.called_set.canCreate;have hct:=PySem.F.typeCall_set_1 (.ref l);have hli:=PySem.F.called_set.init.lookup;have hbi:=PySem.F.called_set.init.bind (.ref s.heap.objs.size);have hT:Shared.TypeIs {s with heap:=s.heap.push (br w)} (.ref s.heap.objs.size) "set":=⟨_,NI _ rfl,rfl⟩
 refine SE (Tn ?_);show Nt _ _ (callAny (.type "set") _) _ _ _;refine Nl ⟨Sb _ (by decide+kernel),Pd PySem.F.entry_type_call ?_⟩;rw[Around.under_plain (weight_type_call_type "set" [.ref l] []) rfl]
 repeat (any_goals (first|assumption|wp_step))
 refine fM (lm (.ref l) (E:=E) (Q₁:=fun obj s₁=>obj= .ref s.heap.objs.size/\s₁={s with heap:=s.heap.push (br w)}) ⟨rfl,rfl⟩) (fun _ _ h=>h) fun obj s₁ h=>?_;obtain⟨rfl,rfl⟩:=h
 repeat (any_goals (first|assumption|wp_step))
 refine fM hi (fun _ _ h=>h) fun r Z4 h=>?_;obtain⟨rfl,h⟩:=h
 repeat (any_goals (first|assumption|wp_step))
 exact hQ _ h
theorem uK{l:NC}{Z8:Array M_}{ss:List Str}(hh:A.handled=none)(hl:s.heap.IsList l Z8)(hS:Ok Z8.toList ss)(ZT:ss.length<=1000):
  P5 (Ob prog w) A (.call (.builtin "set.__init__") ⟨[.ref s.heap.objs.size,.ref l],[]⟩) (wants (fun r Z4=>r= .none/\Kp s Z4/\∃o es ep t,ch prog w Z4.heap s.heap.objs.size (ss.foldl bC []) o es ep t) E) {s with heap:=s.heap.push (br w)}:=by
 have emp:=sk (prog:=prog) (w:=w) s.heap;have hT:Shared.TypeIs {s with heap:=s.heap.push (br w)} (.ref s.heap.objs.size) "set":=⟨_,emp.at_,rfl⟩
 obtain⟨ol,hol,hcl,nl,hdl⟩:=id hl;have hlS:l<s.heap.objs.size:=Oo hol;obtain⟨ocls,odict,odata,oslots⟩:=ol;simp only at hcl hdl;subst hcl;subst hdl;have hol':(s.heap.push (br w)).get? l=some {cls:= .type "list",dict:=odict,data:= .seq Z8 nl,slots:=oslots}:=Nm _ hol;have hl1:(s.heap.push (br w)).IsList l Z8:=⟨_,hol',rfl,nl,rfl⟩
 have eI:(s.heap.push (br w)).objs.size=s.heap.objs.size+1:=PO ..;have hneI:l≠(s.heap.push (br w)).objs.size:=by rw[eI];exact N4 (PG hlS)
 have hSI:s.heap.objs.size≠(s.heap.push (br w)).objs.size:=by rw[eI];exact N4 (NX _)
 have hsls:=PySem.F.sub_list_set;have hslf:=PySem.F.sub_list_frozenset;have Zj:(S0 "list"==S0 "dict")=false:=by decide
 refine Se PySem.F.called_set.init.plain PySem.F.entry_set_init (check_set_init_1 hT ?_);unfold Q0.«set.__init__» noKeywords Builtin.Frozenset.updateFrom;generalize hPI:Sd=PI;wp_walk;subst hPI;refine U_ hl1 ?_;refine M8 (Tx ?_);refine uI hS ZT (by simpa using hh) hneI hSI (RD hlS) ss.length 0 _ (br w) #[] 0 (.fresh 0 0 (!fU w)) rfl (NP _) ⟨_,NI _ rfl,rfl,rfl⟩ (hl1.push _) ?_ ?_
 .exact{emp with at_:=Nm _ emp.at_}
 intro s' o' ZN ZP t' g1 g2 g3 g4;refine Nl (Nl ⟨rfl,⟨fun b o e=>?_,g1,g2⟩,o',ZN,ZP,t',g4⟩);have hb:=Oo e;exact g3 b o (N4 hb) (by rw[eI];exact N4 (PG hb)) (Nm _ (Nm _ e))
theorem j1{l:NC}{Z8:Array M_}{ss:List Str}{Q:M_->Nc->Prop}(hh:A.handled=none)(hl:s.heap.IsList l Z8)(hS:Ok Z8.toList ss)(ZT:ss.length<=1000)
  (hQ:∀s' o es ep t,Kp s s'->ch prog w s'.heap s.heap.objs.size (ss.foldl bC []) o es ep t->Q (.ref s.heap.objs.size) s'):Nt (Ob prog w) A (P6 (.type "set") [.ref l]) Q E s:=
 uJ (uK (by simpa using hh) hl hS ZT) fun s' h=>by obtain⟨k,o,es,ep,t,hS⟩:=h;exact hQ s' o es ep t k hS
end
theorem fN:Slot "set" "__iter__" "set.__iter__":=
 .of (owner:="set") (n:="__iter__") (by rw[Qj,Pk];kernel_rfl) (by decide+kernel) (by decide+kernel) (by decide+kernel)
  (by first|exact .inl (by decide+kernel)|exact .inr (by decide+kernel)) (by rw[Qv];kernel_rfl)
theorem jm:UG table "set.__iter__"=some Q0.«frozenset.__iter__»:=
 V6 (id':="frozenset.__iter__") (by kernel_rfl) (by first|rfl|decide+kernel) (by decide+kernel) (by kernel_rfl)
theorem j2(a:M_):Ul "set.__iter__" ⟨[a],[]⟩:=by unfold Ul;kernel_rfl
theorem bJ:Slot "set_iterator" "__next__" "set_iterator.__next__":=
 .of (owner:="set_iterator") (n:="__next__") (by rw[Qj,Pk];kernel_rfl) (by decide+kernel) (by decide+kernel) (by decide+kernel)
  (by first|exact .inl (by decide+kernel)|exact .inr (by decide+kernel)) (by rw[Qv];kernel_rfl)
theorem jn:UG table "set_iterator.__next__"=some Q0.«set_iterator.__next__»:=Vs (by kernel_rfl)
theorem j3(a:M_):Ul "set_iterator.__next__" ⟨[a],[]⟩:=by unfold Ul;kernel_rfl
theorem fO:Slot "set_iterator" "__iter__" "set_iterator.__iter__":=
 .of (owner:="set_iterator") (n:="__iter__") (by rw[Qj,Pk];kernel_rfl) (by decide+kernel) (by decide+kernel) (by decide+kernel)
  (by first|exact .inl (by decide+kernel)|exact .inr (by decide+kernel)) (by rw[Qv];kernel_rfl)
theorem jo:UG table "set_iterator.__iter__"=some Q0.«dict_keyiterator.__iter__»:=
 V6 (id':="dict_keyiterator.__iter__") (by kernel_rfl) rfl (by decide+kernel) (by kernel_rfl)
theorem j4(a:M_):Ul "set_iterator.__iter__" ⟨[a],[]⟩:=by unfold Ul;kernel_rfl
section
variable{prog:Px}{w:OY}{A:NT}{E:M_->Nc->Prop}{s:Nc}
theorem jp{α:Type}(l:List α):∀(i:Nat)(h:i<l.length),(l[i]::l.eraseIdx i).Perm l:=by
 induction l with
 |nil=>exact fun _ h=>absurd h (RJ _)
 |cons x l ih=>
  intro i h;cases i with
  |zero=>exact .refl _
  |succ i=>exact(List.Perm.swap x (l[i]'(RE h)) (l.eraseIdx i)).trans ((ih i (RE h)).cons x)
theorem lp{src:Source}{n:Nat}{Q:Nat->Nc->Prop}(hn:n≠0)(h:∀r d',r<n->Q r {s with drawn:=d'}):Nt (Ob prog w) A (choose src n) Q E s:=
 fun Γ p hΓ=>⟨hn,h _ _ (Sg _ (Nat.pos_of_ne_zero hn))⟩
theorem iA{α:Type}(n:Nat):∀(xs:List α)(s:Nc){Q:List α->Nc->Prop},n=xs.length->(∀d' ys,ys.Perm xs->Q ys {s with drawn:=d'})->Nt (Ob prog w) A (drawOrder n xs) Q E s:=by
 induction n with
 |zero=>intro xs s Q hn h;cases List.length_eq_zero_iff.mp hn.symm;exact Nl (h s.drawn [] (.refl _))
 |succ n ih=>
  intro xs s Q hn h;cases xs with
  |nil=>exact absurd hn (SG _)
  |cons x xs=>refine M8 (m:=choose .order (x::xs).length) (lp (SG _) fun i d' hi=>?_);rw[NA hi];refine M8 (ih ((x::xs).eraseIdx i) _ ?_ fun d'' ys hp=>Nl (h d'' _ ((hp.cons _).trans (jp _ _ hi))));rw[S8 hi,←hn];rfl
theorem Bs{α:Type}(next:Nat->Nat)(n:Nat):∀(k:Nat)(left:List α)(out:Array α),n=left.length->(pickOrder.go next n k left out).toList.Perm (out.toList++left):=by
 induction n with
 |zero=>intro k left out h;cases List.length_eq_zero_iff.mp h.symm;exact .of_eq (NB _).symm
 |succ n ih=>intro k left out h;have hi:next k % left.length<left.length:=Sg _ (h▸Oh n);show(match left[next k % left.length]? with|some x=>pickOrder.go next n (k+1) (left.eraseIdx (next k % left.length)) (out.push x)|none=>out).toList.Perm _;rw[NA hi];refine(ih (k+1) _ _ (by rw[S8 hi,←h];rfl)).trans ?_;rw[Uh,Nk];exact(jp _ _ hi).append_left _
theorem jq{α:Type}(next:Nat->Nat)(xs:Array α):(Ub next xs).toList.Perm xs.toList:=Bs next xs.size 0 xs.toList #[] rfl
noncomputable abbrev jr(f:M_)(i:Nat)(a:NC)(n ep:Nat):Obj:={cls:= .type "set_iterator",data:= .fields #[f,.int i 0,.ref a,.int n 0,.int ep 0]}
theorem mX{I:NC}{f:M_}{i:Nat}{a:NC}{n ep:Nat}{Q:M_->Nc->Prop}(hI:s.heap.get? I=some (jr f i a n ep))(h:Q (.ref I) s):Nt (Ob prog w) A (Sd (.ref I)) Q E s:=by
 have hT:s.TypeIs (.ref I) "set_iterator":=⟨_,hI,rfl⟩
 refine U9 hT fO (QI fO hT jo ?_ (j4 _));show Nt _ _ (ret (.ref I)) _ _ s;exact Nl ⟨_,rfl,"set_iterator",_,hT,bJ.lookup,h⟩
theorem gp{I:NC}{f:M_}{i:Nat}{a:NC}{ks:List Str}{o:Obj}{es:Array (Int×M_)}{ep:Nat}{t:OI}{Q:Option M_->Nc->Prop}(S:ch prog w s.heap a ks o es ep t)(hI:s.heap.get? I=some (jr f i a es.size ep))
  (h:Nt (Ob prog w) A.in1 (if let .int slot _:=f then do
    match ←Si a slot.toNat (i:Int).toNat (ep:Int).toNat with
    |some (x,next)=>
     RN (.ref I) 0 (Pt next)
     RN (.ref I) 1 (Pt ((i:Int)+1))
     ret x
    |none=>RN (.ref I) 2 .none;UD (←V2 (.type "StopIteration") [])
   else do
    let some places ←Ua f|unsupported "internal:set_iterator"
    match places[(i:Int).toNat]? with
    |some (.int place _)=>
     let x ←Wn a place.toNat (ep:Int).toNat
     RN (.ref I) 1 (Pt ((i:Int)+1))
     ret x
    |some _=>unsupported "internal:set_iterator"
    |none=>RN (.ref I) 0 (Pt 0);RN (.ref I) 2 .none;UD (←V2 (.type "StopIteration") []))
   (fun fin s'=>∃v,fin= .done (.ret v)/\Q (some v) s')
   (fun e s'=>∃o',e= .ref o'/\s'.TypeIs (.ref o') "StopIteration"/\Q none s') s):Nt (Ob prog w) A (SF (.ref I)) Q E s:=by
 have hT:s.TypeIs (.ref I) "set_iterator":=⟨_,hI,rfl⟩
 unfold SF;refine M8 (wpAny_attempt (T_ (name:=NH "__next__") hT bJ
  (QI bJ hT jn ?_ (j3 _))))
 unfold Q0.«set_iterator.__next__»;refine M8 (Nl ?_);refine M8 (wpAny_fieldsOf hI rfl ?_);refine M8 (UN S.at_ S.data S.fits ?_);rw[Na (by simp)];exact Nq h (fun fin s' ⟨v,e,z⟩=>⟨v,e,Nl z⟩) (fun e s' ⟨o',e1,hT,z⟩=>by subst e1;exact M8 (S_ hT isSubtype_stop (Nl z)))
theorem mY{Q:PySem.Fin->Nc->Prop}{P:Nc->Prop}(hh:A.handled=none)(h:∀h' tk,(∀b o,s.heap.get? b=some o->h'.get? b=some o)->P {s with heap:=h',toks:=tk}):
  Nt (Ob prog w) A (do UD (←V2 (.type "StopIteration") []):Sem PySem.Fin) Q (fun e s'=>∃o',e= .ref o'/\s'.TypeIs (.ref o') "StopIteration"/\P s') s:=by
 apply M8;simp only[V2,newTuple];refine M8 (Po ?_ (by size_fits));refine M8 (m:=V5 _ _) (Q1 (a:=Ot) (by first|rfl|(simp only[V5];rfl)) ?_);refine Po ?_ (by size_fits);simp only[UD];refine M8 (wpAny_handled ?_);rw[hh];refine M8 (Nl (wpAny_throw ?_));exact⟨_,rfl,⟨_,NI _ rfl,rfl⟩,h _ s.toks fun b o e=>Nm _ (Nm _ e)⟩
theorem db{I:NC}{o':Obj}{vs:Array M_}{j:Nat}{v:M_}{Q:Unit->Nc->Prop}(hI:s.heap.get? I=some {cls:= .type "set_iterator",data:= .fields vs})(hj:j<vs.size)
  (h:∀h',h'.get? I=some {cls:= .type "set_iterator",data:= .fields (vs.setIfInBounds j v)}->(∀b o,b≠I->s.heap.get? b=some o->h'.get? b=some o)->Q () {s with heap:=h'}):Nt (Ob prog w) A (RN (.ref I) j v) Q E s:=by
 refine Qt hI rfl hj (h _ ?_ fun b o hb e=>?_)
 .exact N0 _ hI rfl
 .rw[N3 _ _ (NZ hb)];exact e
theorem uL{I a:NC}(Zj:a≠I){ks:List Str}{o:Obj}{es:Array (Int×M_)}{ep:Nat}{t:OI}(hh:A.handled=none)(S:ch prog w s.heap a ks o es ep t)(xs:List M_)(hx:xs.length=es.size)(sl:Nat->Nat)
  (hN:∀(B:NT)(s:Nc)(E:M_->Nc->Prop)(Q:Option (M_×Nat)->Nc->Prop)(i:Nat),i<=xs.length->s.heap.get? a=some o->Q ((xs[i]?).map fun x=>(x,sl (i+1))) s->Nt (Ob prog w) B (Si a (sl i) i ep) Q E s):
  Wa prog w A I [I,a] [I] xs.length (fun i v=>xs[i]? =some v) (fun i h=>h.get? I=some (jr (.int (sl i) 0) i a es.size ep)/\h.get? a=some o) where
 sub:=fun b hb=>by simp at hb;simp[hb]
 frame:=fun _ _ _ st hk=>⟨hk I (by simp) _ st.1,hk a (by simp) _ st.2⟩
 item:=fun i s Q E hi st hQ=>by refine gp {S with at_:=st.2} st.1 ?_;show Nt _ _ (Si a (sl i) i ep>>=_) _ _ _;refine M8 (hN _ s _ _ i (NW hi) st.2 ?_);rw[NA hi];dsimp only[Rp];refine M8 (db (o':=o) st.1 (by simp) fun Zy g1 g2=>?_);refine M8 (db (o':=o) g1 (by simp) fun ZB g3 g4=>?_);refine Nl ⟨_,rfl,hQ _ ZB s.toks (NA hi) ⟨?_,g4 _ _ Zj (g2 _ _ Zj st.2)⟩ fun b ob hb e=>g4 b ob (by simpa using hb) (g2 b ob (by simpa using hb) e)⟩;rw[g3];simp[Pt,jr]
 done:=fun s Q E st hQ=>by refine gp {S with at_:=st.2} st.1 ?_;show Nt _ _ (Si a (sl xs.length) xs.length ep>>=_) _ _ _;refine M8 (hN _ s _ _ xs.length (Nj _) st.2 ?_);rw[RK (Nj _)];dsimp only[Rp];refine M8 (db (o':=o) st.1 (by simp) fun Zy g1 g2=>?_);exact mY (by simpa using hh) fun h' tk hk=>hQ h' tk fun b ob hb e=>hk b ob (g2 b ob (by simpa using hb) e)
 self:=fun _ _ _ _ st hQ=>mX st.1 hQ
theorem cS{Q:Bool->Nc->Prop}(h:Q (fU w) s):Nt (Ob prog w) A setsByText Q E s:=by unfold setsByText;exact M8 (RM (Nl h))
theorem sq{I a T:NC}(Zj:a≠I)(hTI:T≠I){ks:List Str}{o oT:Obj}{es:Array (Int×M_)}{ep nT:Nat}{t:OI}(hh:A.handled=none)(S:ch prog w s.heap a ks o es ep t){ps:List Nat}(hp:∀p∈ps,p<es.size)(hpl:ps.length=es.size)
  (hoT:oT.data= .seq (ps.map fun(i:Nat)=>Pt i).toArray nT):
  Wa prog w A I [I,a,T] [I] ps.length (fun i v=>∃p e,ps[i]? =some p/\es[p]? =some e/\v=e.2) (fun i h=>h.get? I=some (jr (.ref T) i a es.size ep)/\h.get? a=some o/\h.get? T=some oT) where
 sub:=fun b hb=>by simp at hb;simp[hb]
 frame:=fun _ _ _ st hk=>⟨hk I (by simp) _ st.1,hk a (by simp) _ st.2.1,hk T (by simp) _ st.2.2⟩
 item:=fun i s Q E hi st hQ=>by
  have S':ch prog w s.heap a ks o es ep t:={S with at_:=st.2.1}
  refine gp S' st.1 ?_;show Nt _ _ (Ua (.ref T)>>=_) _ _ _;refine M8 (Tw st.2.2 hoT ?_);have hpi:ps[i]? =some ps[i]:=NA hi;have Zk:=hp ps[i] (OO hi);have e1:(ps.map fun(i:Nat)=>Pt i).toArray[(i:Int).toNat]? =some (.int (ps[i]:Nat) 0):=by simp[hi,Pt]
  dsimp only;rw[e1];have e2:es[ps[i]]? =some es[ps[i]]:=by simp[Zk]
  apply M8;unfold Wn;refine M8 (PQ S'.at_ S'.data S'.fits ?_);dsimp only;rw[Na (by simp)];simp only[Int.toNat_natCast];rw[e2];refine Nl (M8 (db (o':=o) st.1 (by simp) fun Zy g1 g2=>?_));refine Nl ⟨_,rfl,hQ _ Zy s.toks ⟨_,_,hpi,e2,rfl⟩ ⟨?_,g2 _ _ Zj st.2.1,g2 _ _ hTI st.2.2⟩ fun b ob hb e=>g2 b ob (by simpa using hb) e⟩;rw[g1];simp[Pt,jr]
 done:=fun s Q E st hQ=>by
  refine gp {S with at_:=st.2.1} st.1 ?_;show Nt _ _ (Ua (.ref T)>>=_) _ _ _;refine M8 (Tw st.2.2 hoT ?_);have e1:(ps.map fun(i:Nat)=>Pt i).toArray[((ps.length:Nat):Int).toNat]? =none:=by simp
  dsimp only;rw[e1];refine M8 (db (o':=o) st.1 (by simp) fun Zy g1 g2=>?_);refine M8 (db (o':=o) g1 (by simp) fun ZB g3 g4=>?_);exact mY (by simpa using hh) fun h' tk hk=>hQ h' tk fun b ob hb e=>hk b ob (g4 b ob (by simpa using hb) (g2 b ob (by simpa using hb) e))
 self:=fun _ _ _ _ st hQ=>mX st.1 hQ
theorem uM{acc:Array M_}{xs:List M_}(h:Wx (fun i v=>xs[i]? =some v) acc xs.length):acc.toList=xs:=by
 refine List.ext_getElem? fun i=>?_;by_cases hi:i<xs.length
 .have h1:i<acc.size:=by rw[h.1];exact hi
  have e1:acc[i]? =some acc[i]:=by simp[h1]
  have:=h.2 i acc[i] e1;rw[this];simp[h1]
 .rw[RK (Nat.not_lt.mp hi),RK (by have:=h.1;simp;lia)]
theorem fV{n:Nat}(h:n<QJ):n<=P2:=M7 (NW h) (M7 (by decide:QJ<=16777216) aA)
theorem js{a:NC}{ks:List Str}{o:Obj}{es:Array (Int×M_)}{ep:Nat}{t:OI}(hh:A.handled=none)(S:ch prog w s.heap a ks o es ep t)(xs:List M_)(sl:Nat->Nat)(h0:sl 0=0)(hl:xs.length=es.size)(hx:xs.Perm (es.toList.map (·.2)))
  (hN:∀(B:NT)(s:Nc)(E:M_->Nc->Prop)(Q:Option (M_×Nat)->Nc->Prop)(i:Nat),i<=xs.length->s.heap.get? a=some o->Q ((xs[i]?).map fun x=>(x,sl (i+1))) s->Nt (Ob prog w) B (Si a (sl i) i ep) Q E s):
  mS prog w A a (fun keys=>∃ZR,Ok keys ZR/\ZR.Perm ks) s (.ref s.heap.objs.size) {s with heap:=s.heap.push (jr (.int 0 0) 0 a es.size ep)}:=by
 have ha:=Oo S.at_;have hf:=fresh s.heap;obtain⟨ZQ,hS,hp⟩:=S.keys;obtain⟨k2,h1,h2⟩:=d9 hS hx;refine⟨⟨s.heap.objs.size,_,_,xs.length,_,_,rfl,(uL (N4 ha) hh S xs hl sl hN).toS,hl▸fV S.small,⟨?_,Nm _ S.at_⟩,fun b hb=>?_,fun b hb=>?_,fun acc ZC=>?_⟩,⟨fun b o e=>Nm _ e,rfl,rfl⟩⟩
 .rw[h0];exact NI _ rfl
 .exact(List.mem_cons.mp hb).elim (fun e=> .inr (e▸hf)) fun hb=> .inl (List.mem_singleton.mp hb)
 .exact List.mem_singleton.mp hb▸hf
 .rw[uM ZC];exact⟨k2,h1,h2.trans hp⟩
theorem sv{a:NC}{ks:List Str}{o:Obj}{es:Array (Int×M_)}{ep:Nat}{t:OI}(hh:A.handled=none)(S:ch prog w s.heap a ks o es ep t)(hb:fU w=true):
  mS prog w A a (fun keys=>∃ZR,Ok keys ZR/\ZR.Perm ks) s (.ref s.heap.objs.size) {s with heap:=s.heap.push (jr (.int 0 0) 0 a es.size ep)}:=by
 have pp:=jq (w.params.setOrder a ep) es;refine js hh S ((Ub (w.params.setOrder a ep) es).toList.map (·.2)) (fun _=>0) rfl ((Nb ..).trans pp.length_eq) (pp.map _) fun B s' E' Q' i hi Zo hq=>?_;have e:Rp (fun x=>(x,0)) ((Ub (w.params.setOrder a ep) es).toList.map (·.2))[i]? =(Ub (w.params.setOrder a ep) es)[i]?.map fun e=>(e.2,0):=by rw[Oy,RI,Option.map_map];rfl
 rw[e]at hq;unfold Si;refine M8 (PQ Zo S.data S.fits ?_);dsimp only;refine M8 (cS ?_);rw[hb,Nd rfl,Na (by simp)];apply M8;unfold setWalk;refine M8 (PQ Zo S.data S.fits ?_);dsimp only;refine M8 (cS ?_);rw[hb,Nd rfl];exact M8 (RM (Nl (Nl hq)))
theorem Bt{B:NT}{Q':Option (M_×Nat)->Nc->Prop}{a:NC}{ks:List Str}{o:Obj}{es:Array (Int×M_)}{ep:Nat}{t:OI}{h:Om}(S:ch prog w h a ks o es ep t)(hb:fU w=false)(hd:(!t.plain&&decide (es.size>1))=false)(sl i:Nat)(Zo:s.heap.get? a=some o)
  (hq:Q' (match es[P9 t.place sl]?,t.place[P9 t.place sl]? with|some (_,x),some j=>some (x,j+1)|_,_=>none) s):Nt (Ob prog w) B (Si a sl i ep) Q' E s:=by
 have Zu:t.led=true:=S.led.resolve_left fun h=>aK (hb.symm.trans h);unfold Si;refine M8 (PQ Zo S.data S.fits ?_);dsimp only;refine M8 (cS ?_);rw[hb,Na (by decide)];show Nt _ _ (if(!t.plain&&decide (es.size>1))=true then _ else _) _ _ _;rw[hd,Na (by decide)];show Nt _ _ ((if(!t.led&& !es.isEmpty)=true then _ else OJ ())>>=_) _ _ _;rw[Zu];exact M8 (Nl (Nl hq))
theorem uO{a:NC}{ks:List Str}{o:Obj}{es:Array (Int×M_)}{ep:Nat}{t:OI}(hh:A.handled=none)(S:ch prog w s.heap a ks o es ep t)(hb:fU w=false)(hd:(!t.plain&&decide (es.size>1))=false):
  mS prog w A a (fun keys=>∃ZR,Ok keys ZR/\ZR.Perm ks) s (.ref s.heap.objs.size) {s with heap:=s.heap.push (jr (.int 0 0) 0 a es.size ep)}:=by
 have hfit:t.place.size=es.size:=N9 (cF S.fits).1;have hs1:es.size<=1:=by refine Decidable.byContradiction fun h=>aK (hd.symm.trans (Ax ?_ (NN (Rw h))));rw[S.pl fun q=>h (by rw[S.size,q];exact NP 1)];rfl
 have nx:=fun(B:NT) (s':Nc) (E':M_->Nc->Prop) (Q':Option (M_×Nat)->Nc->Prop) (sl i:Nat)=>Bt (prog:=prog) (E:=E') (s:=s') (B:=B) (Q':=Q') S hb hd sl i;rcases Uo hs1 with h1|h0
 .obtain⟨e,he⟩:∃e,es=#[e]:=Array.size_eq_one_iff.mp h1;obtain⟨j,hj⟩:∃j,t.place=#[j]:=Array.size_eq_one_iff.mp (hfit.trans h1);refine js hh S [e.2] (fun i=>if i=0 then 0 else j+1) rfl h1.symm (he▸.refl _) fun B s' E' Q' i hi Zo hq=>nx B s' E' Q' _ i Zo ?_;rw[he,hj];rcases Uo hi with h|h
  .subst h;have b1:P9 #[j] (j+1)=1:=by simp[P9,SetTable.below.go]
   rw[Na (show ¬[e.2].length=0 from SG 0),b1];exact hq
  .cases Nat.lt_one_iff.mp h;have b0:P9 #[j] 0=0:=by simp[P9,SetTable.below.go]
   rw[Nd rfl,b0];exact hq
 .have h0:=Nat.lt_one_iff.mp h0;have he:es=#[]:=Array.size_eq_zero_iff.mp h0;have hj:t.place=#[]:=Array.size_eq_zero_iff.mp (hfit.trans h0);refine js hh S [] (fun _=>0) rfl h0.symm (he▸.refl _) fun B s' E' Q' i hi Zo hq=>nx B s' E' Q' _ i Zo ?_;rw[he];cases Nat.le_zero.mp hi;exact hq
noncomputable abbrev sx(ps:List Nat):Obj:={cls:= .type "tuple",data:= .seq (ps.map fun(i:Nat)=>Pt i).toArray}
theorem uP{es:Array (Int×M_)}(vs:List M_):∀ps:List Nat,vs.length=ps.length->(∀(j:Nat)(v:M_),vs[j]? =some v->∃p e,ps[j]? =some p/\es[p]? =some e/\v=e.2)->vs=ps.filterMap fun p=>es[p]?.map (·.2):=by
 induction vs with
 |nil=>intro ps hl _;cases ps<;>first|rfl|cases hl
 |cons v vs ih=>
  intro ps hl h;cases ps with
  |nil=>cases hl
  |cons p ps=>obtain⟨p',e,h1,h2,h3⟩:=h 0 v rfl;cases h1;rw[Pb,h2,h3];exact Nw _ (ih ps (Pp hl) fun j v hj=>h (j+1) v hj)
theorem sy{a:NC}{ks:List Str}{o:Obj}{es:Array (Int×M_)}{ep:Nat}{t:OI}(hh:A.handled=none)(S:ch prog w s.heap a ks o es ep t)(d':Vk){ps:List Nat}(Zn:ps.Perm (OM es.size)):
  mS prog w A a (fun keys=>∃ZR,Ok keys ZR/\ZR.Perm ks) s (.ref (s.heap.push (sx ps)).objs.size) {s with drawn:=d',heap:=(s.heap.push (sx ps)).push (jr (.ref s.heap.objs.size) 0 a es.size ep)}:=by
 have ha:=Oo S.at_;have hf:=fresh s.heap;have hpl:ps.length=es.size:=Zn.length_eq.trans Ql;have Zk:∀p∈ps,p<es.size:=fun p hp=>List.mem_range.mp (Zn.mem_iff.mp hp);have a2:(s.heap.push (sx ps)).get? a=some o:=Nm _ S.at_;have eI:(s.heap.push (sx ps)).objs.size=s.heap.objs.size+1:=PO ..;have n1:s.heap.get? (s.heap.push (sx ps)).objs.size=none:=eI▸R1 (Oi _);obtain⟨ZQ,hS,hp⟩:=S.keys;have e2:(OM es.size).filterMap (fun p=>es[p]?.map (·.2))=es.toList.map (·.2):=by rw[←filterMap_getElem?_range es,List.map_filterMap]
 have hx:=Zn.filterMap fun p:Nat=>es[p]?.map fun e:Int×M_=>e.2;rw[e2]at hx;obtain⟨k2,h1,h2⟩:=d9 hS hx;refine⟨⟨_,_,_,ps.length,_,_,rfl,(sq (I:=(s.heap.push (sx ps)).objs.size) (T:=s.heap.objs.size) (eI▸N4 (PG ha)) (eI▸N4 (NX _)) hh S Zk hpl rfl).toS,hpl▸fV S.small,⟨NI _ rfl,Nm _ a2,Nm _ (NI _ rfl)⟩,fun b hb=>?_,fun b hb=>?_,fun acc ZC=>?_⟩,⟨fun b o e=>Nm _ (Nm _ e),rfl,rfl⟩⟩
 .exact(List.mem_cons.mp hb).elim (fun e=> .inr (e▸n1)) fun hb=>(List.mem_cons.mp hb).elim .inl fun hb=> .inr (List.mem_singleton.mp hb▸hf)
 .exact List.mem_singleton.mp hb▸n1
 .rw[uP acc.toList ps ZC.1 fun j v hj=>ZC.2 j v ((RI ..).symm.trans hj)];exact⟨k2,h1,h2.trans hp⟩
theorem uQ{a:NC}{ks:List Str}{o:Obj}{es:Array (Int×M_)}{ep:Nat}{t:OI}(hh:A.handled=none)(S:ch prog w s.heap a ks o es ep t){Q:M_->Nc->Prop}
  (hQ:∀v Z4,mS prog w A a (fun keys=>∃ZR,Ok keys ZR/\ZR.Perm ks) s v Z4->Q v Z4):Nt (Ob prog w) A (Sd (.ref a)) Q E s:=by
 have hT:s.TypeIs (.ref a) "set":=⟨_,S.at_,S.ex.1⟩
 have hz:=fV S.small;have hA:=fun hb=>hQ _ _ (sv hh S hb);have hB:=fun hb hd=>hQ _ _ (uO hh S hb hd);have hC:=fun d' ps Zn=>hQ _ _ (sy hh S d' (ps:=ps) Zn);clear hQ;refine U9 hT fN (QI fN hT jm ?_ (j2 _));unfold Q0.«frozenset.__iter__»;refine M8 (Nl ?_);refine M8 (M8 (UN S.at_ S.data S.fits (Nl ?_)));unfold setDrawn;refine M8 (M8 (PQ S.at_ S.data S.fits ?_));dsimp only;refine M8 (cS ?_);have made:Q (.ref s.heap.objs.size) {s with heap:=s.heap.push (jr (.int 0 0) 0 a es.size ep)}->Nt (Ob prog w) A.in1 (do
     let first ←OJ (Pt 0)
     let __do_lift ←setEpoch a
     let __do_lift ←newFields "set_iterator" [first,Pt 0,OF a,Pt es.size,Pt __do_lift]
     ret __do_lift) (fun fin s'=>∃v,fin= .done (.ret v)/\∃T r,s'.TypeIs v T/\Rn (.type T) (NH "__next__")=OJ (some r)/\Q v s') E s:=fun hq=>
  M8 (Nl (M8 (U8 S.at_ S.data S.fits (M8 (Po (Nl ⟨_,rfl,"set_iterator",_,⟨_,NI _ rfl,rfl⟩,bJ.lookup,hq⟩))))))
 cases hb:fU w with
 |true=>exact Nl (made (hA hb))
 |false=>apply Nl;refine dt (p:=fun p=>Nt _ _ p _ _ _) (fun hd=>?_) fun hd=>made (hB hb (UP hd));refine M8 (iA es.size (OM es.size) s List.length_range.symm fun d' ps Zn=>?_);refine M8 (wpAny_newTuple ?_ (by rw[Nb,Zn.length_eq,Ql];exact hz));refine M8 (U8 (Nm _ S.at_) S.data S.fits ?_);exact M8 (Po (Nl ⟨_,rfl,"set_iterator",_,⟨_,NI _ rfl,rfl⟩,bJ.lookup,hC d' ps Zn⟩))
end
set_option backward.match.sparseCases false
set_option tactic.hygienic false
theorem lq:cy (v::vs)=some b->∃i a,v= .int i/\cy vs=some a/\b=i::a:=
 PV.casesOn (motive_1:=fun v=>cy (v::vs)=some b->∃i a,v= .int i/\cy vs=some a/\b=i::a) v aj (fun _=>aj) (fun i h=>by refine cq h fun a c d=>?_;subst d;exact⟨i,a,rfl,c,rfl⟩) (fun _=>aj) (fun _=>aj) (fun _=>aj) (fun _ _=>aj) (fun _=>aj) fun _ _=>aj
theorem j5{P:Np}{fz:Fz}:∀{ws:List M_}{a:List Int},aL P fz vs ws->cy vs=some a->∃xs:List (Int×Tok),ws=xs.map (fun p=>Value.int p.1 p.2)/\xs.map (·.1)=a:=by
 induction vs with
 |nil=>intro ws a h e;exact⟨[],h.inv,Nh e⟩
 |cons v vs b=>intro ws a h e;obtain⟨y,ys,rfl,r,t⟩:=h.inv;obtain⟨i,d,rfl,c,rfl⟩:=lq e;obtain⟨k,rfl⟩:=r.inv;obtain⟨xs,rfl,rfl⟩:=b t c;exact⟨(i,k)::xs,rfl,rfl⟩
theorem gq:bo (v::vs)=some b->∃i a,v= .str i/\bo vs=some a/\b=i::a:=
 PV.casesOn (motive_1:=fun v=>bo (v::vs)=some b->∃i a,v= .str i/\bo vs=some a/\b=i::a) v aj (fun _=>aj) (fun _=>aj) (fun i h=>by refine cq h fun a c d=>?_;subst d;exact⟨i,a,rfl,c,rfl⟩) (fun _=>aj) (fun _=>aj) (fun _ _=>aj) (fun _=>aj) fun _ _=>aj
theorem eR{P:Np}{fz:Fz}:∀{ws:List M_}{a:List (List Nat)},aL P fz vs ws->bo vs=some a->Ok ws (a.map aq)/\∀x∈a,e' x:=by
 induction vs with
 |nil=>intro ws a h e;cases h.inv;injection e with z0;subst z0;exact⟨.nil,fun _ h=>absurd h Nx⟩
 |cons v vs b=>intro ws a h e;apply bc;intro c;obtain⟨y,ys,rfl,r,t⟩:=h.inv;obtain⟨i,j,rfl,d,rfl⟩:=gq e;obtain⟨k,rfl,hs⟩:=r.inv;obtain⟨f,g⟩:=b t d;apply c;exact⟨.cons _ k f,List.forall_mem_cons.mpr ⟨hs,g⟩⟩
noncomputable def EN(ws:List M_)(ys:List Str):Prop:=match ys with
 |[]=>ws=[]
 |y::ys=>∃t w,ws= .str y t::w/\Ok w ys
theorem fi(h:Ok ws ys):EN ws ys:=by
 cases h with
 |nil=>exact rfl
 |cons y t h=>exact⟨t,_,rfl,h⟩
theorem mZ{P:Np}{fz:Fz}{a:List (List Nat)}:∀{ws:List M_},Ok ws (a.map aq)->(∀x∈a,e' x)->aL P fz (a.map .str) ws:=by
 induction a with
 |nil=>intro ws h _;obtain rfl:=fi h;exact .nil
 |cons x r b=>intro ws h k;obtain⟨t,w,rfl,c⟩:=fi h;exact .cons (.str x t (k x Ng)) (b c fun y d=>k y (Ni _ d))
theorem ku:∀(a:List Str)(c:List (List Nat)),a.Perm (c.map aq)->∃b:List (List Nat),a=b.map aq/\b.Perm c:=by
 intro a c h;refine⟨a.map (fun x=>x.cps.toList),?_,?_⟩
 .rw[Ox];have:(aq∘fun x:Str=>x.cps.toList)=id:=by funext x;simp[aq]
  rw[this,RU]
 .have:=h.map (fun x:Str=>x.cps.toList);rw[Ox]at this;have e:((fun x:Str=>x.cps.toList)∘aq)=id:=by funext x;simp[aq]
  rw[e,RU]at this;exact this
theorem m5{a b c:List Nat}(h:¬b<a)(d:¬c<b):¬c<a:=
 List.not_lt.mpr (List.le_trans (List.not_lt.mp h) (List.not_lt.mp d))
theorem gr:∀(is:List (List Nat)),sortedS (is.map aq)=true->is.Pairwise (fun a b=>¬b<a):=by
 have rise:∀(r:List (List Nat))(p:List Nat),Wp (aq p) (r.map aq)=true->(p::r).Pairwise (fun a b=>¬b<a):=by
  intro r;induction r with
  |nil=>intro p _;simp
  |cons x r ih=>
   intro p h;have h:(!Spec.ltCps x p&&Wp (aq x) (r.map aq))=true:=by simpa [Wp,aq]using h
   rw[N1]at h;have h2:=ih x h.2;have h1:¬x<p:=by
    have:=h.1;rw[ltCps_eq]at this
    simpa using this
   refine List.pairwise_cons.mpr ⟨fun y hy=>?_,h2⟩;rcases List.mem_cons.mp hy with rfl|hy
   .exact h1
   .exact m5 h1 (List.rel_of_pairwise_cons h2 hy)
 intro is h;cases is with
 |nil=>exact .nil
 |cons x r=>exact rise r x h
section
variable{C:Cx}{A:NT}{FR:List NC}{σ:aa}{fz:Fz}{s:Nc}{E:M_->Nc->Prop}
theorem uR{P:Np}{fz:Fz}(h:aL P fz [p] ws):∃v,ws=[v]/\VR P fz p v:=by obtain⟨v,_,rfl,r,t⟩:=h.inv;cases t.inv;exact⟨v,rfl,r⟩
theorem x3{P:Np}{fz:Fz}(h:aL P fz [p,q] ws):∃v w,ws=[v,w]/\VR P fz p v/\VR P fz q w:=by obtain⟨v,_,rfl,r,t⟩:=h.inv;obtain⟨w,rfl,r'⟩:=uR t;exact⟨v,w,rfl,r,r'⟩
theorem Bu{Q:QV}{h':Om}(G:aw C σ fz FR s.heap)(a:∀b o,s.heap.get? b=some o->h'.get? b=some o)(r:VR C.P fz p v)(q:Q p σ):eM C FR σ fz s Q v {s with heap:=h',toks:=k}:=
 ⟨p,σ,fz,.keep G a,r,q⟩
theorem jt{n k:Nat}(h:n=k)(a:k<=1048576):(n:Int)<2^63:=by lia
theorem qx(h:n=k)(a:k<=1048576):n<=P2:=by have:=aA;exact M7 (NJ h) (M7 a (by decide))
theorem x4(G:aw C σ fz FR s.heap){v:PV}{x:M_}(i:VR C.P fz v x){k:Nat}(h:gU v σ=some k){Q:QV}(l:Q (.int k) σ):Nt C.M A (P6 (eQ .len) [x]) (eM C FR σ fz s Q) E s:=by
 have tk:∀{t m n:Nat},n=k->eM C FR σ fz s Q (.int n t) {s with toks:=m}:=fun e=>e▸aW G (.int ..) l;unfold gU at h;cases hs:mC (v.seen σ)with
 |some t=>
  rw[hs]at h;injection h with z0;subst z0
  rcases kX hs with hs|hs
  .apply bc;intro b;obtain⟨a,ws,rfl,c,d,f⟩:=bO G i hs;apply b;exact VI c (jt d.size f) (tk d.size)
  .apply bc;intro b;obtain⟨a,ws,rfl,c,d,f⟩:=bO G i hs;apply b;exact VH c (jt d.size f) (tk d.size)
 |none=>
  rw[hs]at h;cases c:dq v with
  |some t=>
   rw[c]at h;injection h with z0;subst z0
   apply bc;intro b;refine rV c i fun u o r=>?_;subst o;apply b;exact P.len_str (Int.not_le.mpr (jt (eK t) r.1)) (tk (eK t))
  |none=>rw[c]at h;apply bc;intro b;refine cq h fun p y z=>?_;obtain⟨rfl,g⟩:=f8 y;cases i.inv;obtain⟨r',D,j,f,_⟩:=dZ G g;apply b;exact call_len_dict (knd:=strKind pw C.w) (iK C G fun q=>aj (q.symm.trans g)) D (jt j.len f) (tk (j.len.trans z))
theorem sA(G:aw C σ fz FR s.heap){a:NC}{ws:List M_}(ht:s.heap.IsList a ws.toArray){ss:List (List Nat)}(st:Ok ws (ss.map aq))(so:∀x∈ss,e' x){Q:QV}(h:mE ss σ Q):
  Nt C.M A (P6 (eQ .sorted) [.ref a]) (eM C FR σ fz s Q) E s:=by
 have hsl:ss.length=ws.length:=by
  have:∀{ws:List M_}{ys:List Str},Ok ws ys->ys.length=ws.length:=by
   intro ws ys h;induction h with
   |nil=>rfl
   |cons _ _ _ ih=>simp[ih]
  simpa using this st
 refine sorted_strs ht st (by have:=h.1;exact hsl▸this) fun out ZR h1 h2 h3=>?_;apply bc;intro qK;obtain⟨Zi,rfl,hp⟩:=ku ZR ss h2;obtain⟨ee,he⟩:=sortedAll_at s.heap ws out;apply qK;have so':∀x∈Zi,e' x:=fun x hx=>so x (hp.mem_iff.mp hx);have vr:=mZ (P:=C.P) (fz:=fz) h1 so';have g:GS C FR σ fz s σ (fz.ext (s.heap.objs.size+1) (bH "list" out.toList.toArray ee)) {s with heap:=sortedAll s.heap ws out}:=
  .fzNew G (by
   cases q:s.heap.get? (s.heap.objs.size+1)with
   |none=>rfl
   |some o=>exact absurd (Oo q) (Nat.not_lt.mpr (Oi _))) (fun b o=>sortedAll_old) (by simpa using he)
 refine⟨_,σ,_,g,.lst (Nd rfl) ?_ (vr.mono g.1.fzk),h.2 Zi hp (gr Zi h3)⟩;have:=hp.length_eq;have h64:=h.1;unfold fa;rw[Nb];exact M7 (NJ this) (M7 (NW h64) (by decide))
theorem kx(G:aw C σ fz FR s.heap)(hh:A.handled=none){a:NC}{ss:List (List Nat)}(so:∀x∈ss,e' x){Q:QV}(h:mE ss σ Q)
  (hcol:∀(B:NT)(E':M_->Nc->Prop)(Q':List M_->Nc->Prop),B.handled=none->(∀s' keys,Kp s s'->(∃ZR,Ok keys ZR/\ZR.Perm (ss.map aq))->Q' keys s')->Nt C.M B (Vg (.ref a)) Q' E' s):
  Nt C.M A (P6 (.builtin "sorted") [.ref a]) (eM C FR σ fz s Q) E s:=by
 refine oY (ss:=ss.map aq) (by simpa using h.1) hh hcol fun s' r out n ZR k h1 h2 h3 h4 h5=>?_;apply bc;intro qK;obtain⟨Zi,rfl,hp⟩:=ku ZR ss h4;apply qK;have so':∀x∈Zi,e' x:=fun x hx=>so x (hp.mem_iff.mp hx);have vr:=mZ (P:=C.P) (fz:=fz) h3 so';have g:GS C FR σ fz s σ (fz.ext r (bH "list" out.toList.toArray n)) s':= .fzNew G h1 k.keep (by simpa using h2) k.gens k.os;refine⟨_,σ,_,g,.lst (Nd rfl) ?_ (vr.mono g.1.fzk),h.2 Zi hp (gr Zi h5)⟩;have:=hp.length_eq;have h64:=h.1;unfold fa;rw[Nb];exact M7 (NJ this) (M7 (NW h64) (by decide))
theorem uT{P:Np}{fz:Fz}{kvs:List (List Nat×PV)}:∀{ws:List M_},aL P fz (kvs.map fun p=>PV.tup [.str p.1,p.2]) ws->∃r,gd P fz kvs r/\ws.length=r.length/\(∀kv∈kvs,e' kv.1)/\
  ∀(i:Nat)(kv:Str×M_),r[i]? =some kv->∃p t n,ws[i]? =some (.ref p)/\fz p=some (bH "tuple" #[.str kv.1 t,kv.2] n):=by
 induction kvs with
 |nil=>intro ws h;cases h.inv;exact⟨[],.nil,rfl,(fun _ h=>absurd h Nx),fun i kv=>aj⟩
 |cons kv kvs b=>intro ws h;apply bc;intro c;obtain⟨_,_,rfl,d,e⟩:=h.inv;obtain⟨a,_,_,rfl,f,_,g⟩:=d.inv;obtain⟨r,j,k,l,m⟩:=b e;obtain⟨x,y,rfl,o,q⟩:=x3 g;obtain⟨t,rfl,hs⟩:=o.inv;apply c;exact⟨(aq kv.1,y)::r,.cons q j,Nw (·+1) k,List.forall_mem_cons.mpr ⟨hs,l⟩,fun i=>i.casesOn (fun kv hi=>by injection hi with z0;subst z0;exact⟨a,t,_,rfl,f⟩) m⟩
theorem Bv(G:aw C σ fz FR s.heap)(a:VR C.P fz v x){Q:QV}(h:t_ v σ Q):Nt C.M A (P6 (eQ .int) [x]) (eM C FR σ fz s Q) E s:=by
 unfold t_ at h;cases hi:dD v with
 |some i=>rw[hi]at h;refine tR hi a fun _ b=>?_;subst b;exact call_int_int (aY G (.int ..) h)
 |none=>rw[hi]at h;refine fb h fun c d h=>?_;obtain rfl:=jb d;cases a.inv;exact call_int_bool (aW G (.int ..) h)
theorem Bw(G:aw C σ fz FR s.heap)(hh:A.handled=none){vs:List PV}{x:M_}(c:VR C.P fz (.lst vs) x){b:List Int}(hi:cy vs=some b){Q:QV}(d:Q (.int b.sum) σ):Nt C.M A (P6 (eQ .sum) [x]) (eM C FR σ fz s Q) E s:=by apply bc;intro e;obtain⟨a,_,n,rfl,f,i,g⟩:=c.inv;obtain⟨xs,rfl,rfl⟩:=j5 g hi;apply e;refine sum_intListG hh (show s.heap.IsList a (intItems xs.toArray)from⟨_,G.sub _ _ f,rfl,n,Nw (Data.seq · n) (List.map_toArray).symm⟩) fun h' k j h=>?_;rw[preSum_eq,show((xs.toArray.toList.map (·.1)).take xs.toArray.size)=xs.map (·.1)from OT (NJ (Nb _))];exact Bu G h (.int ..) d
theorem sB(G:aw C σ fz FR s.heap)(hh:A.handled=none)(i:VR C.P fz v x){Q:QV}(h:dY v σ Q):Nt C.M A (P6 (eQ .sorted) [x]) (eM C FR σ fz s Q) E s:=by
 unfold dY at h;cases hs:ix (v.seen σ)with
 |some vs=>rw[hs]at h;apply bc;intro b;refine fb h fun ss d h=>?_;obtain⟨a,ws,rfl,n,o,j⟩:=bO G i (du hs);obtain⟨st,f⟩:=eR o d;apply b;exact sA G n st f h
 |none=>
  rw[hs]at h;apply bc;intro b;refine fb h fun p t u=>?_;obtain⟨rfl,c⟩:=f8 t;cases i.inv;obtain⟨r,l,m,j,f⟩:=dZ G c;obtain⟨O,w⟩:=l.dictAt;apply b;have e:r.map (·.1)=(p.2.map (·.1)).map aq:=by rw[m.keys,Ox];rfl
  refine kx G hh (fun x y=>?_) u fun B z Q' D g=>hZ (.inl rfl) l.typeIs (rO:=fun keys=>Ok keys (r.map (·.1))) (fun s₁ z Q' k F=>se (A:=B.in1) D (iK C G fun q=>aj (q.symm.trans c)) (w.keep k.keep) (qx m.len j) F) fun s' keys k H=>g s' keys k ⟨_,H,by rw[e]⟩;apply bc;intro b;refine i_ y fun kv K L=>?_;subst L;apply b;exact f.1 kv K
theorem x5(G:aw C σ fz FR s.heap)(hh:A.handled=none){kvs:List (List Nat×PV)}{x:M_}(j:VR C.P fz (.tup (kvs.map fun p=>PV.tup [.str p.1,p.2])) x){Q:QV}(e:(kvs.map (·.1)).Nodup)(k:∀a,σ a=none->Q (.ref a) (σ.upd a (.dct kvs))):Nt C.M A (P6 (eQ .dict) [x]) (eM C FR σ fz s Q) E s:=by
 apply bc;intro c;obtain⟨a,ws,n,rfl,l,u,v⟩:=j.inv;obtain⟨r,f,w,y,z⟩:=uT v;apply c;have D:r.map (·.1)=(kvs.map (·.1)).map aq:=by rw[f.keys,Ox];rfl
 have d:kvs.length<=1048576:=M7 (NJ (Nb _).symm) u;refine iz (G.sub _ _ l) ⟨w,fun i kv hi=>?_⟩ (by rw[D];exact Qz _ (fun a b g q=>g (da q)) e) (f.len▸d) hh fun s' g1 g2 g3 g4=>?_
 .apply bc;intro c;obtain⟨p,t,m,F,H⟩:=z i kv hi;apply c;exact⟨p,t,m,List.getElem?_toArray.trans F,G.sub _ _ H⟩
 .apply bc;intro c;obtain⟨o,K,h⟩:=k9 (C:=C) (fz:=fz) g4 f d y;apply c;exact⟨_,_,fz,.ledNew G (fresh _) g3 K h g1 g2,.ref _,k _ (G.free (fresh s.heap)).2.1⟩
theorem x6(i:Int):(if i<0 then -i else i)=(i.natAbs:Int):=by
 by_cases h:i<0
 .rw[Nd h];exact(Td (PZ h)).symm
 .rw[Na h];exact(QD (Int.not_lt.mp h)).symm
theorem x7(G:aw C σ fz FR s.heap)(hh:A.handled=none)(y:b≠.sortset)(f:VR C.P fz v x){Q:QV}(h:Bg b v σ Q):Nt C.M A (P6 (eQ b) [x]) (eM C FR σ fz s Q) E s:=by
 cases b
 case len=>
  apply bc;intro d;refine fb h fun n z h=>?_;apply d;exact x4 G f z h
 case ord=>
  apply bc;intro d;refine fb h fun t D h=>?_;refine fb h fun c j h=>?_;refine rV D f fun u g H=>?_;subst g;apply d;obtain rfl:=aS j;exact ord_of_one (eK _) (aW G (.int ..) h)
 case chr=>
  apply bc;intro d;refine fb h fun i hi l=>?_;obtain⟨h0,p,h⟩:=l;refine tR hi f fun _ g=>?_;subst g;apply d;exact chr_of_range h0 (O4 (PZ p) (by decide:(55296:Int)<=1114111)) (aW G (.str [i.toNat] _ ⟨No rfl,fun c j=>by obtain rfl:=List.mem_singleton.mp j;exact(Int.toNat_lt h0).mpr (TQ p (by decide:(55296:Int)<1114112))⟩) h)
 case abs=>
  apply bc;intro d;refine fb h fun i hi h=>?_;refine tR hi f fun _ g=>?_;subst g;apply d;exact call_abs_int fun u k=>x6 i▸aW G (.int ..) h
 case int=>exact Bv G f h
 case str=>
  apply bc;intro d;refine fb h fun i hi h=>?_;refine tR hi f fun _ g=>?_;subst g;apply d;exact P.str_of_int (shown (N:=2^64) h.1 h.2.1 (by decide+kernel)) (aW G (VR.str (P:=C.P) (fz:=fz) (aE i) s.toks h.2.2.1) h.2.2.2)
 case sum=>
  apply bc;intro d;refine fb h fun vs e h=>?_;refine fb h fun K hi m=>?_;apply d;obtain rfl:=du e;exact Bw G hh f hi m
 case tuple=>
  apply bc;intro d;refine fb h fun vs e h=>?_;obtain rfl:=du e;obtain⟨a,ws,n,rfl,F,q,r⟩:=f.inv;apply d;exact call_tuple_list ⟨_,G.sub _ _ F,rfl,_,rfl⟩ (fun h' w=>PK.via (.keep G w) (uk (k:=s.toks) (s:={s with heap:=h'}) (GS.keep (s':={s with heap:=h'}) G w).2 r q h)) (qx r.length q)
 case sorted=>exact sB G hh f h
 case sortset=>exact absurd rfl y
 case dict=>
  apply bc;intro d;refine fb h fun vs e l=>?_;obtain⟨kvs,rfl,o,m⟩:=l;apply d;obtain rfl:=xx e;exact x5 G hh f o m
 case divmod=>exact h.elim
theorem Bx(G:aw C σ fz FR s.heap)(hh:A.handled=none)(j:b≠.sortset)(r:aL C.P fz as vals){Q:QV}(h:GK b as σ Q):Nt C.M A (P6 (eQ b) vals) (eM C FR σ fz s Q) E s:=by
 unfold GK at h;cases a:cG as with
 |some v=>rw[a]at h;obtain rfl:=aS a;apply bc;intro c;obtain⟨x,rfl,d⟩:=uR r;apply c;exact x7 G hh j d h
 |none=>rw[a]at h;apply bc;intro c;obtain⟨rfl,h⟩:=h;refine fb h fun u l h=>?_;refine fb h fun i f m=>?_;obtain⟨h0,n,o⟩:=m;obtain rfl:=iH l;obtain⟨x,y,rfl,d,g⟩:=x3 r;obtain⟨_,_,rfl,rfl⟩:=uj f d g;apply c;refine divmod_int h0 (uk (k:=s.toks+1+1) (ws:=[.int (i.1.fdiv i.2) s.toks,.int (i.1.fmod i.2) (s.toks+1)]) G (.cons (.int ..) (.cons (.int ..) .nil)) (No rfl) o) (.inl (PyProof.noPylong_of_log2 ?_));have e:Pi i.2=i.2.natAbs.log2+1:=Na fun e=>h0 (beq_iff_eq.mp e);exact Nv (NX _) (M7 (NJ e.symm) (M7 n (by decide)))
end
set_option tactic.hygienic true
section
variable{d:Nat}{sc:NR}{ml:List Nat}{n:Nat}
theorem HQ:bq ml 0 sc md e=none:=by cases md<;>rfl
theorem o7{A:NT}(F:rM A a d):A.units+100<TE:=Nv (Nv (QW (by decide:100<200) A.units) (NL (Nn _ _) 200)) F.units
theorem m6(h:oP l x=some i):∃k,l[i]? =some (x,k):=by unfold oP at h;rw[Ov]at h;obtain⟨a,b,_⟩:=h;have:=beq_iff_eq.mp b;exact⟨l[i].2,by rw[NA a,←this]⟩
section
variable{C:Cx}{A:NT}{FR:List NC}{σ:aa}{fz:Fz}{s:Nc}{E:M_->Nc->Prop}{env:Env}{ρ:ar}
theorem ju(S:St C A FR d sc env ρ σ fz s){Q:M_->Nc->Prop}(a:sc.names.lookup x=some .globalImplicit)(b:OB (gj C.P) x=some v)(h:Q v s)(c:(x==("__debug__":Str))=false):
  Nt C.M A (Q2 (.Name x p) env) Q E s:=
 Q4 (by rw[S.scE];exact(ko S.ok).kind) (by unfold PB;rw[S.scE];exact a) (Ve (by rw[S.gl];exact xZ S.good) b h) c
theorem fj(S:St C A FR d sc env ρ σ fz s){Q:M_->Nc->Prop}(a:sc.names.lookup x=some .globalImplicit)(b:OB (gj C.P) x=none)(c:OB (qs C.P) x=some v)(h:Q v s)(e:(x==("__debug__":Str))=false):
  Nt C.M A (Q2 (.Name x p) env) Q E s:=
 Q4 (by rw[S.scE];exact(ko S.ok).kind) (by unfold PB;rw[S.scE];exact a) (UY (by rw[S.gl];exact xZ S.good) b (by rw[S.bi];exact HO S.good) c h) e
theorem uV(S:St C A FR d sc env ρ σ fz s){x:Str}{i:Nat}{k:Oj}{pv:PV}(r:sc.names[i]? =some (x,k)) (L:k= .local\/k= .cell\/k= .free) (g:ρ[i]? =some (some pv)) {Q:QV} (h:Q pv σ)
  (u:(x==("__debug__":Str))=false) (v:(x==("__classdict__":Str))=false) {p:Pos}:Nt C.M A (Q2 (.Name x p) env) (eM C FR σ fz s Q) E s:=by
 have F:=ko S.ok;apply bc;intro w;obtain⟨m,z,D⟩:=S.lr.ns;obtain⟨O,P,t,H⟩:=D i pv g;apply w;rw[S.scE]at t;cases r.symm.trans t;have j:=aO F.nd r;have l:env.scope.kind= .function:=by rw[S.scE];exact F.kind
 have n:env.kindOf x=some k:=by unfold PB;rw[S.scE];exact j
 refine wpAny_Name ?_ u;rcases H with⟨rfl,y,K,f⟩|⟨q,c,o,y,a,b,e,f⟩
 .exact UA l n z K (aY S.good f h)
 .rcases q with rfl|rfl
  .exact wpAny_loadName_cell l n a ⟨o,S.good.sub _ _ b,e⟩ (aY S.good f h)
  .exact wpAny_loadName_free l n a ⟨o,S.good.sub _ _ b,e⟩ (aY S.good f h) v
end
theorem lu{x:Str}{p:Pos}{i:Nat}{k:Oj}(c:sc.names[i]? =some (x,k)) (e:k= .local\/k= .cell\/k= .free) (f:(x==("__debug__":Str))=false) (g:(x==("__classdict__":Str))=false):SV d sc (.Name x p) (.loc i):=by
 intro C A h env b σ fz s Q X S w;have w:(match b[i]? with|some (some v)=>Q v σ|_=>False):=w;cases a:b[i]? with
 |none=>rw[a]at w;exact w.elim
 |some o=>
  cases o with
  |none=>rw[a]at w;exact w.elim
  |some v=>rw[a]at w;exact uV S c e a w f g
theorem uW(h:oR sc x=some m):SV d sc (.Name x p) m:=by
 unfold oR at h;by_cases b:(x==("__debug__":Str)||x==("__classdict__":Str))=true
 .exact aj (cf b h)
 .replace h:=bV b h;rw[Bool.or_eq_true,not_or,PW,PW]at b;refine bF h fun i hi h=>?_;refine bF h fun c e h=>?_;obtain⟨q,k⟩:=c;obtain⟨r,a⟩:=m6 hi;cases a.symm.trans e;cases k
  case globalImplicit=>
   intro C A t env u σ fz s Q X S w;apply bc;intro f;refine cq h fun j g l=>?_;subst l;obtain⟨y,n,o⟩:=Bp S.good g;apply f;exact ju S (aO (ko S.ok).nd a) n (aY S.good o w) b.1
  case «local»=>injection h with z0;subst z0;exact lu a (.inl rfl) b.1 b.2
  case cell=>injection h with z0;subst z0;exact lu a (.inr (.inl rfl)) b.1 b.2
  case free=>injection h with z0;subst z0;exact lu a (.inr (.inr rfl)) b.1 b.2
  all_goals exact aj h
theorem sC(h:qp c=some m):SV d sc (.Constant c k p) m:=by
 intro C A i env j σ fz s Q X S w;cases c
 case none=>injection h with z0;subst z0;exact wpAny_Constant_none (aY S.good .none w)
 case bool=>injection h with z0;subst z0;exact wpAny_Constant_bool (aY S.good (.bool _) w)
 case int=>injection h with z0;subst z0;exact wpAny_Constant_int (aW S.good (.int ..) w)
 case str x=>
  apply bc;intro a;refine fA (show(if oQ x then some (.lit (.str x.cps.toList))else none)=some m from h) fun b h=>?_;injection h with z0;subst z0
  refine qh b fun e f=>?_;apply a;exact UU (aW S.good (VR.str (P:=C.P) (fz:=fz) x.cps.toList s.toks ⟨N2 e,fun c g=>N2 (List.all_eq_true.mp f c g)⟩) w)
 all_goals exact aj h
theorem sD{es:List Expr}{ms:List ME}(f:xY d sc es ms){k:Nat}{p:Pos}(h:es.length<=1000):SV d sc (.Tuple es k p) (.tup ms):=by intro C A i env j σ fz s Q X S w;refine wpAny_Tuple (Nq (f C A i env j σ fz s _ X p S w) (fun vs s₁ z=>?_) fun _ _ z=>z);apply bc;intro l;obtain⟨b,a,c,g,⟨r,rl⟩,q⟩:=z;apply l;have e:=M7 (NJ rl) h;exact⟨M7 e (M7 (by decide) aA),PK.via g (uk (k:=s₁.toks) g.2 r (M7 (NJ r.length.symm) (M7 e (by decide))) q)⟩
theorem uX{es:List Expr}{ms:List ME}(f:xY d sc es ms){fr:Bool}{p:Pos}(h:es.length<=1000):SV d sc (.List es p) (.lst fr ms):=by
 intro C A i env j σ fz s Q X S w;refine wpAny_List (Nq (f C A i env j σ fz s _ X p S w) (fun vs s₁ z=>?_) fun _ _ z=>z);apply bc;intro l;obtain⟨b,c,e,g,⟨r,rl⟩,q⟩:=z;apply l;have a:=M7 (NJ rl) h;refine⟨M7 a (M7 (by decide) aA),?_⟩;have a:fa b:=M7 (NJ r.length.symm) (M7 a (by decide));cases fr with
 |true=>exact PK.via g (oO (k:=s₁.toks) g.2 r a q)
 |false=>exact PK.via g (AA (k:=s₁.toks) g.2 rfl (.lst (n:=0) a r) q)
theorem sE{l r:Expr}{ml n:ME}(v:SV d sc l ml)(x:SV d sc r n){o:TH}{p:Pos}:SV d sc (.BinOp l o r p) (.bin o ml n):=by intro C A q env t σ fz s Q X S w;refine wpAny_BinOp (Nq (v C A q env t σ fz s _ X S w) (fun a s₁ j=>?_) fun _ _ z=>z);obtain⟨E,f,g,c,y,h⟩:=j;refine Nq (x C A q env t f g s₁ _ X (S.step c) h) (fun b u j=>?_) fun _ _ z=>z.via c;obtain⟨F,k,m,e,D,i⟩:=j;exact fT (c.trans e) (xI e.2 (o7 S.fit) (y.mono e.1.fzk) D i)
theorem x8{l:Expr}{ml:ME}(g:SV d sc l ml){p:Pos}:SV d sc (.UnaryOp .USub l p) (.neg ml):=by intro C A h env i σ fz s Q X S w;refine Wg (Nq (g C A h env i σ fz s _ X S w) (fun a s₁ j=>?_) fun _ _ z=>z);obtain⟨m,e,f,b,k,c⟩:=j;exact fT b (xJ b.2 k c)
theorem x9{l:Expr}{ml:ME}(h:SV d sc l ml){p:Pos}:SV d sc (.UnaryOp .Not l p) (.nt ml):=by intro C A i env j σ fz s Q X S w;refine Wg (Nq (h C A i env j σ fz s _ X S w) (fun a s₁ m=>?_) fun _ _ z=>z);apply bc;intro n;obtain⟨r,f,g,c,o,b,q,e⟩:=m;apply n;exact fT c (PySem.not_value (gV c.2 o q fun k=>aW c.2 (.bool _) e))
theorem sG(o:ST d sc c k)(q:SV d sc a l)(r:SV d sc b m):SV d sc (.IfExp c a b p) (.ite k l m):=by
 intro C A i env j σ fz s Q X S w;refine wpAny_IfExp (Nq (o C A i env j σ fz s _ X S w) (fun t s₁ u=>?_) fun _ _ z=>z);obtain⟨v,f,g,e,n,h⟩:=u;unfold sd at n;subst n;cases v with
 |true=>exact fT e (q C A i env j f g s₁ _ X (S.step e) h)
 |false=>exact fT e (r C A i env j f g s₁ _ X (S.step e) h)
theorem qy(h:bq ml n sc .v e=some m):RC a e=false:=by cases e<;>first|rfl|(cases n<;>exact aj (show(none:Option ME)=some m from h))
theorem x_{l r:Expr}{m1 m2:ME}(y:SV d sc l m1)(D:SV d sc r m2){m:UM}(hs:RC m r=false){p:Pos}:SV d sc (.Compare l [m] [r] p) (.cmp m m1 m2):=by intro C A u env v σ fz s Q X S w;refine wpAny_Compare1 (Nq (y C A u env v σ fz s _ X S w) (fun a s₁ n=>?_) fun _ _ z=>z) hs;apply bc;intro o;obtain⟨K,g,h,f,E,i⟩:=n;apply o;refine Nq (D C A u env v g h s₁ _ X (S.step f) i) (fun b x n=>?_) fun _ _ z=>z.via f;apply bc;intro o;obtain⟨L,q,t,e,F,c,H,j⟩:=n;apply o;exact fT (f.trans e) (fe e.2 (o7 S.fit) (E.mono e.1.fzk) F H fun k=>aW e.2 (.bool _) j)
theorem x'{l r:Expr}{m1 m2:ME}(y:SV d sc l m1)(D:SV d sc r m2){n:UM}(hs:RC n r=false){p:Pos}:ST d sc (.Compare l [n] [r] p) (.cmp n m1 m2):=by intro C A u env v σ fz s Q X S w;refine wpAny_isTrue_Compare1 (Nq (y C A u env v σ fz s _ X S w) (fun a s₁ o=>?_) fun _ _ z=>z) hs;apply bc;intro q;obtain⟨K,g,h,f,E,j⟩:=o;apply q;refine Nq (D C A u env v g h s₁ _ X (S.step f) j) (fun b x o=>?_) fun _ _ z=>z.via f;apply bc;intro q;obtain⟨L,t,i,e,F,c,H,m⟩:=o;apply q;exact fe e.2 (o7 S.fit) (E.mono e.1.fzk) F H fun k=>Qs (PK.via (f.trans e) (aW e.2 (show sd i c c from rfl) m))
theorem ya{l:Expr}{m1:ME}(h:ST d sc l m1){p:Pos}:ST d sc (.UnaryOp .Not l p) (.nt m1):=by intro C A i env j σ fz s Q X S w;refine wpAny_isTrue_Not (Nq (h C A i env j σ fz s _ X S w) (fun b s₁ k=>?_) fun _ _ z=>z);obtain⟨m,a,c,e,g,f⟩:=k;unfold sd at g;subst g;exact⟨!m,a,c,e,rfl,f⟩
theorem j6{C:Cx}{A:NT}{E:M_->Nc->Prop}{s:Nc}{env:Env}{c a b:Expr}{p:Pos}{d:Sem M_}{Q:Bool->Nc->Prop}
  (h:Nt C.M A (isTrue c env (Q2 c env)) (fun t s₁=>if t then Nt C.M A (isTrue a env (Q2 a env)) Q E s₁ else Nt C.M A (isTrue b env (Q2 b env)) Q E s₁) E s):Nt C.M A (isTrue (.IfExp c a b p) env d) Q E s:=by
 show Nt C.M A (do if ←isTrue c env (Q2 c env)then isTrue a env (Q2 a env)else isTrue b env (Q2 b env)) Q E s;refine M8 (Nq h (fun t s₁ e=>?_) fun _ _ z=>z);cases t<;>exact e
theorem sH(o:ST d sc c k)(q:ST d sc a l)(r:ST d sc b m):ST d sc (.IfExp c a b p) (.ite k l m):=by
 intro C A i env j σ fz s Q X S w;refine j6 (Nq (o C A i env j σ fz s _ X S w) (fun t s₁ u=>?_) fun _ _ z=>z);obtain⟨v,f,g,e,n,h⟩:=u;unfold sd at n;subst n;cases v with
 |true=>exact fT e (q C A i env j f g s₁ _ X (S.step e) h)
 |false=>exact fT e (r C A i env j f g s₁ _ X (S.step e) h)
theorem yb{e:Expr}{m:ME}(i:SV d sc e m)(j:∀(env:Env)(a:Sem M_),isTrue e env a=(do let v ←a;Va e.pos;To [v] (Ui v))):ST d sc e (.tru m):=by intro C A l env n σ fz s Q X S w;refine wpAny_isTrue_value (Nq (i C A l env n σ fz s _ X S w) (fun v s₁ o=>?_) fun _ _ z=>z) (j env _);apply bc;intro p;obtain⟨pv,h,f,c,q,b,r,g⟩:=o;apply p;exact gV c.2 q r fun k=>PK.via c (aW c.2 (show sd f b b from rfl) g)
theorem yc(p:q=(o== .And))(es:List Expr):∀(ms:List ME),(∀(i:Nat)(e:Expr)(m:ME),es[i]? =some e->ms[i]? =some m->ST d sc e m)->es.length=ms.length->
  ∀(C:Cx)(A:NT)(f:List NC)(env:Env)(n:ar)(σ:aa)(fz:Fz)(s:Nc)(Q:Bool->aa->Prop)(X:QX),St C A f d sc env n σ fz s->Eo d q ms n σ Q X->Nt C.M A (allTrue o es env) (PK C f σ fz s sd Q) (PX C f σ fz s X) s:=by
 induction es with
 |nil=>
  intro ms _ c C A f env n σ fz s Q X S w;cases ms with
  |cons _ _=>exact aK (beq_iff_eq.mpr c)
  |nil=>
  subst p;cases o
  .exact wpAny_allTrue_And_nil (aY S.good rfl w)
  .exact wpAny_allTrue_Or_nil (aY S.good rfl w)
 |cons e es u=>
  intro ms r c C A f env n σ fz s Q X S w;cases ms with
  |nil=>exact aK (beq_iff_eq.mpr c)
  |cons m ms=>
  have rest:=u ms (fun i=>r (i+1)) (Pp c);have l:Nt C.M A (isTrue e env (Q2 e env)) (fun b s₁=>if b=q then Nt C.M A (allTrue o es env) (PK C f σ fz s sd Q) (PX C f σ fz s X) s₁ else PK C f σ fz s sd Q b s₁) (PX C f σ fz s X) s:=by
   refine Nq (r 0 e m rfl rfl C A f env n σ fz s _ X S w) (fun b s₁ x=>?_) fun _ _ z=>z;obtain⟨t,g,j,k,y,a⟩:=x;have e:t=b:=y;subst e;unfold LT at a;by_cases v:t=q
   .rw[Nd v]at a⊢;exact fT k (rest C A f env n g j s₁ _ X (S.step k) a)
   .rw[Na v]at a⊢;exact⟨t,g,j,k,rfl,a⟩
  clear rest u r w;subst p;cases o
  .exact wpAny_allTrue_And_cons (Nq l (fun b s₁ h=>by cases b<;>exact h) fun _ _ z=>z)
  .exact wpAny_allTrue_Or_cons (Nq l (fun b s₁ h=>by cases b<;>exact h) fun _ _ z=>z)
end
set_option backward.match.sparseCases true
set_option tactic.hygienic false
section
variable{d:Nat}{sc:NR}{ml:List Nat}{n:Nat}
theorem m7{C:Cx}{A:NT}{E:M_->Nc->Prop}{s:Nc}(e:f=(c== .And)){Q:M_->Nc->Prop}
 (h:Nt C.M A x (fun v s₁=>Nt C.M A (Ui v) (fun t a=>if t=f then Nt C.M A (Uj pos c (y::rest)) Q E a else Q v a) E s₁) E s):Nt C.M A (Uj pos c (x::y::rest)) Q E s:=by
 show Nt C.M A (do
  let v ←x
  Va pos
  let t ←To [v] (Ui v)
  match c,t with
  |.And,false|.Or,true=>OJ v
  |_,_=>Uj pos c (y::rest)) Q E s
 subst e;refine M8 (Nq h (fun v s₁ d=>M8 (O6 (M8 (OG (Nq d (fun t a b=>?_) fun _ _ x=>x))))) fun _ _ x=>x);cases c<;>cases t<;>first|exact Nl b|exact b
theorem yd(u:t=(x== .And))(es:List Expr):∀(e:Expr)(ms:List ME)(m:ME),(∀(i:Nat)(p:Expr)(q:ME),(e::es)[i]? =some p->(m::ms)[i]? =some q->SV d sc p q)->es.length=ms.length->
  ∀(C:Cx)(A:NT)(l:List NC)(env:Env)(n:ar)(σ:aa)(fz:Fz)(s:Nc)(Q:QV)(X:QX),St C A l d sc env n σ fz s->Ep d t (m::ms) n σ Q X->Nt C.M A (Uj pos x (TD (e::es) env)) (PK C l σ fz s (VR C.P) Q) (PX C l σ fz s X) s:=by
 induction es with
 |nil=>
  intro e ms m r g C A l env n σ fz s Q X S w;cases ms with
  |nil=>exact r 0 e m rfl rfl C A l env n σ fz s _ X S w
  |cons _ _=>exact aK (beq_iff_eq.mpr g)
 |cons p es E=>
  intro e ms m r g C A l env n σ fz s Q X S w;cases ms with
  |nil=>exact aK (beq_iff_eq.mpr g)
  |cons q ms=>
  refine m7 u (Nq (r 0 e m rfl rfl C A l env n σ fz s _ X S w) (fun v s₁ F=>?_) fun _ _ z=>z);apply bc;intro H;obtain⟨pv,c,f,a,y,b,K,j⟩:=F;apply H;refine gV a.2 y K fun k=>?_;by_cases o:b=t
  .rw[Nd o]at j⊢;have D:GS C l c f s₁ c f {s₁ with toks:=k}:= .keep a.2 fun _ _ h=>h;exact fT (a.trans D) (E p ms q (fun i=>r (i+1)) (Pp g) C A l env n c f _ _ X (S.step (a.trans D)) j)
  .rw[Na o]at j⊢;exact PK.via a (aW a.2 y j)
theorem o8(b:g=(h== .And))(es:List Expr)(ms:List ME)(k:∀(i:Nat)(e:Expr)(m:ME),es[i]? =some e->ms[i]? =some m->SV d sc e m) (a:es.length=ms.length) (c:es≠[]):
  ∀(C:Cx)(A:NT)(f:List NC)(env:Env)(j:ar)(σ:aa)(fz:Fz)(s:Nc)(Q:QV)(X:QX),St C A f d sc env j σ fz s->Ep d g ms j σ Q X->Nt C.M A (Uj pos h (TD es env)) (PK C f σ fz s (VR C.P) Q) (PX C f σ fz s X) s:=by
 cases es with
 |nil=>exact absurd rfl c
 |cons e es=>cases ms with
  |nil=>exact aK (beq_iff_eq.mpr a)
  |cons m ms=>exact yd b es e ms m k (Pp a)
theorem uY(il:SV d sc l v)(im:SV d sc m P)(ir:SV d sc r V)(hs:lastMarks [.LtE,.LtE] [m,r]=false):SV d sc (.Compare l [.LtE,.LtE] [m,r] p) (.cmp2 v P V):=by
 intro C A F env H σ fz s Q X S w;show Nt C.M A (do compareChain p (←Q2 l env) [.LtE,.LtE] (markedEach [.LtE,.LtE] [m,r] (TD [m,r] env))) _ _ s;rw[UO _ _ _ hs];refine M8 (Nq (il C A F env H σ fz s _ X S w) (fun a s₁ x=>?_) fun _ _ z=>z);apply bc;intro y;obtain⟨pa,t,u,n,ra,D⟩:=x;apply y;refine chain_link (Nq (im C A F env H t u s₁ _ X (S.step n) D) (fun b o x=>?_) fun _ _ z=>z.via n);apply bc;intro y;obtain⟨pb,f,g,i,W,c,hc,q⟩:=x;apply y;refine fe i.2 (o7 S.fit) (ra.mono i.1.fzk) W hc fun k=>Qs ?_;have Y:GS C F f g o f g {o with toks:=k}:= .keep i.2 fun _ _ h=>h;have g3:=(n.trans i).trans Y;cases c with
 |false=>exact PK.via g3 (aY Y.2 (.bool _) q)
 |true=>refine chain_last (Nq (ir C A F env H f g _ _ X (S.step g3) q) (fun e Z x=>?_) fun _ _ z=>z.via g3);apply bc;intro y;obtain⟨pe,K,L,j,re,c',O,E⟩:=x;apply y;exact fT (g3.trans j) (fe j.2 (o7 S.fit) (W.mono j.1.fzk) re O fun k=>aW j.2 (.bool _) E)
theorem uZ(il:SV d sc l x)(im:SV d sc m P)(ir:SV d sc r V)(hs:lastMarks [.LtE,.LtE] [m,r]=false):ST d sc (.Compare l [.LtE,.LtE] [m,r] p) (.cmp2 x P V):=by
 intro C A H env K σ fz s Q X S w;show Nt C.M A (do testChain p (←Q2 l env) [.LtE,.LtE] (markedEach [.LtE,.LtE] [m,r] (TD [m,r] env))) _ _ s;rw[UO _ _ _ hs];refine M8 (Nq (il C A H env K σ fz s _ X S w) (fun a s₁ y=>?_) fun _ _ z=>z);apply bc;intro D;obtain⟨pa,t,u,n,ra,E⟩:=y;apply D;refine test_link (Nq (im C A H env K t u s₁ _ X (S.step n) E) (fun b o y=>?_) fun _ _ z=>z.via n);apply bc;intro D;obtain⟨pb,g,f,i,W,c,hc,q⟩:=y;apply D;refine fe i.2 (o7 S.fit) (ra.mono i.1.fzk) W hc fun k=>Qs ?_;have Y:GS C H g f o g f {o with toks:=k}:= .keep i.2 fun _ _ h=>h;have g3:=(n.trans i).trans Y;cases c with
 |false=>exact PK.via g3 (aY Y.2 (show sd f false false from rfl) q)
 |true=>refine test_last (Nq (ir C A H env K g f _ _ X (S.step g3) q) (fun e Z y=>?_) fun _ _ z=>z.via g3);apply bc;intro D;obtain⟨pe,L,v,j,re,c',O,F⟩:=y;apply D;exact fe j.2 (o7 S.fit) (W.mono j.1.fzk) re O fun k=>Qs (PK.via (g3.trans j) (aW j.2 (show sd v c' c' from rfl) F))
theorem ye(e:Expr)(b:Str)(env:Env)(a:Sem M_):jg e=none->Sy e b env a=a:=by cases e<;>first|exact bb|exact fun _=>rfl
theorem u0(h:iM (bq ml n) sc "super" as=some m):False:=by refine fA h fun _ h=>?_;rw[show fE.lookup (NH "super")=none by decide+kernel]at h;replace h:=bV (by decide+kernel) h;rw[Na (by decide+kernel)]at h;refine bF h fun b a _=>?_;rw[show lc.lookup (NH "super")=none by decide+kernel]at a;exact aj a
theorem qz(h:bq ml n sc .v e=some m)(b:Str)(env:Env)(a:Sem M_):Sy e b env a=a:=by
 cases q:jg e with
 |none=>exact ye e b env a q
 |some z=>
  rw[gW q]at h⊢;cases n with
  |zero=>rw[HQ]at h;exact aj h
  |succ n=>
   refine fA (show(if z.2.2.isEmpty then gX (bq ml n) sc z.1.1 z.2.1 z.1.2 else none)=some m from h) fun c h=>?_;rw[List.isEmpty_iff.mp c];unfold gX at h;cases q:j0 z.1.1 with
   |none=>rw[q]at h;refine bF h fun y d _=>?_;rw[jh d];rfl
   |some x=>
    rw[q]at h;rw[gi q];cases z.2.1 with
    |cons _ _=>rfl
    |nil=>
     refine Eq.trans (Nd ?_) rfl;have f:(x.1 != ("super":Str))=true:=bne_iff_ne.mpr fun e=>by have h:iM (bq ml n) sc x.1 z.2.1=some m:=h;rw[e]at h;exact u0 h
     rw[f];rfl
theorem u1(t:SV d sc o g)(x:bq ml n sc .v o=some g)(i:iy f7 b=some a):SV d sc (.Attribute o b p) (.att g a):=by
 intro C A m env y σ fz s Q X S w;have e:b=aC a:=by unfold iy at i;rw[Ov]at i;apply bc;intro j;obtain⟨D,F,_⟩:=i;apply j;have:=beq_iff_eq.mp F;unfold aC;rw[OE,NA D,Sl,this]
 subst e;show Nt C.M A (do
  let o' ←Sy o (aC a) env (Q2 o env)
  Va p.atName
  let r ←To [o'] (Wu o' (aC a) true)
  TC o o' r
  OJ r) _ _ s
 rw[qz x];refine M8 (Nq (t C A m env y σ fz s _ X S w) (fun v s₁ H=>?_) fun _ _ z=>z);apply bc;intro j;obtain⟨pv,k,l,c,K,u,L,f⟩:=H;apply j;refine M8 (O6 (M8 (OG ?_)));refine Nq (xU c.2 K L (Q:=Q) f (E:=PX C m σ fz s X)) (fun r q h=>?_) fun _ _ z=>z;exact M8 (UB (Nl (PK.via c h)))
theorem yg(y:SV d sc o q)(D:SV d sc i r):SV d sc (.Subscript o i p) (.idx q r):=by intro C A t env v σ fz s Q X S w;refine Subscript_ (Nq (y C A t env v σ fz s _ X S w) (fun a s₁ k=>?_) fun _ _ z=>z);apply bc;intro l;obtain⟨K,f,g,c,E,h⟩:=k;apply l;refine Nq (D C A t env v f g s₁ _ X (S.step c) h) (fun b x k=>?_) fun _ _ z=>z.via c;apply bc;intro l;obtain⟨L,m,n,e,F,u,H,j⟩:=k;apply l;exact fT (c.trans e) (xL e.2 (E.mono e.1.fzk) F H j)
noncomputable def SP(d:Nat)(c:NR)(e:Option Expr)(m:ME):Prop:=∀(C:Cx)(A:NT)(a:List NC)(env:Env)(b:ar)(σ:aa)(fz:Fz)(s:Nc)(Q:QV)(X:QX),
 St C A a d c env b σ fz s->cR d m b σ Q X->Nt C.M A (evalPart e env) (PK C a σ fz s (VR C.P) Q) (PX C a σ fz s X) s
theorem yh:SP d sc none (.lit .none):=fun C A a env b σ fz s Q X S w=>by exact Nl (aY S.good .none w)
theorem yj(h:SV d sc e m):SP d sc (some e) m:=h
theorem yk{o:Expr}{lo hi:Option Expr}{P t V:ME}(Z:SV d sc o P)(il:SP d sc lo t)(ih:SP d sc hi V){p q:Pos}:SV d sc (.Subscript o (.Slice lo hi none q) p) (.sli P t V):=by intro C A K env L σ fz s Q X S w;refine Subscript_ (Nq (Z C A K env L σ fz s _ X S w) (fun a s₁ v=>?_) fun _ _ z=>z);apply bc;intro x;obtain⟨pa,j,k,f,ra,y⟩:=v;apply x;refine wpAny_Slice (Nq (il C A K env L j k s₁ _ X (S.step f) y) (fun b D v=>?_) fun _ _ z=>z.via f);apply bc;intro x;obtain⟨pb,l,m,i,rb,F⟩:=v;apply x;have n:=f.trans i;refine Nq (ih C A K env L l m D _ X (S.step n) F) (fun c W v=>?_) fun _ _ z=>z.via n;apply bc;intro x;obtain⟨pc,M,O,e,rc,u,hu,H⟩:=v;apply x;rw[evalPart_none];apply Nl;have g:=n.trans e;refine Nq (xO e.2 ((ra.mono i.1.fzk).mono e.1.fzk) (rb.mono e.1.fzk) rc hu H (E:=PX C K σ fz s X)) (fun r Y h=>PK.via g h) fun _ _ z=>z
end
set_option backward.match.sparseCases false
section
variable{C:Cx}{A:NT}{FR:List NC}{σ:aa}{fz:Fz}{s:Nc}{E:M_->Nc->Prop}
theorem fk(G:aw C σ fz FR s.heap)(h:σ a=some (.lst vs)):∃ws n,s.heap.get? a=some (bH "list" ws.toArray n)/\aL C.P fz vs ws/\fa vs:=by apply bc;intro b;obtain⟨_,o,c,d⟩:=G.led a _ h;obtain⟨ws,n,rfl,e,f⟩:=d.inv;apply b;exact⟨_,_,c,f,e⟩
theorem gt(G:aw C σ fz FR s.heap){a:NC}{vs vs':List PV}{ws ws':List M_}{n:Nat}(h:σ a=some (.lst vs))(d:s.heap.get? a=some (bH "list" ws.toArray n)){f:Array M_->Array M_}(g:f ws.toArray=ws'.toArray)
  (i:aL C.P fz vs' ws') (j:fa vs'):GS C FR σ fz s (σ.upd a (.lst vs')) fz {s with heap:=s.heap.update a (Pa f)}:=by
 apply bc;intro k;obtain⟨c,e⟩:∃c,Pa f (bH "list" ws.toArray n)=bH "list" ws'.toArray c:=⟨_,by unfold Pa;simp only[g];rfl⟩
 apply k;exact .ledUpd (o:=bH "list" ws'.toArray c) G (fun q=>aj (q.symm.trans h)) (fun b o l m=>(N3 _ _ (NZ l)).trans m) ((N0 _ d (by rw[e];rfl)).trans (Nw some e)) (.lst j i)
theorem qA{a:Type}(l:List a)(j:Nat):(l.toArray.eraseIdxIfInBounds j)=(l.eraseIdx j).toArray:=by
 unfold Array.eraseIdxIfInBounds;by_cases h:j<l.toArray.size
 .rw[dif_pos h];exact List.eraseIdx_toArray ..
 .rw[dif_neg h,List.eraseIdx_of_length_le (Nat.not_lt.mp h)]
theorem aL.eraseIdx{P:Np}{fz:Fz}{v:List PV}{x:List M_}(j:Nat)(h:aL P fz v x):aL P fz (v.eraseIdx j) (x.eraseIdx j):=
 h.ind (m:=fun v x=>∀j,aL P fz (v.eraseIdx j) (x.eraseIdx j)) (fun _=> .nil) (fun a b c j=>j.casesOn b fun j=> .cons a (c j)) j
theorem sI(ss:List (List Nat))(x:List Nat)(h:ss.contains x=true):∃j,j<ss.length/\ss[j]? =some x/\(∀m,m<j->ss[m]? ≠some x)/\ss.erase x=ss.eraseIdx j:=by
 induction ss with
 |nil=>exact aK h
 |cons a r c=>
  by_cases e:a=x
  .subst e;exact⟨0,Oh _,rfl,fun m b=>absurd b (RJ m),List.erase_cons_head ..⟩
  .rw[Ug,beq_eq_false_iff_ne.mpr (NZ e),Bool.false_or]at h;apply bc;intro d;obtain⟨j,f,g,i,k⟩:=c h;apply d;refine⟨j+1,Qx f,g,fun m=>m.casesOn (fun _ q=>e (Nh q)) fun m b=>i m (RE b),?_⟩;rw[List.erase_cons_tail (fun q=>e (beq_iff_eq.mp q)),k];rfl
theorem j7{b c:Type}(f:b->c)(l:List b):∀(j:Nat),(l.eraseIdx j).map f=(l.map f).eraseIdx j:=by
 induction l with
 |nil=>exact fun _=>rfl
 |cons a l d=>exact fun j=>j.casesOn rfl fun j=>Nw (_::·) (d j)
theorem m8(t:List Nat)(h:∀c∈t,c<128):Txt.upper ⟨t.toArray⟩=⟨(t.map fun c=>if 97<=c&&c<=122 then c-32 else c).toArray⟩:=by
 induction t with
 |nil=>rfl
 |cons c t a=>
  rw[show(⟨(c::t).toArray⟩:Str)=(⟨#[c]⟩:Str)++(⟨t.toArray⟩:Str)from(lb [c] t).symm,W.KOpn.upper_app,W.KOpn.upper_one (h c Ng),a fun x b=>h x (Ni _ b)];have e:(if 97<=c/\c<=122 then c-32 else c)=if 97<=c&&c<=122 then c-32 else c:=by
   by_cases q:97<=c/\c<=122
   .rw[Nd q,Nd (by rw[NN q.1,NN q.2];rfl)]
   .rw[Na q,Na fun z=>q ⟨N2 (cF z).1,N2 (cF z).2⟩]
  rw[e];exact lb [_] _
theorem m9:∀{ss:List (List Nat)},bo vs=some ss->vs=ss.map .str:=by
 induction vs with
 |nil=>intro ss h;injection h with z0;subst z0;rfl
 |cons v vs a=>intro ss h;obtain⟨i,c,rfl,b,rfl⟩:=gq h;exact Nw (_::·) (a b)
noncomputable def ky(m:Nat):String:=match m with
 |0=>"list.append"|1=>"list.pop"|2=>"list.remove"|3=>"list.reverse"|4=>"dict.get"|_=>"str.upper"
theorem qB{ws:List M_}{ss:List (List Nat)}(h:Ok ws (ss.map aq)){i:Nat}{x:List Nat}(hi:ss[i]? =some x):∃t,ws[i]? =some (.str (aq x) t):=by
 induction ss generalizing ws i with
 |nil=>exact aj hi
 |cons a ss b=>
  obtain⟨t,w,rfl,c⟩:=fi h;cases i with
  |zero=>injection hi with z0;subst z0;exact⟨t,rfl⟩
  |succ i=>exact b (i:=i) c hi
theorem u2{ws:List M_}{j:Nat}{v:M_}(h:ws[j]? =some v) (a:j<ws.toArray.size):ws.toArray[j]=v:=by obtain⟨_,q⟩:=List.getElem?_eq_some_iff.mp h;exact q
theorem lw{P:Np}{fz:Fz}{vs:List PV}{ws:List M_}(a:aL P fz vs ws)(b:fa vs):ws.toArray.size<=1048576:=M7 (NJ a.length) b
theorem eS(h:n<=1048576):n<=P2:=M7 h (M7 (by decide) aA)
theorem sJ(G:aw C σ fz FR s.heap){a:NC}{vs:List PV}(hs:σ a=some (.lst vs)){p:PV}{v:M_}(d:VR C.P fz p v){Q:QV}(e:vs.length<aV)(h:Q .none (σ.upd a (.lst (vs++[p])))):
  Nt C.M A (P6 (.builtin "list.append") [.ref a,v]) (eM C FR σ fz s Q) E s:=by
 apply bc;intro f;obtain⟨ws,n,b,c,g⟩:=fk G hs;apply f;exact R3 PySem.F.slot_list_append ⟨_,b,rfl⟩ PySem.F.entry_list_append (PySem.F.args_list_append_2 _ _) (list_append a ws.toArray n v (eS (lw c g))) ⟨b,_,_,_,gt G hs b (ws':=ws++[v]) (List.push_toArray ..) (c.append (.cons d .nil)) (M7 (NJ M9) e),.none,h⟩
theorem By(G:aw C σ fz FR s.heap)(hs:σ a=some (.lst (b++[u]))){Q:QV}(h:Q u (σ.upd a (.lst b))):Nt C.M A (P6 (.builtin "list.pop") [.ref a]) (eM C FR σ fz s Q) E s:=by
 apply bc;intro d;obtain⟨ws,n,e,c,g⟩:=fk G hs;apply d;have j:ws.toArray.size-1=b.length:=by rw[show ws.toArray.size=(b++[u]).length from c.length,M9];rfl
 apply bc;intro d;obtain⟨y,k,l⟩:=c.get (i:=b.length) (p:=u) List.getElem?_concat_length;apply d;refine R3 PySem.F.slot_list_pop ⟨_,e,rfl⟩ PySem.F.entry_list_pop (PySem.F.args_list_pop_1 _) (MeetsSeq.list_pop_last a ws.toArray n y (by rw[j];exact List.getElem?_toArray.trans k) (eS (lw c g))) ⟨e,?_⟩;rw[j];refine⟨_,_,_,gt G hs e (f:=fun xs=>xs.eraseIdxIfInBounds b.length) (ws':=ws.eraseIdx b.length) (qA _ _) (vs':=b) ?_ (M7 (M7 (Nn _ _) (NJ List.length_append.symm)) g),l,h⟩;have:=c.eraseIdx b.length
 rwa [show(b++[u]).eraseIdx b.length=b from by rw[List.eraseIdx_append_of_length_le (Nj _),Su];exact NB b]at this
theorem sK(G:aw C σ fz FR s.heap){a:NC}{ss:List (List Nat)}(hs:σ a=some (.lst (ss.map .str)))(g:bo (ss.map .str)=some ss){x:List Nat}{t:Tok}{Q:QV}(r:ss.contains x=true)(h:Q .none (σ.upd a (.lst ((ss.erase x).map .str)))):Nt C.M A (P6 (.builtin "list.remove") [.ref a,.str (aq x) t]) (eM C FR σ fz s Q) E s:=by
 apply bc;intro i;obtain⟨ws,n,k,e,o⟩:=fk G hs;obtain⟨st,K⟩:=eR e g;obtain⟨j,p,u,v,w⟩:=sI ss x r;have z:ws.length=ss.length:=e.length.trans (Nb _);obtain⟨L,D⟩:=qB st u;apply i;have b:j<ws.toArray.size:=Nat.lt_of_lt_of_eq p z.symm;refine R3 PySem.F.slot_list_remove ⟨_,k,rfl⟩ PySem.F.entry_list_remove (PySem.F.args_list_remove_2 _ _)
  (MeetsSeq.list_remove a ws.toArray n (.str ⟨x.toArray⟩ t) (isStrOf (aq x)) (fun y H=>eq_isStrOf (aq x) t st y (List.mem_toArray.mp H)) j b (by rw[u2 D b];exact ND _) (fun m O c=>?_) (eS (lw e o))) ⟨k,?_⟩
 .have d:ss[m]? =some ss[m]:=NA (Pe c p);apply bc;intro i;obtain⟨P,l⟩:=qB st d;apply i;rw[u2 l (Pe c b)];exact beq_eq_false_iff_ne.mpr fun q=>v m c (d.trans (Nw some (da q)))
 .refine⟨_,_,_,gt G hs k (f:=fun xs=>xs.eraseIdxIfInBounds j) (ws':=ws.eraseIdx j) (qA _ _) (vs':=(ss.erase x).map .str) ?_ ?_,.none,h⟩
  .rw[w,j7];exact e.eraseIdx j
  .exact M7 (NJ (Nb _)) (M7 List.length_erase_le (M7 (NJ (Nb _).symm) o))
theorem Bz(G:aw C σ fz FR s.heap){a:NC}{vs:List PV}(hs:σ a=some (.lst vs)){Q:QV}(h:Q .none (σ.upd a (.lst vs.reverse))):Nt C.M A (P6 (.builtin "list.reverse") [.ref a]) (eM C FR σ fz s Q) E s:=by apply bc;intro e;obtain⟨ws,n,b,c,d⟩:=fk G hs;apply e;exact R3 PySem.F.slot_list_reverse ⟨_,b,rfl⟩ PySem.F.entry_list_reverse (PySem.F.args_list_reverse_1 _) (AutoSeq1.list_reverse_list_0 a ws.toArray n (eS (lw c d))) ⟨b,_,_,_,gt G hs b (ws':=ws.reverse) (List.reverse_toArray ..) c.reverse (M7 (NJ QP) d),.none,h⟩
theorem u3(G:aw C σ fz FR s.heap)(hs:σ a=some (.lst vs))(r:aL C.P fz as vals){Q:QV}(h:xy a vs m as σ Q):
  Nt C.M A (P6 (.builtin (ky m)) (.ref a::vals)) (eM C FR σ fz s Q) E s:=by
 unfold xy at h;by_cases m0:m=0
 .rw[Nd m0]at h;subst m0;apply bc;intro b;refine fb h fun v0 c h=>?_;obtain rfl:=aS c;obtain⟨v,rfl,e⟩:=uR r;apply b;exact sJ G hs e h.1 h.2
 rw[Na m0]at h;by_cases m1:m=1
 .rw[Nd m1]at h;subst m1;apply bc;intro b;obtain⟨rfl,k,u,rfl,g⟩:=h;apply b;cases r.inv;exact By G hs g
 rw[Na m1]at h;by_cases m2:m=2
 .rw[Nd m2]at h;subst m2;apply bc;intro b;refine fb h fun v0 c h=>?_;refine fb h fun x i h=>?_;refine fb h fun ss d f=>?_;obtain rfl:=aS c;obtain⟨v,rfl,e⟩:=uR r;refine rV i e fun t j _=>?_;subst j;apply b;obtain rfl:=m9 d;exact sK G hs d f.1 f.2
 rw[Na m2]at h;by_cases m3:m=3
 .rw[Nd m3]at h;subst m3;apply bc;intro b;obtain⟨rfl,h⟩:=h;apply b;cases r.inv;exact Bz G hs h
 rw[Na m3]at h;exact h.elim
theorem BA(G:aw C σ fz FR s.heap)(hs:σ a=some (.dct kvs))(b:VR C.P fz d w){Q:QV}(h:Q ((i' kvs k).getD d) σ):Nt C.M A (P6 (.builtin "dict.get") [.ref a,.str (aq k) t,w]) (eM C FR σ fz s Q) E s:=by
 apply bc;intro c;obtain⟨r',e,f,_⟩:=dZ G hs;apply c;refine call_meetsIn PySem.F.slot_dict_get e.mapOf.typeIs PySem.F.entry_dict_get (PySem.F.args_dict_get_3 _ _ _) (meets_dict_get_default (strKind pw C.w) a (PD pw C.w (aq k) t) (iK C G fun q=>aj (q.symm.trans hs)) w) ⟨_,e.mapOf,?_⟩;show eM C FR σ fz s Q _ _;cases q:i' kvs k with
 |none=>rw[f.valueAt.2 q];rw[q]at h;exact aW G b h
 |some p=>apply bc;intro c;obtain⟨z,g,i⟩:=f.valueAt.1 p q;apply c;rw[g];rw[q]at h;exact aW G i h
theorem EO(h:c<128):(if 97<=c&&c<=122 then c-32 else c)<1114112:=by
 by_cases e:(decide (97<=c)&&decide (c<=122))=true
 .rw[Nd e];exact Nf (Q9 _ _) (Pe h (by decide))
 .rw[Na e];exact Pe h (by decide)
theorem BB(G:aw C σ fz FR s.heap)(e:VR C.P fz o u)(r:aL C.P fz as vals){Q:QV}(h:xi o m as σ Q):
  Nt C.M A (P6 (.builtin (ky m)) (u::vals)) (eM C FR σ fz s Q) E s:=by
 unfold xi at h;cases f:rQ σ o with
 |some p=>rw[f]at h;obtain⟨rfl,hs⟩:=xv f;cases e.inv;exact u3 G hs r h
 |none=>
 rw[f]at h;cases g:fP σ o with
 |some p=>rw[g]at h;apply bc;intro i;obtain⟨rfl,h⟩:=h;refine fb h fun q x h=>?_;refine fb h fun k j a=>?_;obtain rfl:=iH x;obtain⟨y,hs⟩:=f8 g;subst y;obtain⟨v,w,rfl,z,l⟩:=x3 r;cases e.inv;refine rV j z fun t b _=>?_;subst b;apply i;exact BA G hs l a
 |none=>rw[g]at h;apply bc;intro i;refine fb h fun t d D=>?_;obtain⟨rfl,rfl,a⟩:=D;cases r.inv;refine rV d e fun tk b d=>?_;subst b;apply i;refine PyProof.Rows.SCL.upper (by rw[eK];exact M7 d.1 (by decide)) fun _=>?_;rw[m8 t a.1];refine aW G (.str _ _ ⟨M7 (NJ (Nb _)) d.1,fun c F=>?_⟩) a.2;refine i_ F fun H n b=>?_;subst b;exact EO (a.1 H n)
end
noncomputable def u4(P:Np):Fz->List PV->Args->Prop:=fun fz b a=>aL P fz b a.pos/\a.kw=[]
section
variable{d:Nat}{sc:NR}{ml:List Nat}{n:Nat}
theorem jv(j:dh (bq ml n sc .v) es=some ms)(k:xY d sc es ms){C:Cx}{A:NT}{env:Env}{σ:aa}{fz:Fz}{s:Nc}{Q:List PV->aa->Prop}{X:QX}
 (S:St C A a d sc env c σ fz s) (w:mF d ms c σ Q X):Nt C.M A (evalArgs f true (Uk pos (Qu es env)) []) (PK C a σ fz s (u4 C.P) Q) (PX C a σ fz s X) s:=by
 have h:=k C A a env c σ fz s Q X pos S w;have fin:∀vs s',PK C a σ fz s (L1 C.P es.length) Q vs s'->PK C a σ fz s (u4 C.P) Q ⟨vs,[]⟩ s':=fun vs s' h=>by obtain⟨b,i,fz',g,r,q⟩:=h;exact⟨b,i,fz',g,⟨r.1,rfl⟩,q⟩
 cases es with
 |nil=>
  have h':PK C a σ fz s (u4 C.P) Q ⟨[],[]⟩ s:=by
   injection j with z0;subst z0
   exact aY S.good ⟨.nil,rfl⟩ w
  exact evalArgs_nil3 h'
 |cons e es=>
  have hs:Qu (e::es) env=(false,Q2 e env)::Qu es env:=by apply bc;intro l;refine uq j fun m o p t _=>?_;apply l;exact eP p es env
  rw[hs]at h⊢;exact PL (Nq h fin fun _ _ z=>z)
structure dE(C:Cx)(f:M_):Prop where
 keep:∀h,(KA C.P).In h->∃k,(k=Keeper.frame\/k=Keeper.machine\/k=Keeper.boundFrame)/\Vh C.M h (keeperOf f) k
theorem dE.of_ref{C:Cx}(h:V3 (KA C.P) (.ref a)=true):dE C (.ref a):=⟨keeps_K h⟩
theorem dE.of_type{C:Cx}:dE C (.type t):=⟨fun h _=>⟨.machine,.inr (.inl rfl),Pm rfl⟩⟩
theorem dE.of_builtin{C:Cx}:dE C (.builtin t):=⟨fun h _=>⟨.machine,.inr (.inl rfl),Pm rfl⟩⟩
theorem cT(i:dh (bq ml n sc .v) es=some ms)(k:xY d sc es ms){C:Cx}{A:NT}{env:Env}{σ:aa}{fz:Fz}{s:Nc}{Q':List PV->aa->Prop}{Q:QV}{X:QX}
 (S:St C A e d sc env j σ fz s) (l:dE C f) (w:mF d ms j σ Q' X)
 (h:∀vals s₁ vs b c,GS C e σ fz s b c s₁->aL C.P c vs vals->Q' vs b->Nt C.M A (P6 f (first++vals)) (eM C e b c s₁ Q) (PX C e b c s₁ X) s₁):
  Nt C.M A (callWith pos f first (Uk pos (Qu es env)) []) (eM C e σ fz s Q) (PX C e σ fz s X) s:=by
 refine Q3 (P:=(KA C.P).In) (by rw[dw es ms i pos env];rfl) l.keep ?_;refine Nq (jv i k (f:=f) S w) (fun a s₁ z=>?_) fun _ _ z=>z;apply bc;intro m;obtain⟨vs,b,c,g,⟨r,o⟩,q⟩:=z;apply m;refine⟨Bq g.2,?_⟩;rw[o];exact fT g (h a.pos s₁ vs b c g r q)
theorem gu{C:Cx}{A:NT}{σ:aa}{fz:Fz}{s:Nc}{Q:QV}{X:QX}(F:rM A FR d)(G:aw C σ fz FR s.heap)(r:aL C.P fz args vals)(h:af d f args σ Q X):
  Nt C.M A (P6 f vals) (eM C FR σ fz s Q) (PX C FR σ fz s X) s:=by
 refine SE (SY (h C A FR fz s vals F G r) fun r s' hr=>?_);cases r with
 |error e=>exact hr
 |ok f=>cases f<;>first|exact hr|exact hr.elim
theorem bj(h:bW sc x=true):sc.names.lookup x=some .globalImplicit:=beq_iff_eq.mp h
theorem jw(h:fE.lookup x=some a):(x==("__debug__":Str))=false:=by
 rw[beq_eq_false_iff_ne];intro e;subst e;have:fE.lookup (NH "__debug__")=none:=by decide+kernel
 rw[this]at h;exact aj h
theorem u5(h:lc.lookup x=some a):(x==("__debug__":Str))=false:=by
 rw[beq_eq_false_iff_ne];intro e;subst e;have:lc.lookup (NH "__debug__")=none:=by decide+kernel
 rw[this]at h;exact aj h
theorem yl(h:lc.lookup x=some a):a≠.sortset:=by
 have q:(lc.all fun x=>decide (x.2≠.sortset))=true:=by decide+kernel
 exact N2 (List.all_eq_true.mp q _ (mem_of_lookup h))
theorem sM(f:bW sc x=true)(e:fE.lookup x=some a)(h:dh (bq ml n sc .v) es=some ms)(i:xY d sc es ms):SV d sc (.Call (.Name x p) es [] pos) (.calF a ms):=by intro C A l env m σ fz s Q X S w;obtain⟨j,k⟩:=li e C.P;refine PA (ju S (bj f) j ?_ (jw e));exact cT h i S (.of_ref k) w fun vals s₁ vs b c g r q=>gu S.fit g.2 r q
theorem sN{C:Cx}(b:BI):dE C (eQ b):=by cases b<;>first|exact .of_type|exact .of_builtin|exact⟨fun h _=>⟨.machine,.inr (.inl rfl),Pm rfl⟩⟩
theorem sO(f:bW sc x=true)(a:lc.lookup x=some b)(h:dh (bq ml n sc .v) es=some ms)(i:xY d sc es ms):SV d sc (.Call (.Name x p) es [] pos) (.calB b ms):=by intro C A m env o σ fz s Q X S w;obtain⟨j,k⟩:=iP a C.P;have l:=yl a;refine PA (fj S (bj f) j k ?_ (u5 a));exact cT h i S (sN b) w fun vals s₁ vs c e g r q=>Bx g.2 S.fit.hand l r q
theorem m_{x y:Str}{p g pos:Pos}{e:Expr}{m:ME}{st:Bool}(i:(x==("isinstance":Str))=true)(f:(y==(if st then("str":Str)else("tuple":Str)))=true)(u:bW sc x=true)(j:bW sc y=true)(D:bq ml n sc .v e=some m)(E:SV d sc e m):
  SV d sc (.Call (.Name x p) [e,.Name y g] [] pos) (.isin m st):=by
 intro C A F env H σ fz s Q X S w;have i:=beq_iff_eq.mp i;have f:=beq_iff_eq.mp f;subst i;apply bc;intro K;obtain⟨_,_,b3,b4,_⟩:=qt C.P;apply K;refine PA (fj S (bj u) b3 b4 ?_ (by decide+kernel));have hs:Qu [e,.Name y g] env=[(false,Q2 e env),(false,Q2 (.Name y g) env)]:=by rw[eP D];rfl
 refine Q3 (P:=fun _=>True) (by rw[hs];rfl) (fun h _=>⟨.machine,.inr (.inl rfl),Pm rfl⟩) ?_;rw[hs];refine PL (Pw (Nq (E C A F env H σ fz s _ X S w) (fun v s₁ L=>?_) fun _ _ z=>z));obtain⟨pv,k,l,a,q,c⟩:=L;have ty:OB (gj C.P) y=none/\OB (qs C.P) y=some (if st then .type "str" else .type "tuple"):=by
  cases st with
  |true=>have:=iP (n:="str") (b:= .str) (by decide+kernel) C.P;rw[f];exact this
  |false=>have:=iP (n:="tuple") (b:= .tuple) (by decide+kernel) C.P;rw[f];exact this
 have o:(y==("__debug__":Str))=false:=by rw[f];cases st<;>decide+kernel
 refine Pw (fj (S.step a) (bj j) ty.1 ty.2 (Rb ?_) o);refine⟨trivial,?_⟩;show Nt C.M A (P6 (.builtin "isinstance") [v,(if st then .type "str" else .type "tuple")]) _ _ s₁;cases pv with
 |str t=>
  obtain⟨tk,rfl,_⟩:=q.inv;cases st with
  |true=>exact IsiPair.str_str (PK.via a (aY a.2 (.bool true) c))
  |false=>exact IsiPair.str_tuple (PK.via a (aW a.2 (.bool false) c))
 |tup vs=>
  obtain⟨_,_,_,rfl,r,_⟩:=q.inv;cases st with
  |true=>exact IsiPair.tuple_str (a.2.sub _ _ r) rfl (PK.via a (aW a.2 (.bool false) c))
  |false=>exact IsiPair.tuple_tuple (a.2.sub _ _ r) rfl (PK.via a (aY a.2 (.bool true) c))
 |_=>exact c.elim
theorem sP(h:dg c m=some f)(P:Np):V3 (KA P) (.ref f)=true:=by
 have:f∈HJ++[178,192,220,227,234,241,248,255,262,269,276,283,318,332,339,346,353,367,374,388,444,470,416,515,541,617,624,631,638,645,686,693,700]:=by
  refine On _ ?_;have q:(iI.all fun x=>decide (x.2.2∈[178,192,220,227,234,241,248,255,262,269,276,283,318,332,339,346,353,367,374,388,444,470,416,515,541,617,624,631,638,645,686,693,700]))=true:=by decide+kernel
  exact N2 (List.all_eq_true.mp q _ (kn h))
 exact List.all_eq_true.mp (AC P) f this
theorem u6{σ:aa}(h:xj (.iref c d) m σ):(dg c m).isSome=true/\∃as vs,σ d=some (.ins c as vs):=by
 obtain⟨a,b⟩:=h;refine⟨a,?_⟩;revert b;generalize σ d=x;intro h;cases x with
 |none=>exact h.elim
 |some x=>cases x with
  |ins e as vs=>obtain rfl:=(show e=c from h);exact⟨as,vs,rfl⟩
  |_=>exact h.elim
theorem ym{σ:aa}(h:xj (.ref a) m σ):(∃vs,σ a=some (.lst vs)/\m<4)\/∃kvs,σ a=some (.dct kvs)/\m=4:=by
 have h:(match σ a with|some (.lst _)=>m<4|some (.dct _)=>m=4|_=>False):=h;generalize σ a=x at h⊢;cases x with
 |none=>exact h.elim
 |some x=>cases x with
  |lst vs=>exact .inl ⟨vs,rfl,h⟩
  |dct kvs=>exact .inr ⟨kvs,rfl,h⟩
  |_=>exact h.elim
theorem BC(h:m<n+1):m=n\/m<n:=(Nat.lt_succ_iff_lt_or_eq.mp h).symm
theorem o9{C:Cx}{A:NT}{σ:aa}{fz:Fz}{s:Nc}{E:M_->Nc->Prop}(G:aw C σ fz k s.heap)(l:xj (.ref a) m σ){Q:M_×List M_->Nc->Prop}(d:Q (.builtin (ky m),[.ref a]) s):Nt C.M A (Rh (.ref a) (f_.getD m "") pl) Q E s:=by
 rcases ym l with⟨vs,hs,c⟩|⟨kvs,hs,rfl⟩
 .obtain⟨ws,n,f,_⟩:=fk G hs;have g:s.TypeIs (.ref a) "list":=⟨_,f,rfl⟩
  have h:∀b,OF a= .ref b->∃o,s.heap.get? b=some o/\o.dict=none:=fun b e=>by injection e with z0;subst z0;exact⟨_,f,rfl⟩
  rcases BC c with rfl|c
  .exact Qw g PySem.F.plainAttrs_list PySem.F.slot_list_reverse PySem.F.type_list_reverse h d
  rcases BC c with rfl|c
  .exact Qw g PySem.F.plainAttrs_list PySem.F.slot_list_remove PySem.F.type_list_remove h d
  rcases BC c with rfl|c
  .exact Qw g PySem.F.plainAttrs_list PySem.F.slot_list_pop PySem.F.type_list_pop h d
  obtain rfl:=Nat.lt_one_iff.mp c;exact Qw g PySem.F.plainAttrs_list PySem.F.slot_list_append PySem.F.type_list_append h d
 .apply bc;intro i;obtain⟨r,j,_⟩:=dZ G hs;apply i;exact Qw j.mapOf.typeIs PySem.F.plainAttrs_dict PySem.F.slot_dict_get PySem.F.type_dict_get (fun b e=>by
   injection e with z0;subst z0
   apply bc;intro i;obtain⟨o,es,t,p,q,_⟩:=j;apply i;exact⟨o,p,q.2.1⟩) d
theorem o_{C:Cx}{A:NT}{σ:aa}{fz:Fz}{s:Nc}{E:M_->Nc->Prop}(G:aw C σ fz p s.heap)(j:VR C.P fz v i)(b:xj v m σ)
 {Q:M_×List M_->Nc->Prop}
 (l:∀c f,((∃g,v= .obj c g)\/(∃d,v= .iref c d))->dg c m=some f->Q (.ref f,[i]) s) (o:(∀c g,v≠.obj c g)->(∀c d,v≠.iref c d)->Q (.builtin (ky m),[i]) s):Nt C.M A (Rh i (f_.getD m "") pl) Q E s:=by
 cases v with
 |obj c g=>refine DO b fun f h=>?_;obtain⟨x,q,es,n,rfl,I⟩:=Inst.of_obj G j;exact mR G I h (l c f (.inl ⟨g,rfl⟩) h)
 |iref c d=>obtain⟨k,as,vs,hs⟩:=u6 b;refine DO k fun f h=>?_;obtain⟨x,es,n,rfl,I⟩:=Inst.of_iref G j hs;exact mR G I h (l c f (.inr ⟨d,rfl⟩) h)
 |str t=>
  obtain⟨tk,rfl,_⟩:=j.inv;obtain rfl:=(show m=_ from b)
  exact GM.upper (o (fun _ _ e=>PV.noConfusion e) (fun _ _ e=>PV.noConfusion e))
 |ref a=>cases j.inv;exact o9 G b (o (fun _ _ e=>PV.noConfusion e) (fun _ _ e=>PV.noConfusion e))
 |_=>exact b.elim
theorem yo{a:Type}(l:List (Bool×a))(h:l.any (·.1)=false):l.all (fun x=> !x.1)=true:=by rw[List.all_eq_not_any_not];exact(Nw (!·) ((Nw l.any (funext fun x=>Bool.not_not x.1)).trans h))
theorem sQ{o:Expr}{H:ME}{name:Str}{b pos:Pos}{es:List Expr}{ms:List ME}{m:Nat}(io:SV d sc o H)(K:bq ml n sc .v o=some H)(L:iy f_ name=some m)(k:(b.endLine==pos.line)=true)(x:es.length<20)
  (O:dh (bq ml n sc .v) es=some ms) (ih:xY d sc es ms):SV d sc (.Call (.Attribute o name b) es [] pos) (.calM H m ms):=by
 intro C A FR env ρ σ fz s Q X S w;have e:name=f_.getD m "":=by unfold iy at L;rw[Ov]at L;apply bc;intro l;obtain⟨hl,h1,_⟩:=L;apply l;have:=beq_iff_eq.mp h1;rw[OE,NA hl,Sl,this]
 subst e;rw[Wj,qz K];refine M8 (Nq (io C A FR env ρ σ fz s _ X S w) (fun v s₁ zz=>?_) fun _ _ z=>z);apply bc;intro l;obtain⟨pv,V,W,a,F,hk,i⟩:=zz;apply l;refine M8 (O6 ?_);have y:=dw es ms O pos env;have D:=yo _ y;have p:TB (es.length+([]:List Vi).length) (Uk pos (Qu es env)) (backToKw pos (keywordEach [] env))=true:=by unfold TB;rw[D];show(true&&true&&decide (es.length+0+0<30))=true;simp;exact M7 x (by decide)
 have j:Sx true o env b pos=OJ pos:=by unfold Sx;simp[k]
 unfold methodCall;rw[p];refine fT a (M8 (OG ?_));show Nt C.M A (Rh v (f_.getD m "") _) _ _ s₁;refine o_ a.2 F hk (fun c f ho Y=>?_) fun Z a0=>?_
 .refine M8 (Q1 j ?_);refine cT O ih (S.step a) (.of_ref (sP Y C.P)) i fun vals E vs h t g r q=>?_;rcases ho with⟨fs,rfl⟩|⟨dd,rfl⟩
  .apply bc;intro l;obtain⟨f',u,hq⟩:=q;apply l;have i0:=Y.symm.trans u;injection i0 with z0;subst z0
   exact gu S.fit g.2 (.cons (F.mono g.1.fzk) r) hq
  .apply bc;intro l;obtain⟨f',u,hq⟩:=q;apply l;have i0:=Y.symm.trans u;injection i0 with z0;subst z0
   exact gu S.fit g.2 (.cons (F.mono g.1.fzk) r) hq
 .refine M8 (Q1 j ?_);refine cT O ih (S.step a) .of_builtin i fun vals E vs h t g r q=>?_;have q':xi pv m vs h Q:=by
   cases pv with
   |obj c fs=>exact absurd rfl (Z c fs)
   |iref c d=>exact absurd rfl (a0 c d)
   |_=>exact q
  exact BB g.2 (F.mono g.1.fzk) r q'
theorem kz(h:keysOf (k::ks)=some a):∃x j p c,k=some (.Constant (.str x) j p)/\keysOf ks=some c/\a=x.cps.toList::c:=by apply bc;intro d;refine uq h fun m ms e f b=>?_;subst b;refine cq e fun x g b=>?_;subst b;obtain⟨j,p,rfl⟩:=xR g;apply d;exact⟨x,j,p,ms,rfl,f,rfl⟩
theorem pd{ks:List (Option Expr)}:∀{a:List (List Nat)},keysOf ks=some a->ks.all (·.isSome)=true/\ks.length=a.length:=by
 induction ks with
 |nil=>intro a h;injection h with z0;subst z0;exact⟨rfl,rfl⟩
 |cons k ks b=>intro a h;apply bc;intro c;obtain⟨x,j,p,g,rfl,d,rfl⟩:=kz h;obtain⟨e,f⟩:=b d;apply c;exact⟨e,Nw (·+1) f⟩
theorem GS.adopt{C:Cx}{σ c:aa}{fz a:Fz}{s s₁ s':Nc}(g:GS C j σ fz s c a s₁)(l:s.heap.get? D=none)(v:c D=none)(p:a D=none)(w:D∉j)(hs:QZ D s₁.heap s'.heap)
 {o:Obj} (t:s'.heap.get? D=some o) (z:MR C.P a m o) (A:s'.gens=s₁.gens:=by rfl) (k:s'.os=s₁.os:=by rfl):GS C j σ fz s (c.upd D m) a s':=by
 have u:∀b o,s.heap.get? b=some o->b≠D:=fun b o h e=>by rw[e,l]at h;exact aj h
 refine⟨⟨g.1.fzk,fun b o h q r=>(hs.2 b (u b o h)).trans (g.1.keep b o h q r),fun b h o i=>?_,fun b h=>?_,fun b h=>?_,g.1.fzn,A.trans g.1.gens,k.trans g.1.os⟩,
  g.2.base,fun b o h=>?_,fun b h=>?_,fun b E h=>?_⟩
 .apply bc;intro f;obtain⟨F,e⟩:=g.1.frk b h o i;apply f;exact⟨F,(hs.2 b (u b o i)).trans e⟩
 .apply bc;intro f;obtain⟨o',e⟩:=g.1.lk b h;apply f;by_cases q:b=D
  .exact⟨o,q▸t⟩
  .exact⟨o',(hs.2 b q).trans e⟩
 .by_cases q:b=D
  .exact .inr (q▸l)
  .rw[aa.uN _ _ q]at h;exact g.1.ledn b h
 .have q:b≠D:=fun e=>by rw[e,p]at h;exact aj h
  exact(hs.2 b q).trans (g.2.sub b o h)
 .apply bc;intro f;obtain⟨x,y,o',es,n,e,d⟩:=g.2.fr b h;apply f;have q:b≠D:=fun e=>w (e▸h);exact⟨x,by rw[aa.uN _ _ q];exact y,o',es,n,(hs.2 b q).trans e,d⟩
 .by_cases q:b=D
  .subst q;rw[aa.uS]at h;injection h with z0;subst z0;exact⟨p,o,t,z⟩
  .rw[aa.uN _ _ q]at h;apply bc;intro f;obtain⟨x,o',e,r⟩:=g.2.led b E h;apply f;exact⟨x,o',(hs.2 b q).trans e,r⟩
noncomputable def BD(P:Np)(ks:List (List Nat)):Fz->List PV->List (M_×M_)->Prop:=fun fz b r=>aL P fz b (r.map (·.2))/\Ok (r.map (·.1)) (ks.map aq)
theorem sS(ks:List (Option Expr)):∀(c:List (List Nat))(vs:List Expr)(ms:List ME),keysOf ks=some c->(∀(i:Nat)(e:Expr)(m:ME),vs[i]? =some e->ms[i]? =some m->SV d sc e m)->vs.length=ms.length->ks.length=vs.length->
  ∀(C:Cx)(A:NT)(f:List NC)(env:Env)(D:ar)(σ:aa)(fz:Fz)(s:Nc)(Q:List PV->aa->Prop)(X:QX)(pos:Pos),St C A f d sc env D σ fz s->mF d ms D σ Q X->
   Nt C.M A (evalPairs (pairTrees ks vs env pos)) (PK C f σ fz s (BD C.P c) Q) (PX C f σ fz s X) s:=by
 induction ks with
 |nil=>
  intro c vs ms K L E F C A f env D σ fz s Q X pos S w;injection K with z0;subst z0
  cases vs with
  |cons _ _=>exact aK (beq_iff_eq.mpr F)
  |nil=>
  cases ms with
  |cons _ _=>exact aK (beq_iff_eq.mpr E)
  |nil=>exact pairTrees_nil_walk (aY S.good ⟨.nil,.nil⟩ w)
 |cons k ks W=>
  intro c vs ms K L E F C A f env D σ fz s Q X pos S w;obtain⟨x,j,p,Y,rfl,O,rfl⟩:=kz K;cases vs with
  |nil=>exact aK (beq_iff_eq.mpr F)
  |cons v vs=>
  cases ms with
  |nil=>exact aK (beq_iff_eq.mpr E)
  |cons m ms=>
  have g0:GS C f σ fz s σ fz {s with toks:=s.toks+1}:= .keep S.good fun _ _ h=>h;refine pairTrees_cons_walk (UU ?_);refine Nq (L 0 v m rfl rfl C A f env D σ fz _ _ X (S.step g0) w) (fun a s₁ Z=>?_) fun _ _ z=>z.via g0;obtain⟨b,o,t,g1,r,q⟩:=Z;have g:=g0.trans g1;refine Nq (W Y vs ms O (fun i e m E F=>L (i+1) e m E F) (Pp E) (Pp F) C A f env D o t s₁ _ X pos (S.step g) q)
   (fun rs V z=>?_) fun _ _ z=>z.via g
  obtain⟨bs,u,y,l,n,H⟩:=z;exact⟨b::bs,u,y,g.trans l,⟨.cons (r.mono l.1.fzk) n.1,StrsAre.cons x s.toks n.2⟩,H⟩
theorem BE{P:Np}{fz:Fz}{ks:List (List Nat)}:∀{c:List PV}{r:List (M_×M_)},Ok (r.map (·.1)) (ks.map aq)->aL P fz c (r.map (·.2))->gd P fz (ks.zip c) (strPairs r)/\allStrKeys r=true/\(strPairs r).map (·.1)=ks.map aq:=by
 induction ks with
 |nil=>intro c r h _;cases r with
  |nil=>exact⟨.nil,rfl,rfl⟩
  |cons a r=>exact kT (fi h)
 |cons k ks g=>intro c r h h';cases r with
  |nil=>obtain⟨_,_,e,_⟩:=fi h;exact Bb e
  |cons a r=>
   apply bc;intro d;obtain⟨a,v⟩:=a;apply d;cases c with
   |nil=>exact kT h'.inv
   |cons b c=>
    apply bc;intro d;obtain⟨_,_,e,i,f⟩:=h'.inv;injection e with z0 z1;subst z0 z1
    obtain⟨_,_,e,h⟩:=fi h;injection e with z0 z1;subst z0 z1
    obtain⟨j,l,m⟩:=g h f;apply d;exact⟨.cons i j,l,Nw (aq k::·) m⟩
theorem u7{ks:List (Option Expr)}{c:List (List Nat)}{vs:List Expr}{ms:List ME}(x:keysOf ks=some c)(Z:∀(i:Nat)(e:Expr)(m:ME),vs[i]? =some e->ms[i]? =some m->SV d sc e m) (P:vs.length=ms.length) (v:ks.length=vs.length)
  (y:vs.length<=15) (D:∀k∈c,e' k) {pos:Pos}:SV d sc (.Dict ks vs pos) (.dct c ms):=by
 intro C A V env ρ σ fz s Q X S w;apply bc;intro r;obtain⟨t,W⟩:=pd x;apply r;by_cases h0:ks=[]
 .subst h0;injection x with z0;subst z0
  obtain rfl:=List.length_eq_zero_iff.mp v.symm;obtain rfl:=List.length_eq_zero_iff.mp P.symm;exact wpAny_Dict_empty (AA (k:=s.toks) S.good rfl (.dct (kvs:=[]) (es:=[]) (n:=0) (NP _) (fun _ h=>absurd h Nx) .nil .nil) w.2.2)
 .have f:=fresh s.heap;have E:∀b o,s.heap.get? b=some o->(s.heap.push P4).get? b=some o:=fun b o e=>Nm _ e;have g0:GS C V σ fz s σ fz {s with heap:=s.heap.push P4}:= .keep S.good E;refine wpAny_Dict_walk (knd:=PySem.strKind pw C.w) t v h0 (M7 (NJ v) y) ?_;refine Nq (sS ks c vs ms x Z P v C A V env ρ σ fz _ _ X pos (S.step g0) w) (fun rs s₁ zz=>?_) fun _ _ z=>z.via g0;apply bc;intro r;obtain⟨Y,l,j,g,⟨r1,r2⟩,q⟩:=zz;obtain⟨q1,q2,q3⟩:=q;obtain⟨k1,k2,k3⟩:=BE r2 r1;apply r;have p:(s.heap.push P4).get? s.heap.objs.size=some P4:=NI _ rfl;have fr:=S.good.free f;have hD:s₁.heap.get? s.heap.objs.size=some P4:=g.1.keep _ _ p fr.2.1 fr.2.2;have F:s₁.heap.DictOf (PySem.strKind pw C.w) s.heap.objs.size []:=⟨_,#[],0,hD,⟨rfl,rfl,rfl⟩,rfl,fun e he=>by simp at he,.nil,.nil⟩
  refine display_done_str (prog:=pw) (w:=C.w) k2 (by rw[k3];exact Qz _ (fun a b H q=>H (da q)) q2) F fun h' hm hs=>?_;have K:fa (c.zip Y):=by unfold fa;rw[List.length_zip];lia
  have so:∀kv∈c.zip Y,e' kv.1:=fun kv L=>D _ (QF L).1;apply bc;intro r;obtain⟨o,ho,M⟩:=k9 (C:=C) (fz:=j) hm k1 K so;apply r;have u:l s.heap.objs.size=none:=NS fun z=>(g.1.ledn _ z).elim (absurd fr.2.1) fun e=>aj (e.symm.trans p);have O:j s.heap.objs.size=none:=NS fun z=>(g.1.fzn _ z).elim (absurd fr.1) fun z=>z.elim (absurd fr.2.1) fun e=>aj (e.symm.trans p);exact⟨_,_,_,GS.adopt (s':={s₁ with heap:=h',toks:=s₁.toks+rs.length}) (g0.trans g) f u O fr.2.2 hs ho M,.ref _,q3 _ u⟩
end
set_option tactic.hygienic true
structure bY(I:NC)(FR:List NC)(σ:aa)(fz:Fz)(h:Om):Prop where
 s:σ I=none
 f:fz I=none
 r:I∉FR
 t:∃o,h.get? I=some o
theorem bY.step{C:Cx}{FR:List NC}{σ Z6:aa}{fz fz':Fz}{s s':Nc}{I:NC}(x:bY I FR σ fz s.heap)(g:GS C FR σ fz s Z6 fz' s'):bY I FR Z6 fz' s'.heap/\∀o,s.heap.get? I=some o->s'.heap.get? I=some o:=by
 obtain⟨o,ho⟩:=x.t;refine⟨⟨?_,?_,x.r,⟨o,g.1.keep _ o ho x.s x.r⟩⟩,fun o' ho'=>g.1.keep _ o' ho' x.s x.r⟩
 .cases z:Z6 I with
  |none=>rfl
  |some m=>
   rcases g.1.ledn _ (by rw[z];simp)with e|e
   .exact absurd x.s e
   .rw[ho]at e;exact bb e
 .cases z:fz' I with
  |none=>rfl
  |some m=>
   rcases g.1.fzn _ (by rw[z];simp)with e|e|e
   .exact absurd x.f e
   .exact absurd x.s e
   .rw[ho]at e;exact bb e
theorem bY.new{C:Cx}{σ:aa}{fz:Fz}{s:Nc}(G:aw C σ fz a s.heap){o:Obj}(b:o.isFreed=false):bY s.heap.objs.size a σ fz (s.heap.push o):=
 have f:=G.free (fresh s.heap)
 ⟨f.2.1,f.1,f.2.2,⟨o,NI _ b⟩⟩
theorem GS.touch{C:Cx}{σ a:aa}{fz c:Fz}{s s₁ s':Nc}(g:GS C k σ fz s a c s₁)(t:s.heap.get? D=none)(h0:σ D=none)(l:bY D k a c s₁.heap)(hs:∀b o,b≠D->s₁.heap.get? b=some o->s'.heap.get? b=some o)
 (u:s'.gens=s₁.gens:=by rfl) (m:s'.os=s₁.os:=by rfl):GS C k σ fz s a c s':=by
 have p:∀b o,s.heap.get? b=some o->b≠D:=fun b o h e=>by rw[e,t]at h;exact aj h
 refine⟨⟨g.1.fzk,fun b o h q r=>hs b o (p b o h) (g.1.keep b o h q r),fun b h o j=>?_,fun b h=>?_,g.1.ledn,g.1.fzn,u.trans g.1.gens,m.trans g.1.os⟩,
  g.2.base,fun b o h=>?_,fun b h=>?_,fun b v h=>?_⟩
 .apply bc;intro i;obtain⟨w,e⟩:=g.1.frk b h o j;apply i;exact⟨w,hs b _ (p b o j) e⟩
 .apply bc;intro i;obtain⟨o',e⟩:=g.1.lk b h;apply i;have q:b≠D:=fun z=>h (z▸h0);exact⟨o',hs b o' q e⟩
 .have q:b≠D:=fun e=>by rw[e,l.f]at h;exact aj h
  exact hs b o q (g.2.sub b o h)
 .apply bc;intro i;obtain⟨x,y,o',es,n,e,d⟩:=g.2.fr b h;apply i;have q:b≠D:=fun e=>l.r (e▸h);exact⟨x,y,o',es,n,hs b o' q e,d⟩
 .have q:b≠D:=fun e=>by rw[e,l.s]at h;exact aj h
  apply bc;intro i;obtain⟨x,o',e,r⟩:=g.2.led b v h;apply i;exact⟨x,o',hs b o' q e,r⟩
inductive MC(C:Cx)(A:NT)(fz:Fz)(Z8:List PV)(I:NC)(ZZ:Nat->Om->Prop):Prop
 |mk (fp:List NC) (P:Nat->M_->Prop) (w:Wa pw C.w A I fp [I] Z8.length P ZZ) (i:I∈fp) (f:∀b∈fp,b=I\/∃o,fz b=some o)
  (p:∀i v,i<Z8.length->P i v->∃pv,Z8[i]? =some pv/\∀(fz':Fz),(∀a o,fz a=some o->fz' a=some o)->VR C.P fz' pv v)
structure WK(C:Cx)(A:NT)(fz:Fz)(Z8:List PV)(I:NC)(ZZ:Nat->Om->Prop):Prop where
 w:MC C A fz Z8 I ZZ
 k:∀i h,ZZ i h->∃o n,h.get? I=some o/\o.cls= .type n/\n∈["list_iterator","tuple_iterator","range_iterator","str_ascii_iterator","str_iterator"]/\∀v,o.data≠.cell v
section
variable{C:Cx}{A:NT}{FR:List NC}{σ:aa}{fz:Fz}{s:Nc}{E:M_->Nc->Prop}
theorem WK.frame{c:List PV}{I:NC}{d:Nat->Om->Prop}(W:WK C A fz c I d){i:Nat}{h h':Om}(st:d i h)(g:∀o,h.get? I=some o->h'.get? I=some o)(j:∀a o,fz a=some o->h'.get? a=some o)(k:∀a o,fz a=some o->h.get? a=some o):d i h':=by
 obtain⟨fp,P,l,_,m,_⟩:=W.w;refine l.frame i h h' st fun b n o f=>?_;rcases m b n with rfl|⟨o',e⟩
 .exact g o f
 .have:=k b o' e;rw[f]at this;injection this with z0;subst z0
  exact j b o e
theorem WK.next{c:List PV}{I:NC}{d:Nat->Om->Prop}(W:WK C A fz c I d){fz':Fz}(h:∀a o,fz a=some o->fz' a=some o){i:Nat}(st:d i s.heap)(hi:i<c.length){Q:Option M_->Nc->Prop}
  (j:∀v pv h' tk,c[i]? =some pv->VR C.P fz' pv v->d (i+1) h'->(∀b o,b≠I->s.heap.get? b=some o->h'.get? b=some o)->Q (some v) {s with heap:=h',toks:=tk}):Nt C.M A (SF (.ref I)) Q E s:=by
 apply bc;intro e;obtain⟨fp,P,k,_,_,l⟩:=W.w;apply e;refine k.item i s Q E hi st fun v h' tk m f n=>?_;apply bc;intro e;obtain⟨pv,g,p⟩:=l i v hi m;apply e;exact j v pv h' tk g (p fz' h) f fun b o q=>n b o (by simpa using q)
theorem WK.done{a:List PV}{I:NC}{c:Nat->Om->Prop}(W:WK C A fz a I c)(st:c a.length s.heap){Q:Option M_->Nc->Prop}
  (d:∀h' tk,(∀b o,b≠I->s.heap.get? b=some o->h'.get? b=some o)->Q none {s with heap:=h',toks:=tk}):Nt C.M A (SF (.ref I)) Q E s:=by
 apply bc;intro e;obtain⟨fp,P,f,_,_,i⟩:=W.w;apply e;exact f.done s Q E st fun h' tk g=>d h' tk fun b o h=>g b o (by simpa using h)
theorem WK.self{a:List PV}{I:NC}{b:Nat->Om->Prop}(W:WK C A fz a I b){i:Nat}(st:b i s.heap){Q:M_->Nc->Prop}(c:Q (.ref I) s):Nt C.M A (Sd (.ref I)) Q E s:=by apply bc;intro d;obtain⟨fp,P,e,_,_,f⟩:=W.w;apply d;exact e.self i s Q E st c
inductive yp(C:Cx)(A:NT)(FR:List NC)(σ:aa)(fz:Fz)(s:Nc)(Z8:List PV)(it:M_)(s':Nc):Prop
 |mk (I:NC) (ZZ:Nat->Om->Prop) (e:it= .ref I) (h:s.heap.get? I=none) (g:GS C FR σ fz s σ fz s') (o:bY I FR σ fz s'.heap) (w:WK C A fz Z8 I ZZ) (st:ZZ 0 s'.heap)
noncomputable abbrev yq:List String:=["list_iterator","tuple_iterator","range_iterator","str_ascii_iterator","str_iterator"]
theorem yr{I:NC}{h:Om}{n:String}{d:Data}(st:∃o,h.get? I=some o/\o.cls= .type n/\o.data=d)(f:n∈yq)(g:∀v,d≠.cell v):∃o n,h.get? I=some o/\o.cls= .type n/\n∈yq/\∀v,o.data≠.cell v:=by obtain⟨o,a,b,c⟩:=st;exact⟨o,n,a,b,f,fun v e=>g v (c.symm.trans e)⟩
theorem qC(G:aw C σ fz FR s.heap){c:Nat->Om->Prop}{o:Obj}(d:o.isFreed=false)(W:WK C A fz a s.heap.objs.size c)(st:c 0 (s.heap.push o)):yp C A FR σ fz s a (.ref s.heap.objs.size) {s with heap:=s.heap.push o}:=
 ⟨_,c,rfl,fresh s.heap,.keep G (fun b o e=>Nm _ e),bY.new G d,W,st⟩
theorem u8{a I:NC}{ob:Obj}{e:List PV}{ws:List M_}{c:Nat->Om->Prop}(j:fz a=some ob)(g:aL C.P fz e ws)(W:Wa pw C.w A I [I,a] [I] ws.toArray.size (fun i v=>ws.toArray[i]? =some v) c)
  (k:∀i h,c i h->∃o n,h.get? I=some o/\o.cls= .type n/\n∈yq/\∀v,o.data≠.cell v):WK C A fz e I c:=by
 have l:ws.toArray.size=e.length:=g.length;refine⟨⟨[I,a],fun i v=>ws.toArray[i]? =some v,l▸W,Ng,fun b f=>?_,fun i v d m=>?_⟩,k⟩
 .exact(List.mem_cons.mp f).elim .inl fun f=> .inr ⟨_,List.mem_singleton.mp f▸j⟩
 .obtain⟨q,p,r⟩:=g.get (NA d);obtain rfl:=Nh (p.symm.trans (List.getElem?_toArray.symm.trans m));exact⟨_,NA d,fun fz' s=>r.mono s⟩
theorem u9{t:List Nat}(g:e' t){I:NC}{e:Nat->Om->Prop}(W:Wa pw C.w A I [I] [I] (⟨t.toArray⟩:Str).cps.size (SignAt ⟨t.toArray⟩) e)
  (j:∀i h,e i h->∃o n,h.get? I=some o/\o.cls= .type n/\n∈yq/\∀v,o.data≠.cell v):WK C A fz (t.map fun c=> .str [c]) I e:=by
 refine⟨⟨[I],_,(by simpa using W),Ng,fun b k=> .inl (List.mem_singleton.mp k),fun i v _ l=>?_⟩,j⟩;obtain⟨c,u,f,rfl⟩:=l;have a:t[i]? =some c:=by simpa using f
 refine⟨.str [c],by rw[Oy,a];rfl,fun fz' _=> .str [c] u ⟨by simp,fun d m=>?_⟩⟩;obtain rfl:=List.mem_singleton.mp m;exact g.2 _ (Oq a)
theorem u_(G:aw C σ fz FR s.heap)(hh:A.handled=none){pv:PV}{v:M_}(j:VR C.P fz pv v){b:List PV}(hi:ua pv=some b){Q:M_->Nc->Prop}(g:∀l s',yp C A FR σ fz s b l s'->Q l s'):Nt C.M A (Sd v) Q E s:=by
 cases pv with
 |str t=>
  obtain rfl:=Nh hi;obtain⟨tk,rfl,c⟩:=j.inv;cases d:(⟨t.toArray⟩:Str).cps.all (·<128)
  .exact wpAny_pyIter_wide d (g _ _ (qC G rfl (u9 c (Walks.strWide hh _ _ tk) fun i h st=>yr st (by decide) fun v e=>Qr e) ⟨_,NI _ rfl,rfl,rfl⟩))
  .exact wpAny_pyIter_ascii d (g _ _ (qC G rfl (u9 c (Walks.strAscii hh _ _ tk) fun i h st=>yr st (by decide) fun v e=>Qr e) ⟨_,NI _ rfl,rfl,rfl⟩))
 |tup m=>
  obtain rfl:=Nh hi;obtain⟨a,ws,n,rfl,d,o,k⟩:=j.inv;have f:=G.sub _ _ d;have c:s.heap.IsTuple a ws.toArray:=⟨_,f,rfl,_,rfl⟩
  exact UT c (g _ _ (qC G rfl (u8 d k (Walks.tuple hh _ a (N4 (Oo f)) ws.toArray) fun i h st=>yr st.1 (by decide) fun v e=>Qr e) ⟨⟨_,NI _ rfl,rfl,rfl⟩,c.push _⟩))
 |lst m=>
  obtain rfl:=Nh hi;obtain⟨a,ws,n,rfl,d,o,k⟩:=j.inv;have f:=G.sub _ _ d;have c:s.heap.IsList a ws.toArray:=⟨_,f,rfl,_,rfl⟩
  exact U_ c (g _ _ (qC G rfl (u8 d k (Walks.list hh _ a (N4 (Oo f)) ws.toArray) fun i h st=>yr st.1 (by decide) fun v e=>Qr e) ⟨⟨_,NI _ rfl,rfl,rfl⟩,c.push _⟩))
 |_=>exact aj hi
theorem sT(G:aw C σ fz FR s.heap)(hh:A.handled=none){r:NC}{n:Int}{t u v:Tok}(q:n<=1048576)(c: -(2^62)<=n)(j:IsRange s.heap r 0 n 1 t u v){Q:M_->Nc->Prop}
  (k:∀f s',yp C A FR σ fz s ((OM n.toNat).map fun(i:Nat)=>PV.int i) f s'->Q f s'):Nt C.M A (Sd (.ref r)) Q E s:=by
 refine wpAny_pyIter_range j (small_one (by decide) (by decide) c (by lia)) ?_;have d:Builtin.Range.rangeSize 0 n 1=(n.toNat:Int):=by rw[rangeSize_one];split<;>lia
 have g:((OM n.toNat).map fun(i:Nat)=>PV.int i).length=n.toNat:=by simp
 have W:WK C A fz ((OM n.toNat).map fun(i:Nat)=>PV.int i) s.heap.objs.size (fun i h=>IsRangeIter h s.heap.objs.size (0+(i:Nat)*1) ((n.toNat:Int)-(i:Nat)) 1):=by
  refine⟨⟨[s.heap.objs.size],fun i v=>∃t,v= .int (0+i*1) t,?_,by simp,fun b l=> .inl (by simpa using l),fun i v a m=>?_⟩,fun i h st=>⟨_,_,st,rfl,by decide,fun v e=>by cases e⟩⟩
  .rw[g];exact Walks.range (prog:=pw) (w:=C.w) hh s.heap.objs.size 0 1 n.toNat
  .obtain⟨t,rfl⟩:=m;rw[g]at a;refine⟨.int i,by simp[a],fun fz' _=>?_⟩;have:(0+(i:Int)*1)=(i:Int):=by simp
   rw[this];exact .int ..
 refine k _ _ ⟨s.heap.objs.size,_,rfl,fresh s.heap,.keep G (fun b o e=>Nm _ e),bY.new G rfl,W,?_⟩;have p:(0+((0:Nat):Int)*1)=0:=by simp
 show Heap.get? _ _=_;rw[p,show((n.toNat:Int)-((0:Nat):Int))=Builtin.Range.rangeSize 0 n 1 from by rw[d];simp];exact NI _ rfl
end
noncomputable def SI(d:Nat)(i:NR)(e:Expr)(m:ME):Prop:=∀(C:Cx)(A:NT)(f:List NC)(env:Env)(g:ar)(σ:aa)(fz:Fz)(s:Nc)(Q:List PV->aa->Prop)(X:QX)(K:M_->Nc->Prop)(E:M_->Nc->Prop),
 St C A f d i env g σ fz s->Er d m g σ Q X->(∀e s',PX C f σ fz s X e s'->E e s')->
 (∀h b a c fz' s₁,GS C f σ fz s c fz' s₁->yp C A f c fz' s₁ a h b->Q a c->K h b)->Nt C.M A (Q2 e env) (fun x s₁=>Nt C.M A (Sd x) K E s₁) E s
section
variable{d:Nat}{sc:NR}{ml:List Nat}{n:Nat}
theorem BF(i:SV d sc e m):SI d sc e (.itm m):=by intro C A j env k σ fz s Q X K E S w n o;refine Nq (i C A j env k σ fz s _ X S w) (fun v s₁ p=>?_) fun e s' h=>n e s' h;obtain⟨pv,a,c,g,r,l,t,q⟩:=p;exact u_ g.2 S.fit.hand r t fun u f b=>o u f l a c s₁ g b q
theorem BG:rU v=some l->∃i,v= .int i/\(-(2^62)<=i/\i<=1048576)/\l=(OM i.toNat).map fun(i:Nat)=>PV.int i:=
 PV.casesOn (motive_1:=fun v=>rU v=some l->∃i,v= .int i/\(-(2^62)<=i/\i<=1048576)/\l=(OM i.toNat).map fun(i:Nat)=>PV.int i) v aj (fun _=>aj) (fun i h=>by refine fA h fun a b=>?_;exact⟨i,rfl,a,(Nh b).symm⟩) (fun _=>aj) (fun _=>aj) (fun _=>aj) (fun _ _=>aj) (fun _=>aj) fun _ _=>aj
theorem BH(k:(x==("range":Str))=true)(y:bW sc x=true)(z:bq ml n sc .v e=some m)(D:SV d sc e m):SI d sc (.Call (.Name x p) [e] [] pos) (.rng m):=by intro C A r env F σ fz s Q X K E S w H L;have k:=beq_iff_eq.mp k;subst k;apply bc;intro g;obtain⟨b1,b2,_⟩:=qt C.P;apply g;refine PA (fj S (bj y) b1 b2 ?_ (by decide+kernel));rw[eP z];refine Q3 (P:=fun _=>True) rfl (fun h _=>⟨.machine,.inr (.inl rfl),Pm rfl⟩) ?_;refine PL (Pw (Nq (D C A r env F σ fz s _ X S w) (fun v s₁ M=>?_) fun e s' h=>H e s' h));apply bc;intro g;obtain⟨pv,a,c,f,O,l,V,q⟩:=M;apply g;refine Rb ⟨trivial,?_⟩;apply bc;intro g;obtain⟨i,rfl,hi,rfl⟩:=BG V;obtain⟨t,rfl⟩:=O.inv;apply g;apply call_range_1;have u:GS C r a c s₁ a c {s₁ with heap:=s₁.heap.push {cls:= .type "range",data:= .fields #[.int 0 s₁.toks,.int i t,.int 1 (s₁.toks+1)]},toks:=s₁.toks+1+1}:= .keep f.2 fun b o e=>Nm _ e;exact sT u.2 S.fit.hand hi.2 hi.1 (NI _ rfl) fun W j b=>L W j _ a c _ (f.trans u) b q
end
section
variable{C:Cx}{A:NT}{FR:List NC}{σ:aa}{fz:Fz}{s:Nc}{E:M_->Nc->Prop}{env:Env}{ρ:ar}{sc:NR}
structure LS(env:Env)(s s':Nc):Prop where
 keep:∀b o,b≠env.locals->s.heap.get? b=some o->s'.heap.get? b=some o
 dict:∃o es n,s'.heap.get? env.locals=some o/\o.data= .dict es n
 gens:s'.gens=s.gens
 os:s'.os=s.os
theorem va{l:List (Str×Oj)}(f:(l.map (·.1)).Nodup){i j:Nat}{a b:Str}{k g:Oj}(hi:l[i]? =some (a,k)) (m:l[j]? =some (b,g)) (c:i≠j):a≠b:=by
 intro e;subst e;have n:(l.map (·.1))[i]? =some a:=by rw[Oy,hi];rfl
 have o:(l.map (·.1))[j]? =some a:=by rw[Oy,m];rfl
 obtain⟨a1,d⟩:=List.getElem?_eq_some_iff.mp n;obtain⟨b1,b2⟩:=List.getElem?_eq_some_iff.mp o;have pw:=List.pairwise_iff_getElem.mp f;rcases Nat.lt_or_gt_of_ne c with h|h
 .exact pw i j a1 b1 h (d.trans b2.symm)
 .exact pw j i b1 a1 h (b2.trans d.symm)
theorem dc(x:LR C FR env ρ σ fz s.heap)(f:env.scope=sc)(F:HI sc){i:Nat}{n:Str}(hi:sc.names[i]? =some (n,.local)) {pv:PV} {v:M_} (z:VR C.P fz pv v) {Q:Unit->Nc->Prop}
  (D:∀s',LS env s s'->LR C FR env (ρ.set i (some pv)) σ fz s'.heap->Q () s'):Nt C.M A (storeName env n v) Q E s:=by
 apply bc;intro g;obtain⟨⟨m,H,K⟩,L,O,V,W⟩:=x;apply g;have X:env.scope.kind= .function:=by rw[f];exact F.kind
 have Y:env.kindOf n=some .local:=by unfold PB;rw[f];exact aO F.nd hi
 refine wpAny_storeName_local Y H (fun h' k l=>D _ ⟨fun b o Z e=>(l.2 b Z).trans e,?_,rfl,rfl⟩ ⟨⟨_,k,fun j w d=>?_⟩,L,O,V,fun hf j n' d p=>?_⟩) (by rw[X];rfl)
 .apply bc;intro g;obtain⟨o,es,ep,ho,hd,_⟩:=k;apply g;exact⟨o,es,ep,ho,hd⟩
 .by_cases e:j=i
  .subst e;have h:j<ρ.length:=by
    have:=(List.getElem?_eq_some_iff.mp d).1
    simpa using this
   have:pv=w:=by rw[Qm h]at d;simpa using d
   subst this;exact⟨n,.local,by rw[f];exact hi,.inl ⟨rfl,v,by simp,z⟩⟩
  .rw[RY (NZ e)]at d;apply bc;intro g;obtain⟨t,k1,q,r⟩:=K j w d;apply g;refine⟨t,k1,q,r.imp (fun⟨a,y,b,c⟩=>⟨a,y,?_,c⟩) id⟩;have:t≠n:=by rw[f]at q;exact va F.nd q hi e
   simp[this,b]
 .by_cases e:j=i
  .subst e;have h:j<ρ.length:=by
    have:=(List.getElem?_eq_some_iff.mp d).1
    simpa using this
   rw[Qm h]at d;cases d
  .rw[RY (NZ e)]at d;apply bc;intro g;obtain⟨c,q,⟨o,r,h3⟩,h4,h5,h6,u⟩:=W hf j n' d p;apply g;exact⟨c,q,⟨o,(l.2 c u).trans r,h3⟩,h4,h5,h6,u⟩
theorem LS.trans{s₁ c:Nc}(a:LS env s s₁)(b:LS env s₁ c):LS env s c:=⟨fun x o h e=>b.keep x o h (a.keep x o h e),b.dict,b.gens.trans a.gens,b.os.trans a.os⟩
theorem LR.keep{h':Om}(x:LR C FR env ρ σ fz s.heap)(d:∀b o,s.heap.get? b=some o->h'.get? b=some o):LR C FR env ρ σ fz h':=by obtain⟨⟨m,e,f⟩,g,h,i,k⟩:=x;exact⟨⟨m,e.keeps d,f⟩,g,h,i,fun l j n p a=>by obtain⟨c,q,⟨o,t,u⟩,r⟩:=k l j n p a;exact⟨c,q,⟨o,d _ _ t,u⟩,r⟩⟩
theorem m'{b a:ar}{i:Nat}{c:List Nat}{vs:List PV}(h:xz b (i::c) vs=some a):∃v r,vs=v::r/\xz (b.set i (some v)) c r=some a:=by
 cases vs with
 |nil=>exact aj h
 |cons v r=>exact⟨v,r,rfl,h⟩
theorem qD(h:xz b [] vs=some a):vs=[]/\a=b:=by
 cases vs with
 |nil=>exact⟨rfl,(Nh h).symm⟩
 |cons v r=>exact aj h
theorem sU(g:env.scope=sc)(F:HI sc)(es:List Expr):∀(d:List Nat)(a:List PV)(vs:List M_)(f b:ar)(s:Nc),dh (kk sc) es=some d->xz f d a=some b->aL C.P fz a vs->LR C FR env f σ fz s.heap->(∃o es n,s.heap.get? env.locals=some o/\o.data= .dict es n)->
  Nt C.M A (assignInOrder ((TF es env).map (·.2)) vs) (fun _ s'=>LS env s s'/\LR C FR env b σ fz s'.heap) E s:=by
 induction es with
 |nil=>
  intro d a vs f b s i c q x r;injection i with z0;subst z0
  apply bc;intro k;obtain⟨rfl,rfl⟩:=qD c;apply k;exact Nl ⟨⟨fun _ _ _ h=>h,r,rfl,rfl⟩,x⟩
 |cons e es w=>intro d a vs f b s i c q x r;apply bc;intro k;refine uq i fun j l y D H=>?_;subst H;obtain⟨nm,ps,rfl,_,K⟩:=ji y;obtain⟨pv,a,rfl,c⟩:=m' c;obtain⟨v,vs,rfl,m,p⟩:=q.inv;apply k;refine M8 (OG (SO (dc x g F K m fun s₁ t L=>?_)));exact Nq (w l a vs _ b s₁ D c p L t.dict) (fun _ u z=>⟨t.trans z.1,z.2⟩) fun _ _ z=>z
theorem jx(es:List Expr)(env:Env):(TF es env).length=es.length:=by
 induction es with
 |nil=>rfl
 |cons e es a=>cases e<;>exact Nw (·+1) a
theorem fm{b c:Type}{f:b->Option c}{l:List b}:∀{r:List c},dh f l=some r->r.length=l.length:=by
 induction l with
 |nil=>intro r h;injection h with z0;subst z0;rfl
 |cons a l d=>intro r h;refine uq h fun m ms _ e g=>?_;subst g;exact Nw (·+1) (d e)
theorem yu{b:List Nat}:∀{vs:List PV}{c a:ar},xz c b vs=some a->b.length=vs.length:=by
 induction b with
 |nil=>intro vs c a h;obtain rfl:=(qD h).1;rfl
 |cons i b d=>intro vs c a h;obtain⟨v,r,rfl,h⟩:=m' h;exact Nw (·+1) (d h)
theorem vb{c b:ar}{a:List Nat}(hi:2<=a.length){v:PV}(h:oM c a v=some b):∃vs,v= .tup vs/\xz c a vs=some b:=by
 cases a with
 |nil=>cases hi
 |cons i a=>
  cases a with
  |nil=>exact absurd hi (T3 1)
  |cons j a=>cases v<;>first|exact aj h|exact⟨_,rfl,h⟩
theorem j8{b:NR}(c:dh (kk b) es=some a)(env:Env):(TF es env).findIdx? (·.1)=none:=by
 induction es generalizing a with
 |nil=>rfl
 |cons e es d=>apply bc;intro f;refine uq c fun j g h i _=>?_;obtain⟨nm,ps,rfl,_,k⟩:=ji h;apply f;show List.findIdx? (·.1) ((false,_)::TF es env)=none;rw[Ud,d i];rfl
theorem lx(S:St C A FR d sc env ρ σ fz s){t:Expr}{n:List Nat}(f:dM sc t=some n){pv:PV}{v:M_}(u:VR C.P fz pv v){g:ar}(w:oM ρ n pv=some g):
  Nt C.M A (V9 t env v) (fun _ s'=>LS env s s'/\LR C FR env g σ fz s'.heap) E s:=by
 have F:=ko S.ok;cases t
 case Name x p=>
  apply bc;intro h;refine cq f fun i K L=>?_;subst L;obtain⟨nm,ps,e,_,l⟩:=ji K;apply h;injection e with z0 z1;subst z0 z1
  injection w with z0;subst z0
  exact SO (dc S.lr S.scE F l u fun s' a b=>⟨a,b⟩)
 case Tuple es k p=>
  apply bc;intro h;refine fA (show(if 2<=es.length then dh (kk sc) es else none)=some n from f) fun O f=>?_;have c:=fm f;obtain⟨vs,rfl,j⟩:=vb (c▸O) w;obtain⟨a,ws,nn,rfl,Q,V,y⟩:=u.inv;apply h;refine wpAny_assign_Tuple S.fit.hand (⟨_,S.good.sub _ _ Q,rfl,_,rfl⟩:s.heap.IsTuple a ws.toArray) (by rw[jx,←c,yu j];exact y.length.symm) (j8 f env) fun h' W=>?_;have l:∀b o,s.heap.get? b=some o->h'.get? b=some o:=fun b o e=>W b o (N4 (Oo e)) e;have D:=S.lr.keep l;apply bc;intro h;obtain⟨m,⟨o,q,X,r,Y,_⟩,_⟩:=D.ns;apply h;exact Nq (sU S.scE F es _ _ ws ρ g {s with heap:=h'} f j y D ⟨o,q,X,r,Y⟩) (fun _ H z=>⟨⟨fun b o Z e=>z.1.keep b o Z (l b o e),z.1.dict,z.1.gens,z.1.os⟩,z.2⟩) fun _ _ z=>z
 all_goals exact aj f
end
set_option tactic.hygienic false
theorem GS.adoptF{C:Cx}{σ d:aa}{fz c:Fz}{s s₁:Nc}(g:GS C i σ fz s d c s₁)(l:s.heap.get? D=none)(j:bY D i d c s₁.heap){o:Obj}(n:s₁.heap.get? D=some o):
  GS C i σ fz s d (c.ext D o) s₁:=by
 have ex:∀b o',c b=some o'->c.ext D o b=some o':=fun b o' h=>by
  have:b≠D:=fun e=>by rw[e,j.f]at h;exact aj h
  simp[Fz.ext,this,h]
 refine⟨⟨fun a o h=>ex a o (g.1.fzk a o h),g.1.keep,g.1.frk,g.1.lk,g.1.ledn,fun b h=>?_,g.1.gens,g.1.os⟩,fun b o' h=>ex b o' (g.2.base b o' h),fun b o' h=>?_,fun b h=>?_,fun b m h=>?_⟩
 .by_cases e:b=D
  .exact .inr (.inr (e▸l))
  .simp only[Fz.ext,e,RO]at h;exact g.1.fzn b h
 .by_cases e:b=D
  .subst e;simp[Fz.ext]at h;subst h;exact n
  .simp only[Fz.ext,e,RO]at h;exact g.2.sub b o' h
 .apply bc;intro k;obtain⟨x,y,r⟩:=g.2.fr b h;apply k;have e:b≠D:=fun e=>j.r (e▸h);exact⟨by simp[Fz.ext,e,x],y,r⟩
 .apply bc;intro k;obtain⟨x,o',p,q⟩:=g.2.led b m h;apply k;have e:b≠D:=fun e=>by rw[e,j.s]at h;exact aj h
  exact⟨by simp[Fz.ext,e,x],o',p,q.mono ex⟩
section
variable{C:Cx}{A:NT}{FR:List NC}{σ:aa}{fz:Fz}{s:Nc}{E:M_->Nc->Prop}{env:Env}{ρ:ar}{sc:NR}{d:Nat}{ml:List Nat}{n:Nat}
theorem nf{a:M_->Nc->Prop}{s':Nc}(h:PX C FR σ fz s (fun _ _=>False) e s'):a e s':=by obtain⟨_,_,_,_,_,h⟩:=h;exact h.elim
theorem ng(l:List Expr){K:Bool->Nc->Prop}(k:K false s):Nt C.M A (forIn l false fun c r=>if r=true then do let a ←isTrue c env (Q2 c env);OJ (OR a)else OJ (OR r)) K E s:=by
 induction l with
 |nil=>exact Nl k
 |cons x l b=>rw[SN];exact M8 (Nl b)
theorem sV(f:List Expr):∀(ms:List ME)(_:∀(i:Nat)(e:Expr)(m:ME),f[i]? =some e->ms[i]? =some m->ST d sc e m) (_:f.length=ms.length) {l:ar} {σ:aa} {fz:Fz} {s:Nc} {Q:Bool->aa->Prop}
  (S:St C A FR d sc env l σ fz s) (w:jc d ms l σ Q (fun _ _=>False)) (b:Bool),(b=false->Q false σ)->
  Nt C.M A (forIn f b fun c r=>if r=true then do let v ←isTrue c env (Q2 c env);OJ (OR v)else OJ (OR r)) (PK C FR σ fz s sd (fun r n=>if b=true then Q r n else Q false n)) E s:=by
 induction f with
 |nil=>
  intro ms o a l σ fz s Q S w b p;cases ms with
  |cons _ _=>exact aK (beq_iff_eq.mpr a)
  |nil=>
  refine Nl (aY S.good rfl ?_);cases b with
  |true=>exact w
  |false=>exact p rfl
 |cons c cs x=>
  intro ms o a l σ fz s Q S w b p;cases ms with
  |nil=>exact aK (beq_iff_eq.mpr a)
  |cons m ms=>
  cases b with
  |false=>exact ng (c::cs) (aY S.good (b:=false) rfl (p rfl))
  |true=>
   rw[SN];refine M8 (M8 (Nq (o 0 c m rfl rfl C A FR env l σ fz s _ _ S w) (fun t s₁ y=>?_) fun _ _ z=>nf z));obtain⟨D,j,k,g,rfl,q⟩:=y;apply Nl;cases D with
   |true=>exact Nq (x ms (fun i=>o (i+1)) (Pp a) (S.step g) q true df) (fun r u h=>h.via g) fun _ _ z=>z
   |false=>exact ng cs ⟨false,j,k,g,rfl,q⟩
theorem ly{prog:Px}{w:OY}{R:Sf->Nc->Prop}{l a iter:Expr}{o:List Expr}{scope:NR}{pos:Pos}{C acc:M_}{env:Env}(I:Nat->Nc->Prop)
  (q:∀n s,I n s->Nt (Ob prog w) A (SF C) (fun r s₁=>match r with
   |none=>R (.ok .next) s₁
   |some v=>Nt (Ob prog w) A (Q8 a C v) (fun _ b=>Nt (Ob prog w) A (V9 a env v) (fun _ f=>
     Nt (Ob prog w) A (forIn o true fun c r=>if r=true then do let t ←isTrue c env (Q2 c env);OJ (OR t)else OJ (OR r)) (fun t d=>
      if t=true then Nt (Ob prog w) A (Q2 l env) (fun x g=>
       Nt (Ob prog w) A (P6 (.builtin "list.append") [acc,x]) (fun _ i=>∃m,m<n/\I m i) (SW (Ob prog w) A env fun e s'=>R (.error e) s') g) (SW (Ob prog w) A env fun e s'=>R (.error e) s') d
      else ∃m,m<n/\I m d) (SW (Ob prog w) A env fun e s'=>R (.error e) s') f) (SW (Ob prog w) A env fun e s'=>R (.error e) s') b) (SW (Ob prog w) A env fun e s'=>R (.error e) s') s₁) (SW (Ob prog w) A env fun e s'=>R (.error e) s') s)
  (n:Nat) (h:I n s):P5 (Ob prog w) A (.compLoop (.ListComp l [⟨a,iter,o,0⟩] scope pos) 0 C acc env) R s:=by
 refine codeAny_loop rfl I (fun n s D=>?_) n h;show Nt _ A ((compTurn (.ListComp l [⟨a,iter,o,0⟩] scope pos) 0 C acc env).onRaise (fun x=>do Sj x env;theTreesLotGoes x)) _ _ s;apply wpAny_noted;rw[compTurn_list];refine M8 (O6 (M8 (Nq (q n s D) (fun r s₁ j=>?_) fun _ _ h'=>h')));cases r with
 |none=>exact Nl j
 |some v=>
  refine M8 (Nq j (fun _ b p=>?_) fun _ _ h'=>h');refine M8 (Nq p (fun _ f u=>M8 (Nq u (fun t d k=>?_) fun _ _ h'=>h')) fun _ _ h'=>h');cases t with
  |false=>exact Nl ⟨rfl,k⟩
  |true=>exact M8 (M8 (Nq k (fun x g y=>M8 (Nq y (fun _ i z=>Nl (Nl ⟨rfl,z⟩)) fun _ _ h'=>h')) fun _ _ h'=>h'))
theorem sW(t:Expr)(a v:M_):Q8 t a v=OJ ()\/Q8 t a v=Q8 (.List [] default) a v:=by cases t<;>first|exact .inl rfl|exact .inr rfl
theorem BJ(a:nm∈["list_iterator","tuple_iterator","range_iterator","str_ascii_iterator","str_iterator"]):(["enumerate","zip","dict_itemiterator","dict_reverseitemiterator","odict_iterator","itertools.zip_longest","itertools.pairwise"].contains nm)=false:=
 (show ∀nm∈["list_iterator","tuple_iterator","range_iterator","str_ascii_iterator","str_iterator"],(["enumerate","zip","dict_itemiterator","dict_reverseitemiterator","odict_iterator","itertools.zip_longest","itertools.pairwise"].contains nm)=false by decide+kernel) nm a
theorem vc{Z8:List PV}{I:NC}{ZZ:Nat->Om->Prop}(W:WK C A fz Z8 I ZZ){i:Nat}(st:ZZ i s.heap){t:Expr}{v:M_}{Q:Unit->Nc->Prop}(hQ:Q () s):Nt C.M A (Q8 t (.ref I) v) Q E s:=by
 obtain⟨o,nm,ho,hc,hm,_⟩:=W.k i s.heap st;rcases sW t (.ref I) v with e|e
 .rw[e];exact Nl hQ
 .rw[e];cases v with
  |ref a=>
   refine M8 (wpAny_load ho ?_);rw[hc];generalize o.data=dd;cases dd with
   |fields vs=>exact Q1 (Na (by rw[BJ hm];exact Ps)) hQ
   |_=>exact Nl hQ
  |_=>exact Nl hQ
noncomputable def j9(cells:List (Str×NC)):List (Str×Oj)->List (Str×NC)->List (Str×NC)
 |[],acc=>acc
 |(n,k)::r,acc=>j9 cells r (if k== .free then(match cells.lookup n with|some c=>(n,c)::acc|none=>acc)else acc)
theorem fo(cells:List (Str×NC))(n:Str)(k:Oj)(r:List (Str×Oj))(acc:List (Str×NC)):j9 cells ((n,k)::r) acc=j9 cells r (if k== .free then(match cells.lookup n with|some c=>(n,c)::acc|none=>acc)else acc):=rfl
theorem pf(isc:NR)(h:∀n,(n,PU)∈isc.names->(env.cells.lookup n).isSome=true):closureFor isc env=OJ (j9 env.cells isc.names []):=by
 have d:∀(l:List (Str×Oj))(acc:List (Str×NC)),(∀n,(n,PU)∈l->(env.cells.lookup n).isSome=true)->
   (forIn l acc fun(x:Str×Oj) r=>if x.2== .free then(do let a ←V8 env x.1;OJ (OR ((x.1,a)::r)))else OJ (OR r):Sem (List (Str×NC)))=OJ (j9 env.cells l acc):=by
  intro l;induction l with
  |nil=>intro acc _;rfl
  |cons a l g=>
   intro acc i;obtain⟨nm,k⟩:=a;rw[SN];have b:=fun n m=>i n (Ni _ m);cases f:k==PU with
   |true=>
    obtain rfl:=beq_iff_eq.mp f;refine DO (i nm Ng) fun c j=>?_;have o:V8 env nm=OJ c:=by unfold V8;rw[j]
    rw[Nd rfl,o,pure_bind,pure_bind];refine(g _ b).trans ?_;rw[fo,Nd f,j]
   |false=>rw[Na Ps,pure_bind];refine(g _ b).trans ?_;rw[fo,Na (by rw[f];exact Ps)]
 have e:closureFor isc env=(forIn isc.names [] (fun(x:Str×Oj) r=>if x.2== .free then(do let a ←V8 env x.1;OJ (OR ((x.1,a)::r)))else OJ (OR r):Str×Oj->List (Str×NC)->Sem (ForInStep (List (Str×NC))))>>=fun r=>OJ r):=rfl;rw[e,d isc.names [] h];rfl
theorem h8{cells:List (Str×NC)}:∀(l:List (Str×Oj))(acc:List (Str×NC))(nm:Str)(c:NC),(l.map (·.1)).Nodup->(nm,PU)∈l->cells.lookup nm=some c->(j9 cells l acc).lookup nm=some c:=by
 have d:∀(l:List (Str×Oj))(acc:List (Str×NC))(nm:Str),nm∉l.map (·.1)->(j9 cells l acc).lookup nm=acc.lookup nm:=by
  intro l;induction l with
  |nil=>intro acc nm _;rfl
  |cons a l f=>
   intro acc nm b;obtain⟨i,k⟩:=a;simp only[NU,Rk,not_or]at b;rw[fo,f _ nm b.2];cases k==PU with
   |false=>rfl
   |true=>
    cases cells.lookup i with
    |none=>rfl
    |some c=>exact(ON ..).trans (by rw[beq_eq_false_iff_ne.mpr b.1])
 intro l;induction l with
 |nil=>intro acc nm c _ h;cases h
 |cons a l f=>
  intro acc nm c g b j;obtain⟨i,k⟩:=a;rw[NU,Pj]at g;rcases List.mem_cons.mp b with e|b
  .injection e with z0 z1;subst z0 z1
   rw[fo,d l _ nm g.1,j];exact(ON ..).trans (by rw[ND])
  .exact f _ nm c g.2 b j
theorem sX{a:NR}{x:Str×Oj}{j:Nat}(h:xS a x=some (some j)):x.2= .free/\a.names[j]? =some (x.1,.cell):=by
 obtain⟨nm,k⟩:=x;cases k
 case free=>
  refine bF h fun i hi h=>?_;refine fA h fun b c=>?_;cases c;exact⟨rfl,beq_iff_eq.mp b⟩
 all_goals first|exact aj h|exact aj (Nh h)
theorem yv{d:NR}:∀{c:List (Option Nat)},dh (xS d) names=some c->∀(i:Nat)(j:Nat),c[i]? =some (some j)->∃n,names[i]? =some (n,.free)/\d.names[j]? =some (n,.cell):=by
 induction names with
 |nil=>intro c h i j e;injection h with z0;subst z0;exact aj e
 |cons x r f=>
  intro c h i j e;refine uq h fun m ms g k l=>?_;subst l;cases i with
  |succ i=>exact f k i j e
  |zero=>
   obtain rfl:=(Nh e)
   obtain⟨a,b⟩:=sX g;exact⟨x.1,by rw[←a];rfl,b⟩
theorem vd{b:NR}:∀{a:List (Option Nat)},dh (xS b) names=some a->∀(n:Str),(n,PU)∈names->∃j:Nat,b.names[j]? =some (n,OC):=by
 induction names with
 |nil=>intro a h n c;cases c
 |cons x r f=>
  intro a h n c;apply bc;intro d;refine uq h fun m ms e g k=>?_;subst k;apply d;rcases List.mem_cons.mp c with rfl|c
  .apply bc;intro d;refine bF e fun i hi e=>?_;apply d;exact⟨i,beq_iff_eq.mp (ld e).1⟩
  .exact f g n c
theorem yw(hs:env.scope=sc)(a:sc.kind= .function)(isc:NR):relabel isc env=bX sc isc:=by
 unfold relabel bX
 congr 1
 apply OX;intro x b;obtain⟨nm,k⟩:=x;unfold PB;rw[hs,a];rfl
structure CL(C:Cx)(A:NT)(FR:List NC)(d:Nat)(ZF:NR)(Z3:Env)(Z8:List PV)(I D:NC)(ZZ:Nat->Om->Prop)(ZI:Fz)(ZO:aa)(ZH:Fz)(s0:Nc)(i:Nat)(ρ:ar)(acc:List PV)(σ:aa)(fz:Fz)(s:Nc):Prop where
 g:GS C FR ZO ZH s0 σ fz s
 st:St C A FR d ZF Z3 ρ σ fz s
 sta:ZZ i s.heap
 fzk:∀a o,ZI a=some o->fz a=some o
 oI:bY I FR σ fz s.heap
 oD:bY D FR σ fz s.heap
 oL:bY Z3.locals FR σ fz s.heap
 ac:∃ws n,s.heap.get? D=some (bH "list" ws.toArray n)/\aL C.P fz acc ws
 la:fa acc
theorem CL.step{j:NR}{c:Env}{b:List PV}{I D:NC}{e:Nat->Om->Prop}{f:Fz}{k:aa}{l:Fz}{s0:Nc}{i:Nat}{p:ar}{acc:List PV}{σ m:aa}{fz fz':Fz}{s s':Nc}
  (W:WK C A f b I e) (x:CL C A FR d j c b I D e f k l s0 i p acc σ fz s) (g:GS C FR σ fz s m fz' s'):CL C A FR d j c b I D e f k l s0 i p acc m fz' s':=by
 apply bc;intro q;obtain⟨r,t⟩:=x.oI.step g;obtain⟨u,v⟩:=x.oD.step g;obtain⟨w,E⟩:=x.oL.step g;obtain⟨ws,n,y,z⟩:=x.ac;apply q;exact⟨x.g.trans g,x.st.step g,W.frame x.sta t (fun a o h=>g.2.sub a o (g.1.fzk a o (x.fzk a o h))) (fun a o h=>x.st.good.sub a o (x.fzk a o h)),fun a o h=>g.1.fzk a o (x.fzk a o h),r,u,w,⟨ws,n,v _ y,z.mono g.1.fzk⟩,x.la⟩
theorem LR.but{I:NC}{h':Om}(x:LR C FR env ρ σ fz s.heap)(f:I≠env.locals)(a:env.func=none\/∀o v,s.heap.get? I=some o->o.data≠.cell v)(h:∀b o,b≠I->s.heap.get? b=some o->h'.get? b=some o):LR C FR env ρ σ fz h':=by
 apply bc;intro g;obtain⟨⟨m,n,p⟩,q,t,u,w⟩:=x;apply g;refine⟨⟨m,n.extBut h (NZ f),p⟩,q,t,u,fun i j y z d=>?_⟩;apply bc;intro g;obtain⟨c,A,⟨o,k,l⟩,r⟩:=w i j y z d;apply g;refine⟨c,A,⟨o,h _ _ (fun e=>?_) k,l⟩,r⟩;rcases a with a|a
 .exact i a
 .exact a o _ (e▸k) l
noncomputable def cB(d:Nat)(f:List ME)(g:ME):ar->aa->(Option PV->aa->Prop)->Prop:=fun c e K=>jc d f c e (fun h a=>match h with
    |true=>cR d g c a (fun v b=>K (some v) b) (fun _ _=>False)
    |false=>K Option.none a) (fun _ _=>False)
section
variable{ZF:NR}{Z3:Env}{Z8:List PV}{I D:NC}{ZZ:Nat->Om->Prop}{ZI:Fz}{ZO:aa}{ZH:Fz}{s0:Nc}{i:Nat}{acc:List PV}
inductive HR(C:Cx)(A:NT)(FR:List NC)(d:Nat)(ZF:NR)(Z3:Env)(Z8:List PV)(I D:NC)(ZZ:Nat->Om->Prop)(ZI:Fz)(ZO:aa)(ZH:Fz)(s0:Nc)(mi:List ME)(me:ME)(is:List Nat)(Qf:List PV->aa->Prop)(k:Nat)(s':Nc):Prop
 |mk (i:Nat) (ρ:ar) (acc:List PV) (σ:aa) (fz:Fz) (e:k=Z8.length+1-i) (hi:i<=Z8.length) (x:CL C A FR d ZF Z3 Z8 I D ZZ ZI ZO ZH s0 i ρ acc σ fz s') (w:dK (cB d mi me) is (Z8.drop i) ρ acc σ Qf)
theorem yx(hi:i<=n):n+1-(i+1)<n+1-i:=by rw[TW,Vx hi];exact NX _
theorem CL.mv(W:WK C A ZI Z8 I ZZ)(x:CL C A FR d ZF Z3 Z8 I D ZZ ZI ZO ZH s0 i ρ acc σ fz s)(h0:s0.heap.get? I=none/\ZO I=none)(e:I≠D)(h:I≠Z3.locals)(p:Z3.func=none){a:Om}
 (j:ZZ (i+1) a) (l:∀b o,b≠I->s.heap.get? b=some o->a.get? b=some o):CL C A FR d ZF Z3 Z8 I D ZZ ZI ZO ZH s0 (i+1) ρ acc σ fz {s with heap:=a,toks:=tk}:=by
 have c:GS C FR ZO ZH s0 σ fz {s with heap:=a,toks:=tk}:=x.g.touch h0.1 h0.2 x.oI l;apply bc;intro q;obtain⟨o,_,u,_⟩:=W.k _ _ j;obtain⟨y,v⟩:=x.oL.t;obtain⟨ws,w,n,m⟩:=x.ac;apply q;exact⟨c,⟨x.st.fit,x.st.scE,x.st.gl,x.st.bi,x.st.ok,c.2,LR.but x.st.lr h (.inl p) l⟩,j,x.fzk,⟨x.oI.s,x.oI.f,x.oI.r,⟨o,u⟩⟩,⟨x.oD.s,x.oD.f,x.oD.r,⟨_,l _ _ (NZ e) n⟩⟩,
  ⟨x.oL.s,x.oL.f,x.oL.r,⟨_,l _ _ (NZ h) v⟩⟩,⟨ws,w,l _ _ (NZ e) n,m⟩,x.la⟩
theorem CL.laid(W:WK C A ZI Z8 I ZZ)(x:CL C A FR d ZF Z3 Z8 I D ZZ ZI ZO ZH s0 i ρ acc σ fz s)(h0:s0.heap.get? Z3.locals=none/\ZO Z3.locals=none)(j:I≠Z3.locals)(k:D≠Z3.locals){b:Nc}
 (z:LS Z3 s b/\LR C FR Z3 l σ fz b.heap):CL C A FR d ZF Z3 Z8 I D ZZ ZI ZO ZH s0 i l acc σ fz b:=by
 have e:=z.1;have c:GS C FR ZO ZH s0 σ fz b:=x.g.touch h0.1 h0.2 x.oL e.keep e.gens e.os;apply bc;intro q;obtain⟨v,n⟩:=x.oI.t;obtain⟨o,_,_,h,_⟩:=e.dict;obtain⟨ws,u,p,m⟩:=x.ac;apply q;exact⟨c,⟨x.st.fit,x.st.scE,x.st.gl,x.st.bi,x.st.ok,c.2,z.2⟩,W.frame x.sta (fun o h=>e.keep _ _ j h) (fun a o h=>c.2.sub a o (x.fzk a o h)) fun a o h=>x.g.2.sub a o (x.fzk a o h),x.fzk,⟨x.oI.s,x.oI.f,x.oI.r,⟨_,e.keep _ _ j n⟩⟩,
  ⟨x.oD.s,x.oD.f,x.oD.r,⟨_,e.keep _ _ k p⟩⟩,⟨x.oL.s,x.oL.f,x.oL.r,⟨o,h⟩⟩,⟨ws,u,e.keep _ _ k p,m⟩,x.la⟩
theorem CL.push(W:WK C A ZI Z8 I ZZ)(x:CL C A FR d ZF Z3 Z8 I D ZZ ZI ZO ZH s0 i ρ acc σ fz s)(h0:s0.heap.get? D=none/\ZO D=none)(l:I≠D)(p:D≠Z3.locals)(E:Z3.func=none){y:M_}{z:PV}(F:VR C.P fz z y)
  {ws:List M_} {n:Nat} (H:s.heap.get? D=some (bH "list" ws.toArray n)) (q:aL C.P fz acc ws) (K:acc.length<1048576):CL C A FR d ZF Z3 Z8 I D ZZ ZI ZO ZH s0 i ρ (acc++[z]) σ fz {s with heap:=s.heap.update D (Pa fun x=>x.push y)}:=by
 apply bc;intro u;obtain⟨m,e⟩:∃L,Pa (fun x=>x.push y) (bH "list" ws.toArray n)=bH "list" (ws++[y]).toArray L:=⟨_,by unfold Pa;simp;rfl⟩
 apply u;have h:(s.heap.update D (Pa fun x=>x.push y)).get? D=some (bH "list" (ws++[y]).toArray m):=by rw[←e];exact N0 _ H (by rw[e];rfl)
 have c:∀b o,b≠D->s.heap.get? b=some o->(s.heap.update D (Pa fun x=>x.push y)).get? b=some o:=fun b o M k=>by rw[N3 _ _ (NZ M)];exact k
 have j:GS C FR ZO ZH s0 σ fz {s with heap:=s.heap.update D (Pa fun x=>x.push y)}:=x.g.touch h0.1 h0.2 x.oD c;apply bc;intro u;obtain⟨O,v⟩:=x.oI.t;obtain⟨Q,w⟩:=x.oL.t;apply u;exact⟨j,⟨x.st.fit,x.st.scE,x.st.gl,x.st.bi,x.st.ok,j.2,LR.but x.st.lr p (.inl E) c⟩,W.frame x.sta (fun o k=>c _ _ l k) (fun a o k=>j.2.sub a o (x.fzk a o k)) (fun a o k=>x.g.2.sub a o (x.fzk a o k)),x.fzk,
  ⟨x.oI.s,x.oI.f,x.oI.r,⟨_,c _ _ l v⟩⟩,⟨x.oD.s,x.oD.f,x.oD.r,⟨_,h⟩⟩,⟨x.oL.s,x.oL.f,x.oL.r,⟨_,c _ _ (NZ p) w⟩⟩,⟨ws++[y],m,h,q.append (.cons F .nil)⟩,by
   unfold fa;rw[M9];exact M7 (Nat.succ_le_of_lt K) (by decide)⟩
theorem sY(W:WK C A ZI Z8 I ZZ)
  {a5 a6 iter:Expr} {E:List Expr} {isc:NR} {pos:Pos} {is:List Nat} {me:ME} {mi:List ME} (ht:dM ZF a5=some is) (ie:SV d ZF a6 me)
  (ii:∀(i:Nat)(e:Expr)(m:ME),E[i]? =some e->mi[i]? =some m->ST d ZF e m) (a8:E.length=mi.length) (hf:Z3.func=none)
  (H:I≠D) (K:I≠Z3.locals) (a9:D≠Z3.locals) (h0:∀a,a=I\/a=D\/a=Z3.locals->s0.heap.get? a=none/\ZO a=none)
  {Qf:List PV->aa->Prop} {R:Sf->Nc->Prop}
  (hR:∀acc σ fz s',GS C FR ZO ZH s0 σ fz s'->bY D FR σ fz s'.heap->bY Z3.locals FR σ fz s'.heap->(∃m,s'.heap.Ns Z3.locals m)->(∃ws n,s'.heap.get? D=some (bH "list" ws.toArray n)/\aL C.P fz acc ws)->fa acc->Qf acc σ->R (.ok .next) s')
  (x:CL C A FR d ZF Z3 Z8 I D ZZ ZI ZO ZH s0 i ρ acc σ fz s) (hi:i<=Z8.length)
  (w:dK (cB d mi me) is (Z8.drop i) ρ acc σ Qf):
  P5 C.M A (.compLoop (.ListComp a6 [⟨a5,iter,E,0⟩] isc pos) 0 (.ref I) (.ref D) Z3) R s:=by
 refine ly (HR C A FR d ZF Z3 Z8 I D ZZ ZI ZO ZH s0 mi me is Qf) ?_ (Z8.length+1-i) ⟨i,ρ,acc,σ,fz,rfl,hi,x,w⟩;clear w x hi;intro k s z;cases z with
 |mk i ρ acc σ fz e hi x w=>
 subst e;by_cases h:i<Z8.length
 .rw[OZ h]at w;apply bc;intro X;obtain⟨Y,L,b6,w⟩:=w;apply X;refine W.next (fz':=fz) x.fzk x.sta h fun v pv c8 tk Z rv a0 O=>?_;rw[NA h]at Z;have j:=x.mv W (h0 I (.inl rfl)) H K hf (tk:=tk) a0 O;clear O x hR;refine vc W (i:=i+1) a0 (Nq (lx j.st ht rv (by rw[←Nh Z];exact L)) (fun _ d3 zz=>?_) fun _ _ z=>z);have l:=j.laid W (h0 _ (.inr (.inr rfl))) K a9 zz;refine Nq (sV E mi ii a8 l.st w true (fun e=>aK (beq_iff_eq.mpr e))) (fun ok b7 zz=>?_) fun _ _ z=>z;apply bc;intro X;obtain⟨pt,o,p,Q,rt,q⟩:=zz;apply X;have u:=l.step W Q;have lt:=yx hi;clear zz l j Q rv Z L a0;have e:pt=ok:=rt;subst e;cases pt with
  |false=>exact⟨Z8.length+1-(i+1),lt,i+1,Y,acc,o,p,rfl,h,u,q⟩
  |true=>refine Nq (ie C A FR Z3 Y o p b7 _ _ u.st q) (fun y d6 zz=>?_) fun _ _ z=>nf z;apply bc;intro X;obtain⟨py,a1,a2,b8,ry,b9⟩:=zz;have V:=u.step W b8;obtain⟨a3,c0,c,b⟩:=V.ac;apply X;exact R3 PySem.F.slot_list_append ⟨_,c,rfl⟩ PySem.F.entry_list_append (PySem.F.args_list_append_2 _ _) (list_append D a3.toArray c0 y (eS (M7 (NJ b.length) (NW b6)))) ⟨c,Z8.length+1-(i+1),lt,i+1,Y,acc++[py],a1,a2,rfl,h,V.push W (h0 D (.inr (.inl rfl))) H a9 hf ry c b b6,b9⟩
 .obtain rfl:=QO hi (Nat.not_lt.mp h);rw[Rr]at w;refine W.done x.sta fun h' tk O=>?_;apply bc;intro X;obtain⟨m,hm,_⟩:=x.st.lr.ns;obtain⟨oL,hL⟩:=x.oL.t;obtain⟨ws,nD,hD,c1⟩:=x.ac;apply X;exact hR acc σ fz _ (x.g.touch (h0 I (.inl rfl)).1 (h0 I (.inl rfl)).2 x.oI O) ⟨x.oD.s,x.oD.f,x.oD.r,⟨_,O _ _ (NZ H) hD⟩⟩ ⟨x.oL.s,x.oL.f,x.oL.r,⟨_,O _ _ (NZ K) hL⟩⟩ ⟨m,hm.extBut O (NZ K)⟩ ⟨ws,nD,O _ _ (NZ H) hD,c1⟩ x.la w
end
end
section
variable{C:Cx}{A:NT}{FR:List NC}{σ:aa}{fz:Fz}{s:Nc}{E:M_->Nc->Prop}{env:Env}{ρ:ar}{sc:NR}{d:Nat}{ml:List Nat}{n:Nat}
theorem pg{a isc:NR}{i:Nat}{nm:Str}(h:isc.names[i]? =some (nm,.free)) (b:a.names.lookup nm=some .cell):(bX a isc).names[i]? =some (nm,.cell):=by unfold bX;simp only[Oy,h,Um];simp[b]
theorem kA(S:St C A FR d sc env ρ σ fz s){ZK Zm iter:Expr}{ifs:List Expr}{isc:NR}{pos p:Pos}{is:List Nat}{me mt:ME}{mi:List ME}{Zp:List (Option Nat)}
  (Zl:SI d sc iter mt) (hset:∀(env:Env)x,PT iter env x=OJ x)
  (ht:dM (bX sc isc) ZK=some is) (ie:SV d (bX sc isc) Zm me) (ii:∀(i:Nat)(e:Expr)(m:ME),ifs[i]? =some e->mi[i]? =some m->ST d (bX sc isc) e m) (ZT:ifs.length=mi.length)
  (Zh:kl sc isc=some Zp) (Z0:bB isc=true) (hok':bB (bX sc isc)=true) (hnc:∀x∈isc.names,x.2≠.cell)
  {Qf:List PV->aa->Prop} {X:QX} {use:Option (M_->Sem Unit)} {Q:M_->Nc->Prop}
  (w:Er d mt ρ σ (fun Z8 Z_=>dK (fun ZY Z6 K=>jc d mi ZY Z6 (fun ok σ''=>match ok with
    |true=>cR d me ZY σ'' (fun v ZD=>K (some v) ZD) (fun _ _=>False)
    |false=>K Option.none σ'') (fun _ _=>False)) is Z8 (Zp.map fun o=>o.bind fun i=>(ρ[i]?).join) [] Z_ Qf) X)
  (hE:∀e s',PX C FR σ fz s X e s'->E e s')
  (hfin:∀D L' acc Z6 fz' s',s.heap.get? D=none->s.heap.get? L'=none->D≠L'->GS C FR σ fz s Z6 fz' s'->bY D FR Z6 fz' s'.heap->bY L' FR Z6 fz' s'.heap->(∃m,s'.heap.Ns L' m)->(∃ws n,s'.heap.get? D=some (bH "list" ws.toArray n)/\aL C.P fz' acc ws)->fa acc->Qf acc Z6->
   V7 C.M A E use Q (.ref D) L' (.ok .next) s'):
  Nt C.M A (Wi (.ListComp Zm [⟨ZK,iter,ifs,0⟩] isc pos) isc env p (Wq []) false (Q2 iter env) use) Q E s:=by
 have Fs:=ko S.ok;have Fi:=ko Z0;have Fr:=ko hok';unfold kl at Zh;have hfree:∀nm,(nm,PU)∈isc.names->(env.cells.lookup nm).isSome=true:=fun nm hm=>by apply bc;intro qK;obtain⟨j,hj⟩:=vd Zh nm hm;apply qK;exact S.lr.cl j nm (by rw[S.scE];exact hj)
 refine wpAny_comprehension_free rfl (hset env) (pf isc hfree) Fi.kind (fun x hx hl=>by
  apply bc;intro qK;obtain⟨nm,k⟩:=x;obtain⟨i,hi⟩:=List.getElem?_of_mem hx;apply qK;dsimp only at hl;subst hl;exact aO Fi.nd hi) ?_
 refine Zl C A FR env ρ σ fz s _ X _ _ S w hE fun it Z4 Z8 Z_ Z9 s₁ Zt born w₁=>?_;apply bc;intro qK;obtain⟨I,ZZ,rfl,hI1,gI,oI,W,sta⟩:=born;apply qK;have ZS:=Zt.trans gI;refine Po ?_ (by size_fits);refine wpAny_newFunctionEnv hnc (by intro y hy;simp at hy) (fun ZA hns hsb=>?_) Fi.kind;have hrel:=yw (env:=env) S.scE Fs.kind isc;rw[hrel];generalize hD:Z4.heap.objs.size=D at *;generalize hH3:Z4.heap.push {cls:= .type "list",dict:=none,data:= .seq ([]:List M_).toArray}=H3 at *;have hL:H3.objs.size=D+1:=by rw[←hH3,PO,hD]
 rw[hL]at hns hsb⊢;have k3:∀b o,Z4.heap.get? b=some o->H3.get? b=some o:=fun b o e=>hH3▸Nm _ e;have lt2:∀b o,Z4.heap.get? b=some o->b<D:=fun b o e=>hD▸Oo e;have k4:∀b o,Z4.heap.get? b=some o->ZA.get? b=some o:=fun b o e=>hsb.extBut b o (N4 (PG (lt2 b o e))) (Nm _ (k3 b o e));have hDo:ZA.get? D=some (bH "list" ([]:List M_).toArray 0):=by refine hsb.extBut D _ (N4 (NX _)) (Nm _ ?_);rw[←hH3,←hD];exact NI _ rfl
 have n2:∀a,D<=a->Z4.heap.get? a=none:=fun a ha=>by
  cases e:Z4.heap.get? a with
  |none=>rfl
  |some o=>exact absurd (lt2 a o e) (Nat.not_lt.mpr ha)
 have Zs:=ZS.2;have fD:=Zs.free (n2 D (Nj _));have fL:=Zs.free (n2 (D+1) (Oi _));have n0:∀a,D<=a->s.heap.get? a=none/\σ a=none:=fun a ha=>by have h:=ZS.1.gone (n2 a ha);exact⟨h,(S.good.free h).2.1⟩
 have hI0:s.heap.get? I=none/\σ I=none:=by have h:=Zt.1.gone hI1;exact⟨h,(S.good.free h).2.1⟩
 apply bc;intro qK;obtain⟨oi,hoi⟩:=oI.t;apply qK;have hIlt:I<D:=lt2 I oi hoi;have Zx:GS C FR σ fz s Z_ Z9 {Z4 with heap:=ZA,toks:=Z4.toks+0}:=ZS.trans (.keep Zs k4);have hLo:∃o,ZA.get? (D+1)=some o:=by obtain⟨o,_,_,ho,_⟩:=hns;exact⟨o,ho⟩
 have lr:LR C FR {newEnv isc (D+1) env.globals (j9 env.cells isc.names []) env.qual none .none (some env) 0 with scope:=bX sc isc} (Zp.map fun o=>o.bind fun i=>(ρ[i]?).join) Z_ Z9 ZA:=by
  refine⟨⟨_,hns,fun i v hv=>?_⟩,fun i nm hi=>?_,fL.2.1,fL.1,fun hf=>absurd rfl hf⟩
  .simp only[Oy,Qg]at hv;apply bc;intro qK;obtain⟨o,ho,hv⟩:=hv;apply qK;cases o with
   |none=>simp at hv
   |some j=>
    apply bc;intro qK;obtain⟨nm,h1,h2⟩:=yv Zh i j ho;apply qK;simp only[PM]at hv;have hρ:ρ[j]? =some (some v):=by
     cases q:ρ[j]? with
     |none=>rw[q]at hv;simp at hv
     |some o=>rw[q]at hv;simp at hv;rw[hv]
    apply bc;intro qK;obtain⟨m,_,hvs⟩:=S.lr.ns;obtain⟨n',k',e1,e2⟩:=hvs j v hρ;apply qK;rw[S.scE,h2]at e1;cases e1;rcases e2 with⟨e,_⟩|⟨_,c,o,y,c1,c2,c3,c4⟩
    .cases e
    .refine⟨nm,.cell,pg h1 (aO Fs.nd h2),.inr ⟨.inl rfl,c,o,y,?_,Zx.1.fzk _ _ c2,c3,c4.mono Zx.1.fzk⟩⟩;exact h8 isc.names [] nm c Fi.nd (Oq h1) c1
  .have hi:(bX sc isc).names[i]? =some (nm,.cell):=hi;unfold bX at hi;simp only[Oy,Qg]at hi;apply bc;intro qK;obtain⟨⟨n',k'⟩,h1,h2⟩:=hi;apply qK;have hm:=Oq h1;dsimp only at h2;split at h2
   .rename_i hc;simp only[S1,and_true]at h2;subst h2;simp only[U7,N1,Qn]at hc;apply bc;intro qK;obtain⟨hk,_⟩:=hc;subst hk;refine DO (hfree n' hm) fun c hc=>?_;apply qK;show(Vz n' (j9 env.cells isc.names [])).isSome=true;rw[h8 isc.names [] n' c Fi.nd hm hc];rfl
   .simp only[S1]at h2;apply bc;intro qK;obtain⟨rfl,rfl⟩:=h2;apply qK;exact absurd rfl (hnc _ hm)
 have W':WK C A Z9 Z8 I ZZ:=W;have x:CL C A FR d (bX sc isc) {newEnv isc (D+1) env.globals (j9 env.cells isc.names []) env.qual none .none (some env) 0 with scope:=bX sc isc} Z8 I D ZZ Z9 σ fz s 0 (Zp.map fun o=>o.bind fun i=>(ρ[i]?).join) [] Z_ Z9 {Z4 with heap:=ZA,toks:=Z4.toks+0}:=
  ⟨Zx,⟨S.fit,rfl,S.gl,S.bi,hok',Zx.2,lr⟩,W.frame sta (fun o ho=>k4 _ _ ho) (fun a o ho=>Zx.2.sub a o ho) (fun a o ho=>Zs.sub a o ho),fun _ _ h=>h,
   ⟨oI.s,oI.f,oI.r,⟨oi,k4 _ _ hoi⟩⟩,⟨fD.2.1,fD.1,fD.2.2,⟨_,hDo⟩⟩,⟨fL.2.1,fL.1,fL.2.2,hLo⟩,⟨[],0,hDo,.nil⟩,by unfold fa;simp⟩
 have loop:=sY (iter:=iter) (isc:=isc) (pos:=pos) (R:=V7 C.M A E use Q (.ref D) (D+1)) W ht ie ii ZT rfl (N4 hIlt) (N4 (PG hIlt)) (N4 (NX _))
  (fun a ha=>by
   rcases ha with rfl|rfl|rfl
   .exact hI0
   .exact n0 _ (Nj _)
   .exact n0 _ (Oi _))
  (fun acc Z6 fz' s' g oD oL hn hD' hl hq=>hfin D (D+1) acc Z6 fz' s' (n0 _ (Nj _)).1 (n0 _ (Oi _)).1 (N4 (NX _)) g oD oL hn hD' hl hq)
  x (NP _) (by rw[RZ];exact w₁)
 exact codeAny_compStart_list loop (W.self x.sta loop)
theorem ve{p q iter:Expr}{l:List Expr}{isc:NR}{pos:Pos}{Z:List Nat}{me mt:ME}{K:List ME}{t:List (Option Nat)}{fr:Bool}
  (L:SI d sc iter mt) (u:∀(env:Env)x,PT iter env x=OJ x)
  (ht:dM (bX sc isc) p=some Z) (ie:SV d (bX sc isc) q me) (ii:∀(i:Nat)(e:Expr)(m:ME),l[i]? =some e->K[i]? =some m->ST d (bX sc isc) e m) (v:l.length=K.length)
  (y:kl sc isc=some t) (M:bB isc=true) (z:bB (bX sc isc)=true) (O:∀x∈isc.names,x.2≠.cell):
  SV d sc (.ListComp q [⟨p,iter,l,0⟩] isc pos) (.comp fr t Z me mt K):=by
 intro C A P env ρ σ fz s Q X S w;rw[eval_ListComp];refine kA (E:=PX C P σ fz s X) (X:=X) S L u ht ie ii v y M z O w (fun _ _ h=>h) fun D L' acc n fz' s' F H V g j oL hn hD hl hq=>?_;apply bc;intro qK;obtain⟨m,hm⟩:=hn;obtain⟨ws,n',W,hv⟩:=hD;apply qK;refine⟨m,hm,fun h' hs=>?_⟩;have f0:=S.good.free H;have k:GS C P σ fz s n fz' {s' with heap:=h'}:=g.touch H f0.2.1 oL fun b o hb e=>(hs.2 b hb).trans e;have c:h'.get? D=some (bH "list" ws.toArray n'):=(hs.2 D V).trans W;have Y:bY D P n fz' h':=⟨j.s,j.f,j.r,⟨_,c⟩⟩
 cases fr with
 |true=>
  have ga:=GS.adoptF (s₁:={s' with heap:=h'}) k F Y c;exact⟨_,n,_,ga,.lst (Nd rfl) hl (hv.mono fun a o h=>by
   have:a≠D:=fun e=>by rw[e,j.f]at h;exact aj h
   simp[Fz.ext,this,h]),hq⟩
 |false=>exact⟨_,_,_,GS.adopt (s₁:={s' with heap:=h'}) (s':={s' with heap:=h'}) k F j.s j.f j.r (.refl _ _) c (.lst hl hv),.ref _,hq D j.s⟩
end
set_option tactic.hygienic true
section
variable{d:Nat}{sc:NR}{ml:List Nat}{n:Nat}
theorem iQ{c d:Type}{f:c->Option d}{l:List c}:∀{r:List d},dh f l=some r->∀(i:Nat)(a:c)(b:d),l[i]? =some a->r[i]? =some b->f a=some b:=by
 induction l with
 |nil=>intro r _ i a b;exact aj
 |cons x l j=>
  intro r h i a b e g;refine uq h fun m ms k n o=>?_;subst o;cases i with
  |zero=>injection e with z0;subst z0;injection g with z0;subst z0;exact k
  |succ i=>exact j n i a b e g
theorem HS(P:Np):((OB (gj P) "set").isNone&&OB (qs P) "set"==some (.type "set"))=true:=by kernel_rfl
theorem BK:((NH "set")==("__debug__":Str))=false:=by decide+kernel
theorem jy(k:Str):aq k.cps.toList=k:=rfl
theorem sZ(ss:List (List Nat)):(∀y:List Nat,y∈((ss.map aq).foldl bC []).map (·.cps.toList)↔y∈ss)/\(((ss.map aq).foldl bC []).map (·.cps.toList)).map aq=(ss.map aq).foldl bC []/\(((ss.map aq).foldl bC []).map (·.cps.toList)).Nodup/\(((ss.map aq).foldl bC []).map (·.cps.toList)).length<=ss.length:=by
 refine⟨fun y=>⟨fun h=>?_,fun d=>List.mem_map.mpr ⟨aq y,(kt ..).mpr (.inr (List.mem_map.mpr ⟨y,d,rfl⟩)),rfl⟩⟩,?_,?_,?_⟩
 .refine i_ h fun i c e=>?_;subst e;rcases(kt ..).mp c with c|c
  .cases c
  .refine i_ c fun y d e=>?_;subst e;exact d
 .rw[Ox];exact RU _
 .exact Qz _ (fun a b f q=>f (by rw[←jy a,←jy b,q])) (mW (ss.map aq) [] .nil)
 .have g:=kr (ss.map aq) [];rw[Oa,Nb,N7]at g;rw[Nb];exact g
theorem nh(iv:∀e m,bq ml n sc .v e=some m->SV d sc e m)(hg:bW sc "sorted"=true)(L:bW sc "set"=true)(ht:bq ml n sc .v z=some m):
  SV d sc (.Call (.Name "sorted" p) [.Call (.Name "set" p') [z] [] u] [] pos) (.calB .sortset [m]):=by
 intro C A FR env ρ σ fz s Q X S w;have w:mF d [m] ρ σ (fun vs c=>GK .sortset vs c Q) X:=w;have y:dh (bq ml n sc .v) [z]=some [m]:=by show(bq ml n sc .v z).bind _=_;rw[ht];rfl
 apply bc;intro D;obtain⟨h1,h2⟩:=iP (n:="sorted") (b:= .sorted) (by decide+kernel) C.P;apply D;have O:=HS C.P;rw[N1,PP,Qn]at O;refine PA (fj S (bj hg) h1 h2 ?_ (by decide+kernel));refine Q3 (P:=fun _=>True) rfl (fun h _=>⟨.machine,.inr (.inl rfl),Pm rfl⟩) ?_;refine PL (Pw (PA (fj S (bj L) O.1 O.2 ?_ BK)));refine Q3 (P:=(KA C.P).In) (by rw[dw _ _ y u env];rfl) dE.of_type.keep ?_;refine Nq (jv y (dk iv [z] [m] y) (f:= .type "set") S w) (fun a s₁ z=>?_) fun _ _ z=>z;apply bc;intro D;obtain⟨vs,c,l,g,⟨r,rk⟩,q⟩:=z;apply D;refine⟨Bq g.2,?_⟩;rw[rk];show Nt C.M A (P6 (.type "set") ([]++a.pos)) _ _ s₁;generalize a.pos=ap at r;have q:(match cG vs with|some v=>Bg .sortset v c Q|none=>BI.sortset= .divmod/\_):=q;cases V:cG vs with
 |none=>rw[V]at q;cases q.1
 |some v=>rw[V]at q;obtain rfl:=aS V;apply bc;intro D;obtain⟨x,rfl,rv⟩:=uR r;refine fb q fun us hu q1=>?_;refine fb q1 fun ss W y0=>?_;obtain⟨E,hq⟩:=y0;obtain rfl:=du hu;obtain⟨_,_,_,rfl,Y,c2,hv⟩:=rv.inv;obtain⟨st,so⟩:=eR hv W;apply D;refine j1 S.fit.hand ⟨_,g.2.sub _ _ Y,rfl,_,rfl⟩ st (by rw[Nb];exact M7 (NW E) (by decide)) fun F o es ep t k i=>?_;refine Rb ⟨trivial,?_⟩;have gk:GS C FR c l s₁ c l F:= .keep g.2 k.keep k.gens k.os;have g2:=g.trans gk;refine fT g2 ?_;apply bc;intro D;obtain⟨H,K,nd,dl⟩:=sZ ss;apply D;refine Nq (kx (ss:=((ss.map aq).foldl bC []).map (·.cps.toList)) g2.2 S.fit.hand (fun x hx=>so x ((H x).mp hx)) ⟨Nf dl E,fun j hp hs=>hq j (fun x=>hp.mem_iff.trans (H x)) (hp.nodup_iff.mpr nd) hs⟩ fun B E' Q' hB Z=>?_) (fun _ _ z=>z) fun _ _ z=>z;exact hZ (.inr rfl) ⟨_,i.at_,i.ex.1⟩ (rO:=fun keys=>∃j,Ok keys j/\j.Perm ((ss.map aq).foldl bC [])) (fun a2 c9 d3 k3 a0=>uQ (A:=B.in1) hB {i with at_:=k3.keep _ _ i.at_} a0) fun s' keys k' z=>by obtain⟨j,e1,e2⟩:=z;exact Z s' keys k' ⟨j,e1,by rw[K];exact e2⟩
theorem ni{md:Md}{e:Expr}{m:ME}(h:bq ml n sc .i e=some m)(env:Env)(x:M_):PT e env x=OJ x:=by
 cases n with
 |zero=>exact aj h
 |succ n=>
  cases e
  case Set=>
   refine cq (show(bq ml n sc .v (.Set ..)).map .itm=some m from h) fun a b _=>?_;cases n<;>exact aj b
  all_goals rfl
theorem EP{a:List (List Nat)}(h:(a.all fun k=>oQ ⟨k.toArray⟩)=true):∀k∈a,e' k:=by intro k b;have:=List.all_eq_true.mp h k b;unfold oQ at this;simp only[N1,OD,Rt]at this;exact⟨by simpa using this.1,fun c d=>this.2 c (by simpa using d)⟩
theorem AF{c d e:Type}{a:Option c}{b:Option d}{f:c->d->e}{m:e}(h:(a.bind fun x=>b.map fun y=>f x y)=some m):∃x y,a=some x/\b=some y/\m=f x y:=by apply bc;intro g;refine bF h fun x i h=>?_;refine cq h fun y j h=>?_;apply g;exact⟨x,y,i,j,h.symm⟩
theorem yy{d e g i:Type}{a:Option d}{b:Option e}{c:Option i}{f:d->e->i->g}{m:g}(h:(a.bind fun x=>b.bind fun y=>c.map fun z=>f x y z)=some m):∃x y z,a=some x/\b=some y/\c=some z/\m=f x y z:=by apply bc;intro j;refine bF h fun x k h=>?_;obtain⟨y,z,l,n,h⟩:=AF h;apply j;exact⟨x,y,z,k,l,n,h⟩
theorem kD{G:Expr->ME->Prop}{R:Rc}(u:R sc .v=bq ml n sc .v)(iv:∀e m,bq ml n sc .v e=some m->SV d sc e m){l:Expr}{f:List UM}{t:List Expr}{p:Pos}{m:ME}(h:qq R sc l f t=some m)
  (g1:∀{i l r a b},SV d sc l a->SV d sc r b->RC i r=false->G (.Compare l [i] [r] p) (.cmp i a b))
  (g2:∀{l j r a b c},SV d sc l a->SV d sc j b->SV d sc r c->RC .LtE r=false->G (.Compare l [.LtE,.LtE] [j,r] p) (.cmp2 a b c)):G (.Compare l f t p) m:=by
 unfold qq at h;rw[u]at h;cases o:cG f with
 |some i=>rw[o]at h;refine bF h fun r q h=>?_;obtain⟨a,b,s,k,rfl⟩:=AF h;obtain rfl:=aS o;obtain rfl:=aS q;exact g1 (iv l a s) (iv r b k) (qy k)
 |none=>rw[o]at h;apply bc;intro w;refine fA h fun x h=>?_;refine bF h fun y q h=>?_;obtain⟨j,r⟩:=y;obtain⟨a,b,c,s,k,g,rfl⟩:=yy h;apply w;obtain rfl:=beq_iff_eq.mp x;obtain rfl:=iH q;exact g2 (iv l a s) (iv j b k) (iv r c g) (qy g)
section
variable(iv:∀e m,bq ml n sc .v e=some m->SV d sc e m)
include iv
theorem vf(c:bW sc x=true)(h:Bm (bq ml n) sc x as=some m):SV d sc (.Call (.Name x p) as [] pos) m:=by apply bc;intro e;refine bF h fun b f h=>?_;refine cq h fun ms a g=>?_;subst g;apply e;exact sO c f a (dk iv as ms a)
theorem ph(j:bW sc "isinstance"=true)(h:oU (bq ml n) sc as=some m):SV d sc (.Call (.Name "isinstance" p) as [] pos) m:=by
 refine bF h fun k l o=>?_;obtain⟨e,t⟩:=k;refine bF o fun y r s=>?_;refine fA s fun a c=>?_;obtain⟨q,u⟩:=cv r;subst u;obtain rfl:=iH l;by_cases f:(y==("str":Str))=true
 .rw[Nd f]at c;refine cq c fun g b i=>?_;subst i;exact m_ (st:=true) (by decide+kernel) f j a b (iv e g b)
 .rw[Na f]at c;refine fA c fun v w=>?_;refine cq w fun g b i=>?_;subst i;exact m_ (st:=false) (by decide+kernel) v j a b (iv e g b)
theorem nj(h:iM (bq ml n) sc x as=some m):SV d sc (.Call (.Name x p) as [] pos) m:=by
 refine fA h fun c h=>?_;cases g:fE.lookup x with
 |some a=>rw[g]at h;refine cq h fun ms f i=>?_;subst i;exact sM c g f (dk iv as ms f)
 |none=>
  rw[g]at h;have h:(if(x==("isinstance":Str))=true then oU (bq ml n) sc as else _)=some m:=h;by_cases j:(x==("isinstance":Str))=true
  .rw[Nd j]at h;obtain rfl:=beq_iff_eq.mp j;exact ph iv c h
  .rw[Na j]at h;have h:(match(if(x==("sorted":Str))=true then(cG as).bind (km sc "set")else none)with|some z=>(bq ml n sc .v z).map fun z=>ME.calB .sortset [z]|none=>Bm (bq ml n) sc x as)=some m:=h;cases b:(if(x==("sorted":Str))=true then(cG as).bind (km sc "set")else none)with
   |none=>rw[b]at h;exact vf iv c h
   |some z=>rw[b]at h;refine fA b fun hs b=>?_;obtain rfl:=beq_iff_eq.mp hs;refine bF b fun e l b=>?_;obtain rfl:=aS l;obtain⟨p1,o,rfl,k⟩:=mL b;refine cq h fun q f i=>?_;subst i;exact nh iv c k f
theorem pi{f:Expr}{pos:Pos}{as:List Expr}{m:ME}(h:gX (bq ml n) sc f as pos=some m):SV d sc (.Call f as [] pos) m:=by
 unfold gX at h;cases a:j0 f with
 |some q=>rw[a]at h;rw[gi a];exact nj iv h
 |none=>rw[a]at h;apply bc;intro g;refine bF h fun q j h=>?_;refine fA h fun b h=>?_;refine bF h fun k c h=>?_;obtain⟨i,ms,l,e,rfl⟩:=AF h;apply g;rw[jh j];exact sQ (iv _ k c) c l (cF b).1 (N2 (cF b).2) e (dk iv as ms e)
theorem jz(h:oS (bq ml n) sc o=some m):SP d sc o m:=by
 cases o with
 |none=>injection h with z0;subst z0;exact yh
 |some x=>exact yj (iv x m h)
theorem s7{o a:Expr}{p:Pos}{m:ME}(h:ur (bq ml n) sc o a=some m):SV d sc (.Subscript o a p) m:=by
 unfold ur at h;cases b:Bk a with
 |some q=>rw[b]at h;refine fA h fun hs h=>?_;obtain⟨c,g,l,e,f,i,rfl⟩:=yy h;rw[xQ b,Option.isNone_iff_eq_none.mp hs];exact yk (iv o c e) (jz iv f) (jz iv i)
 |none=>rw[b]at h;apply bc;intro j;obtain⟨c,k,e,f,rfl⟩:=AF h;apply j;exact yg (iv o c e) (iv a k f)
end
theorem jA(w:∀c,(∀e m,bq ml n c .v e=some m->SV d c e m)/\(∀e m,bq ml n c .t e=some m->ST d c e m)/\(∀e m,bq ml n c .i e=some m->SI d c e m)){G:Expr->ME->Prop}{f:Expr}{k:List Wm}{isc:NR}{pos:Pos}{m:ME}(h:ut ml (bq ml n) c f k isc pos=some m)
  (g:∀{l iter:Expr}{j:List Expr}{u:List Nat}{o:List (Option Nat)}{q r:ME}{s:List ME},SI d c iter r->(∀env x,PT iter env x=OJ x)->dM (bX c isc) l=some u->SV d (bX c isc) f q->(∀(i:Nat)(e:Expr)(m:ME),j[i]? =some e->s[i]? =some m->ST d (bX c isc) e m)->j.length=s.length->
   kl c isc=some o->bB isc=true->bB (bX c isc)=true->(∀x∈isc.names,x.2≠.cell)->G (.ListComp f [⟨l,iter,j,0⟩] isc pos) (.comp (!ml.contains pos.line) o u q r s)):G (.ListComp f k isc pos) m:=by
 apply bc;intro C;refine bF h fun D E h=>?_;obtain⟨l,iter,j,F⟩:=D;obtain rfl:=aS E;refine fA h fun p h=>?_;simp only[N1,Rt,bne_iff_ne,ne_eq,Qn]at p;obtain⟨rfl,p⟩:=p;refine bF h fun r y h=>?_;refine bF h fun u H h=>?_;obtain⟨o,q,s,K,L,z,rfl⟩:=yy h;apply C;have A:=w (bX c isc);exact g ((w c).2.2 iter r y) (ni (md:= .i) y) H (A.1 f q L) (fun i e m a b=>A.2.1 e m (iQ z i e m a b)) (fm z).symm K p.1.1 p.1.2 (fun x M=>p.2 x M)
theorem s8(H:∀q,(∀e m,bq ml n q .v e=some m->SV d q e m)/\(∀e m,bq ml n q .t e=some m->ST d q e m)/\(∀e m,bq ml n q .i e=some m->SI d q e m)){e:Expr}{m:ME}(h:LY ml (bq ml n) q e=some m):SV d q e m:=by
 obtain⟨iv,L,ii⟩:=H q;cases e
 case Constant c k p=>exact sC h
 case Name x p=>exact uW h
 case Tuple es k p=>
  refine fA (show(if es.length<=1000 then _ else none)=some m from h) fun F h=>?_;refine cq h fun ms y D=>?_;subst D;exact sD (dk iv es ms y) F
 case List es p=>
  apply bc;intro E;refine fA (show(if es.length<=1000 then _ else none)=some m from h) fun F h=>?_;refine cq h fun ms y D=>?_;subst D;apply E;exact uX (dk iv es ms y) F
 case Dict ks vs p=>
  apply bc;intro E;refine bF h fun O u h=>?_;refine bF h fun vs' z h=>?_;refine fA h fun K h=>?_;injection h with z0;subst z0
  simp only[N1,Qn,OD]at K;obtain⟨⟨P,V⟩,W⟩:=K;apply E;exact u7 u (fun i e m a b=>iv e m (iQ z i e m a b)) (fm z).symm P V (EP W)
 case BinOp l op r p=>
  obtain⟨a,b,u,z,rfl⟩:=AF h;exact sE (iv l a u) (iv r b z)
 case UnaryOp op x p=>
  have h:(if(op== .USub)=true then(bq ml n q .v x).map .neg else if(op== .Not)=true then(bq ml n q .v x).map .nt else none)=some m:=h;by_cases u:(op== .USub)=true
  .rw[Nd u]at h;obtain rfl:=beq_iff_eq.mp u;refine cq h fun a y D=>?_;subst D;exact x8 (iv x a y)
  .rw[Na u]at h;refine fA h fun z h=>?_;obtain rfl:=beq_iff_eq.mp z;refine cq h fun a y D=>?_;subst D;exact x9 (iv x a y)
 case BoolOp op vs p=>
  refine fA (show(if 2<=vs.length then _ else none)=some m from h) fun F h=>?_;refine cq h fun ms y D=>?_;subst D;intro C A Y env Z σ fz s Q X S w;show Nt C.M A (Uj p op (TD vs env)) _ _ s;exact o8 rfl vs ms (fun i e m a b=>iv e m (iQ y i e m a b)) (fm y).symm (fun e=>by subst e;simp at F) C A Y env Z σ fz s Q X S w
 case IfExp c a b p=>
  apply bc;intro E;obtain⟨mc,ma,mb,u,z,h3,rfl⟩:=yy h;apply E;exact sG (L c mc u) (iv a ma z) (iv b mb h3)
 case Compare l ops rs p=>exact kD (G:=SV d q) rfl iv h (fun a b c=>x_ a b c) (fun a b c e=>uY a b c e)
 case Attribute o a p=>
  apply bc;intro E;obtain⟨mo,i,u,z,rfl⟩:=AF h;apply E;exact u1 (iv o mo u) u z
 case Subscript o sl p=>exact s7 iv h
 case Call f as kws pos=>
  refine fA (show(if kws.isEmpty then gX (bq ml n) q f as pos else none)=some m from h) fun hk h=>?_;obtain rfl:=List.isEmpty_iff.mp hk;exact pi iv h
 case ListComp Zm gens isc pos=>exact jA (G:=SV d q) H h (fun a b c e f g h i j k=>ve a b c e f g h i j k)
 all_goals exact aj h
theorem s9(IH:∀sc,(∀e m,bq ml n sc .v e=some m->SV d sc e m)/\(∀e m,bq ml n sc .t e=some m->ST d sc e m)/\(∀e m,bq ml n sc .i e=some m->SI d sc e m)){e:Expr}{m:ME}(h:LZ (bq ml n) sc e=some m):ST d sc e m:=by
 obtain⟨iv,it,ii⟩:=IH sc;have plain:∀{e:Expr}{m:ME},(bq ml n sc .v e).map ME.tru=some m->(∀(env:Env)(whole:Sem M_),isTrue e env whole=(do let v ←whole;Va e.pos;To [v] (Ui v)))->ST d sc e m:=fun h he=>by refine cq h fun a hw e0=>?_;subst e0;exact yb (iv _ a hw) he
 cases e
 case UnaryOp op x p=>
  have h:(if(op== .Not)=true then(bq ml n sc .t x).map .nt else(bq ml n sc .v (.UnaryOp op x p)).map .tru)=some m:=h;by_cases h1:(op== .Not)=true
  .rw[Nd h1]at h;obtain rfl:=beq_iff_eq.mp h1;refine cq h fun a hw e0=>?_;subst e0;exact ya (it x a hw)
  .rw[Na h1]at h;exact plain h fun _ _=>by cases op<;>first|rfl|exact absurd rfl h1
 case BoolOp op vs p=>
  refine cq h fun ms hw e0=>?_;subst e0;intro C A FR env ρ σ fz s Q X S w;exact wpAny_isTrue_BoolOp (yc rfl vs ms (fun i e m a b=>it e m (iQ hw i e m a b)) (fm hw).symm C A FR env ρ σ fz s Q X S w)
 case IfExp c a b p=>
  apply bc;intro qK;obtain⟨mc,ma,mb,h1,h2,h3,rfl⟩:=yy h;apply qK;exact sH (it c mc h1) (it a ma h2) (it b mb h3)
 case Compare l ops rs p=>exact kD (G:=ST d sc) rfl iv h (fun a b c=>x' a b c) (fun a b c e=>uZ a b c e)
 all_goals exact plain h fun _ _=>rfl
theorem s_(j:∀b,(∀e m,bq ml n b .v e=some m->SV d b e m)/\(∀e m,bq ml n b .t e=some m->ST d b e m)/\(∀e m,bq ml n b .i e=some m->SI d b e m))(h:HF (bq ml n) b e=some m):SI d b e m:=by
 obtain⟨iv,l,o⟩:=j b;unfold HF at h;cases f:km b "range" e with
 |none=>rw[f]at h;refine cq h fun a c g=>?_;subst g;exact BF (iv e a c)
 |some x=>rw[f]at h;obtain⟨p,q,rfl,k⟩:=mL f;refine cq h fun a c g=>?_;subst g;exact BH (by decide+kernel) k c (iv x a c)
theorem eT(n:Nat):∀a:NR,(∀e m,bq ml n a .v e=some m->SV d a e m)/\(∀e m,bq ml n a .t e=some m->ST d a e m)/\(∀e m,bq ml n a .i e=some m->SI d a e m):=by
 induction n with
 |zero=>exact fun a=>⟨fun e m h=>(aj h),fun e m h=>(aj h),fun e m h=>(aj h)⟩
 |succ n b=>exact fun a=>⟨fun e m h=>s8 b h,fun e m h=>s9 b h,fun e m h=>s_ b h⟩
end
set_option tactic.hygienic false
theorem GS.exc{C:Cx}{σ a:aa}{fz c:Fz}{s s₁ s':Nc}(g:GS C d σ fz s a c s₁)(U:List NC)(k:∀u∈U,s.heap.get? u=none/\σ u=none/\a u=none/\c u=none/\u∉d)
 (m:∀b o,b∉d->b∉U->s₁.heap.get? b=some o->s'.heap.get? b=some o) (p:∀b∈d,∀o,s₁.heap.get? b=some o->∃w,s'.heap.get? b=some {o with slots:=w})
 (z:s'.gens=s₁.gens:=by rfl) (t:s'.os=s₁.os:=by rfl):GS C d σ fz s a c s':=by
 have A:∀b o,s.heap.get? b=some o->b∉U:=fun b o h e=>by have:=(k b e).1;rw[this]at h;exact aj h
 have D:∀b∈d,b∉U:=fun b h e=>(k b e).2.2.2.2 h;refine⟨⟨g.1.fzk,fun b o h q r=>m b o r (A b o h) (g.1.keep b o h q r),fun b h o v=>?_,fun b h=>?_,g.1.ledn,g.1.fzn,z.trans g.1.gens,t.trans g.1.os⟩,
  g.2.base,fun b o h=>?_,fun b h=>?_,fun b E h=>?_⟩
 .apply bc;intro f;obtain⟨w,e⟩:=g.1.frk b h o v;obtain⟨i,j⟩:=p b h _ e;apply f;exact⟨i,j⟩
 .apply bc;intro f;obtain⟨o',e⟩:=g.1.lk b h;apply f;have q:b∉U:=fun j=>h (k b j).2.1;by_cases r:b∈d
  .obtain⟨i,j⟩:=p b r _ e;exact⟨_,j⟩
  .exact⟨o',m b o' r q e⟩
 .have q:b∉U:=fun e=>by rw[(k b e).2.2.2.1]at h;exact aj h
  have r:b∉d:=fun e=>by rw[(g.2.fr b e).1]at h;exact aj h
  exact m b o r q (g.2.sub b o h)
 .apply bc;intro f;obtain⟨x,y,o',es,n,e,F⟩:=g.2.fr b h;obtain⟨i,j⟩:=p b h _ e;apply f;exact⟨x,y,_,es,n,j,F⟩
 .have q:b∉U:=fun e=>by rw[(k b e).2.2.1]at h;exact aj h
  have r:b∉d:=fun e=>by rw[(g.2.fr b e).l]at h;exact aj h
  apply bc;intro f;obtain⟨x,o',e,H⟩:=g.2.led b E h;apply f;exact⟨x,o',m b o' r q e,H⟩
section
variable{M:Model}{A:NT}{E:M_->Nc->Prop}{s:Nc}
theorem cU{p:Om}{env:Env}{c:List Env}{L e:NC}{t:Obj}{vs:Array M_}{head:M_}{g:Bool}{Q:Unit->Nc->Prop}
  (v:A.frames=some (env::c)) (H:s.heap.FunFrames p (env::c)) (V:env.frame=some L)
  (K:s.heap.get? e=some t) (w:t.data= .fields vs) (x:1<vs.size)
  (h:∀h' T O P,(∀b o,b∉(env::c).filterMap (·.frame)->b≠e->s.heap.get? b=some o->h'.get? b=some o)->(∀b o,b∈(env::c).filterMap (·.frame)->s.heap.get? b=some o->∃y,h'.get? b=some {o with slots:=y})->
   h'.get? e=some (t.mapFields (·.setIfInBounds 1 (.ref T)))->s.heap.get? T=none->T≠e->h'.get? T=some O->O.data= .fields P->4<=P.size->Q () {s with heap:=h'}):
  Nt M A (do let a ←frameOf env;let pl ←entryPlaceOf L g;let b ←EntryCells.newEntry head a .none (Pt L) .none pl;RN (.ref e) 1 b) Q E s:=by
 have k:e∉(env::c).filterMap (·.frame):=fun W=>by apply bc;intro z;obtain⟨_,o,u,C⟩:=H.mem W;apply z;rw[K]at u;injection u with u;subst u;exact C vs w
 refine M8 (wpAny_frameOf_fun v H V fun d f=>?_);refine M8 (wpAny_entryPlaceOf fun pl D=>?_);unfold EntryCells.newEntry newFields;refine M8 (Po ?_ (D.sizeOk5 _ _ _ _ _));have i:d.get? e=some t:=(f.2.1 e k).trans K;have j:=Nm (h:=d) {cls:= .type "traceback",dict:=none,data:= .fields ([head,.ref L,.none,Pt L,.none]++(if pl.isEmpty then NF 6 Ot else pl)).toArray} i;refine Qt j w x ?_;have r:d.objs.size≠e:=RD (Oo i);have l:=Ou w (·.setIfInBounds 1 (OF d.objs.size));refine h _ d.objs.size _ _ (fun b o F m n=>?_) (fun b o F n=>?_) (N0 _ j (PE l)) ?_ r ((N3 _ _ (NZ r)).trans (NI d rfl)) rfl (by simp only[Uq,M9,Nz,Oa]<;>exact Nat.le_add_right_of_le (by decide))
 .rw[N3 _ _ (NZ m)];exact Nm _ ((f.2.1 b F).trans n)
 .apply bc;intro z;obtain⟨y,X⟩:=f.2.2 b o n;apply z;have m:b≠e:=fun q=>k (q▸F);exact⟨y,by rw[N3 _ _ (NZ m)];exact Nm _ X⟩
 .rw[f.1];exact fresh s.heap
end
theorem jB{C:Cx}{σ:aa}{fz:Fz}{h:Om}{c:List NC}{b:List Env}:(∀a∈c,GJ fz σ h a)->(∀a∈b.filterMap (·.frame),a∈c)->(∀env∈b,env.scope.kind= .function/\env.frame.isSome=true)->h.FunFrames ⟨#[],{}⟩ b:=by
 induction b with
 |nil=>exact fun _ _ _=>trivial
 |cons env r ih=>intro g i j;apply bc;intro k;obtain⟨l,m⟩:=j env (by simp);refine DO m fun L d=>?_;have f:L∈c:=i L (by rw[Pb,d];simp);obtain⟨_,_,o,es,n,p,q⟩:=g L f;apply k;refine⟨by rw[l];decide,⟨L,o,d,rfl,p,fun vs e=>by rw[q]at e;cases e⟩,ih g (fun a s=>i a ?_) fun e t=>j e (Ni _ t)⟩;rw[Pb,d];exact Ni _ s
inductive lz(s:Nc)(FR:List NC)(σ:aa)(fz:Fz)(h:Om)(c:Nat)(e:M_):Prop
 |mk (ea:NC) (oe:Obj) (vs:Array M_) (T:NC) (oT:Obj) (ts:Array M_) (q1:e= .ref ea) (q2:s.heap.get? ea=none) (q3:h.get? ea=some oe) (q4:oe.cls= .ref (rN c)) (q5:oe.data= .fields vs) (q6:2<=vs.size) (q7:σ ea=none) (q8:fz ea=none) (q9:ea∉FR)
  (r1:vs[1]? =some (.ref T)) (r2:T≠ea) (r3:s.heap.get? T=none) (r4:h.get? T=some oT) (r5:oT.data= .fields ts) (r6:4<=ts.size) (r7:σ T=none) (r8:fz T=none) (r9:T∉FR)
theorem lz.r{s:Nc}{σ:aa}{fz:Fz}{h:Om}(x:lz s a σ fz h c e):jZ s a σ fz h c e:=by obtain⟨b,d,vs,T,f,g,i,j,k,l,m,n,o,p,q,t,u,v,w,y,z,A,C,D⟩:=x;exact⟨b,d,vs,i,j,k,l,m,n,o,p,q,.inr ⟨T,f,g,t,u,v,w,y,z,A,C,D⟩⟩
section
variable{C:Cx}{A:NT}{FR:List NC}{σ Z_:aa}{fz Z9:Fz}{s s₁:Nc}{E:M_->Nc->Prop}{env:Env}{ZM:List Env}{c:Nat}{e:M_}{d:Nat}
structure BL(A:NT)(FR:List NC)(env:Env):Prop where
 fr:∃ZM L,A.frames=some (env::ZM)/\env.frame=some L/\(env::ZM).filterMap (·.frame)=FR/\∀x∈env::ZM,x.scope.kind= .function/\x.frame.isSome=true
theorem vg(T1:BL A FR env)(hF:∀a,s.heap.get? a=none->σ a=none)(g:GS C FR σ fz s Z_ Z9 s₁)(x:jZ s FR Z_ Z9 s₁.heap c e){Q:Unit->Nc->Prop}
  (hQ:∀h',GS C FR σ fz s Z_ Z9 {s₁ with heap:=h'}->lz s FR Z_ Z9 h' c e->Q () {s₁ with heap:=h'}):Nt C.M A (Sj e env) Q E s₁:=by
 obtain⟨l,L,H,hf,m,hk⟩:=T1.fr;obtain⟨D,oe,vs,rfl,p,K,h4,r,O,P,V,W,t⟩:=x;have ff:∀{h:Om},(∀a∈FR,GJ Z9 Z_ h a)->h.FunFrames ⟨#[],{}⟩ (env::l):=fun hh=>jB (C:=C) hh (fun a F=>m▸F) hk;unfold Sj;simp only[hf];rcases t with t|⟨T,oT,ts,t1,t2,t3,t4,t5,t6,t7,t8,t9⟩
 .refine M8 (P1 K r t ?_);rw[Na (by decide)];refine cU H (ff g.2.fr) hf K r (O) fun h' f v w X Y k3 k k5 k6 k7 k8=>?_;rw[m]at X Y;have z:=g.2.free k;have nT:=g.1.gone k;have g':GS C FR σ fz s Z_ Z9 {s₁ with heap:=h'}:=g.exc [D] (fun u d=>by simp at d;subst d;exact⟨p,hF _ p,P,V,W⟩) (fun b o i d j=>X b o i (by simpa using d) j) (fun b i o j=>Y b o i j);exact hQ h' g' ⟨D,_,_,f,v,w,rfl,p,k3,(Ri _ _).trans h4,Ou r _,by simpa using O,P,V,W,by simp[show 1<vs.size by lia],k5,nT,k6,k7,k8,z.2.1,z.1,z.2.2⟩
 .refine M8 (P1 K r t1 ?_);rw[Nd (show(OF T != Ot)=true from by simp)];obtain⟨y,hy⟩:∃y,ts[3]? =some y:=⟨ts[3],by simp[show 3<ts.size by lia]⟩
  refine M8 (P1 t4 t5 hy ?_);by_cases hr:(y==Pt L)=true
  .rw[Nd hr];exact Nl (hQ s₁.heap g ⟨D,oe,vs,T,oT,ts,rfl,p,K,h4,r,O,P,V,W,t1,t2,t3,t4,t5,t6,t7,t8,t9⟩)
  .rw[Na hr];refine M8 (Qt t4 t5 (t6) ?_);have Z:∀b,b≠T->(s₁.heap.update T (OS (·.setIfInBounds 3 Ot))).get? b=s₁.heap.get? b:=fun b i=>N3 _ _ (NZ i);have a0:∀a∈FR,a≠T:=fun a F q=>t9 (q▸F);refine cU (s:={s₁ with heap:=s₁.heap.update T (OS (·.setIfInBounds 3 Ot))}) H (ff fun a F=>let ⟨x,y,o,es,n,j,hd⟩:=g.2.fr a F;⟨x,y,o,es,n,(Z a (a0 a F)).trans j,hd⟩) hf ((Z D (NZ t2)).trans K) r (O) fun h' f v w X Y k3 k k5 k6 k7 k8=>?_;rw[m]at X Y;have c3:f≠T:=fun q=>by subst q;have:(s₁.heap.update f (OS (·.setIfInBounds 3 Ot))).get? f=some _:=N0 _ t4 (PE (Ou t5 _));have k:(s₁.heap.update f (OS (·.setIfInBounds 3 Ot))).get? f=none:=k;rw[this]at k;exact bb k
   have a1:s₁.heap.get? f=none:=(Z f c3).symm.trans k;have z:=g.2.free a1;have nT:=g.1.gone a1;have g':GS C FR σ fz s Z_ Z9 {s₁ with heap:=h'}:=g.exc [D,T] (fun u d=>by
     simp at d;rcases d with rfl|rfl
     .exact⟨p,hF _ p,P,V,W⟩
     .exact⟨t3,hF _ t3,t7,t8,t9⟩)
    (fun b o i d j=>by
     simp at d;exact X b o i d.1 ((Z b d.2).trans j)) (fun b i o j=>Y b o i ((Z b (a0 b i)).trans j))
   exact hQ h' g' ⟨D,_,_,f,v,w,rfl,p,k3,(Ri _ _).trans h4,Ou r _,by simpa using O,P,V,W,by simp[show 1<vs.size by lia],k5,nT,k6,k7,k8,z.2.1,z.1,z.2.2⟩
theorem jC(D:∀a,s.heap.get? a=none->σ a=none)(g:GS C FR σ fz s Z_ Z9 s₁)(x:lz s FR Z_ Z9 s₁.heap c e)(fr:Option NC){Q:Unit->Nc->Prop}
  (F:∀h',GS C FR σ fz s Z_ Z9 {s₁ with heap:=h'}->lz s FR Z_ Z9 h' c e->Q () {s₁ with heap:=h'}):Nt C.M A (Ta e fr) Q E s₁:=by
 obtain⟨n,H,vs,T,Y,Z,rfl,K,p,L,r,O,P,V,W,t1,t,i,v,j,w,y,z,k⟩:=x;unfold Ta;refine M8 (P1 p r t1 ?_);rw[Nd (show(OF T != Ot)=true from by simp)];refine Qt v j (w) ?_;have l:∀b,b≠T->(s₁.heap.update T (OS (·.setIfInBounds 3 (fr.elim Ot fun f=>Pt f)))).get? b=s₁.heap.get? b:=fun b d=>N3 _ _ (NZ d);have X:=N0 (OS (·.setIfInBounds 3 (fr.elim Ot fun f=>Pt f))) v (PE (Ou j _));refine F _ (g.exc [T] (fun u h=>by simp at h;subst h;exact⟨i,D _ i,y,z,k⟩) (fun b o d h m=>(l b (by simpa using h)).trans m) fun b d o m=>⟨o.slots,(l b (fun q=>k (q▸d))).trans m⟩) ?_;exact⟨n,H,vs,T,_,_,rfl,K,(l n (NZ t)).trans p,L,r,O,P,V,W,t1,t,i,X,Ou j _,by simpa using w,y,z,k⟩
end
noncomputable def d0:MO:= .lst []
noncomputable def cH(env:Env):List NC:=env.locals::env.cells.map (·.2)
noncomputable def mk(σ:aa)(b:List NC):aa:=fun a=>if a∈b then some d0 else σ a
structure GT(C:Cx)(env:Env)(Z7:List NC)(σ:aa)(fz:Fz)(s:Nc)(Z6:aa)(fz':Fz)(s':Nc):Prop where
 stp:oH Z7 (mk σ (cH env)) fz s (mk Z6 (cH env)) fz' s'
 good:aw C Z6 fz' (env.locals::Z7) s'.heap
noncomputable def oz(env:Env)(s:Nc):Prop:=∀c∈cH env,∃o,s.heap.get? c=some o
section
variable{C:Cx}{env:Env}{Z7:List NC}{σ Z_ Z2:aa}{fz Z9 ZL:Fz}{s s₁ Z4 s':Nc}
theorem iR{σ:aa}(h:mk σ b a=none):a∉b/\σ a=none:=by
 unfold mk at h;by_cases e:a∈b
 .rw[Nd e]at h;exact bb h
 .rw[Na e]at h;exact⟨e,h⟩
theorem qE{σ:aa}(h:a∈b):mk σ b a≠none:=by unfold mk;rw[Nd h];simp
theorem cw{σ:aa}(h:a∉b):mk σ b a=σ a:=by unfold mk;rw[Na h]
theorem pj(env:Env):env.locals∈cH env:=by unfold cH;simp
theorem GT.oG(b:oz env s)(g:GS C (env.locals::Z7) σ fz s Z_ Z9 s₁):GT C env Z7 σ fz s Z_ Z9 s₁:=by
 refine⟨⟨g.1.fzk,fun a o h q r=>?_,fun a h o e=>g.1.frk a (Ni _ h) o e,fun a q=>?_,fun a q=>?_,fun a q=>?_,g.1.gens,g.1.os⟩,g.2⟩
 .obtain⟨c,d⟩:=iR q;exact g.1.keep a o h d (by have:a≠env.locals:=fun e=>c (e▸pj env);simp[this,r])
 .by_cases e:a∈cH env
  .obtain⟨o,f⟩:=b a e;exact g.1.there f
  .rw[cw e]at q;exact g.1.lk a q
 .by_cases e:a∈cH env
  .exact .inl (qE e)
  .rw[cw e]at q⊢;exact g.1.ledn a q
 .by_cases e:a∈cH env
  .exact .inr (.inl (qE e))
  .rw[cw e];exact g.1.fzn a q
theorem GT.trans(x:GT C env Z7 σ fz s Z_ Z9 s₁)(y:GT C env Z7 Z_ Z9 s₁ Z2 ZL Z4):GT C env Z7 σ fz s Z2 ZL Z4:=⟨x.1.trans y.1,y.2⟩
theorem GT.mks(a:oz env s)(x:GT C env Z7 σ fz s Z_ Z9 s₁):oz env s₁:=fun c b=>let ⟨_,d⟩:=a c b;x.1.there d
theorem oz.step(a:oz env s)(x:oH b σ fz s Z_ Z9 s₁):oz env s₁:=fun c d=>let ⟨_,e⟩:=a c d;x.there e
theorem GT.refl(a:oz env s)(G:aw C σ fz (env.locals::Z7) s.heap):GT C env Z7 σ fz s σ fz s:= .oG a ⟨.refl G,G⟩
theorem GT.store(j:oz env s)(G:aw C σ fz (env.locals::Z7) s.heap)(k:env.locals∉Z7)(x:LS env s s'):GT C env Z7 σ fz s σ fz s':=by
 apply bc;intro c;obtain⟨f,g,_⟩:=G.fr env.locals (by simp);apply c;refine⟨⟨fun _ _ h=>h,fun a o h q r=>x.keep a o (fun e=>(iR q).1 (e▸pj env)) h,fun a h o e=>⟨o.slots,x.keep a o (fun q=>k (q▸h)) e⟩,fun a q=>?_,fun _ h=> .inl h,fun _ h=> .inl h,x.gens,x.os⟩,
  G.base,fun a o h=>x.keep a o (fun q=>by rw[q,f]at h;exact aj h) (G.sub a o h),fun a h=>?_,fun a m h=>?_⟩
 .by_cases e:a=env.locals
  .subst e;obtain⟨o,_,_,b,_⟩:=x.dict;exact⟨o,b⟩
  .by_cases i:a∈cH env
   .apply bc;intro c;obtain⟨o,b⟩:=j a i;apply c;exact⟨o,x.keep a o e b⟩
   .rw[cw i]at q;apply bc;intro c;obtain⟨o,b⟩:=G.there a q;apply c;exact⟨o,x.keep a o e b⟩
 .by_cases e:a=env.locals
  .subst e;obtain⟨o,es,n,b,d⟩:=x.dict;exact⟨f,g,o,es,n,b,d⟩
  .apply bc;intro c;obtain⟨y,z,o,es,n,b,d⟩:=G.fr a h;apply c;exact⟨y,z,o,es,n,x.keep a o e b,d⟩
 .apply bc;intro c;obtain⟨y,o,b,r⟩:=G.led a m h;apply c;exact⟨y,o,x.keep a o (fun q=>by rw[q,g]at h;exact aj h) b,r⟩
theorem GT.cell(t:oz env s)(G:aw C σ fz (env.locals::Z7) s.heap)(j:c∈cH env)(u:σ c=none)(v:fz c=none)(k:c∉env.locals::Z7){o:Obj}(l:s'.heap.get? c=some o)(f:∀b o,b≠c->s.heap.get? b=some o->s'.heap.get? b=some o)
 (w:s'.gens=s.gens:=by rfl) (i:s'.os=s.os:=by rfl):GT C env Z7 σ fz s σ (fz.ext c o) s':=by
 have ex:∀b o',fz b=some o'->fz.ext c o b=some o':=fun b o' h=>by
  have:b≠c:=fun e=>by rw[e,v]at h;exact aj h
  simp[Fz.ext,this,h]
 refine⟨⟨ex,fun a o' h q r=>f a o' (fun e=>(iR q).1 (e▸j)) h,fun a h o' e=>⟨o'.slots,f a o' (fun q=>k (q▸Ni _ h)) e⟩,fun a q=>?_,fun _ h=> .inl h,fun a h=>?_,w,i⟩,
  fun a o' h=>ex a o' (G.base a o' h),fun a o' h=>?_,fun a h=>?_,fun a m h=>?_⟩
 .by_cases e:a=c
  .exact⟨o,e▸l⟩
  .by_cases p:a∈cH env
   .apply bc;intro g;obtain⟨o',d⟩:=t a p;apply g;exact⟨o',f a o' e d⟩
   .rw[cw p]at q;apply bc;intro g;obtain⟨o',d⟩:=G.there a q;apply g;exact⟨o',f a o' e d⟩
 .by_cases e:a=c
  .exact .inr (.inl (e▸qE j))
  .simp only[Fz.ext,e,RO]at h;exact .inl h
 .by_cases e:a=c
  .subst e;simp[Fz.ext]at h;subst h;exact l
  .simp only[Fz.ext,e,RO]at h;exact f a o' e (G.sub a o' h)
 .apply bc;intro g;obtain⟨y,z,o',es,n,d,x⟩:=G.fr a h;apply g;have e:a≠c:=fun e=>k (e▸h);exact⟨by simp[Fz.ext,e,y],z,o',es,n,f a o' e d,x⟩
 .apply bc;intro g;obtain⟨y,o',d,r⟩:=G.led a m h;apply g;have e:a≠c:=fun e=>by rw[e,u]at h;exact aj h
  exact⟨by simp[Fz.ext,e,y],o',f a o' e d,r.mono ex⟩
theorem GT.exc(g:GT C env Z7 σ fz s Z_ Z9 s₁)(w:oz env s)(U:List NC)(f:∀u∈U,s.heap.get? u=none/\σ u=none/\Z_ u=none/\Z9 u=none/\u∉env.locals::Z7)
  (i:∀b o,b∉env.locals::Z7->b∉U->s₁.heap.get? b=some o->s'.heap.get? b=some o) (j:∀b∈env.locals::Z7,∀o,s₁.heap.get? b=some o->∃t,s'.heap.get? b=some {o with slots:=t})
  (z:s'.gens=s₁.gens:=by rfl) (k:s'.os=s₁.os:=by rfl):GT C env Z7 σ fz s Z_ Z9 s':=by
 have A:∀b o,s.heap.get? b=some o->b∉U:=fun b o h e=>by have:=(f b e).1;rw[this]at h;exact aj h
 refine⟨⟨g.1.fzk,fun b o h q r=>i b o (by have:b≠env.locals:=fun e=>(iR q).1 (e▸pj env);simp[this,r]) (A b o h) (g.1.keep b o h q r),fun b h o m=>?_,fun b h=>?_,g.1.ledn,g.1.fzn,z.trans g.1.gens,k.trans g.1.os⟩,
  g.2.base,fun b o h=>?_,fun b h=>?_,fun b D h=>?_⟩
 .apply bc;intro a;obtain⟨t,e⟩:=g.1.frk b h o m;obtain⟨c,d⟩:=j b (Ni _ h) _ e;apply a;exact⟨c,d⟩
 .apply bc;intro a;obtain⟨o',e⟩:=g.1.lk b h;have q:b∉U:=fun d=>by
   have:=f b d;have p:b∉cH env:=fun q=>by obtain⟨o,v⟩:=w b q;rw[this.1]at v;exact aj v
   rw[cw p]at h;exact h this.2.1
  apply a;by_cases r:b∈env.locals::Z7
  .obtain⟨c,d⟩:=j b r _ e;exact⟨_,d⟩
  .exact⟨o',i b o' r q e⟩
 .have q:b∉U:=fun e=>by rw[(f b e).2.2.2.1]at h;exact aj h
  have r:b∉env.locals::Z7:=fun e=>by rw[(g.2.fr b e).1]at h;exact aj h
  exact i b o r q (g.2.sub b o h)
 .apply bc;intro a;obtain⟨x,y,o',es,n,e,E⟩:=g.2.fr b h;obtain⟨c,d⟩:=j b h _ e;apply a;exact⟨x,y,_,es,n,d,E⟩
 .have q:b∉U:=fun e=>by rw[(f b e).2.2.1]at h;exact aj h
  have r:b∉env.locals::Z7:=fun e=>by rw[(g.2.fr b e).l]at h;exact aj h
  apply bc;intro a;obtain⟨x,o',e,F⟩:=g.2.led b D h;apply a;exact⟨x,o',i b o' r q e,F⟩
theorem GT.leave{s0:Nc}(g:GT C env Z7 σ fz s Z_ Z9 s₁)(f:∀c∈cH env,s0.heap.get? c=none)(m:aw C σ fz Z7 s0.heap)(i:∀b o,s0.heap.get? b=some o->s.heap.get? b=some o)(j:s.gens=s0.gens)(k:s.os=s0.os)
  :GS C Z7 σ fz s0 Z_ Z9 s₁:=by
 have fL:=g.2.fr env.locals (by simp);have l:∀a o,s0.heap.get? a=some o->a∉cH env:=fun a o h e=>by rw[f a e]at h;exact aj h
 have d:∀a,s.heap.get? a=none->s0.heap.get? a=none:=fun a u=>by
  cases z:s0.heap.get? a with
  |none=>rfl
  |some o=>rw[i a o z]at u;exact bb u
 refine⟨⟨g.1.fzk,fun a o h q r=>g.1.keep a o (i a o h) (by rw[cw (l a o h)];exact q) r,fun a h o e=>g.1.frk a h o (i a o e),fun a q=>?_,fun a q=>?_,fun a q=>?_,g.1.gens.trans j,g.1.os.trans k⟩,
  g.2.base,g.2.sub,fun a h=>g.2.fr a (Ni _ h),g.2.led⟩
 .refine g.1.lk a ?_;by_cases e:a∈cH env
  .exact qE e
  .rw[cw e];exact q
 .by_cases e:a∈cH env
  .exact .inr (f a e)
  .rcases g.1.ledn a (by rw[cw e];exact q)with u|u
   .rw[cw e]at u;exact .inl u
   .exact .inr (d a u)
 .by_cases e:a∈cH env
  .exact .inr (.inr (f a e))
  .rcases g.1.fzn a q with u|u|u
   .exact .inl u
   .rw[cw e]at u;exact .inr (.inl u)
   .exact .inr (.inr (d a u))
end
section
variable{C:Cx}{A:NT}{ZX:Env}{Z7:List NC}{σ Z_:aa}{fz Z9:Fz}{s s₁:Nc}{E:M_->Nc->Prop}{env:Env}{ZM:List Env}{c:Nat}{e:M_}{d:Nat}
theorem kE(hm:oz ZX s)(T1:BL A (ZX.locals::Z7) env)(hF:∀a,s.heap.get? a=none->σ a=none)(g:GT C ZX Z7 σ fz s Z_ Z9 s₁)(x:jZ s (ZX.locals::Z7) Z_ Z9 s₁.heap c e){Q:Unit->Nc->Prop}
  (hQ:∀h',GT C ZX Z7 σ fz s Z_ Z9 {s₁ with heap:=h'}->lz s (ZX.locals::Z7) Z_ Z9 h' c e->Q () {s₁ with heap:=h'}):Nt C.M A (Sj e env) Q E s₁:=by
 obtain⟨l,L,H,hf,m,hk⟩:=T1.fr;obtain⟨D,oe,vs,rfl,p,K,h4,r,O,P,V,W,t⟩:=x;have ff:∀{h:Om},(∀a∈(ZX.locals::Z7),GJ Z9 Z_ h a)->h.FunFrames ⟨#[],{}⟩ (env::l):=fun hh=>jB (C:=C) hh (fun a F=>m▸F) hk;unfold Sj;simp only[hf];rcases t with t|⟨T,oT,ts,t1,t2,t3,t4,t5,t6,t7,t8,t9⟩
 .refine M8 (P1 K r t ?_);rw[Na (by decide)];refine cU H (ff g.2.fr) hf K r (O) fun h' f v w X Y k3 k k5 k6 k7 k8=>?_;rw[m]at X Y;have z:=g.2.free k;have nT:=g.1.gone k;have g':GT C ZX Z7 σ fz s Z_ Z9 {s₁ with heap:=h'}:=GT.exc g hm [D] (fun u d=>by simp at d;subst d;exact⟨p,hF _ p,P,V,W⟩) (fun b o i d j=>X b o i (by simpa using d) j) (fun b i o j=>Y b o i j);exact hQ h' g' ⟨D,_,_,f,v,w,rfl,p,k3,(Ri _ _).trans h4,Ou r _,by simpa using O,P,V,W,by simp[show 1<vs.size by lia],k5,nT,k6,k7,k8,z.2.1,z.1,z.2.2⟩
 .refine M8 (P1 K r t1 ?_);rw[Nd (show(OF T != Ot)=true from by simp)];obtain⟨y,hy⟩:∃y,ts[3]? =some y:=⟨ts[3],by simp[show 3<ts.size by lia]⟩
  refine M8 (P1 t4 t5 hy ?_);by_cases hr:(y==Pt L)=true
  .rw[Nd hr];exact Nl (hQ s₁.heap g ⟨D,oe,vs,T,oT,ts,rfl,p,K,h4,r,O,P,V,W,t1,t2,t3,t4,t5,t6,t7,t8,t9⟩)
  .rw[Na hr];refine M8 (Qt t4 t5 (t6) ?_);have Z:∀b,b≠T->(s₁.heap.update T (OS (·.setIfInBounds 3 Ot))).get? b=s₁.heap.get? b:=fun b i=>N3 _ _ (NZ i);have a0:∀a∈(ZX.locals::Z7),a≠T:=fun a F q=>t9 (q▸F);refine cU (s:={s₁ with heap:=s₁.heap.update T (OS (·.setIfInBounds 3 Ot))}) H (ff fun a F=>let ⟨x,y,o,es,n,j,hd⟩:=g.2.fr a F;⟨x,y,o,es,n,(Z a (a0 a F)).trans j,hd⟩) hf ((Z D (NZ t2)).trans K) r (O) fun h' f v w X Y k3 k k5 k6 k7 k8=>?_;rw[m]at X Y;have c3:f≠T:=fun q=>by subst q;have:(s₁.heap.update f (OS (·.setIfInBounds 3 Ot))).get? f=some _:=N0 _ t4 (PE (Ou t5 _));have k:(s₁.heap.update f (OS (·.setIfInBounds 3 Ot))).get? f=none:=k;rw[this]at k;exact bb k
   have a1:s₁.heap.get? f=none:=(Z f c3).symm.trans k;have z:=g.2.free a1;have nT:=g.1.gone a1;have g':GT C ZX Z7 σ fz s Z_ Z9 {s₁ with heap:=h'}:=GT.exc g hm [D,T] (fun u d=>by
     simp at d;rcases d with rfl|rfl
     .exact⟨p,hF _ p,P,V,W⟩
     .exact⟨t3,hF _ t3,t7,t8,t9⟩)
    (fun b o i d j=>by
     simp at d;exact X b o i d.1 ((Z b d.2).trans j)) (fun b i o j=>Y b o i ((Z b (a0 b i)).trans j))
   exact hQ h' g' ⟨D,_,_,f,v,w,rfl,p,k3,(Ri _ _).trans h4,Ou r _,by simpa using O,P,V,W,by simp[show 1<vs.size by lia],k5,nT,k6,k7,k8,z.2.1,z.1,z.2.2⟩
theorem h9(D:oz ZX s)(F:∀a,s.heap.get? a=none->σ a=none)(g:GT C ZX Z7 σ fz s Z_ Z9 s₁)(x:lz s (ZX.locals::Z7) Z_ Z9 s₁.heap c e)(fr:Option NC){Q:Unit->Nc->Prop}
  (H:∀h',GT C ZX Z7 σ fz s Z_ Z9 {s₁ with heap:=h'}->lz s (ZX.locals::Z7) Z_ Z9 h' c e->Q () {s₁ with heap:=h'}):Nt C.M A (Ta e fr) Q E s₁:=by
 obtain⟨n,K,vs,T,Z,ts,rfl,L,p,O,r,P,V,W,X,t1,t,i,v,j,w,y,z,k⟩:=x;unfold Ta;refine M8 (P1 p r t1 ?_);rw[Nd (show(OF T != Ot)=true from by simp)];refine Qt v j (w) ?_;have l:∀b,b≠T->(s₁.heap.update T (OS (·.setIfInBounds 3 (fr.elim Ot fun f=>Pt f)))).get? b=s₁.heap.get? b:=fun b d=>N3 _ _ (NZ d);have Y:=N0 (OS (·.setIfInBounds 3 (fr.elim Ot fun f=>Pt f))) v (PE (Ou j _));refine H _ (GT.exc g D [T] (fun u h=>by simp at h;subst h;exact⟨i,F _ i,y,z,k⟩) (fun b o d h m=>(l b (by simpa using h)).trans m) fun b d o m=>⟨o.slots,(l b (fun q=>k (q▸d))).trans m⟩) ?_;exact⟨n,K,vs,T,_,_,rfl,L,(l n (NZ t)).trans p,O,r,P,V,W,X,t1,t,i,Y,Ou j _,by simpa using w,y,z,k⟩
end
structure SB(C:Cx)(A:NT)(Z7:List NC)(d:Nat)(sc:NR)(env:Env)(ρ:ar)(σ:aa)(fz:Fz)(s:Nc):Prop where
 st:St C A (env.locals::Z7) d sc env ρ σ fz s
 top:BL A (env.locals::Z7) env
 no:env.locals∉Z7
 int:Ry env=false
 mks:oz env s
 fn:env.func≠none
noncomputable def HT(P:Np)(fz:Fz):Option PV->We->Prop
 |none,.next=>True
 |some pv,.ret v=>VR P fz pv v
 |_,_=>False
inductive PF(C:Cx)(Z7:List NC)(env:Env)(σ:aa)(fz:Fz)(s:Nc)(K:QS)(f:We)(s':Nc):Prop
 |mk (o:Option PV) (ZY:ar) (Z6:aa) (fz':Fz) (g:GT C env Z7 σ fz s Z6 fz' s') (l:LR C (env.locals::Z7) env ZY Z6 fz' s'.heap) (f:HT C.P fz' o f) (k:K o ZY Z6)
inductive jY(C:Cx)(env:Env)(Z7:List NC)(σ:aa)(fz:Fz)(s:Nc)(X:QX)(e:M_)(s':Nc):Prop
 |mk (c:Nat) (Z6:aa) (fz':Fz) (g:GT C env Z7 σ fz s Z6 fz' s') (x:jZ s (env.locals::Z7) Z6 fz' s'.heap c e) (q:X c Z6)
noncomputable def SS(d:Nat)(c:NR)(st:OP)(m:MS):Prop:=∀(C:Cx)(A:NT)(a:List NC)(env:Env)(b:ar)(σ:aa)(fz:Fz)(s:Nc)(K:QS)(X:QX),
 SB C A a d c env b σ fz s->HB d m b σ K X->Nt C.M A (exec st env) (PF C a env σ fz s K) (jY C env a σ fz s X) s
noncomputable def xl(d:Nat)(c:NR)(oy:List OP)(ms:List MS):Prop:=∀(C:Cx)(A:NT)(a:List NC)(env:Env)(b:ar)(σ:aa)(fz:Fz)(s:Nc)(K:QS)(X:QX),
 SB C A a d c env b σ fz s->ai d ms b σ K X->Nt C.M A (execs oy env) (PF C a env σ fz s K) (jY C env a σ fz s X) s
section
variable{C:Cx}{A:NT}{Z7:List NC}{σ Z_:aa}{fz Z9:Fz}{s s₁:Nc}{env:Env}{ρ ZV:ar}{sc:NR}{d:Nat}
theorem jZ.gone{s s₁:Nc}{b:aa}{fz':Fz}{h:Om}(k:∀a,s₁.heap.get? a=none->s.heap.get? a=none)(x:jZ s₁ f b fz' h c e):jZ s f b fz' h c e:=by obtain⟨g,i,vs,j,l,m,n,o,p,q,r,t,d⟩:=x;refine⟨g,i,vs,j,k _ l,m,n,o,p,q,r,t,d.imp id ?_⟩;rintro⟨T,u,v,w,y,z,A,C,D,E,F,H⟩;exact⟨T,u,v,w,y,k _ z,A,C,D,E,F,H⟩
theorem PF.via{K:QS}{s':Nc}(g:GT C env Z7 σ fz s Z_ Z9 s₁)(x:PF C Z7 env Z_ Z9 s₁ K f s'):PF C Z7 env σ fz s K f s':=
 let ⟨o,a,b,fz',c,d,e,h⟩:=x;⟨o,a,b,fz',g.trans c,d,e,h⟩
theorem jY.via{X:QX}{s':Nc}(g:GT C env Z7 σ fz s Z_ Z9 s₁)(x:jY C env Z7 Z_ Z9 s₁ X e s'):jY C env Z7 σ fz s X e s':=
 let ⟨c,a,fz',b,d,f⟩:=x;⟨c,a,fz',g.trans b,d.gone fun _=>g.1.gone,f⟩
theorem jY.oX(b:oz env s){X:QX}{s':Nc}(x:PX C (env.locals::Z7) σ fz s X e s'):jY C env Z7 σ fz s X e s':=
 let ⟨c,a,fz',d,f,g⟩:=x;⟨c,a,fz',.oG b d,f,g⟩
theorem SB.step(S:SB C A Z7 d sc env ρ σ fz s)(g:GS C (env.locals::Z7) σ fz s Z_ Z9 s₁):SB C A Z7 d sc env ρ Z_ Z9 s₁:=⟨S.st.step g,S.top,S.no,S.int,S.mks.step g.1,S.fn⟩
theorem SB.at(S:SB C A Z7 d sc env ρ σ fz s)(g:GT C env Z7 σ fz s Z_ Z9 s₁)(a:LR C (env.locals::Z7) env ZV Z_ Z9 s₁.heap):SB C A Z7 d sc env ZV Z_ Z9 s₁:=
 ⟨⟨S.st.fit,S.st.scE,S.st.gl,S.st.bi,S.st.ok,g.2,a⟩,S.top,S.no,S.int,g.mks S.mks,S.fn⟩
theorem dF(e:oz env s){c d:Type}{R:Fz->d->c->Prop}{Q:d->aa->Prop}{X:QX}{t:Sem c}{Q':c->Nc->Prop}(h:Nt C.M A t (PK C (env.locals::Z7) σ fz s R Q) (PX C (env.locals::Z7) σ fz s X) s)
  (h':∀v s' b a fz',GS C (env.locals::Z7) σ fz s a fz' s'->R fz' b v->Q b a->Q' v s'):Nt C.M A t Q' (jY C env Z7 σ fz s X) s:=
 Nq h (fun v s' ⟨b,a,fz',g,r,q⟩=>h' v s' b a fz' g r q) fun _ _ z=> .oX e z
theorem BM:xl d sc [] []:=by intro C A a env b σ fz s K X S w;exact PJ ⟨none,b,σ,fz,.refl S.mks S.st.good,S.st.lr,trivial,w⟩
theorem yz{st:OP}{oy:List OP}{m:MS}{ms:List MS}(h:SS d sc st m)(hs:xl d sc oy ms):xl d sc (st::oy) (m::ms):=by
 intro C A e env l σ fz s K X S w;refine Py (Nq (h C A e env l σ fz s _ X S w) (fun f s₁ n=>?_) fun _ _ z=>z);obtain⟨o,a,b,c,g,j,i,k⟩:=n;cases o with
 |none=>cases f<;>simp only[HT]at i;exact Nq (hs C A e env a b c s₁ K X (S.at g j) k) (fun _ _ z=>z.via g) fun _ _ z=>z.via g
 |some v=>cases f<;>simp only[HT]at i;exact⟨some v,a,b,c,g,j,i,k⟩
theorem tc{e:Expr}{m:ME}{pos:Pos}(f:SV d sc e m):SS d sc (.Return (some e) pos) (.ret m):=by intro C A h env c σ fz s K X S w;refine SQ (dF S.mks (f C A _ env c σ fz s _ X S.st w) fun v s' b a fz' g r q=>?_);exact⟨some b,c,a,fz',.oG S.mks g,S.st.lr.step g,r,q⟩
theorem EQ{c:Expr}{i:ME}{t e:List OP}{j k:List MS}{pos:Pos}(l:ST d sc c i)(m:xl d sc t j)(n:xl d sc e k):SS d sc (.If c t e pos) (.ite i j k):=by
 intro C A a env h σ fz s K X S w;refine wpAny_If (dF S.mks (l C A _ env h σ fz s _ X S.st w) fun v s' b f fz' g r q=>?_);unfold sd at r;subst r;cases b with
 |true=>exact Nq (m C A a env h f fz' s' K X (S.step g) q) (fun _ _ z=>z.via (.oG S.mks g)) fun _ _ z=>z.via (.oG S.mks g)
 |false=>exact Nq (n C A a env h f fz' s' K X (S.step g) q) (fun _ _ z=>z.via (.oG S.mks g)) fun _ _ z=>z.via (.oG S.mks g)
theorem BN{x:Str}{p pos:Pos}{e:Expr}{m:ME}{i:Nat}(hi:sc.names[i]? =some (x,.local)) (f:SV d sc e m) (hs:∀env:Env,Qo e (some (.Name x p)) pos.line env=OJ false):SS d sc (.Assign [.Name x p] e pos) (.asg i m):=by intro C A h env j σ fz s K X S w;refine Rx (dF S.mks (f C A _ env j σ fz s _ X S.st w) fun v s' b a fz' g r q=>?_) (hs env);refine dc (S.st.lr.step g) S.st.scE (ko S.st.ok) hi r fun c k l=>?_;exact⟨none,_,a,fz',(GT.oG S.mks g).trans (.store (S.mks.step g.1) g.2 S.no k),l,trivial,q⟩
end
section
variable{C:Cx}{A:NT}{FR Z7:List NC}{σ Z_:aa}{fz Z9:Fz}{s s₁:Nc}{env:Env}{ρ ZV:ar}{sc:NR}{d:Nat}{E:M_->Nc->Prop}
theorem yA(e:Expr)(pos:Pos)(v:M_):j0 e=none->Vt e pos v=Vt (.List [] default) pos v:=by cases e<;>first|exact bb|(intro _;kernel_rfl)
theorem qF{w:OY}{A:NT}{E:M_->Nc->Prop}{s:Nc}{Q:We->Nc->Prop}(h:Q .next s):Nt (Ob prog w) A (Vt e pos v) Q E s:=by
 cases q:j0 e with
 |some n=>rw[gi q];exact Nl h
 |none=>
  rw[yA e pos v q];cases v with
  |ref _=>exact M8 (O6 (M8 (Tx (Pd entry_let_go (show Nt _ _ (ret .none) _ _ s from Nl (Nl h))))))
  |_=>exact Nl h
theorem aL.setAt{P:Np}{fz:Fz}{p:PV}{x:M_}(h:VR P fz p x){vs:List PV}{ws:List M_}(j:Nat)(c:aL P fz vs ws):aL P fz (vs.set j p) (ws.set j x):=
 c.ind (m:=fun vs ws=>∀j,aL P fz (vs.set j p) (ws.set j x)) (fun _=> .nil) (fun a b d j=>j.casesOn (.cons h b) fun j=> .cons a (d j)) j
theorem j_{l:NC}{o:Obj}{a:Array M_}{n:Nat}{k:Int}{t:Tok}{v:M_}{Q:Unit->Nc->Prop}(c:s.heap.get? l=some o)(g:o.cls= .type "list")(e:o.data= .seq a n)(h0:0<=k)(b:k<2^63)(h:k<a.size)
  (f:Q () {s with heap:=s.heap.update l (Pa (·.setIfInBounds k.toNat v))}):Nt C.M A (Vc (.ref l) (.int k t) v) Q E s:=by
 have ty:s.TypeIs (.ref l) "list":=⟨_,c,g⟩
 unfold Vc
 try with_reducible refine OG ?_
 first|refine M8 (Nl ?_)|skip
 refine M8 (wpAny_sequenceKey ty (by decide) ?_);refine M8 (T_ (name:=NH "__setitem__") ty Vb (QI Vb ty entry_list_setitem ?_ (args_list_setitem _ _ _)));show Nt _ _ (VU (.int k t)>>=_) _ _ s;refine M8 (wpAny_listSubscript_int (fitsIndex_of h0 b) ?_);clear b;obtain⟨j,rfl⟩:=Pu h0;have i:j<a.size:=Int.ofNat_le.mp h;have d:a[j]? =some a[j]:=Array.getElem?_eq_getElem i;show Nt _ _ ((seqItemAt l j>>=fun r=>OJ (r.map (j,·)))>>=_) _ _ s;refine M8 (M8 (wpAny_seqItemAt c e (Nl ?_)));rw[d];show Nt _ _ (setSeqItemAt l j v>>=_) _ _ s;refine M8 (wpAny_setSeqItemAt c e ?_)
 first
  |exact M8 (Nl (Nl ⟨.none,rfl,Nl f⟩))
  |exact Nl ⟨.none,rfl,Nl f⟩
theorem yB{σ:aa}{K:aa->Prop}(h:qi o i v σ K):(∃a k vs,o= .ref a/\i= .int k/\σ a=some (.lst vs)/\0<=k/\k.toNat<vs.length/\K (σ.upd a (.lst (vs.set k.toNat v))))\/∃a k kvs,o= .ref a/\i= .str k/\σ a=some (.dct kvs)/\kvs.length<1048576/\K (σ.upd a (.dct (rP kvs k v))):=by
 cases o with
 |ref a=>
  cases i with
  |int k=>
   have h:(match σ a with|some (.lst vs)=>0<=k/\k.toNat<vs.length/\K (σ.upd a (.lst (vs.set k.toNat v)))|_=>False):=h
   left
   refine⟨a,k,?_⟩;cases q:σ a with
   |none=>rw[q]at h;exact h.elim
   |some m=>rw[q]at h;cases m with
    |lst vs=>exact⟨vs,rfl,rfl,rfl,h⟩
    |_=>exact h.elim
  |str k=>
   have h:(match σ a with|some (.dct kvs)=>kvs.length<1048576/\K (σ.upd a (.dct (rP kvs k v)))|_=>False):=h
   right
   refine⟨a,k,?_⟩;cases q:σ a with
   |none=>rw[q]at h;exact h.elim
   |some m=>rw[q]at h;cases m with
    |dct kvs=>exact⟨kvs,rfl,rfl,rfl,h⟩
    |_=>exact h.elim
  |_=>exact h.elim
 |_=>exact h.elim
theorem BO{kvs:List (List Nat×PV)}{k:List Nat}{v:PV}(f:kvs.length<1048576)(a:∀x∈kvs,e' x.1)(d:e' k):fa (rP kvs k v)/\∀x∈rP kvs k v,e' x.1:=by
 unfold rP;by_cases c:(kvs.any fun kv=>decide (kv.1=k))=true
 .rw[Nd c];refine⟨M7 (NJ (Nb _)) (NW f),fun x b=>?_⟩;refine i_ b fun y g h=>?_;subst h;by_cases e:y.1=k
  .rw[Nd e];exact a y g
  .rw[Na e];exact a y g
 .rw[Na c];exact⟨M7 (NJ M9) f,fun x b=>(List.mem_append.mp b).elim (a x) fun b=>List.mem_singleton.mp b▸d⟩
theorem vh(G:aw C σ fz FR s.heap){o i v:PV}{H iv j:M_}(L:VR C.P fz o H)(O:VR C.P fz i iv)(V:VR C.P fz v j){K:aa->Prop}(h:qi o i v σ K){Q:Unit->Nc->Prop}
  (W:∀d fz' s',GS C FR σ fz s d fz' s'->K d->Q () s'):Nt C.M A (Vc H iv j) Q E s:=by
 rcases yB h with⟨a,k,vs,rfl,rfl,hs,h0,g,l⟩|⟨a,k,kvs,rfl,rfl,hs,g,l⟩
 .cases L.inv;apply bc;intro f;obtain⟨X,rfl⟩:=O.inv;obtain⟨ws,n,Y,m,c⟩:=fk G hs;apply f;have hi:k<(ws.toArray.size:Int):=by rw[show ws.toArray.size=vs.length from m.length];exact Ow h0▸Int.ofNat_lt.mpr g
  refine j_ Y rfl rfl h0 (TQ hi (jt m.length c)) hi ?_;exact W _ fz _ (gt G hs Y (ws':=ws.set k.toNat j) (kZ (Array.toList_setIfInBounds ..)) (m.setAt V k.toNat) (M7 (NJ List.length_set) c)) l
 .cases L.inv;apply bc;intro f;obtain⟨X,rfl,p⟩:=O.inv;obtain⟨r,hr,Z,c,t,a1⟩:=dZ G hs;apply f;refine wpAny_setItem_pairs (knd:=strKind pw C.w) (k:=aq k) (PD pw C.w _ X) hr (fun h' u x=>?_) (by rw[Z.len];exact M7 (NW g) (M7 (by decide) aA));apply bc;intro f;obtain⟨y,z⟩:=BO (v:=v) g t p;obtain⟨o',D,F⟩:=k9 (C:=C) (fz:=fz) u (Z.stored V) y z;apply f;exact W _ fz _ (.ledUpd G (fun q=>aj (q.symm.trans hs)) (fun b o hb e=>(x.2 b hb).trans e) D F) l
theorem yC{f:List Expr}{k:Nat}{h pos:Pos}{e:Expr}{m:ME}{a:List Nat}(y:dM sc (.Tuple f k h)=some a)(D:SV d sc e m)(t:2<=a.length)
  (hs:∀env:Env,Qo e (some (.Tuple f k h)) pos.line env=OJ false) (E:∀env:Env,Wh [.Tuple f k h] e env=OJ none):SS d sc (.Assign [.Tuple f k h] e pos) (.asgT a m):=by
 intro C A F env u σ fz s K X S w;refine Assign_Tuple (dF S.mks (D C A _ env u σ fz s _ X S.st w) fun v s' b l fz' g r q=>?_) (hs env) (E env);apply bc;intro n;obtain⟨vs,o,rfl,c,H⟩:=q;apply n;have p:oM u a (.tup vs)=some o:=by
  cases a with
  |nil=>cases t
  |cons i a=>cases a with
   |nil=>exact absurd t (T3 1)
   |cons j a=>exact c
 refine Nq (lx (S.st.step g) y r p) (fun _ x L=>?_) fun _ _ z=>z;apply bc;intro n;obtain⟨M,O⟩:=L;apply n;exact⟨none,_,l,fz',(GT.oG S.mks g).trans (.store (S.mks.step g.1) g.2 S.no M),O,trivial,H⟩
theorem yD{o e:Expr}{L m:ME}{a:Str}{i:Nat}{p pos:Pos}(hi:aC i=a)(Q:SV d sc o L)(V:SV d sc e m)(hs:∀env:Env,Qo e (some (.Attribute o a p)) pos.line env=OJ false):
  SS d sc (.Assign [.Attribute o a p] e pos) (.asgA L i m):=by
 intro C A u env D σ fz s K X S w;subst hi;refine QA (dF S.mks (V C A _ env D σ fz s _ X S.st w) fun v s₁ b c f g r q=>?_) (hs env);refine Nq (dF (S.step g).mks (Q':=fun E j=>Nt C.M A (Vd E (aC i) v) (fun _=>PF C u env c f s₁ K .next) (jY C env u c f s₁ X) j) (Q C A _ env D c f s₁ _ X (S.st.step g) q) fun E j O F H h x y=>?_) (fun E j z=>?_) fun _ _ z=>z.via (.oG S.mks g)
 .refine ux h.2 x (r.mono h.1.fzk) y fun n t P l k=>?_;exact⟨none,D,n,t,.oG (S.step g).mks (h.trans l),((S.st.lr.step g).step h).step l,trivial,k⟩
 .exact Nq z (fun _ _ z=>z.via (.oG S.mks g)) fun _ _ z=>z.via (.oG S.mks g)
theorem yE{o i e:Expr}{Y Z m:ME}{p pos:Pos}(io:SV d sc o Y)(ii:SV d sc i Z)(ie:SV d sc e m)(hs:∀env:Env,Qo e (some (.Subscript o i p)) pos.line env=OJ false):
  SS d sc (.Assign [.Subscript o i p] e pos) (.asgS Y Z m):=by
 intro C A t env P σ fz s K X S w;refine wpAny_Assign_Subscript (dF S.mks (ie C A _ env P σ fz s _ X S.st w) fun v s₁ b a c g r q=>?_) (hs env);refine Nq (dF (S.step g).mks (Q':=fun Q h=>Nt C.M A (Q2 i env) (fun iv l=>Nt C.M A (Vc Q iv v) (fun _=>PF C t env a c s₁ K .next) (jY C env t a c s₁ X) l) (jY C env t a c s₁ X) h) (io C A _ env P a c s₁ _ X (S.st.step g) q) fun Q h a0 u x f E F=>?_) (fun Q h z=>?_) fun _ _ z=>z.via (.oG S.mks g)
 .refine Nq (ii C A _ env P u x h _ X ((S.st.step g).step f) F) (fun iv l zz=>?_) fun _ _ z=>(jY.oX ((S.step g).step f).mks z).via (.oG (S.step g).mks f);obtain⟨a1,V,W,j,H,L⟩:=zz;have O:=f.trans j;refine vh j.2 (E.mono j.1.fzk) H (r.mono O.1.fzk) L fun y D a2 n k=>?_;exact⟨none,P,y,D,.oG (S.step g).mks (O.trans n),((((S.st.lr.step g).step f).step j).step n),trivial,k⟩
 .refine Nq z (fun iv l z=>?_) fun _ _ z=>z.via (.oG S.mks g);exact Nq z (fun _ _ z=>z.via (.oG S.mks g)) fun _ _ z=>z.via (.oG S.mks g)
theorem yF{e:Expr}{m:ME}{pos:Pos}(h:SV d sc e m)(hs:∀env:Env,Qo e none pos.line env=OJ false):SS d sc (.Expr e pos) (.expr m):=by
 intro C A a env f σ fz s K X S w;rw[exec_Expr env e pos S.int (hs env)];refine M8 (O6 (M8 (dF S.mks (h C A _ env f σ fz s _ X S.st w) fun v s' b c fz' g r q=>?_)));have done:PF C a env σ fz s K .next s':=⟨none,f,c,fz',.oG S.mks g,S.st.lr.step g,trivial,q⟩
 exact qF done
end
section
variable{C:Cx}{A:NT}{Z7:List NC}{σ Z_:aa}{fz Z9:Fz}{s s₁:Nc}{env:Env}{ρ ZV:ar}{sc:NR}{d:Nat}{E:M_->Nc->Prop}
inductive BP(C:Cx)(env:Env)(Z7:List NC)(σ:aa)(fz:Fz)(s:Nc)(X:QX)(e:M_)(s':Nc):Prop
 |mk (c:Nat) (Z6:aa) (fz':Fz) (g:GT C env Z7 σ fz s Z6 fz' s') (x:lz s (env.locals::Z7) Z6 fz' s'.heap c e) (q:X c Z6)
theorem BP.t{X:QX}{s':Nc}(x:BP C env Z7 σ fz s X e s'):jY C env Z7 σ fz s X e s':=by
 cases x with
 |mk c a fz' b d f=>exact⟨c,a,fz',b,d.r,f⟩
theorem jD(S:SB C A Z7 d sc env ρ σ fz s){X:QX}{s':Nc}{E:M_->Nc->Prop}(f:∀e s',BP C env Z7 σ fz s X e s'->E e s')(h:jY C env Z7 σ fz s X e s'):SW C.M A env E e s':=by obtain⟨c,b,fz',g,x,q⟩:=h;exact kE S.mks S.top (fun a i=>(S.st.good.free i).2.1) g x fun h' j k=>f _ _ ⟨c,b,fz',j,k,q⟩
theorem yG(S:SB C A Z7 d sc env ρ σ fz s){X:QX}{s':Nc}{E:M_->Nc->Prop}(f:∀e s',BP C env Z7 σ fz s X e s'->E e s')(h:BP C env Z7 σ fz s X e s'):U0 C.M A env E e s':=by obtain⟨c,b,fz',g,x,q⟩:=h;have i:=x;obtain⟨p,r,vs,T,t,u,rfl,v,j,w,k,y,z,D,F,l,H,K,L,O,P,Q,V,W⟩:=x;unfold U0;refine M8 (P1 j k l ?_);rw[Na (show ¬(OF T==Ot)=true from Ps)];exact h9 S.mks (fun a m=>(S.st.good.free m).2.1) g i _ fun h' n o=>f _ _ ⟨c,b,fz',n,o,q⟩
theorem vi(S:SB C A Z7 d sc env ρ σ fz s){X:QX}{s':Nc}{Q:Unit->Nc->Prop}{E:M_->Nc->Prop}(k:∀s',BP C env Z7 σ fz s X e s'->Q () s')(h:jY C env Z7 σ fz s X e s'):Nt C.M A (Wr env e) Q E s':=by obtain⟨c,b,fz',g,x,q⟩:=h;unfold Wr;refine M8 (kE S.mks S.top (fun a f=>(S.st.good.free f).2.1) g x fun h' i j=>?_);exact h9 S.mks (fun a f=>(S.st.good.free f).2.1) i j _ fun h' i j=>k _ ⟨c,b,fz',i,j,q⟩
noncomputable def PR(C:Cx)(a:List NC)(env:Env)(σ:aa)(fz:Fz)(s:Nc)(K:QS)(X:QX)(r:Sf)(s':Nc):Prop:=match r with
 |.ok f=>PF C a env σ fz s K f s'
 |.error e=>BP C env a σ fz s X e s'
theorem qG(S:SB C A Z7 d sc env ρ σ fz s){K:QS}{X:QX}(h:P5 C.M A c (PR C Z7 env σ fz s K X) s₁):
  P5 C.M A c (fun r s'=>match r with|.ok f=>PF C Z7 env σ fz s K f s'|.error e=>U0 C.M A env (jY C env Z7 σ fz s X) e s') s₁:=
 SY h fun r s' z=>by
  cases r with
  |ok f=>exact z
  |error e=>exact yG S (fun _ _ z=>z.t) z
inductive WI(C:Cx)(env:Env)(Z7:List NC)(σ:aa)(fz:Fz)(s:Nc)(d:Nat)(mc:ME)(mb:List MS)(K:QS)(X:QX)(k:Nat)(s':Nc):Prop
 |mk (ZY:ar) (Z6:aa) (fz':Fz) (g:GT C env Z7 σ fz s Z6 fz' s') (lr:LR C (env.locals::Z7) env ZY Z6 fz' s'.heap) (w:bE (fun ρ σ K'=>fQ d mc ρ σ K' X) (fun ρ σ K'=>ai d mb ρ σ K' X) k ZY Z6 K)
theorem vj(ic:ST d sc c mc)(ib:xl d sc b mb):SS d sc (.While c b [] pos) (.whl mc mb):=by
 intro C A Z7 env ρ σ fz s K X S w;obtain⟨n,w⟩:=w;refine wpAny_While (qG S ?_);refine codeAny_whileLoop (WI C env Z7 σ fz s d mc mb K X) ?_ n ⟨ρ,σ,fz,.refl S.mks S.st.good,S.st.lr,w⟩;intro k s₁ z;cases z with
 |mk ZV Z_ Z9 g lr w=>
 cases k with
 |zero=>exact False.elim w
 |succ k=>
  have Zw:=S.at g lr;refine Nq (ic C A _ env ZV Z_ Z9 s₁ _ X Zw.st w) (fun t Z4 zz=>?_) fun e s' z=>jD S (fun _ _ z=>z) ((jY.oX Zw.mks z).via g);clear w;cases zz with
  |mk pt Z2 ZL ZS rt q=>
  have e:pt=t:=rt;subst e;have S₂:=Zw.step ZS;have g02:=g.trans (.oG Zw.mks ZS);clear Zw ZS g lr rt;cases pt with
  |false=>exact PJ ⟨none,ZV,Z2,ZL,g02,S₂.st.lr,trivial,q⟩
  |true=>
   refine Nq (ib C A Z7 env ZV Z2 ZL Z4 _ X S₂ q) (fun f s₃ z=>?_) fun e s' z=>jD S (fun _ _ z=>z) (z.via g02);cases z with
   |mk o ρ₃ ZD fz₃ Zr lr₃ hf q₃=>
   cases o with
   |none=>cases f<;>first|exact hf.elim|exact⟨k,NX _,ρ₃,ZD,fz₃,g02.trans Zr,lr₃,q₃⟩
   |some v=>cases f<;>first|exact hf.elim|exact⟨some v,ρ₃,ZD,fz₃,g02.trans Zr,lr₃,hf,q₃⟩
theorem GT.touch(i:oz env s)(g:GT C env Z7 σ fz s Z_ Z9 s₁){I:NC}(j:s.heap.get? I=none)(h0:σ I=none)(a:bY I (env.locals::Z7) Z_ Z9 s₁.heap){h':Om}{tk:Nat}(d:∀b o,b≠I->s₁.heap.get? b=some o->h'.get? b=some o):
  GT C env Z7 σ fz s Z_ Z9 {s₁ with heap:=h',toks:=tk}:=
 g.exc (s':={s₁ with heap:=h',toks:=tk}) i [I] (fun u h=>by simp at h;subst h;exact⟨j,h0,a.s,a.f,a.r⟩) (fun b o _ c e=>d b o (by simpa using c) e) fun b c o e=>⟨o.slots,d b o (fun q=>a.r (q▸c)) e⟩
theorem LR.butI{c:List NC}{I:NC}{h':Om}(x:LR C c env ρ σ fz s.heap)(a:I≠env.locals)(d:∀o v,s.heap.get? I=some o->o.data≠.cell v)(e:∀b o,b≠I->s.heap.get? b=some o->h'.get? b=some o):LR C c env ρ σ fz h':=x.but a (.inr d) e
theorem pk{I:NC}(hn:I∉cH env){s':Nc}{Z6:aa}{fz':Fz}(h:bY I (env.locals::Z7) σ fz s.heap)(g:GT C env Z7 σ fz s Z6 fz' s'):bY I (env.locals::Z7) Z6 fz' s'.heap/\∀o,s.heap.get? I=some o->s'.heap.get? I=some o:=by
 apply bc;intro qK;obtain⟨o,ho⟩:=h.t;apply qK;have hno:I∉Z7:=fun e=>h.r (by simp[e]);have hu:(mk σ (cH env)) I=none:=by rw[cw hn];exact h.s
 refine⟨⟨?_,?_,h.r,⟨o,g.1.keep I o ho hu hno⟩⟩,fun o h'=>g.1.keep I o h' hu hno⟩
 .cases z:Z6 I with
  |none=>rfl
  |some m=>
   rcases g.1.ledn I (by rw[cw hn,z];simp)with e|e
   .exact absurd hu e
   .rw[ho]at e;exact bb e
 .cases z:fz' I with
  |none=>rfl
  |some m=>
   rcases g.1.fzn I (by rw[z];simp)with e|e|e
   .exact absurd h.f e
   .exact absurd hu e
   .rw[ho]at e;exact bb e
inductive FI(C:Cx)(env:Env)(Z7:List NC)(σ:aa)(fz:Fz)(s:Nc)(d:Nat)(mb:List MS)(is:List Nat)(Z8:List PV)(ZZ:Nat->Om->Prop)(Z9:Fz)(I:NC)(K:QS)(X:QX)(k:Nat)(s':Nc):Prop
 |mk (i:Nat) (ZY:ar) (Z6:aa) (fz':Fz) (e:k=Z8.length+1-i) (hi:i<=Z8.length) (g:GT C env Z7 σ fz s Z6 fz' s') (lr:LR C (env.locals::Z7) env ZY Z6 fz' s'.heap) (st:ZZ i s'.heap) (hfz:∀a o,Z9 a=some o->fz' a=some o)
  (oI:bY I (env.locals::Z7) Z6 fz' s'.heap) (w:bu (fun ρ σ K'=>ai d mb ρ σ K' X) is (Z8.drop i) ZY Z6 K)
theorem WK.cell{fz:Fz}{a:List PV}{I:NC}{b:Nat->Om->Prop}(W:WK C A fz a I b){i:Nat}{h:Om}(st:b i h)(o:Obj)(v:Option M_)(d:h.get? I=some o):o.data≠.cell v:=by obtain⟨o',_,c,_,_,e⟩:=W.k _ _ st;have i0:=d.symm.trans c;injection i0 with z0;subst z0;exact e v
theorem BQ(ht:dM sc c4=some is)(ii:SI d sc it mi)(ib:xl d sc b mb)(c5:∀(env:Env)x,PT it env x=OJ x):
  SS d sc (.For c4 it b [] pos) (.forl is mi mb):=by
 intro C A D env ρ σ fz s K X S w;refine wpAny_For ?_ (c5 env);refine ii C A _ env ρ σ fz s _ X _ _ S.st w (fun e s' z=> .oX S.mks z) fun it e8 j a9 n s₁ H c6 a6=>?_;apply bc;intro qK;obtain⟨I,c7,rfl,c8,gI,oI,W,c9⟩:=c6;apply qK;have L:=H.trans gI;have a4:s.heap.get? I=none:=H.1.gone c8;have a7:σ I=none:=(S.st.good.free a4).2.1;have d3:I≠env.locals:=fun e=>oI.r (e▸Ng);have d4:I∉cH env:=fun e=>by obtain⟨o,M⟩:=S.mks I e;exact aj (a4.symm.trans M)
 refine qG S ?_;refine codeAny_forLoop_any (FI C env D σ fz s d mb is j c7 n I K X) ?_ (j.length+1-0) ⟨0,ρ,a9,n,rfl,NP _,.oG S.mks L,S.st.lr.step L,c9,fun _ _ h=>h,oI,by rw[RZ];exact a6⟩;clear a6 oI c9 L gI H c8 w ii;intro k q z;cases z with
 |mk i b7 E fz' e hi g lr st O F w=>
 subst e;by_cases P:i<j.length
 .rw[OZ P]at w;apply bc;intro qK;obtain⟨Q,d5,w⟩:=w;apply qK;refine W.next (fz':=fz') O st P fun v pv l tk d6 rv a5 hk=>?_;obtain rfl:=(Nh (d6.symm.trans (NA P)))
  have t:=g.touch S.mks a4 a7 F (h':=l) (tk:=tk) hk;have V:LR C (env.locals::D) env b7 E fz' l:=LR.butI (s:=q) lr d3 (W.cell st) hk;have Y:bY I (env.locals::D) E fz' l:=⟨F.s,F.f,F.r,by obtain⟨o,_,M,_⟩:=W.k _ _ a5;exact⟨o,M⟩⟩
  have u:SB C A D d sc env b7 E fz' {q with heap:=l,toks:=tk}:=S.at t V;refine vc W (i:=i+1) a5 ?_;refine Nq (lx u.st ht rv d5) (fun _ Z zz=>?_) fun _ _ z=>z;apply bc;intro qK;obtain⟨ls,b8⟩:=zz;have gs:=GT.store u.mks u.st.good S.no ls;have c:=t.trans gs;have d7:SB C A D d sc env Q E fz' Z:=S.at c b8;obtain⟨b9,a0⟩:=pk d4 (s:={q with heap:=l,toks:=tk}) Y gs;apply qK;have c0:c7 (i+1) Z.heap:=W.frame a5 a0 (fun a o M=>c.2.sub a o (O a o M)) fun a o M=>t.2.sub a o (O a o M);clear a0 gs ls u Y V t hk a5 rv d6 F lr st g;refine Nq (ib C A D env Q E fz' Z _ X d7 w) (fun f f2 z=>?_) fun e s' z=>jD S (fun _ _ z=>z) (z.via c);cases z with
  |mk o a1 a2 p m a3 hf a8=>
  cases o with
  |none=>apply bc;intro qK;obtain⟨c1,c2⟩:=pk d4 b9 m;apply qK;have y:∀a o,n a=some o->p a=some o:=fun a o h=>m.1.fzk a o (O a o h);cases f<;>first|exact hf.elim|exact⟨j.length+1-(i+1),by rw[TW,Vx hi];exact NX _,i+1,a1,a2,p,rfl,P,c.trans m,a3,W.frame c0 c2 (fun a o M=>m.2.sub a o (y a o M)) (fun a o M=>c.2.sub a o (O a o M)),y,c1,a8⟩
  |some v=>cases f<;>first|exact hf.elim|exact⟨some v,a1,a2,p,c.trans m,a3,hf,a8⟩
 .obtain rfl:=QO hi (Nat.not_lt.mp P);rw[Rr]at w;refine W.done st fun h' tk hk=>?_;exact PJ ⟨none,b7,E,fz',g.touch S.mks a4 a7 F (h':=h') (tk:=tk) hk,LR.butI (s:=q) lr d3 (W.cell st) hk,trivial,w⟩
theorem bY.ext{o:Obj}{h:Om}(x:bY b c σ fz h)(a:b≠D):bY b c σ (fz.ext D o) h:=⟨x.s,by simp[Fz.ext,a,x.f],x.r,x.t⟩
theorem bY.upd{h:Om}(x:bY b c σ fz h)(a:b≠D):bY b c (σ.upd D m) fz h:=⟨by rw[aa.uN _ _ a];exact x.s,x.f,x.r,x.t⟩
theorem pn{x:Str}{p pos cp:Pos}{u y iter:Expr}{n:List Expr}{isc:NR}{i:Nat}{is:List Nat}{me mt:ME}{mi:List ME}{V:List (Option Nat)}{fr:Bool}(hi:sc.names[i]? =some (x,.local))
  (b7:SI d sc iter mt) (W:∀(env:Env)x,PT iter env x=OJ x)
  (ht:dM (bX sc isc) u=some is) (ie:SV d (bX sc isc) y me) (ii:∀(i:Nat)(e:Expr)(m:ME),n[i]? =some e->mi[i]? =some m->ST d (bX sc isc) e m) (Y:n.length=mi.length)
  (Z:kl sc isc=some V) (b8:bB isc=true) (a0:bB (bX sc isc)=true) (b9:∀x∈isc.names,x.2≠.cell)
  (hs:∀env:Env,env.scope=sc->Qo (.ListComp y [⟨u,iter,n,0⟩] isc cp) (some (.Name x p)) pos.line env=OJ true):
  SS d sc (.Assign [.Name x p] (.ListComp y [⟨u,iter,n,0⟩] isc cp) pos) (.asg i (.comp fr V is me mt mi)):=by
 intro C A k env ρ σ fz s K X S w;rw[exec_Assign_Name_used x p _ pos (hs env S.st.scE)];refine M8 (O6 (M8 ?_));show Nt C.M A (do let _ ←Wi (.ListComp y [⟨u,iter,n,0⟩] isc cp) isc env _ (Wq []) _ _ (some (V9 (.Name x p) env))) _ _ s;apply M8;refine kA (E:=jY C env k σ fz s X) (X:=X) S.st b7 W ht ie ii Y Z b8 a0 b9 w (fun _ _ h=> .oX S.mks h) fun D O acc e3 fz' s' z F a1 g Q oL hn hD hl hq=>?_;apply bc;intro qK;obtain⟨m,hm⟩:=hn;obtain⟨ws,n',a3,hv⟩:=hD;have d6:=(S.st.good.free z).2.1;have a4:=(S.st.good.free F).2.1;have q:O≠env.locals:=fun e=>oL.r (by simp[e]);have c1:O∉cH env:=fun e=>by obtain⟨o,ho⟩:=S.mks O e;rw[F]at ho;exact aj ho
 apply qK;have fin:∀(pv:PV)(c:aa)(j:Fz),GS C (env.locals::k) σ fz s c j s'->bY O (env.locals::k) c j s'.heap->VR C.P j pv (.ref D)->K none (ρ.set i (some pv)) c->
   V7 C.M A (jY C env k σ fz s X) (some (V9 (.Name x p) env)) (fun _ s'=>Nt C.M A (OJ ()) (fun _ s'=>Nt C.M A (OJ Flow.next) (PF C k env σ fz s K) (jY C env k σ fz s X) s') (jY C env k σ fz s X) s') (.ref D) O (.ok .next) s':=by
  intro pv c j l H rv hk;refine SO (dc (S.st.lr.step l) S.st.scE (ko S.st.ok) hi rv fun t ls lr=>?_);refine⟨m,hm.extBut ls.keep q,fun h' c3=>?_⟩;have gs:=GT.store (S.mks.step l.1) l.2 S.no ls;have a5:=(GT.oG S.mks l).trans gs;apply bc;intro qK;obtain⟨L,_⟩:=pk c1 H gs;apply qK;have kp:∀b o,b≠O->t.heap.get? b=some o->h'.get? b=some o:=fun b o hb e=>(c3.2 b hb).trans e;have a6:=a5.touch S.mks F a4 L (h':=h') (tk:=t.toks) kp;refine Nl (Nl ⟨none,_,c,j,a6,?_,trivial,hk⟩);refine LR.butI (s:=t) lr q (fun o v ho=>?_) kp;apply bc;intro qK;obtain⟨o',es,ep,a7,c4,_⟩:=hm.extBut ls.keep q;apply qK;rw[ho]at a7;injection a7 with z0;subst z0;rw[c4];intro e;cases e
 cases fr with
 |true=>
  have ga:=GS.adoptF (s₁:=s') g z Q a3;exact fin _ _ _ ga (oL.ext (NZ a1)) (.lst (Nd rfl) hl (hv.mono fun a o h=>by
   have:a≠D:=fun e=>by rw[e,Q.f]at h;exact aj h
   simp[Fz.ext,this,h])) hq
 |false=>have ga:=GS.adopt (s₁:=s') (s':=s') g z Q.s Q.f Q.r (.refl _ _) a3 (.lst hl hv);exact fin _ _ _ ga (oL.upd (NZ a1)) (.ref _) (hq D Q.s)
theorem vk(l:List (Str×Oj)):∀(i j:Nat)(a b:Str),(l.filter (·.2== .cell)).length<=1->l[i]? =some (a,.cell)->l[j]? =some (b,.cell)->i=j:=by
 induction l with
 |nil=>intro i _ _ _ _ h _;simp at h
 |cons x l ih=>
  intro i j a b h c d;cases i with
  |zero=>cases j with
   |zero=>rfl
   |succ j=>simp at c;subst c;have e:(b,OC)∈l.filter (·.2== .cell):=List.mem_filter.mpr ⟨Oq (by simpa using d),rfl⟩;have:=Ts e;rw[Of (by rfl),Nz]at h;exact absurd h (Nat.not_lt.mpr this)
  |succ i=>cases j with
   |zero=>simp at d;subst d;have e:(a,OC)∈l.filter (·.2== .cell):=List.mem_filter.mpr ⟨Oq (by simpa using c),rfl⟩;have:=Ts e;rw[Of (by rfl),Nz]at h;exact absurd h (Nat.not_lt.mpr this)
   |succ j=>have:(l.filter (·.2== .cell)).length<=1:=M7 (by rw[List.filter_cons];split<;>simp) h;rw[ih i j a b this (by simpa using c) (by simpa using d)]
theorem pq{d:Type}{l:List (Str×d)}:∀{n:Str}{c:d},l.lookup n=some c->c∈l.map (·.2):=by
 induction l with
 |nil=>intro _ _ h;exact aj h
 |cons p r ih=>
  obtain⟨a,b⟩:=p;intro n c h;rw[ON]at h;split at h
  .injection h with z0;subst z0;simp
  .exact Ni _ (ih h)
theorem yH{x:Str}{p pos:Pos}{e:Expr}{m:ME}{i:Nat}(hi:sc.names[i]? =some (x,.cell)) (ie:SV d sc e m) (hs:∀env:Env,Qo e (some (.Name x p)) pos.line env=OJ false):
  SS d sc (.Assign [.Name x p] e pos) (.asgc i m):=by
 intro C A a1 env z σ fz s K X S w;have hf:=S.fn;refine Rx (dF S.mks (ie C A _ env z σ fz s _ X S.st w) fun v s' b D fz' g r q=>?_) (hs env);apply bc;intro l;obtain⟨q0,hk⟩:=q;have F:=ko S.st.ok;have E:=S.step g;obtain⟨⟨mm,hm,hv⟩,l0,l1,l2,l3⟩:=E.st.lr;apply l;have t:env.scope.names[i]? =some (x,.cell):=by rw[S.st.scE];exact hi
 apply bc;intro l;obtain⟨c,H,⟨o,c2,c3⟩,c4,V,c6,W⟩:=l3 hf i x q0 t;apply l;have kO:env.kindOf x=some .cell:=by unfold PB;rw[S.st.scE];exact aO F.nd hi
 refine wpAny_storeName_cell (by rw[S.st.scE];exact F.kind) kO H ⟨o,c2,c3⟩ fun h' L M=>?_;apply bc;intro l;obtain⟨o',O,P⟩:=L;apply l;have Y:∀b o,b≠c->s'.heap.get? b=some o->h'.get? b=some o:=fun b o hb e=>(M.2 b hb).trans e;have Q:c∈cH env:=Ni _ (pq H);have gc:=GT.cell (s':={s' with heap:=h'}) E.mks E.st.good Q c4 V c6 O Y;have ex:∀b f,fz' b=some f->fz'.ext c o' b=some f:=fun b f h=>by
  have:b≠c:=fun e=>by rw[e,V]at h;exact aj h
  simp[Fz.ext,this,h]
 refine⟨none,z.set i (some b),D,_,(GT.oG S.mks g).trans gc,⟨⟨mm,hm.extBut Y (NZ W),fun j Z k=>?_⟩,l0,l1,by simp[Fz.ext,NZ W,l2],fun _ j n' k u=>?_⟩,trivial,hk⟩
 .by_cases e:j=i
  .subst e;have n:j<z.length:=by
    have:=(List.getElem?_eq_some_iff.mp k).1
    simpa using this
   have:b=Z:=by rw[Qm n]at k;simpa using k
   subst this;exact⟨x,.cell,t,.inr ⟨.inl rfl,c,o',v,H,by simp[Fz.ext],P,r.mono ex⟩⟩
  .rw[RY (NZ e)]at k;apply bc;intro l;obtain⟨n1,k1,h1,h2⟩:=hv j Z k;apply l;exact⟨n1,k1,h1,h2.imp (fun⟨a,y,b,c⟩=>⟨a,y,b,c.mono ex⟩) fun⟨a,c',f,y,b1,b2,b3,b4⟩=>⟨a,c',f,y,b1,ex _ _ b2,b3,b4.mono ex⟩⟩
 .by_cases e:j=i
  .subst e;have n:j<z.length:=by
    have:=(List.getElem?_eq_some_iff.mp k).1
    simpa using this
   rw[Qm n]at k;cases k
  .rw[S.st.scE]at u;exact absurd (vk _ _ _ _ _ F.one u hi) e
end
noncomputable def Le(b c:aa):Prop:=∀a m,b a=some m->c a=some m
theorem Le.rfl{σ:aa}:Le σ σ:=fun _ _ h=>h
inductive a_(Q:PV->aa->Prop):PV->aa->Prop
 |val {v:PV} {Z_ Z2:aa} (h:Le Z2 Z_) (q:Q v Z2):a_ Q v Z_
 |frz {a:NC} {vs:List PV} {Z_ Z2:aa} (hs:Z_ a=some (.lst vs)) (h:Le Z2 (Z_.del a)) (q:Q (.lst vs) Z2):a_ Q (.ref a) Z_
 |frz2 {a:NC} {v:PV} {vs:List PV} {Z_ Z2:aa} (hs:Z_ a=some (.lst vs)) (h:Le Z2 (Z_.del a)) (q:Q (.tup [v,.lst vs]) Z2):a_ Q (.tup [v,.ref a]) Z_
noncomputable def ao(X:QX):QX:=fun c b=>∃a,Le a b/\X c a
section
variable{C:Cx}{A:NT}{FR Z7:List NC}{σ Z_:aa}{fz Z9:Fz}{s s₁:Nc}{env:Env}{ρ ZV:ar}{sc:NR}{d:Nat}{E:M_->Nc->Prop}
theorem vl(G:aw C σ fz FR s.heap)(hs:σ a=some (.lst vs)):∃o,s.heap.get? a=some o/\VR C.P (fz.ext a o) (.lst vs) (.ref a)/\(∀b o',fz b=some o'->fz.ext a o b=some o'):=by apply bc;intro c;obtain⟨d,o,f,g⟩:=G.led a _ hs;obtain⟨ws,n,rfl,i,j⟩:=g.inv;apply c;have ex:∀b o',fz b=some o'->fz.ext a (bH "list" ws.toArray n) b=some o':=fun b o' h=>(Na fun e=>aj (d.symm.trans (e▸h))).trans h;exact⟨_,f,.lst (Nd rfl) i (j.mono ex),ex⟩
theorem lA(g:GS C FR σ fz s Z_ Z9 s₁){Q:PV->aa->Prop}(r:VR C.P Z9 pv v)(h:a_ Q pv Z_):PK C FR σ fz s (VR C.P) Q v s₁:=by
 cases h with
 |val h q=>exact⟨_,_,Z9,g.trans (.drop g.2 h),r,q⟩
 |frz hs h q=>cases r.inv;apply bc;intro qK;obtain⟨o,ho,rv,ex⟩:=vl g.2 hs;apply qK;have g2:=GS.freeze g.2 (fun e=>aj (e.symm.trans hs)) ho;exact⟨_,_,_,(g.trans g2).trans (.drop g2.2 h),rv,q⟩
 |frz2 hs h q=>apply bc;intro qK;obtain⟨_,_,_,rfl,ha,hl,hv⟩:=r.inv;obtain⟨x,y,rfl,h1,h2⟩:=x3 hv;cases h2.inv;obtain⟨o,ho,rv,ex⟩:=vl g.2 hs;apply qK;have g2:=GS.freeze g.2 (fun e=>aj (e.symm.trans hs)) ho;exact⟨_,_,_,(g.trans g2).trans (.drop g2.2 h),.tup (ex _ _ ha) (No rfl) (.cons (h1.mono ex) (.cons rv .nil)),q⟩
theorem BR(g:GS C FR σ fz s Z_ Z9 s₁){X:QX}(x:jZ s FR Z_ Z9 s₁.heap c e)(h:ao X c Z_):PX C FR σ fz s X e s₁:=by
 apply bc;intro j;obtain⟨b,d,q⟩:=h;obtain⟨k,l,vs,n,o,p,r,t,u,v,w,y,f⟩:=x;apply j;have i:∀a,Z_ a=none->b a=none:=fun a A=>by
  cases z:b a with
  |none=>rfl
  |some m=>exact aj (A.symm.trans (d a m z))
 refine⟨c,b,Z9,g.trans (.drop g.2 d),⟨k,l,vs,n,o,p,r,t,u,i _ v,w,y,f.imp id ?_⟩,q⟩;rintro⟨T,D,E,F,H,K,L,M,O,P,Q,V⟩;exact⟨T,D,E,F,H,K,L,M,O,i _ P,Q,V⟩
theorem h_{a:Type}(ps:List Str):∀(l:List a),((ps.zip l).map (·.1)).Sublist ps:=by
 induction ps with
 |nil=>exact fun _=> .slnil
 |cons p ps b=>exact fun l=>l.casesOn (List.nil_sublist _) fun x l=>(b l).cons₂ _
theorem kF{α:Type}{l:List (Str×α)}{n:Str}{v:α}(hn:(l.map (·.1)).Nodup)(h:(n,v)∈l):l.lookup n=some v:=by
 induction l with
 |nil=>cases h
 |cons a r ih=>
  rw[NU,Pj]at hn;rw[ON];rcases List.mem_cons.mp h with rfl|h
  .rw[ND]
  .rw[beq_eq_false_iff_ne.mpr fun e:n=a.1=>hn.1 (e▸List.mem_map.mpr ⟨(n,v),h,rfl⟩)];exact ih hn.2 h
theorem nk{fz:Fz}{P:Np}{n:Str}{ps:List Str}:∀{a:List PV}{vs:List M_}{pv:PV},aL P fz a vs->(ps.zip a).lookup n=some pv->∃v,(n,v)∈ps.zip vs/\VR P fz pv v:=by
 induction ps with
 |nil=>intro a vs pv _;exact aj
 |cons p ps c=>
  intro a vs pv b h;cases a with
  |nil=>exact aj h
  |cons q a=>
   obtain⟨x,xs,rfl,d,f⟩:=b.inv;rw[List.zip_cons_cons,ON]at h;cases e:n==p with
   |true=>rw[e]at h;injection h with z0;subst z0;obtain rfl:=beq_iff_eq.mp e;exact⟨x,Ng,d⟩
   |false=>rw[e]at h;obtain⟨v,g,b⟩:=c f h;exact⟨v,Ni _ g,b⟩
noncomputable def iB(b:NR)(ps:List Str)(a:List PV):ar:=b.names.map fun x=>(ps.zip a).lookup x.1
theorem rM.deeper(F:rM A FR (d+1)){env:Env}(c:env.frame=some L)(e:env.scope.kind= .function):rM (A.deeper env) (L::FR) d:=by
 obtain⟨f,⟨a,g,h,i⟩,j,k⟩:=F;refine⟨f,⟨env::a,RL g,?_,?_⟩,?_,?_⟩
 .rw[Pb,c,h]
 .intro x b;rcases List.mem_cons.mp b with rfl|b
  .exact⟨e,by rw[c];rfl⟩
  .exact i x b
 .show A.depth+1+2*d+4<=_;lia
 .show A.units+3+12*d+200<=_;lia
structure BS(f:Nat)(sc:NR)(body:List OP)(ps:List Str)(fd:Np->Qi):Prop where
 at_:∀P,∃o,(H1 P).get? f=some o/\o.data= .func (fd P)
 body:∀P,(fd P).body= .stmts body
 scope:∀P,(fd P).scope=sc
 globals:∀P,(fd P).globals=3
 builtins:∀P,(fd P).builtins=0
 closure:∀P,(fd P).closure=[]
 code:∀P,∃c o vs t,(fd P).code= .ref c/\(H1 P).get? c=some o/\o.data= .fields vs/\vs[1]? =some (.str (fd P).qualname t)
 ok:bB sc=true
 nd:ps.Nodup
 loc:∀x∈ps,sc.names.lookup x=some .local
theorem vm{k:NT}(S:SB C k FR d sc env ρ σ fz s₁)(l:∀b o,s.heap.get? b=some o->s₁.heap.get? b=some o)(lv:∀{f fz' s'},GT C env FR σ fz s₁ f fz' s'->GS C FR σ fz s f fz' s'){X:QX}{s':Nc}(z:jY C env FR σ fz s₁ (ao X) e s'):
  Nt C.M k (Wr env e) (fun _ i=>PX C FR σ fz s X e i) E s':=by
 refine vi S (fun i m=>?_) z;obtain⟨c,f,fz',g,x,q⟩:=m;have n:=x.r.gone (s:=s) (fun a p=>by
  cases z:s.heap.get? a with
  |none=>rfl
  |some o=>exact aj (p.symm.trans (l a o z)))
 obtain⟨t,u,vs,v,w,y,A,D,F,H,K,L,j⟩:=n;refine BR (lv g) ⟨t,u,vs,v,w,y,A,D,F,H,K,fun h=>L (Ni _ h),j.imp id ?_⟩ q;rintro⟨T,O,P,Q,V,W,Y,Z,r6,r7,r8,r9⟩;exact⟨T,O,P,Q,V,W,Y,Z,r6,r7,r8,fun h=>r9 (Ni _ h)⟩
theorem jE{f:Nat}{body:List OP}{ps:List Str}{fd:Np->Qi}(j:BS f sc body ps fd)(D:∀x∈sc.names,x.2≠.cell){y pargs:List PV}{ms:List MS}(hb:xl d sc body ms)
  (E:∀(C:Cx)(r:List NC)(σ:aa)(fz:Fz)(s:Nc)(vals:List M_),aw C σ fz r s.heap->aL C.P fz y vals->∃b,Ut s (fd C.P) ⟨vals,[]⟩ (ps.zip b)/\aL C.P fz pargs b)
  {Q:PV->aa->Prop} {X:QX} (w:ai d ms (iB sc ps pargs) σ (fun o _ t=>a_ Q (o.getD .none) t) (ao X)):af (d+1) (.ref f) y σ Q X:=by
 intro C A r fz s vals F G hv;apply bc;intro u;obtain⟨o,ho,hd⟩:=j.at_ C.P;obtain⟨b,a3,a4⟩:=E C r σ fz s vals G hv;obtain⟨cc,co,a5,ct,c1,c2,c3,c4⟩:=j.code C.P;apply u;have H:=ko j.ok;have a6:∀l:List M_,((ps.zip l).map (·.1)).Nodup:=fun l=>by exact j.nd.sublist (h_ ps l)
 refine Vu (by have:=F.depth;lia) (aJ C ho G).2 hd (k_ C G) ⟨cc,co,a5,ct,c1,(aJ C c2 G).2,c3,c4⟩ (j.body C.P) a3 (by rw[j.scope];exact D) (fun x K=>?_) (fun m O p=>?_) (by rw[j.scope];exact H.cor) (by rw[j.scope];exact H.gen) (by rw[j.scope];exact H.kind)
 .rw[j.scope];exact j.loc _ (QF K).1
 generalize hL:s.heap.objs.size=L at *;have V:s.heap.get? L=none:=hL▸fresh s.heap;have fL:=G.free V;have eL:(Re (fd C.P) L f).locals=L:=rfl;have eF:(Re (fd C.P) L f).frame=some L:=rfl;have eC:(Re (fd C.P) L f).cells=[]:=j.closure C.P;have M:(Re (fd C.P) L f).scope=sc:=j.scope C.P;have W:cH (Re (fd C.P) L f)=[L]:=by unfold cH;rw[eC];rfl
 have F':rM (A.deeper (Re (fd C.P) L f)) (L::r) d:=F.deeper eF (by rw[M];exact H.kind);have gk:GS C r σ fz s σ fz {s with heap:=m,toks:=s.toks+(ps.zip b).length}:= .keep G p;apply bc;intro u;obtain⟨oL,a7,a8,Y,hdL,e3⟩:=id O;apply u;have G':aw C σ fz (L::r) m:=⟨gk.2.base,gk.2.sub,fun a ha=>by
  rcases List.mem_cons.mp ha with rfl|ha
  .exact⟨fL.1,fL.2.1,oL,a7,a8,Y,hdL⟩
  .exact gk.2.fr a ha,gk.2.led⟩
 have lr:LR C (L::r) (Re (fd C.P) L f) (iB sc ps pargs) σ fz m:=by
  refine⟨⟨_,O,fun i v hi=>?_⟩,fun i n hi=>?_,fL.2.1,fL.1,fun _ i n _ hi=>?_⟩
  .unfold iB at hi;rw[Oy]at hi;apply bc;intro u;refine cq hi fun y0 h1 h2=>?_;obtain⟨n,k⟩:=y0;obtain⟨x,hm,K⟩:=nk a4 h2;apply u;have hk:sc.names.lookup n=some k:=aO H.nd h1;have b7:=j.loc n (QF hm).1;have i0:=hk.symm.trans b7;injection i0 with z0;subst z0
   refine⟨n,.local,by rw[M];exact h1,.inl ⟨rfl,x,?_,K⟩⟩;refine kF ?_ (List.mem_reverse.mpr hm);rw[List.map_reverse];exact List.pairwise_reverse.mpr ((a6 b).imp fun h=>h.symm)
  .rw[M]at hi;exact absurd rfl (D _ (Oq hi))
  .rw[M]at hi;exact absurd rfl (D _ (Oq hi))
 have S:SB C (A.deeper (Re (fd C.P) L f)) r d sc (Re (fd C.P) L f) (iB sc ps pargs) σ fz {s with heap:=m,toks:=s.toks+(ps.zip b).length}:=by
  refine⟨⟨F',M,j.globals C.P,j.builtins C.P,j.ok,G',lr⟩,?_,fL.2.2,?_,fun c Z=>?_,by intro e;exact bb e⟩
  .apply bc;intro u;obtain⟨a0,h2,h3,h4⟩:=F.frames;apply u;refine⟨a0,L,RL h2,eF,?_,?_⟩
   .rw[Pb,eF,h3];rfl
   .intro x K;rcases List.mem_cons.mp K with rfl|K
    .exact⟨by rw[M];exact H.kind,by rw[eF];rfl⟩
    .exact h4 x K
  .unfold Ry;rw[M,H.kind];rfl
  .rw[W]at Z;obtain rfl:=List.mem_singleton.mp Z;exact⟨oL,Y⟩
 have lv:∀{t fz' s'},GT C (Re (fd C.P) L f) r σ fz {s with heap:=m,toks:=s.toks+(ps.zip b).length} t fz' s'->GS C r σ fz s t fz' s':=fun g=>
  g.leave (s0:=s) (fun c Z=>by rw[W]at Z;obtain rfl:=List.mem_singleton.mp Z;exact V) G p rfl rfl
 refine Nq (hb C _ r _ _ σ fz _ _ _ S w) (fun fl s' z=>?_) fun e s' z=>?_
 .apply bc;intro u;obtain⟨o,f0,t,fz',g,f1,hf,q⟩:=z;apply u;cases o with
  |none=>cases fl<;>first|exact hf.elim|exact lA (lv g) .none q
  |some v=>cases fl<;>first|exact hf.elim|exact lA (lv g) hf q
 .exact vm S p lv z
end
theorem jF(lo:Nat)(m:Str)(k:Oj)(r:List (Str×Oj))(acc:List (Str×NC))(a:(k==OC)=true):RR lo ((m,k)::r) acc=RR (lo+1) r ((m,lo)::acc):=Nd a
theorem jG(lo:Nat)(m:Str)(k:Oj)(r:List (Str×Oj))(acc:List (Str×NC))(a:¬(k==OC)=true):RR lo ((m,k)::r) acc=RR lo r acc:=Na a
theorem pr(names:List (Str×Oj)):∀(lo:Nat)(acc:List (Str×NC))(n:Str),((n,OC)∈names\/(acc.lookup n).isSome=true)->((RR lo names acc).lookup n).isSome=true:=by
 induction names with
 |nil=>exact fun lo acc n h=>h.elim (fun h=>absurd h Nx) id
 |cons p r b=>
  intro lo acc n h;obtain⟨m,k⟩:=p;by_cases a:(k==OC)=true
  .rw[jF _ _ _ _ _ a];refine b _ _ n ?_;rw[ON];cases e:n==m with
   |true=>exact .inr rfl
   |false=>exact h.imp (fun h=>(List.mem_cons.mp h).resolve_left fun q=>by injection q with z0 z1;subst z0 z1;exact df ((ND n).symm.trans e)) id
  .rw[jG _ _ _ _ _ a];exact b _ _ n (h.imp (fun h=>(List.mem_cons.mp h).resolve_left fun q=>by injection q with z0 z1;subst z0 z1;exact a rfl) id)
theorem vn(names:List (Str×Oj)):∀(lo:Nat)(acc:List (Str×NC)),(names.map (·.1)).Nodup->(acc.map (·.1)).Nodup->(∀n∈acc.map (·.1),n∉names.map (·.1))->((RR lo names acc).map (·.1)).Nodup:=by
 induction names with
 |nil=>exact fun _ _ _ h _=>h
 |cons p r c=>
  intro lo acc a d b;obtain⟨m,k⟩:=p;rw[NU,Pj]at a;by_cases e:(k==OC)=true
  .rw[jF _ _ _ _ _ e];exact c _ _ a.2 (List.nodup_cons.mpr ⟨fun q=>b m q Ng,d⟩) (List.forall_mem_cons.mpr ⟨a.1,fun n h q=>b n h (Ni _ q)⟩)
  .rw[jG _ _ _ _ _ e];exact c _ _ a.2 d fun n h q=>b n h (Ni _ q)
theorem td(k:Str->Option Oj)(a:List (Str×M_)):∀(m:Str->Option M_)(n:Str),n∉a.map (·.1)->bindL k a m n=m n:=by
 induction a with
 |nil=>exact fun _ _ _=>rfl
 |cons p r b=>
  intro m n h;rw[NU,Rk,not_or]at h;unfold bindL;rw[b _ n h.2];split
  .exact Na h.1
  .rfl
theorem te(k:Str->Option Oj)(bs:List (Str×M_)):∀(m:Str->Option M_)(n:Str)(v:M_),(bs.map (·.1)).Nodup->(∀x∈bs,k x.1=some .local)->(n,v)∈bs->bindL k bs m n=some v:=by
 induction bs with
 |nil=>exact fun _ _ _ _ _ h=>absurd h Nx
 |cons p r ih=>
  intro m n v hn hk h;rw[NU,Pj]at hn;unfold bindL;rw[Nd (hk p Ng)];rcases List.mem_cons.mp h with rfl|h
  .rw[td k r _ _ hn.1];exact Nd rfl
  .exact ih _ n v hn.2 (fun x hx=>hk x (Ni _ hx)) h
theorem pu(k:Str->Option Oj)(a:List (Str×M_)):∀(m:Str->Option M_),(∀x∈a,k x.1=some .local)->bindC k a m=m:=by
 induction a with
 |nil=>exact fun _ _=>rfl
 |cons p r c=>intro m b;unfold bindC;rw[Nd (b p Ng)];exact c m fun x d=>b x (Ni _ d)
section
variable{d:Nat}{sc:NR}
theorem nq{f:Nat}{body:List OP}{ps:List Str}{fd:Np->Qi}(m:BS f sc body ps fd){K pargs:List PV}{ms:List MS}(hb:xl d sc body ms)
  (Y:∀(P:Np)(fz:Fz)(vals:List M_),aL P fz K vals->∃b,UI (fd P) ⟨vals,[]⟩=OJ (ps.zip b)/\aL P fz pargs b)
  {σ:aa} {Q:PV->aa->Prop} {X:QX} (w:ai d ms (iB sc ps pargs) σ (fun o _ D=>a_ Q (o.getD .none) D) (ao X)):af (d+1) (.ref f) K σ Q X:=by
 intro C A M fz s vals F G hv;apply bc;intro p;obtain⟨o,ho,hd⟩:=m.at_ C.P;obtain⟨b,b7,b8⟩:=Y C.P fz vals hv;obtain⟨cc,co,b9,ct,c1,c2,c3,c4⟩:=m.code C.P;apply p;have O:=ko m.ok;have V:∀x∈ps.zip b,sc.names.lookup x.1=some .local:=fun x E=>m.loc _ (QF E).1;refine codeAny_call_cells (by have:=F.depth;lia) (aJ C ho G).2 hd (k_ C G) ⟨cc,co,b9,ct,c1,(aJ C c2 G).2,c3,c4⟩ (m.body C.P) b7 (m.closure C.P) (fun x E=>by rw[m.scope];exact .inl (V x E)) (fun s₁ x=>?_) (by rw[m.scope];exact O.cor) (by rw[m.scope];exact O.gen) (by rw[m.scope];exact O.kind);generalize hL:s.heap.objs.size=L at *;have a3:s.heap.get? L=none:=hL▸fresh s.heap;have fL:=G.free a3;generalize Z:callEnvC (fd C.P) L f=env at *;have u:env.locals=L:=by rw[←Z];rfl
 have eF:env.frame=some L:=by rw[←Z];rfl
 have eC:env.cells=RR (L+1) sc.names []:=by rw[←Z,←m.scope C.P];rfl
 have W:env.scope=sc:=by rw[←Z];exact m.scope C.P
 have eG:env.globals=3:=by rw[←Z];exact m.globals C.P
 have eB:env.builtins=0:=by rw[←Z];exact m.builtins C.P
 have c0:env.func≠none:=by rw[←Z];intro e;exact bb e
 have a4:∀x∈ps.zip b,env.kindOf x.1=some .local:=fun x E=>by unfold PB;rw[W];exact V x E
 apply bc;intro p;obtain⟨⟨⟨j,tk,rfl⟩,a0,r,_⟩,t,_,l⟩:=x;rw[u]at a0 l;rw[pu _ _ _ a4]at t;have c5:∀n c,env.cells.lookup n=some c->L<c:=fun n c h=>l n c (mem_of_lookup h);have H:∀c,L<=c->s.heap.get? c=none:=fun c h=>R1 (M7 (NJ hL) h);have F':rM (A.deeper env) (L::M) d:=F.deeper eF (by rw[W];exact O.kind);have gk:GS C M σ fz s σ fz {s with heap:=j,toks:=tk}:= .keep G r;obtain⟨oL,c6,c7,a5,hdL,f9⟩:=id a0;apply p;have G':aw C σ fz (L::M) j:=⟨gk.2.base,gk.2.sub,fun a ha=>by
  rcases List.mem_cons.mp ha with rfl|ha
  .exact⟨fL.1,fL.2.1,oL,c6,c7,a5,hdL⟩
  .exact gk.2.fr a ha,gk.2.led⟩
 have cs:∀(i:Nat)(n:Str),sc.names[i]? =some (n,OC)->(env.cells.lookup n).isSome=true:=fun i n h=>by rw[eC];exact pr _ _ _ _ (.inl (Oq h))
 have c9:((ps.zip b).map (·.1)).Nodup:=m.nd.sublist (h_ ps b);have lr:LR C (L::M) env (iB sc ps pargs) σ fz j:=by
  refine⟨⟨_,by rw[u];exact a0,fun i v hi=>?_⟩,fun i n hi=>cs i n (by rw[←W];exact hi),by rw[u];exact fL.2.1,by rw[u];exact fL.1,fun _ i n _ hi=>?_⟩
  .unfold iB at hi;rw[Oy]at hi;apply bc;intro p;refine cq hi fun y0 h1 h2=>?_;obtain⟨n,k⟩:=y0;obtain⟨x,hm,E⟩:=nk b8 h2;apply p;have hk:sc.names.lookup n=some k:=aO O.nd h1;have d5:=m.loc n (QF hm).1;have i0:=hk.symm.trans d5;injection i0 with z0;subst z0
   exact⟨n,.local,by rw[W];exact h1,.inl ⟨rfl,x,te _ _ _ n x c9 a4 hm,E⟩⟩
  .apply bc;intro p;refine DO (cs i n (by rw[←W];exact hi)) fun c y=>?_;have a1:=c5 n c y;have fc:=G.free (H c (NW a1));obtain⟨o,a2,d7⟩:=t n c y;apply p;refine⟨c,y,⟨o,a2,d7⟩,fc.2.1,fc.1,?_,by rw[u];exact RD a1⟩;intro q;rcases List.mem_cons.mp q with q|q
   .exact absurd q (RD a1)
   .exact fc.2.2 q
 have a7:∀c∈cH env,s.heap.get? c=none/\∃o,j.get? c=some o:=fun c y=>by
  unfold cH at y;rcases List.mem_cons.mp y with rfl|y
  .exact⟨by rw[u];exact a3,oL,by rw[u];exact a5⟩
  .apply bc;intro p;refine i_ y fun y0 h1 e0=>?_;obtain⟨n,c'⟩:=y0;subst e0;apply p;refine⟨H c' (NW (l n c' h1)),?_⟩;have nd:(env.cells.map (·.1)).Nodup:=by rw[eC];exact vn _ _ _ O.nd .nil (fun n h=>absurd h Nx)
   apply bc;intro p;obtain⟨o,a2,_⟩:=t n c' (kF nd h1);apply p;exact⟨o,a2⟩
 have S:SB C (A.deeper env) M d sc env (iB sc ps pargs) σ fz {s with heap:=j,toks:=tk}:=by
  refine⟨⟨by rw[u];exact F',W,eG,eB,m.ok,by rw[u];exact G',by rw[u];exact lr⟩,?_,by rw[u];exact fL.2.2,?_,fun c y=>(a7 c y).2,c0⟩
  .apply bc;intro p;obtain⟨a8,h2,h3,h4⟩:=F.frames;apply p;refine⟨a8,L,RL h2,eF,?_,?_⟩
   .rw[Pb,eF,h3,u]
   .intro x E;rcases List.mem_cons.mp E with rfl|E
    .exact⟨by rw[W];exact O.kind,by rw[eF];rfl⟩
    .exact h4 x E
  .unfold Ry;rw[W,O.kind];rfl
 have lv:∀{D fz' s'},GT C env M σ fz {s with heap:=j,toks:=tk} D fz' s'->GS C M σ fz s D fz' s':=fun g=>
  g.leave (s0:=s) (fun c y=>(a7 c y).1) G r rfl rfl
 refine Nq (hb C _ M _ _ σ fz _ _ _ S w) (fun fl s' z=>?_) fun e s' z=>vm S r lv z;apply bc;intro p;obtain⟨o,h6,D,fz',g,h7,hf,q⟩:=z;apply p;cases o with
 |none=>cases fl<;>first|exact hf.elim|exact lA (lv g) .none q
 |some v=>cases fl<;>first|exact hf.elim|exact lA (lv g) hf q
end
theorem ER(P:Np):∃nm q d b e sub f c g h i j k l a,(H1 P).get? 87=some (P3 nm q 87 86 d [.ref 74,.type "Exception",.type "BaseException",.type "object"] b e sub f c g h i j k l a):=
 ⟨_,_,_,_,_,_,_,_,_,_,_,_,_,_,_,rfl⟩
theorem ES(P:Np):∃nm q d b e sub f c g h i j k l a,(H1 P).get? 99=some (P3 nm q 99 98 d [.ref 74,.type "Exception",.type "BaseException",.type "object"] b e sub f c g h i j k l a):=
 ⟨_,_,_,_,_,_,_,_,_,_,_,_,_,_,_,rfl⟩
section
variable{C:Cx}{A:NT}{FR:List NC}{σ:aa}{fz:Fz}{s:Nc}{E:M_->Nc->Prop}
theorem tg(G:aw C σ fz FR s.heap){l:Obj}(m:s.heap.get? k=some l)(f:l.cls= .ref (rN c)){Q:Bool->Nc->Prop}(n:Q true s):Nt C.M A (excMatches (.ref k) (.ref (rN c))) Q E s:=by
 apply bc;intro b;obtain⟨h,g,d,t,D⟩:=s;apply b;unfold rN at f⊢;split at f
 .apply bc;intro b;obtain⟨nm,q,o,e,p,sub,r,i,u,v,w,x,y,z,a,j⟩:=ER C.P;apply b;exact TS (aJ C j G).2 m f (by decide) n
 .apply bc;intro b;obtain⟨nm,q,o,e,p,sub,r,i,u,v,w,x,y,z,a,j⟩:=ES C.P;apply b;exact TS (aJ C j G).2 m f (by decide) n
theorem nr(c:fE.lookup x=some a)(b:a=87\/a=99):rN (eq a)=a:=by rcases b with rfl|rfl<;>rfl
theorem vo{env:Env}{sc:NR}(S:SB C A Z7 d sc env ρ σ fz s)(hg:bW sc x=true)(hx:fE.lookup x=some a)(ha:a=87\/a=99)
 {Z_:aa} {Z9:Fz} {s₁:Nc} (g:GS C (env.locals::Z7) σ fz s Z_ Z9 s₁) (ex:jZ s (env.locals::Z7) Z_ Z9 s₁.heap (eq a) e) {Q:We->Nc->Prop}
 (hQ:∀h' E',GS C (env.locals::Z7) σ fz s Z_ Z9 {s₁ with heap:=h'}->Nt C.M (A.mark (some e)) (exec b₀ env) (fun f s'=>Q f s') E' {s₁ with heap:=h'}):
  Nt C.M A (Sj e env) (fun _ Z4=>Nt C.M A (Ta e none) (fun _ s₃=>Nt C.M A (handleBy e env [.ExceptHandler (some (.Name x np)) none [b₀] hpos]) Q E s₃) E Z4) E s₁:=by
 have fr:∀a,s.heap.get? a=none->σ a=none:=fun a ha=>(S.st.good.free ha).2.1;refine vg S.top fr g ex fun Zy Zt x₁=>?_;refine jC fr Zt x₁ none fun ZB ZS x₂=>?_;obtain⟨ea,oe,vs,T,oT,ts,rfl,q2,q3,q4,q5,q6,q7,q8,q9,r1,r2,r3,r4,r5,r6,r7,r8,r9⟩:=id x₂;have ee:=nr hx ha;refine wpAny_handleBy_cons (codeAny_handlers_test ?_) (by intro q;cases q);have F:=ko S.st.ok;refine Q4 (by rw[S.st.scE];exact F.kind) (by unfold PB;rw[S.st.scE];exact bj hg) (Ve (by rw[S.st.gl];exact xZ ZS.2) (li hx C.P).1 ?_) (jw hx);have key:∀{Q:Bool->Nc->Prop}{E:M_->Nc->Prop},Q true {s₁ with heap:=ZB}->Nt C.M (A.mark (some (.ref ea))) (excMatches (.ref ea) (.ref a)) Q E {s₁ with heap:=ZB}:=by
  intro Q E hq;have:=tg (C:=C) (A:=A.mark (some (.ref ea))) (E:=E) (Q:=Q) (c:=eq a) (s:={s₁ with heap:=ZB}) ZS.2 q3 q4 hq
  rwa [ee]at this
 apply key;apply codeAny_handlers_suite;refine jC fr ZS x₂ none fun h₃ Zr x₃=>?_;exact Py (Nq (hQ h₃ _ Zr) (fun f s' z=>by cases f<;>first|exact PJ z|exact z) fun _ _ z=>z)
end
section
variable{sc:NR}{d:Nat}
theorem yI(t:SV d sc e m)(u:bW sc c=true)(y:fE.lookup c=some a)(D:a=87\/a=99):
  SS d sc (.Try [.Return (some e) k] [.ExceptHandler (some (.Name c l)) none [.Return (some (.Constant .none p n)) o] h] [] [] pos) (.tryR m (eq a)):=by
 intro C A E env i σ fz s K X S w;refine Vn (Py (SQ (Nq (t C A _ env i σ fz s _ _ S.st w) (fun v s' ⟨b,f,fz',g,r,q⟩=>?_) fun x s' z=>?_)))
 .exact⟨some b,i,f,fz',.oG S.mks g,S.st.lr.step g,r,q⟩
 .apply bc;intro F;obtain⟨H,f,fz',g,x,rfl,q⟩:=z;apply F;refine vo S u y D g x fun h' L j=>?_;exact SQ (Nl ⟨some .none,i,f,fz',.oG S.mks j,S.st.lr.step j,.none,q⟩)
theorem yJ{e:Expr}{m:ME}{o p q t u y h pos:Pos}{c x:Str}{D:Nat}{a i:Nat}(hi:sc.names[i]? =some (x,.local)) (E:SV d sc e m) (hs:∀env:Env,Qo e (some (.Name x p)) o.line env=OJ false) (F:bW sc c=true) (H:fE.lookup c=some a) (L:a=87\/a=99):
  SS d sc (.Try [.Assign [.Name x p] e o] [.ExceptHandler (some (.Name c t)) none [.Assign [.Name x q] (.Constant .none D u) y] h] [] [] pos) (.tryA i m (eq a)):=by
 intro C A M env O σ fz s K X S w;refine Vn (Py (Rx (Nq (E C A _ env O σ fz s _ _ S.st w) (fun v s' ⟨b,f,fz',g,r,q⟩=>?_) fun x s' z=>?_) (hs env)))
 .refine dc (S.st.lr.step g) S.st.scE (ko S.st.ok) hi r fun j l n=>?_;exact PJ (PJ ⟨none,_,f,fz',(GT.oG S.mks g).trans (.store (S.mks.step g.1) g.2 S.no l),n,trivial,q⟩)
 .apply bc;intro P;obtain⟨Q,f,fz',g,x,rfl,q⟩:=z;apply P;refine vo S F H L g x fun h' V k=>?_;refine Rx (Nl ?_);refine dc (pv:= .none) (S.st.lr.step k) S.st.scE (ko S.st.ok) hi .none fun j l n=>?_;exact⟨none,_,f,fz',(GT.oG S.mks k).trans (.store (S.mks.step k.1) k.2 S.no l),n,trivial,q⟩
end
set_option backward.match.sparseCases true
set_option tactic.hygienic true
section
open PySem.Builtin.ObjectAttr
noncomputable abbrev kG:List M_:=[.ref 74,.type "Exception",.type "BaseException",.type "object"]
structure BU(P:Np)(c:Nat):Prop where
 obj:∀{G:Prop},(∀nm q N bs ZE sn sub ab Zg dd k0 k1 k2 k3 k5,(H1 P).get? c=some (P3 nm q c N bs kG ZE sn sub ab Zg dd k0 k1 k2 k3 k5 "Exception.__new__")->G)->G
 ini:QK (KK P) (.ref c) "__init__"=some (some (.ref 64))
 sa:QK (KK P) (.ref c) "__setattr__"=some (some (.builtin "object.__setattr__"))
 hd:(UH (KK P) c).any (·.hasDict)=true
 tw:SR (KK P) c "what"=some none
 ta:SR (KK P) c "at"=some none
theorem vp(P:Np)(h:c=87\/c=99):BU P c:=by
 rcases h with rfl|rfl
 .exact⟨fun k=>k _ _ _ _ _ _ _ _ _ _ _ _ _ _ _ rfl,by kernel_rfl,by kernel_rfl,by kernel_rfl,by kernel_rfl,by kernel_rfl⟩
 .exact⟨fun k=>k _ _ _ _ _ _ _ _ _ _ _ _ _ _ _ rfl,by kernel_rfl,by kernel_rfl,by kernel_rfl,by kernel_rfl,by kernel_rfl⟩
theorem HU(P:Np):UV (KK P) (.ref 64)=some (.type "function"):=by kernel_rfl
section
variable{prog:Px}{w:OY}{A:NT}{R:Sf->Nc->Prop}{E:M_->Nc->Prop}{h:Om}{g:Array S5}{d:Vk}{t:Nat}{os:O7}
variable{nm q:Str}{C N:NC}{bs:List M_}{ZE:Bool}{sn:List Str}{sub:List M_}{ab:Bool}{Zg:Option Bool}{dd:Option NC}{k0 k1 k2 k3 k5:Option M_}
theorem gZ(x:M_)(r:Bool)(e:kG.contains x=r)(a:(x==OF C)=false):(OF C::kG).contains x=r:=by rw[Ug,e,a];rfl
theorem yK(a:h.get? C=some (P3 nm q C N bs kG ZE sn sub ab Zg dd k0 k1 k2 k3 k5 "Exception.__new__"))
 (k:R (.ok (.ret (.ref (h.objs.size+1)))) ⟨(h.push {cls:= .type "tuple",data:= .seq rest.toArray}).push
 {cls:= .ref C,data:= .fields #[.ref h.objs.size,.none,.none,.none,.bool false,.none]},g,d,t,os⟩) (b:rest.length<=P2):
  P5 (Ob prog w) A (.builtin "Exception.__new__" ⟨.ref C::rest,[]⟩) R ⟨h,g,d,t,os⟩:=by
 have F:=PySem.F.excBase_Exception;have c:=F.ends;have e:(OF C::kG).contains (.type "Exception")=true:=gZ _ _ (by decide) rfl;have f:(OF C::kG).contains (.type "AttributeError")=false:=gZ _ _ (by decide) rfl;have i:(OF C::kG).contains (.type "NameError")=false:=gZ _ _ (by decide) rfl;refine PySem.codeAny_builtinAt F.entry ?_;unfold Q0.«BaseException.__new__»;refine PySem.wpAt_bind ?_;show PySem.wpAt _ _ _ (stack>>=_) _ _ _;refine PySem.wpAt_bind (PySem.wpAt_stack fun p j=>PySem.wpAt_of_wpAny ?_);wp_walk;refine PySem.wpAt_of_wpAny ?_;rw[F.owner]
 repeat (first|with_reducible refine wpAny_madeHere_exc F.canon a ?_|with_reducible refine OK a ?_|(with_reducible refine P_ a ?_;first|rw[e]|rw[f]|rw[i])|wp_step)
 show R _ _;rw[PO];exact k
theorem yL{Q:Bool->Nc->Prop}(c:h.get? C=some (P3 nm q C N bs kG ZE sn sub ab Zg dd k0 k1 k2 k3 k5 "Exception.__new__"))(e:(OF C::kG).contains a=b)
 (f:Q b ⟨h,g,d,t,os⟩):Nt (Ob prog w) A (Vr (.ref C) a) Q E ⟨h,g,d,t,os⟩:=P_ c (e.symm▸f)
theorem th{Q:Unit->Nc->Prop}(b:h.get? C=some (P3 nm q C N bs kG ZE sn sub ab Zg dd k0 k1 k2 k3 k5 "Exception.__new__"))
 (f:Q () ⟨h,g,d,t,os⟩):Nt (Ob prog w) A (RP "Exception.__new__" ⟨.ref C::rest,[]⟩) Q E ⟨h,g,d,t,os⟩:=by
 have F:=PySem.F.excBase_Exception;have a:(OF C::kG).contains (.type "Exception")=true:=gZ _ _ (by decide) rfl;have c:=F.noStar;delta RP;refine M8 (m:=isType (.ref C)) ?_;refine M8 (m:=loadHead C) ?_;refine OK b ?_;apply Nl;refine M8 (m:=Vr (.ref C) (.type "Exception")) ?_;refine yL b a ?_;refine M8 (m:=Bind.staticBase (.ref C)) (wpAny_staticBase_exc b ?_);refine M8 (m:=Bind.madeBy (.ref C)) (Vl b ?_);refine wpAny_ite_false (NQ fun h=>aK ((bne_self_eq_false _).symm.trans h)) ?_;show Nt _ _ (match Manifest.signature? "Exception.__new__" with|some e=>Bind.checkArgs _ e _|none=>OJ ()) _ _ _;rw[F.newRow]
 repeat wp_step
 exact f
noncomputable abbrev nu(h:Om)(C:NC)(rest:List M_):Om:=(h.push {cls:= .type "tuple",data:= .seq rest.toArray}).push {cls:= .ref C,data:= .fields #[.ref h.objs.size,.none,.none,.none,.bool false,.none]}
theorem dO{o:Obj}(e:h.get? b=some o):(nu h C rest).get? b=some o:=Nm _ (Nm _ e)
theorem qH:(nu h C rest).get? (h.objs.size+1)=some {cls:= .ref C,data:= .fields #[.ref h.objs.size,.none,.none,.none,.bool false,.none]}:=by heap_get
theorem j'{P:Np}(X:(KK P).In h)(l:BU P C){rest:List M_}{Q:PySem.Fin->Nc->Prop}(i:h.get? C=some (P3 nm q C N bs kG ZE sn sub ab Zg dd k0 k1 k2 k3 k5 "Exception.__new__"))
  (m:Nt (Ob prog w) A (P6 (.ref 64) (.ref (h.objs.size+1)::rest)) (fun r s'=>r= .none/\Q (.done (.ret (.ref (h.objs.size+1)))) s') E ⟨nu h C rest,g,d,t,os⟩) (c:rest.length<=P2):
  Nt (Ob prog w) A (Q0.«type.__call__» ⟨.ref C::rest,[]⟩) Q E ⟨h,g,d,t,os⟩:=by
 have F:=PySem.F.excBase_Exception
 repeat (first|with_reducible refine OK i ?_|with_reducible refine Vl i ?_|wp_step)
 refine codeAny_call_builtin_code (Sb _ F.quiet) (th i ?_);refine yK i ?_ c;show Nt _ _ _ _ _ ⟨nu h C rest,g,d,t,os⟩;have f:=dO (C:=C) (rest:=rest) i;have b:(KK P).In (nu h C rest):=fun a o e=>dO (X a o e);have j:=qH (h:=h) (C:=C) (rest:=rest);have k:(OF C::kG).contains (.ref C)=true:=by simp
 unfold isInstance
 repeat (first|with_reducible refine OK j ?_|(with_reducible refine P_ f ?_;rw[k])|wp_step)
 show Nt _ _ (Rn (.ref C) _) _ _ _;refine(SX b l.ini).here ?_;refine OG (M8 ((bind_fn b _ (HU P)).here ?_));refine M8 (Nq m (fun r s' n=>?_) fun _ _ x=>x);obtain⟨rfl,p⟩:=n;wp_walk;exact p
theorem vq{P:Np}(X:(KK P).In h)(c:BU P C){rest:List M_}{Q:M_->Nc->Prop}(b:h.get? C=some (P3 nm q C N bs kG ZE sn sub ab Zg dd k0 k1 k2 k3 k5 "Exception.__new__"))
  (e:Nt (Ob prog w) (A.under (.builtin "type.__call__" ⟨.ref C::rest,[]⟩)) (P6 (.ref 64) (.ref (h.objs.size+1)::rest)) (fun r s'=>r= .none/\Q (.ref (h.objs.size+1)) s') E ⟨nu h C rest,g,d,t,os⟩) (a:rest.length<=P2):
  Nt (Ob prog w) A (P6 (.ref C) rest) Q E ⟨h,g,d,t,os⟩:=by
 have f:=tc_lookup;have i:=tc_bind (.ref C);have j:(⟨h,g,d,t,os⟩:Nc).TypeIs (.ref C) "type":=⟨_,b,rfl⟩
 refine SE (Tn ?_);show Nt _ _ (callAny (.ref C) _) _ _ _
 repeat (any_goals (first|assumption|with_reducible refine OK b ?_|wp_step))
 refine⟨rfl,?_⟩;refine codeAny_call_builtin_at (Sb _ (by decide+kernel)) entry_typeCall (wpAny_check_type_call_sub b (j' X c b ?_ a));exact e
end
section
variable{prog:Px}{w:OY}{A:NT}{E:M_->Nc->Prop}{s:Nc}{K:Frag}
theorem lB{T:String}{name:Str}{v:M_}{pl:Sem Bool}{Q:M_×List M_->Nc->Prop}(X:K.In s.heap)(c:typeOf (.type T)=OJ (.type "type"))(hs:Manifest.isStub T=false)
  (e:findCls K (.type T) (.type "type") name=some (.val v)) (hh:V4 v=true) (h:Q (v,[]) {s with toks:=s.toks+1}):Nt (Ob prog w) A (Rh (.type T) name pl) Q E s:=by
 have a:Vq (.type T)=OJ none:=by unfold Vq;dsimp only;rw[hs];rfl
 have L0:Vh (Ob prog w) s.heap (typeOf (.type T)) (.type "type"):=Pm c;have b:QK K (.type "type") "__getattribute__"=some (some (.builtin "type.__getattribute__")):=type_tga;unfold Rh specialOf;refine M8 (M8 (L0.here ((SX X b).here ?_)));dsimp only;rw[Nd canon_tga];refine M8 (Nq (Q:=fun v=>Q (v,[])) (E:=E) ?_ (fun _ _ z=>Nl z) fun _ _ z=>z);refine cls_open X (Pm a) L0 b (looks_hook X (r:=none) (by rfl)) (by show subIn K _ _=_;rfl) e
  (Nl (by show Nt _ _ (handedOut v) _ _ _;rw[handedOut_of hh];exact Nl h))
end
section
variable{prog:Px}{w:OY}{A:NT}{E:M_->Nc->Prop}{s:Nc}
theorem ka{e C:NC}{m:M_}{t0:NC}{Q:M_->Nc->Prop}{nm q:Str}{N:NC}{u:List M_}{c:Bool}{v:List Str}{sub:List M_}{y:Bool}{i:Option Bool}{z:Option NC}{D H K L M:Option M_}{h:Om}{g:Array S5}{d:Vk}{t:Nat}{l:O7}
  (p:h.get? C=some (P3 nm q C N u kG c v sub y i z D H K L M "Exception.__new__"))
  (r:h.get? e=some {cls:= .ref C,data:= .fields #[.ref t0,.none,.none,.none,.bool false,.none]})
  (O:∀h',h'.get? e=some {cls:= .ref C,data:= .fields #[.ref h.objs.size,.none,.none,.none,.bool false,.none]}->(∀b o,b≠e->h.get? b=some o->h'.get? b=some o)->Q .none ⟨h',g,d,t,l⟩):
  Nt (Ob prog w) A (P6 (.builtin "Exception.__init__") [.ref e,m]) Q E ⟨h,g,d,t,l⟩:=by
 have F:=PySem.F.excBase_Exception;have j:(OF C::kG).contains (.type "Exception")=true:=gZ _ _ (by decide) rfl;have f:=F.noStar;refine SE (Se F.init.plain F.initEntry ?_);simp only[RP,F.initKind,F.initSplit,F.initRow];have s:∀(a b:String)(n:Nat),Bind.check ⟨.positional,"*","Exception",.self,[⟨"args",.varPos,false⟩]⟩ a b n (Wk (fun x=>x.fst) ({pos:=[OF e,m]}:Args).kw)=OJ ():=fun a b n=>check_star_args _ _ _ _ _ _
 repeat (first|(with_reducible refine OK r ?_)|with_reducible refine OK p ?_|(with_reducible refine P_ p ?_;rw[j])|wp_step)
 have k:=Nm {cls:= .type "tuple",data:= .seq [m].toArray} r;wp_walk;refine O _ ?_ fun b o s P=>?_
 .rw[N0 _ k rfl];rfl
 .rw[N3 _ _ (NZ s)];exact Nm _ P
theorem px(self:M_)(c:NC):refuseLoop self "__setattr__" (.ref c::kG)=OJ ():=by rw[VZ,VZ];kernel_rfl
theorem vt(P:Np):([87,99].all fun c=>(UH (KK P) c).any fun a=>a.mro== .ref c::kG&&a.hasDict)=true:=by kernel_rfl
theorem yM(P:Np)(d:c=87\/c=99):∃a,UH (KK P) c=some a/\a.mro= .ref c::kG/\a.hasDict=true:=by have:=List.all_eq_true.mp (vt P) c (by rcases d with rfl|rfl<;>simp);obtain⟨a,e,b⟩:=V_ this;rw[N1,Qn]at b;exact⟨a,e,b⟩
theorem MD(h:(⟨c,d,a,b⟩:Obj).isFreed=false):(⟨c,e,a,b⟩:Obj).isFreed=false:=by cases a<;>first|rfl|exact h
theorem ti{o:Obj}(h:∀c,o.data≠.cls c):notCls o=true:=by
 obtain⟨d,e,a,b⟩:=o;cases a with
 |cls c=>exact absurd rfl (h c)
 |_=>rfl
theorem nv{h:Om}{b:NC}{m:Str->Option M_}{ns:List Str}{name:Str}{v:M_}{Q:PySem.Fin->Nc->Prop}{g:Array S5}{d:Vk}{t k:Nat}{l:O7}(c:h.Ns1 b m)(n:Within m ns)(e:ns.length<=10)
  (o:∀h',h'.Ns1 b (fun y=>if y=name then some v else m y)->QZ b h h'->Q (.done (.ret .none)) ⟨h',g,d,k+1,l⟩):Nt (Ob prog w) A (storeInDict b (.str name t) name v) Q E ⟨h,g,d,k,l⟩:=by
 unfold storeInDict newKeyGuard;refine M8 (Nl (M8 (wpAny_nsSet1 c fun h' a hs=>?_)));obtain⟨r,p,q,f,i,j⟩:=a.count (Within.cons name v n);refine M8 (Vm f (by rw[i];exact Vp (M7 j (M7 (NE e) (sizeLine_eq▸(by decide))))) ?_);exact Nl (o h' a hs)
noncomputable abbrev BV:Obj:={cls:= .type "dict",data:= .dict #[]}
theorem vu{h:Om}{x C:NC}{P:Np}{o:Obj}{y:ClassData}{Q:Option NC->Nc->Prop}{g:Array S5}{d:Vk}{t:Nat}{m:O7}(X:(KK P).In h)(p:UH (KK P) C=some y)(q:y.hasDict=true)(i:h.get? x=some o)(H:o.cls= .ref C)
  (r:∀c,o.data≠.cls c) (z:∀n,o.dict=some n->Q (some n) ⟨h,g,d,t,m⟩)
  (D:o.dict=none->∀h',h'.get? x=some {o with dict:=some h.objs.size}->h'.get? h.objs.size=some BV->(∀b ob,b≠x->h.get? b=some ob->h'.get? b=some ob)->Q (some h.objs.size) ⟨h',g,d,t,m⟩):
  Nt (Ob prog w) A (Ws x true) Q E ⟨h,g,d,t,m⟩:=by
 obtain⟨L,s,j,u⟩:=o;subst H;have f:(h.push BV).get? x=some ⟨.ref C,s,j,u⟩:=Nm _ i;have v:x≠h.objs.size:=N4 (Oo i);have l:=(Heap.get?_some_iff.mp i).2;have F:s=none->Nt (Ob prog w) A (do
    let d ←alloc BV
    update x fun o=>{o with dict:=some d}
    dictMade (.ref C) x d) Q E ⟨h,g,d,t,m⟩:=fun e=>by
  subst e;refine M8 (wpAny_alloc' ?_);refine M8 (wpAny_update' f ?_);refine Nl (a:=some h.objs.size) (D rfl _ (N0 _ f ?_) ?_ fun b ob K e=>(T9 _ _ _ _ K).trans (Nm _ e))
  .exact MD l
  .exact(T9 _ _ _ _ v.symm).trans (Heap.get?_push_at rfl rfl)
 unfold Ws;refine M8 (OK i ?_);refine M8 ((UF (M:=Ob prog w) (h:=h) X p).here ?_);rw[q];cases s with
 |some n=>exact Nl (z n rfl)
 |none=>
  have k:=F rfl;clear i f l z D F;cases j with
  |cls c=>exact absurd rfl (r c)
  |_=>exact k
theorem tj{x C:NC}{P:Np}{ns:List Str}{mA:Str->Option M_}(X:(KK P).In s.heap)(M:C=87\/C=99){name:Str}(ht:SR (KK P) C name=some none){v:M_}{Q:Unit->Nc->Prop}
  (I:s.heap.Inst x C mA) (hw:Within mA ns) (O:ns.length<=10)
  (hq:∀h' a1,h'.Inst x C (fun y=>if y=name then some v else mA y)->
   (∀b o,b≠x->(∀c i,s.heap.get? x=some c->c.dict=some i->b≠i)->s.heap.get? b=some o->h'.get? b=some o)->
   (∀c,s.heap.get? x=some c->∃j,h'.get? x=some j/\j.cls=c.cls/\j.data=c.data/\(∀i,j.dict=some i->c.dict=some i\/s.heap.get? i=none))->Q () {s with heap:=h',toks:=a1}):
  Nt (Ob prog w) A (Vd (.ref x) name v) Q E s:=by
 apply bc;intro qK;obtain⟨h,g,d,t,os⟩:=s;obtain⟨o,z,V,r,hd⟩:=I;obtain⟨cd,D,u,a3⟩:=yM P M;obtain⟨k,ha,hr⟩:=Option.bind_eq_some_iff.mp ht;have nc:=ti r;have K:∃od,InstAt h x o C od:=by
  rcases hd with⟨l,_⟩|⟨i,f,_,n⟩
  .exact⟨none,z,V,nc,by rw[l];trivial⟩
  .obtain⟨od,_,_,ho,_⟩:=n;exact⟨some od,z,V,nc,by rw[f];exact ho⟩
 obtain⟨od,K⟩:=K;have W:=PySem.F.store_object;have sub:Vh (Ob prog w) h (isInstance (.ref x) (.type "object")) true:=K.type.andThen (looks_mroIn X (by unfold mroIn;rw[D,PM,u];rfl));have hm:Vh (Ob prog w) h (mroOf (.ref C)) cd.mro:=(UF X D).andThen .now;have L2:Vh (Ob prog w) h (Rn (.ref C) name) k:=SX X ha;have L3:Vh (Ob prog w) h (storeTaker? k) none:=by
  cases k with
  |none=>cases hr;exact .now
  |some a=>refine cq hr fun b L a4=>?_;refine(looks_takesIn X L).andThen ?_;cases b<;>first|exact .now|exact bb a4
 have a5:∀i,o.dict=some i->i≠x/\h.Ns1 i mA:=fun i e=>by
  rcases hd with⟨l,_⟩|⟨dy,f,p,n⟩
  .exact aj (l.symm.trans e)
  .have i0:=f.symm.trans e;injection i0 with z0;subst z0;exact⟨p,n⟩
 have a6:o.dict=none->(fun _=>none)=mA:=fun e=>by
  rcases hd with⟨_,h⟩|⟨dy,f,_⟩
  .exact(funext h).symm
  .exact aj (e.symm.trans f)
 have Y:x≠h.objs.size:=N4 (Oo z);have a7:=(vp P M).sa;refine qK (set_plain X K a7 ?_);refine Se W.slot.plain W.entry (@check_slot (Ob prog w) _ _ ⟨h,g,d,t+1,os⟩ "object.__setattr__" "object" "__setattr__" (.ref x) [.str name t,v] [] _ W.kind W.split sub (W.args (.ref x) (.str name t) v) ?_);rw[osa_eq,refuse_eq];refine M8 (M8 (K.type.here (M8 (hm.here ?_))));rw[u,px];refine Nl (M8 (K.type.here (M8 (L2.here (M8 (L3.here ?_))))));refine M8 (Nl (M8 (vu X D a3 z V r (fun i f=>?_) fun l h1 a8 a9 k1=>?_)))
 .obtain⟨p,n⟩:=a5 i f;exact nv n hw O fun h' H hs=>hq h' _ ⟨o,(hs.2 x p.symm).trans z,V,r,.inr ⟨i,f,p,H⟩⟩ (fun b ob _ b6 L=>(hs.2 b (b6 o i z f)).trans L)
   fun c q=>⟨c,(hs.2 x p.symm).trans q,rfl,rfl,fun _ e=> .inl e⟩
 .refine nv (m:=mA) (a6 l▸Heap.Ns1.of_empty ⟨_,#[],_,a9,rfl,fun e he=>absurd he (by simp),fun _=>rfl⟩) hw O fun h' H hs=>?_;have Z:=(hs.2 x Y).trans a8;exact hq h' _ ⟨_,Z,V,r,.inr ⟨h.objs.size,rfl,Y.symm,H⟩⟩ (fun b ob b7 _ L=>(hs.2 b (N4 (Oo L))).trans (k1 b ob b7 L))
   fun c q=>by obtain rfl:o=c:=Nh (z.symm.trans q);exact⟨_,Z,rfl,rfl,fun i e=> .inr (Nh e▸fresh h)⟩
end
noncomputable def MF:Qi:=xh (aB 0) "x" "x" 0 [] .none .none .none .none none .none .none 0
noncomputable def be(f:Nat)(P:Np):Qi:=match(H1 P).get? f with
 |some ⟨_,_,.func fd,_⟩=>fd
 |_=>MF
theorem BW{G:List OP->Prop}(k:∀p1 a c d b e f g h i j l m n,(Pos.endLine a==Pos.line b)=true->G [
  .Expr (.Call (.Attribute (.Name "Exception" p1) "__init__" a) [.Name "self" c,.Name "what" d] [] b) e,
  .Assign [.Attribute (.Name "self" f) "what" g] (.Name "what" h) i,
  .Assign [.Attribute (.Name "self" j) "at" l] (.Name "at" m) n]):G (ay 3 0).2.1:=k _ _ _ _ _ _ _ _ _ _ _ _ _ _ rfl
theorem yN:((ay 3 0).2.2.names.lookup (NH "self")==some NameKind.local&&(ay 3 0).2.2.names.lookup (NH "what")==some NameKind.local&&(ay 3 0).2.2.names.lookup (NH "at")==some NameKind.local&&(ay 3 0).2.2.names.lookup (NH "Exception")==some S4&&(ay 3 0).2.2.names.all (fun x=>x.2 != OC)&&bB (ay 3 0).2.2)=true:=by kernel_rfl
theorem BX:(ay 3 0).2.2.names.lookup (NH "self")=some NameKind.local/\(ay 3 0).2.2.names.lookup (NH "what")=some NameKind.local/\(ay 3 0).2.2.names.lookup (NH "at")=some NameKind.local/\(ay 3 0).2.2.names.lookup (NH "Exception")=some S4/\(ay 3 0).2.2.names.all (fun x=>x.2 != OC)=true/\bB (ay 3 0).2.2=true:=by obtain⟨h,a⟩:=cF yN;obtain⟨h,b⟩:=cF h;obtain⟨h,c⟩:=cF h;obtain⟨h,d⟩:=cF h;obtain⟨e,f⟩:=cF h;exact⟨beq_iff_eq.mp e,beq_iff_eq.mp f,beq_iff_eq.mp d,beq_iff_eq.mp c,b,a⟩
theorem ET(P:Np){G:Prop}(k:∀o T a n,(H1 P).get? 64=some o->o.data= .func (be 64 P)->(be 64 P).defaults= .ref T->(H1 P).get? T=some a->a.data= .seq #[.none] n->G):G:=k _ _ _ _ rfl rfl rfl rfl rfl
theorem BY(P:Np):∃c o vs t,(be 64 P).code= .ref c/\(H1 P).get? c=some o/\o.data= .fields vs/\vs[1]? =some (.str (be 64 P).qualname t):=⟨_,_,_,_,rfl,rfl,rfl,rfl⟩
theorem HV(P:Np):((OB (gj P) "Exception").isNone&&OB (qs P) "Exception"==some (.type "Exception"))=true:=by kernel_rfl
theorem HW(P:Np){G:Prop}(k:∀n q c cl d e a f g h i b,be 64 P=xh (ay 3 0) n q c cl d e a f g h i b->G):G:=k _ _ _ _ _ _ _ _ _ _ _ _ rfl
noncomputable def kS(fd:Qi)(pos:List M_):{k:Option (Array M_)->Sem (List (Str×M_)) // UI fd ⟨pos,[]⟩=Ua fd.defaults>>=k}:=⟨_,rfl⟩
theorem jH{s:Nc}{fd:Qi}{pos:List M_}{a:List (Str×M_)}{T:NC}{o:Obj}{b:Array M_}{n:Nat}(c:fd.defaults= .ref T)(d:s.heap.get? T=some o)(hs:o.data= .seq b n)(h:(kS fd pos).1 (some b)=OJ a):Ut s fd ⟨pos,[]⟩ a:=
 BindsTo.of_defaults c d hs (kS fd pos).2 h
theorem BZ(s:Nc){T:NC}{a:Obj}{k:Nat}(c:s.heap.get? T=some a)(hs:a.data= .seq #[.none] k)(e m:M_)(n q gl cl kV doc pm an cd ct b):
  Ut s (xh (ay 3 0) n q gl cl (.ref T) kV doc pm an cd ct b) ⟨[e,m],[]⟩ [("self",e),("what",m),("at",.none)]:=jH rfl c hs (by kernel_rfl)
theorem yO(P:Np):findCls (KK P) (.type "Exception") (.type "type") "__init__"=some (.val (.builtin "Exception.__init__")):=by kernel_rfl
theorem yP:typeOf (.type "Exception")=OJ (.type "type"):=by first|rfl|kernel_rfl
theorem yQ:Manifest.isStub "Exception"=false:=by decide+kernel
theorem B1:((NH "Exception")==("__debug__":Str))=false:=by decide+kernel
theorem vv{w:OY}{A:NT}{E:M_->Nc->Prop}{P:Np}{h:Om}{Q:M_×List M_->Nc->Prop}(X:(KK P).In h)(b:Q (.builtin "Exception.__init__",[]) ⟨h,g,d,t+1,a⟩):
  Nt (Ob prog w) A (Rh (.type "Exception") "__init__" pl) Q E ⟨h,g,d,t,a⟩:=
 lB (s:=⟨h,g,d,t,a⟩) X yP yQ (yO P) rfl b
theorem pz{prog:Px}{w:OY}{A:NT}{E:M_->Nc->Prop}{s:Nc}{env:Env}{e:Expr}{pos:Pos}{Q:We->Nc->Prop}(hi:Ry env=false)(hs:Qo e none pos.line env=OJ false)
  (h:Nt (Ob prog w) A (Q2 e env) (fun v s'=>v= .none/\Q .next s') E s):Nt (Ob prog w) A (exec (.Expr e pos) env) Q E s:=by
 rw[exec_Expr env e pos hi hs];refine M8 (O6 (M8 (Nq h (fun v s' a=>?_) fun _ _ z=>z)));obtain⟨e,z⟩:=a;subst e;exact qF z
section
variable{C:Cx}{A:NT}{E:M_->Nc->Prop}{s:Nc}
noncomputable abbrev EU(c t1:NC):Obj:={cls:= .ref c,data:= .fields #[.ref t1,.none,.none,.none,.bool false,.none]}
inductive EA(h₀ h':Om)(e c:NC):Prop
 |mk (o:Obj) (t1:NC) (at_:h'.get? e=some o) (cls:o.cls= .ref c) (data:o.data= .fields #[.ref t1,.none,.none,.none,.bool false,.none]) (dic:∀dx,o.dict=some dx->h₀.get? dx=none)
theorem EV(b:∀a o,(H1 C.P).get? a=some o->s.heap.get? a=some o)(e:M_)(c:∃m,rest=[m]\/∃x,rest=[m,x]):∃m x,Ut s (be 64 C.P) ⟨e::rest,[]⟩ [("self",e),("what",m),("at",x)]:=by
 refine ET C.P fun d T l n g1 g2 g3 g4 g5=>?_;refine HW C.P fun a1 f a3 g h i a7 a8 a9 a10 a11 a12 j=>?_;rw[j]at g3⊢;have k:h= .ref T:=g3;subst k;obtain⟨m,rfl|⟨x,rfl⟩⟩:=c
 .exact⟨m,.none,BZ s (b _ _ g4) g5 _ _ a1 f a3 g i a7 a8 a9 a10 a11 a12⟩
 .exact⟨m,x,BindsTo.of_defaults rfl (b _ _ g4) g5 rfl rfl⟩
noncomputable abbrev qI(e m x:M_):Str->Option M_:=fun y=>Vz y [("at",x),("what",m),("self",e)]
theorem g6{A:NT}{env:Env}{a h':Om}{tk:Nat}{e:NC}{ev m x v:M_}{y:Str}{p:Pos}{Q:M_->Nc->Prop}{E:M_->Nc->Prop}(f:env.scope=(ay 3 0).2.2)(c:a.Ns env.locals (qI ev m x))(d:env.locals≠e)
  (g:∀b o,b≠e->a.get? b=some o->h'.get? b=some o) (h:(ay 3 0).2.2.names.lookup y=some .local) (i:qI ev m x y=some v) (j:(y==("__debug__":Str))=false) (k:Q v {s with heap:=h',toks:=tk}):
  Nt C.M A (Q2 (.Name y p) env) Q E {s with heap:=h',toks:=tk}:=by
 have l:env.scope.kind= .function:=f▸(ko BX.2.2.2.2.2).kind;obtain⟨o,es,n,q,r⟩:=c;exact wpAny_Name (UA l (by unfold PB;rw[f];exact h) (m:=qI ev m x) ⟨o,es,n,g _ _ d q,r⟩ i k) j
theorem vw{A:NT}{d:Om}(K:∀a o,(H1 C.P).get? a=some o->d.get? a=some o){e:NC}(n:(H1 C.P).get? e=none){c:Nat}(p:c=87\/c=99){h':Om}{j:Nat}{mA:Str->Option M_}{v:M_}{Q':Unit->Nc->Prop}{L:M_->Nc->Prop}{nm:Str}{ns:List Str}
  (r:∀b o,b≠e->d.get? b=some o->h'.get? b=some o) (O:SR (KK C.P) c nm=some none) (k:EA d h' e c) (Q:h'.Inst e c mA) (V:Within mA ns) (W:ns.length<=10)
  (X:∀f g,(∀b o,b≠e->d.get? b=some o->f.get? b=some o)->EA d f e c->f.Inst e c (fun y=>if y=nm then some v else mA y)->Q' () {s with heap:=f,toks:=g}):
  Nt C.M A (Vd (.ref e) nm v) Q' L {s with heap:=h',toks:=j}:=by
 obtain⟨o,t1,k,t,u,l⟩:=k;have Y:∀{a o},(H1 C.P).get? a=some o->a≠e:=fun h q=>aj (n.symm.trans (q▸h));refine tj (s:={s with heap:=h',toks:=j}) (fh _ _ (fun a o h=>r a o (Y h) (K a o h)) _) p O Q V W fun f g w x D=>X f g (fun b ob F hh=>x b ob F (fun H i Z e2 q=>?_) (r b ob F hh)) ?_ w
 .obtain rfl:=Nh (k.symm.trans Z);exact aj ((l i e2).symm.trans (q▸hh))
 .obtain⟨m,a1,a2,a3,a4⟩:=D o k;refine⟨m,t1,a1,a2.trans t,a3.trans u,fun i E=>(a4 i E).elim (l i) fun q=>?_⟩;cases z:d.get? i with
  |none=>rfl
  |some y=>exact aj ((show h'.get? i=none from q).symm.trans (r i y (fun z'=>aj ((show h'.get? i=none from q).symm.trans (z'▸k))) z))
theorem tn{A:NT}{d:Om}{env:Env}(j:env.scope=(ay 3 0).2.2)(eG:env.globals=3)(F:env.builtins=0)(r:∀a o,(H1 C.P).get? a=some o->d.get? a=some o){e t0:NC}(t:(H1 C.P).get? e=none){c:Nat}(l:c=87\/c=99)(he:d.get? e=some (EU c t0)){m x:M_}
  (f:d.Ns env.locals (qI (.ref e) m x)) (g:env.locals≠e) {tk:Nat} {Q:We->Nc->Prop} {E:M_->Nc->Prop}
  (hq:∀h' tk,(∀b o,b≠e->d.get? b=some o->h'.get? b=some o)->EA d h' e c->Q .next {s with heap:=h',toks:=tk}):Nt C.M A (execs (ay 3 0).2.1 env) Q E {s with heap:=d,toks:=tk}:=by
 obtain⟨H,V,n3,n4,n5,n6⟩:=BX;have W:env.scope.kind= .function:=j▸(ko n6).kind;have ei:Ry env=false:=by unfold Ry;rw[W];rfl
 have X:(KK C.P).In d:=fh _ _ r _;have K:=HV C.P;rw[N1,PP,Qn]at K;obtain⟨gn,gh⟩:=EF C.P;obtain⟨bn,bh⟩:=EG C.P;have T:=vp C.P l;have k:(("what":Str)==("__debug__":Str))=false:=by decide+kernel
 have i:(("self":Str)==("__debug__":Str))=false:=by decide+kernel
 have u:(("at":Str)==("__debug__":Str))=false:=by decide+kernel
 refine T.obj fun nm q N bs Y sn sub ab b8 dd k0 k1 k2 k3 k5 hC=>?_;have L:=r _ _ hC;refine BW (G:=fun b=>Nt C.M A (execs b env) Q E _) fun p1 p2 Z p4 D p6 p7 p8 p9 q1 q2 q3 q4 q5 n=>?_;have v:Sx true (.Name "Exception" p1) env p2 D=OJ D:=by unfold Sx;simp[n]
 refine Py (pz ei rfl ?_);rw[Wj,show ∀w:Sem M_,Sy (.Name "Exception" p1) "__init__" env w=w from fun _=>rfl];refine M8 (Q4 W (by unfold PB;rw[j];exact n4) (UY (by rw[eG];exact⟨_,_,_,r _ _ gh,rfl,d8 (uz C.P),fun _=>rfl⟩) K.1 (by rw[F];exact⟨_,_,_,r _ _ bh,rfl,d8 (uA C.P),fun _=>rfl⟩) K.2 ?_) B1);refine M8 (O6 ?_);unfold methodCall;rw[show TB ([Expr.Name "self" Z,Expr.Name "what" p4].length+([]:List Vi).length) (Uk D (Qu [.Name "self" Z,.Name "what" p4] env)) (backToKw D (keywordEach [] env))=true from rfl];refine M8 (OG ?_);show Nt C.M A (Rh (.type "Exception") "__init__" _) _ _ _;refine vv X ?_;refine M8 (Q1 v ?_);refine Q3 (P:=fun _=>True) rfl (fun h _=>⟨.machine,.inr (.inl rfl),Pm rfl⟩) ?_;refine PL (Pw (g6 j f g (fun _ _ _ h=>h) H rfl i (Pw (g6 j f g (fun _ _ _ h=>h) V rfl k (Rb ⟨trivial,?_⟩)))));show Nt C.M A (P6 (.builtin "Exception.__init__") [.ref e,m]) _ _ _;refine ka L he fun a1 y K1=>⟨rfl,?_⟩
 refine Py (QA (g6 j f g K1 V rfl k ?_) rfl);refine g6 j f g K1 H rfl i ?_;refine vw r t l (mA:=fun _=>none) (ns:=[]) K1 T.tw ⟨_,_,y,rfl,rfl,fun dx h=>aj h⟩ ⟨_,y,rfl,(fun _ h=>Qr h),.inl ⟨rfl,fun _=>rfl⟩⟩ PySem.Within.nil (NP _) fun a2 O K2 o2 I2=>?_;refine Py (QA (g6 j f g K2 n3 rfl u ?_) rfl);refine g6 j f g K2 H rfl i ?_;refine vw r t l (ns:=["what"]) K2 T.ta o2 I2 (PySem.Within.cons _ _ PySem.Within.nil) (by decide) fun z p K3 o3 I3=>?_;exact PJ (hq z p K3 o3)
theorem to(j:∀a o,(H1 C.P).get? a=some o->s.heap.get? a=some o){e t0:NC}(k:(H1 C.P).get? e=none)(i:s.heap.NoLimit)(f:A.depth<TA){c:Nat}(l:c=87\/c=99)(u:s.heap.get? e=some (EU c t0))
  {rest:List M_} (w:∃m,rest=[m]\/∃x,rest=[m,x]) {Q:M_->Nc->Prop}
  (z:∀h' tk,(∀b o,b≠e->s.heap.get? b=some o->h'.get? b=some o)->(∃o t1,h'.get? e=some o/\o.cls= .ref c/\o.data= .fields #[.ref t1,.none,.none,.none,.bool false,.none])->Q .none {s with heap:=h',toks:=tk}):
  Nt C.M A (P6 (.ref 64) (.ref e::rest)) Q E s:=by
 refine ET C.P fun D T ot n g1 g2 g3 g4 g5=>?_;obtain⟨F,co,p,H,L,O,V,W⟩:=BY C.P;obtain⟨X,Y,Z,n4,n5,n6⟩:=BX;have q:=ko n6;obtain⟨m,x,g⟩:=EV j (.ref e) w;have r:s.heap.objs.size≠e:=NZ (N4 (Oo u));refine SE (Vu f (j _ _ g1) g2 i ⟨F,co,p,H,L,j _ _ O,V,W⟩ (show(be 64 C.P).body= .stmts (ay 3 0).2.1 from rfl) g ?_ ?_ ?_ (show(ay 3 0).2.2.isCoroutine=false from q.cor) (show(ay 3 0).2.2.isGenerator=false from q.gen) (show(ay 3 0).2.2.kind= .function from q.kind))
 .exact fun y hy=>bne_iff_ne.mp (List.all_eq_true.mp n5 y hy)
 .exact List.forall_mem_cons.mpr ⟨X,List.forall_mem_cons.mpr ⟨Y,List.forall_mem_cons.mpr ⟨Z,fun _ h=>absurd h Nx⟩⟩⟩
 .intro v t d;refine tn (env:=Re (be 64 C.P) s.heap.objs.size 64) rfl rfl rfl (fun a o h=>d a o (j a o h)) k l (d _ _ u) t r fun h' tk K o3=>?_;obtain⟨o,t1,a1,a2,a3,_⟩:=o3;exact z h' tk (fun b o hb h=>K b o hb (d b o h)) ⟨o,t1,a1,a2,a3⟩
end
section
variable{C:Cx}{A:NT}{E:M_->Nc->Prop}{env:Env}
theorem pA(i:c=87\/c=99)(hh:A.handled=none){s:Nc}{Q:We->Nc->Prop}
 (h:Nt C.M A x (fun v s₁=>∃e o t1,v= .ref e/\(∀a o,(H1 C.P).get? a=some o->s₁.heap.get? a=some o)/\s₁.heap.get? e=some o/\o.cls= .ref c/\o.data= .fields #[.ref t1,.none,.none,.none,.bool false,.none]/\E (.ref e) s₁) E s):
  Nt C.M A (raiseStmt env (some x) none) Q E s:=by
 refine(vp C.P i).obj fun nm q N z k D sub F n H K L O V W f=>?_;have j:(OF c::kG).contains (.type "BaseException")=true:=gZ _ _ (by decide) rfl;unfold raiseStmt;refine M8 (Nq h (fun v s₁ b=>?_) fun _ _ x=>x);apply bc;intro p;obtain⟨e,o,t1,rfl,r,t,l,m,u⟩:=b;have f:=r _ _ f;obtain⟨X,g,d,tk,Y⟩:=s₁;obtain⟨Z,od,w,y⟩:=o;apply p;simp only at l m;subst l m
 repeat (first|with_reducible refine OK t ?_|with_reducible refine OK f ?_|(with_reducible refine P_ f ?_;rw[j])|wp_step)
 exact wpAny_raiseNew_none hh u
theorem vx(f:c=87\/c=99){σ:aa}{fz:Fz}{s:Nc}(G:aw C σ fz n s.heap)(i:A.depth+1<TA)(p:∃m,rest=[m]\/∃x,rest=[m,x]){Q:M_->Nc->Prop}
 (u:∀e h' tk,s.heap.get? e=none->(∀b o,s.heap.get? b=some o->h'.get? b=some o)->(∃o t1,h'.get? e=some o/\o.cls= .ref c/\o.data= .fields #[.ref t1,.none,.none,.none,.bool false,.none])->Q (.ref e) {s with heap:=h',toks:=tk}):
  Nt C.M A (P6 (.ref c) rest) Q E s:=by
 refine(vp C.P f).obj fun nm q N H r K sub L v O V W X Y Z w=>?_;have j:∀a o,(H1 C.P).get? a=some o->s.heap.get? a=some o:=fun a o h=>(aJ C h G).2;obtain⟨h,g,d,t,k⟩:=s;refine vq (AB G) (vp C.P f) (j _ _ w) ?_ (by have:=aA;rcases p with⟨m,rfl|⟨x,rfl⟩⟩<;>simp<;>exact Ny ..);have l:h.get? (h.objs.size+1)=none:=R1 (Oi _);have y:(H1 C.P).get? (h.objs.size+1)=none:=by
  cases z:(H1 C.P).get? (h.objs.size+1)with
  |none=>rfl
  |some o=>have:=j _ _ z;rw[l]at this;exact aj this
 refine to (s:=⟨nu h c rest,g,d,t,k⟩) (fun a o e=>dO (j a o e)) y ?_ ?_ f qH p fun h' tk D F=>⟨rfl,?_⟩
 .have g1:GS C n σ fz ⟨h,g,d,t,k⟩ σ fz ⟨nu h c rest,g,d,t,k⟩:= .keep G fun b o e=>dO e;exact k_ C g1.2
 .show A.depth+VE (.builtin "type.__call__" _)<_;exact i
 .refine u (h.objs.size+1) h' tk l (fun b o e=>D b o ?_ (dO e)) F;intro q;rw[q,l]at e;exact aj e
end
section
variable{sc:NR}{d:Nat}{ml:List Nat}
theorem vy(Y:bW sc x=true)(l:fE.lookup x=some a)(q:a=87\/a=99)(H:dh (bq ml n sc .v) as=some ms)(u:xY d sc as ms):
  SS d sc (.Raise (some (.Call (.Name x p) as [] F)) none pos) (.rai a ms):=by
 intro C A D env ρ σ fz s K X S w;apply bc;intro j;obtain⟨Z,h2⟩:=li l C.P;apply j;rw[arm_exec_Raise];refine M8 (O6 (pA q S.st.fit.hand ?_));refine M8 (Nq (PA (ju S.st (bj Y) Z ?_ (jw l))) (fun v L k=>M8 (O6 (Nl k))) fun _ _ x=>x);refine Q3 (P:=(KA C.P).In) (by rw[dw as ms H F env];rfl) (dE.of_ref h2).keep ?_;refine Nq (jv H u (f:= .ref a) S.st w) (fun v s₁ z=>?_) fun _ _ z=> .oX S.mks z;apply bc;intro j;obtain⟨vs,c,i,g,⟨r,rk⟩,q1,_,⟨m,r',rfl,q3⟩,q4⟩:=z;apply j;refine⟨Bq g.2,?_⟩;rw[rk];have hr:∃m,v.pos=[m]\/∃x,v.pos=[m,x]:=by
  apply bc;intro j;obtain⟨y,ys,e,_,t⟩:=r.inv;apply j;rw[e];cases r' with
  |nil=>cases t.inv;exact⟨y,.inl rfl⟩
  |cons z E=>
   apply bc;intro j;obtain⟨y',a6,rfl,_,t1⟩:=t.inv;apply j;cases E with
   |nil=>cases t1.inv;exact⟨y,.inr ⟨y',rfl⟩⟩
   |cons _ _=>exact absurd q3 (fun h=>QC _ (NO h))
 show Nt C.M A (P6 (.ref a) ([]++v.pos)) _ _ s₁;refine vx q g.2 (by have:=S.st.fit.depth;lia) hr fun e h' tk O Q zz=>?_;apply bc;intro j;obtain⟨o,t1,o1,V,W⟩:=zz;apply j;refine⟨e,o,t1,rfl,fun b ob hb=>Q b ob (aJ C hb g.2).2,o1,V,W,?_⟩;have gk:GS C (env.locals::D) c i s₁ c i {s₁ with heap:=h',toks:=tk}:= .keep g.2 Q;apply bc;intro j;obtain⟨f1,f2,f3⟩:=g.2.free O;apply j;exact⟨eq a,c,i,.oG S.mks (g.trans gk),⟨e,o,_,rfl,g.1.gone O,o1,by rw[V,nr l q],W,by simp,f2,f1,f3,.inl rfl⟩,q4⟩
end
end
set_option backward.match.sparseCases false
noncomputable def dm(e:Expr):Bool:=by cases e with|ListComp=>exact true|SetComp=>exact true|DictComp=>exact true|_=>exact false
theorem bS(t:Option Expr)(n:Nat)(env:Env):dm e=false->Qo e t n env=OJ false:=by cases e<;>first|exact df|exact fun _=>rfl
theorem tp(t:Expr)(env:Env):mK e=none->Wh [t] e env=OJ none:=by cases t<;>first|exact fun _=>rfl|(cases e<;>first|exact bb|exact fun _=>rfl)
noncomputable def HX(e:Expr):Option (NR×Pos):=by cases e with|ListComp _ _ isc p=>exact some (isc,p)|_=>exact none
noncomputable def vz(e:Expr):Option (Expr×Expr):=by cases e with|Subscript o i _=>exact some (o,i)|_=>exact none
noncomputable def nw(s:OP):Option (Option Expr×Pos):=by cases s with|Return o p=>exact some (o,p)|_=>exact none
theorem ny{s:OP}{q:Option Expr×Pos}:nw s=some q->s= .Return q.1 q.2:=by cases s<;>first|exact aj|exact fun h=>by injection h with z0;subst z0;rfl
noncomputable def qJ(s:OP):Option (List Expr×Expr×Pos):=by cases s with|Assign ts e p=>exact some (ts,e,p)|_=>exact none
theorem nA{s:OP}{q:List Expr×Expr×Pos}:qJ s=some q->s= .Assign q.1 q.2.1 q.2.2:=by cases s<;>first|exact aj|exact fun h=>by injection h with z0;subst z0;rfl
theorem vA{e:Expr}{q:Expr×Expr}:vz e=some q->∃p,e= .Subscript q.1 q.2 p:=by cases e<;>first|exact aj|exact fun h=>by injection h with z0;subst z0;exact⟨_,rfl⟩
theorem vB:mK e=some es->∃k p,e= .Tuple es k p:=by cases e<;>first|exact aj|exact fun h=>by injection h with z0;subst z0;exact⟨_,_,rfl⟩
theorem yR{d:NR}{t:Expr}{c:List Nat}(e:j0 t=none)(h:dM d t=some c):∃es k p,t= .Tuple es k p/\2<=c.length:=by
 unfold dM at h;cases a:mK t with
 |none=>rw[a]at h;apply bc;intro b;refine cq h fun i hi _=>?_;refine bF hi fun x f _=>?_;refine cq f fun q g _=>?_;apply b;exact aj (e.symm.trans g)
 |some es=>rw[a]at h;apply bc;intro b;obtain⟨k,p,rfl⟩:=vB a;refine fA h fun j l=>?_;apply b;exact⟨es,k,p,rfl,fm l▸j⟩
noncomputable def B2(a:NR)(x:Str):Option (Nat×Oj):=(oP a.names x).bind fun i=>(a.names[i]?).map fun p=>(i,p.2)
theorem nF{a:NR}{x:Str}{p:Nat×Oj}(h:B2 a x=some p):a.names[p.1]? =some (x,p.2):=by
 refine bF h fun i hi h=>?_;refine cq h fun q b d=>?_;subst d;obtain⟨k,c⟩:=m6 hi;rw[c]at b;injection b with z0;subst z0
 exact c
noncomputable def iS(e:Expr):Bool:=match lg e with
 |some .none=>true
 |_=>false
theorem jI(h:iS e=true):∃k p,e= .Constant .none k p:=by
 unfold iS at h;cases a:lg e with
 |none=>rw[a]at h;exact aK h
 |some c=>rw[a]at h;cases c<;>first|exact kj a|exact aK h
noncomputable def qL(b:NR)(c:Str):Option Nat:=if bW b c then(fE.lookup c).bind fun a=>if a==87||a==99 then some a else none else none
theorem nG{d:NR}(h:qL d c=some a):bW d c=true/\fE.lookup c=some a/\(a=87\/a=99):=by
 refine fA h fun e h=>?_;refine bF h fun b f h=>?_;refine fA h fun g h=>?_;injection h with z0;subst z0
 exact⟨e,f,by simpa using g⟩
noncomputable def B3(x:Str)(p:Pos)(e:Expr):Bool:=match HX e with
 |some q=>p.line==q.2.line&& !(q.1.names.any fun(n,k)=>n==x&&(k== .local||k== .cell))
 |none=>false
noncomputable def vC(E:Rc)(a:NR)(x:Str)(p:Pos)(e:Expr):Option MS:=(B2 a x).bind fun q=>if q.2== .local then(if dm e&& !B3 x p e then none else(E a .v e).map (.asg q.1))else if q.2== .cell then(if dm e then none else(E a .v e).map (.asgc q.1))else none
noncomputable def vD(E:Rc)(a:NR)(t e:Expr):Option MS:=match j0 t with
 |some q=>vC E a q.1 q.2 e
 |none=>if dm e then none else match qo t with
  |some q=>(iy f7 q.2.1).bind fun i=>(E a .v q.1).bind fun b=>(E a .v e).map fun m=> .asgA b i m
  |none=>match vz t with
   |some q=>(E a .v q.1).bind fun b=>(E a .v q.2).bind fun c=>(E a .v e).map fun m=> .asgS b c m
   |none=>if(mK e).isSome then none else(dM a t).bind fun d=>(E a .v e).map fun m=> .asgT d m
noncomputable def yS(E:Rc)(b:NR)(e:Expr):Option MS:=(jg e).bind fun q=>if q.2.2.isEmpty then(eN q.1.1).bind fun x=>(qL b x).bind fun a=>(dh (E b .v) q.2.1).map (.rai a)else none
noncomputable def L5:ExceptHandler->Option (Str×OP)
 |.ExceptHandler ty nm b _=>if nm.isNone then(ty.bind eN).bind fun c=>(cG b).map fun s=>(c,s)else none
theorem B5{h:ExceptHandler}{x:Str×OP}(e:L5 h=some x):∃p q,h= .ExceptHandler (some (.Name x.1 p)) none [x.2] q:=by
 cases h with
 |ExceptHandler ty nm b q=>apply bc;intro qK;refine fA (show(if nm.isNone then _ else none)=some x from e) fun h1 e=>?_;refine bF e fun c hc e=>?_;refine cq e fun s hs e0=>?_;subst e0;refine bF hc fun y hy hc=>?_;obtain⟨p,rfl⟩:=cv hc;apply qK;rw[PP]at h1;obtain rfl:=aS hs;exact⟨p,q,by rw[h1,hy]⟩
noncomputable def lC(s:OP):Bool:=((nw s).bind (·.1)).elim false iS
noncomputable def lD(x:Str)(s:OP):Bool:=(qJ s).elim false fun q=>(cG q.1).bind eN==some x&&iS q.2.1
noncomputable def vE(E:Rc)(b:NR)(s hs:OP)(a:Nat):Option MS:=match nw s with
 |some q=>if lC hs then q.1.bind fun e=>(E b .v e).map (.tryR · (eq a))else none
 |none=>(qJ s).bind fun q=>((cG q.1).bind eN).bind fun x=>if lD x hs&& !dm q.2.1 then(B2 b x).bind fun r=>if r.2== .local then(E b .v q.2.1).map (.tryA r.1 · (eq a))else none else none
noncomputable def EW(E:Rc)(R:OP->Option MS)(f:NR)(st:OP):Option MS:=match st with
 |.Assign m e _=>(cG m).bind fun t=>vD E f t e
 |.Expr e _=>if dm e then none else(E f .v e).map .expr
 |.If c t e _=>(E f .t c).bind fun j=>(dh R t).bind fun n=>(dh R e).map fun p=> .ite j n p
 |.While c b d _=>if d.isEmpty then(E f .t c).bind fun j=>(dh R b).map fun k=> .whl j k else none
 |.For l q b d _=>if d.isEmpty then(dM f l).bind fun r=>(E f .i q).bind fun u=>(dh R b).map fun k=> .forl r u k else none
 |.Return o _=>match o with
  |some e=>(E f .v e).map .ret
  |none=>some (.ret (.lit .none))
 |.Raise ex g _=>if g.isNone then ex.bind fun e=>yS E f e else none
 |.Try b hs d fin _=>if d.isEmpty&&fin.isEmpty then(cG b).bind fun s=>((cG hs).bind L5).bind fun h=>(qL f h.1).bind fun a=>vE E f s h.2 a else none
 |_=>none
noncomputable def qM(ml:List Nat):Nat->NR->OP->Option MS
 |0=>fun _ _=>none
 |n+1=>fun a st=>EW (bq ml n) (qM ml n a) a st
section
variable{sc:NR}{d:Nat}{ml:List Nat}
theorem d_(c:∀st m,qM ml n sc st=some m->SS d sc st m)(oy:List OP):∀(ms:List MS),dh (qM ml n sc) oy=some ms->xl d sc oy ms:=by
 induction oy with
 |nil=>intro ms h;injection h with z0;subst z0;exact BM
 |cons st oy a=>intro ms h;refine uq h fun m b e f g=>?_;subst g;exact yz (c st m e) (a b f)
theorem pB:SS d sc (.Return none pos) (.ret (.lit .none)):=by intro C A a env b σ fz s K X S w;exact wpAny_Return_none ⟨some .none,b,σ,fz,.refl S.mks S.st.good,S.st.lr,.none,w⟩
theorem tq(h:iy f7 a=some i):aC i=a:=by unfold iy at h;rw[Ov]at h;obtain⟨b,c,_⟩:=h;unfold aC;rw[OE,NA b];exact beq_iff_eq.mp c
theorem qN{e:Type}{c:Prop}[Rl c]{a:Option e}{b:e}(h:(if c then none else a)=some b):¬c/\a=some b:=by
 by_cases d:c
 .rw[Nd d]at h;exact aj h
 .rw[Na d]at h;exact⟨d,h⟩
theorem EX{d:Type}{c p:Prop}[Rl c]{a:Option d}{b:d}(h:(if c then none else a)=some b)(k:¬c->a=some b->p):p:=k (qN h).1 (qN h).2
theorem kb(Z0:bB sc=true)(hn:sc.names[i]? =some (x,.local)) (hc:dm e=true) (ho:B3 x p e=true) (h:bq ml n sc .v e=some m):SS d sc (.Assign [.Name x p] e pos) (.asg i m):=by
 cases n with
 |zero=>exact aj h
 |succ n=>
  cases e
  case ListComp Zm gens isc cp=>
   refine jA (G:=fun e m=>SS d sc (.Assign [.Name x p] e pos) (.asg i m)) (eT (d:=d) n) h fun{ZK iter ifs is Zp me mt mi} a b c e f g h j k l=>?_;refine pn hn a b c e f g h j k l fun env hs=>?_;refine qh (show(p.line==cp.line&& !(isc.names.any fun(n,k)=>n==x&&(k== .local||k== .cell)))=true from ho) fun ho1 ho2=>?_;have F:=ko Z0;have k1:env.blockKind= .function:=by unfold Env.blockKind;rw[hs,F.kind];rfl
   have k2:env.kindOf x=some .local:=by unfold PB;rw[hs];exact aO F.nd hn
   show(OJ (env.blockKind== .function&&env.kindOf x==some .local&&p.line==cp.line&& !(isc.names.any fun(n,k)=>n==x&&(k== .local||k== .cell))):Sem Bool)=OJ true;rw[k1,k2,ho1,ho2];rfl
  all_goals exact aK ho
theorem pC{n:Nat}(g:bB sc=true){x:Str}{p pos:Pos}{e:Expr}{m:MS}(h:vC (bq ml n) sc x p e=some m):SS d sc (.Assign [.Name x p] e pos) m:=by
 have ex:=eT (ml:=ml) (d:=d) n sc;refine bF h fun t b s=>?_;obtain⟨i,k⟩:=t;have b:=nF b;by_cases j:(k==NameKind.local)=true
 .have l:(if(dm e&& !B3 x p e)=true then none else(bq ml n sc .v e).map (MS.asg i))=some m:=by rw[←s];exact(Nd j).symm
  obtain rfl:=beq_iff_eq.mp j;refine EX l fun o q=>?_;refine cq q fun a f r=>?_;subst r;by_cases c:dm e=true
  .exact kb g b c (by simpa [c]using o) f
  .exact BN b (ex.1 e a f) fun env=>bS _ _ env (PW _▸c)
 .have l:(if(k==OC)=true then(if dm e=true then none else(bq ml n sc .v e).map (MS.asgc i))else none)=some m:=by rw[←s];exact(Na j).symm
  refine fA l fun c q=>?_;obtain rfl:=beq_iff_eq.mp c;refine EX q fun o u=>?_;refine cq u fun a f r=>?_;subst r;exact yH b (ex.1 e a f) fun env=>bS _ _ env (PW _▸o)
theorem tr{n:Nat}(j:bB sc=true){t e:Expr}{pos:Pos}{m:MS}(h:vD (bq ml n) sc t e=some m):SS d sc (.Assign [t] e pos) m:=by
 have ex:=(eT (ml:=ml) (d:=d) n sc).1;unfold vD at h;cases a:j0 t with
 |some q=>rw[a]at h;rw[gi a];exact pC j h
 |none=>
  rw[a]at h;refine EX h fun c h=>?_;have c:dm e=false:=PW _▸c;cases l:qo t with
  |some q=>rw[l]at h;apply bc;intro o;obtain⟨i,r,f,a,g,b,rfl⟩:=yy h;apply o;rw[jh l];exact yD (tq a) (ex _ r g) (ex e f b) fun env=>bS _ _ env c
  |none=>
   rw[l]at h;cases g:vz t with
   |some q=>rw[g]at h;obtain⟨r,u,f,b,s,v,rfl⟩:=yy h;obtain⟨p,rfl⟩:=vA g;exact yE (ex _ r b) (ex _ u s) (ex e f v) fun env=>bS _ _ env c
   |none=>rw[g]at h;apply bc;intro o;refine EX h fun w h=>?_;obtain⟨y,f,b,s,rfl⟩:=AF h;obtain⟨es,k,z,rfl,x⟩:=yR a b;apply o;exact yC b (ex e f s) x (fun env=>bS _ _ env c) fun env=>tp _ env (Option.not_isSome_iff_eq_none.mp w)
theorem pD(h:lC s=true):∃k p q,s= .Return (some (.Constant .none k p)) q:=by
 unfold lC at h;cases a:nw s with
 |none=>rw[a]at h;exact aK h
 |some q=>
  rw[a]at h;rw[ny a];cases b:q.1 with
  |none=>rw[PM,b]at h;exact aK h
  |some e=>rw[PM,b]at h;obtain⟨k,p,e⟩:=jI h;exact⟨k,p,q.2,by rw[e]⟩
theorem pE(h:lD x s=true):∃p k a q,s= .Assign [.Name x p] (.Constant .none k a) q:=by
 unfold lD at h;cases b:qJ s with
 |none=>rw[b]at h;exact aK h
 |some q=>rw[b]at h;apply bc;intro c;refine qh h fun d f=>?_;refine bF (beq_iff_eq.mp d) fun t g i=>?_;obtain⟨p,rfl⟩:=cv i;obtain⟨k,a,e⟩:=jI f;apply c;exact⟨p,k,a,q.2.2,by rw[nA b,e,aS g]⟩
theorem tx(C:qL sc c=some a)(h:vE (bq ml n) sc s hs a=some m):SS d sc (.Try [s] [.ExceptHandler (some (.Name c A)) none [hs] b] [] [] pos) m:=by
 have ex:=(eT (ml:=ml) (d:=d) n sc).1;apply bc;intro f;obtain⟨w,y,z⟩:=nG C;apply f;unfold vE at h;cases j:nw s with
 |some q=>rw[j]at h;apply bc;intro f;refine fA h fun g h=>?_;refine bF h fun e D h=>?_;refine cq h fun l o u=>?_;subst u;obtain⟨k,E,F,rfl⟩:=pD g;apply f;rw[ny j,D];exact yI (ex e l o) w y z
 |none=>rw[j]at h;apply bc;intro f;refine bF h fun q H h=>?_;refine bF h fun x v h=>?_;refine bF v fun t K v=>?_;refine fA h fun g h=>?_;refine bF h fun r i h=>?_;refine fA h fun L h=>?_;refine cq h fun l o u=>?_;subst u;obtain⟨p,k,E,F,rfl⟩:=pE (cF g).1;obtain⟨M,rfl⟩:=cv v;apply f;rw[nA H,aS K];have i:=nF i;rw[beq_iff_eq.mp L]at i;exact yJ i (ex _ l o) (fun env=>bS _ _ env (Sr _▸(cF g).2)) w y z
theorem g7(n:Nat):∀(st:OP)(m:MS),qM ml n sc st=some m->(∀e:bB sc=true,SS d sc st m):=by
 induction n with
 |zero=>exact fun _ _ h=>(aj h)
 |succ n IH=>
  intro st m h0 Z0;have ex:=eT (ml:=ml) (d:=d) n sc;have IH':∀st m,qM ml n sc st=some m->SS d sc st m:=fun st m h=>IH st m h Z0;have h:EW (bq ml n) (qM ml n sc) sc st=some m:=h0;clear h0;cases st
  case Assign ts e pos=>
   refine bF h fun t ht h=>?_;obtain rfl:=aS ht;exact tr Z0 h
  case Expr e pos=>
   refine EX (show(if dm e=true then none else _)=some m from h) fun hc h=>?_;refine cq h fun a hw e0=>?_;subst e0;exact yF (ex.1 e a hw) fun env=>bS _ _ env (PW _▸hc)
  case If c t e pos=>
   obtain⟨mc,mt,me,h1,h2,h3,rfl⟩:=yy h;exact EQ (ex.2.1 c mc h1) (d_ IH' t mt h2) (d_ IH' e me h3)
  case While c b els pos=>
   refine fA (show(if els.isEmpty then _ else none)=some m from h) fun he h=>?_;obtain rfl:=List.isEmpty_iff.mp he;obtain⟨mc,mb,h1,h2,rfl⟩:=AF h;exact vj (ex.2.1 c mc h1) (d_ IH' b mb h2)
  case For ZK it b els pos=>
   refine fA (show(if els.isEmpty then _ else none)=some m from h) fun he h=>?_;obtain rfl:=List.isEmpty_iff.mp he;obtain⟨is,mi,mb,h1,h2,h3,rfl⟩:=yy h;exact BQ h1 (ex.2.2 it mi h2) (d_ IH' b mb h3) (ni (md:= .i) h2)
  case Return o pos=>
   cases o with
   |none=>injection h with z0;subst z0;exact pB
   |some e=>refine cq h fun a hw e0=>?_;subst e0;exact tc (ex.1 e a hw)
  case Raise ex' cause pos=>
   refine fA (show(if cause.isNone then _ else none)=some m from h) fun hc h1=>?_;rw[PP]at hc;refine bF h1 fun e he h2=>?_;clear h h1;subst hc he;refine bF h2 fun q hq h=>?_;refine fA h fun hk h=>?_;refine bF h fun x hx h=>?_;refine bF h fun a ha h=>?_;refine cq h fun ms hm e0=>?_;subst e0;obtain⟨p,hp⟩:=cv hx;obtain⟨c1,c2,c3⟩:=nG ha;rw[gW hq,hp,List.isEmpty_iff.mp hk];exact vy c1 c2 c3 hm (dk ex.1 q.2.1 ms hm)
  case Try b hs els fin pos=>
   refine fA (show(if els.isEmpty&&fin.isEmpty then _ else none)=some m from h) fun he h=>?_;rw[N1,Uw,Uw]at he;refine bF h fun s hs1 h1=>?_;refine bF h1 fun y0 hh h2=>?_;obtain⟨c,hb⟩:=y0;refine bF hh fun h0 hh0 hh=>?_;refine bF h2 fun a ha h3=>?_;obtain⟨rfl,rfl⟩:=he;obtain⟨np,hpos,rfl⟩:=B5 hh;obtain rfl:=aS hs1;obtain rfl:=aS hh0;exact tx ha h3
  all_goals exact aj h
end
set_option tactic.hygienic false
noncomputable def ia:List Nat:=[229,340,420,421,551,552,646,787,801]
noncomputable abbrev v0:ME:= .loc 0
noncomputable abbrev v1:ME:= .loc 1
noncomputable abbrev v2:ME:= .loc 2
noncomputable abbrev v3:ME:= .loc 3
noncomputable abbrev v4:ME:= .loc 4
noncomputable abbrev v5:ME:= .loc 5
noncomputable abbrev v6:ME:= .loc 6
noncomputable abbrev v7:ME:= .loc 7
noncomputable abbrev v8:ME:= .loc 8
noncomputable abbrev v9:ME:= .loc 9
noncomputable abbrev L6:ME:= .loc 10
noncomputable abbrev GP:ME:= .loc 11
noncomputable abbrev DQ:ME:= .loc 12
noncomputable abbrev AG:ME:= .loc 13
noncomputable abbrev AH:ME:= .loc 14
noncomputable abbrev DS:ME:= .loc 15
noncomputable abbrev GQ:ME:= .loc 16
noncomputable abbrev B6:ME:= .loc 17
noncomputable abbrev B7:ME:= .loc 18
noncomputable abbrev HY:ME:= .loc 19
noncomputable abbrev HZ:ME:= .loc 20
noncomputable abbrev H0:ME:= .loc 21
noncomputable abbrev GR:ME:= .loc 22
noncomputable abbrev L7:ME:= .loc 23
noncomputable abbrev L8:ME:= .loc 24
noncomputable abbrev L9:ME:= .loc 25
noncomputable abbrev MG:ME:= .loc 26
noncomputable abbrev yi(i:Int):ME:= .lit (.int i)
noncomputable abbrev ys(s:List Nat):ME:= .lit (.str s)
noncomputable abbrev yt:ME:= .lit (.bool true)
noncomputable abbrev yf:ME:= .lit (.bool false)
noncomputable abbrev yn:ME:= .lit .none
noncomputable abbrev zE:ME->ME->ME:= .cmp .Eq
noncomputable abbrev zN:ME->ME->ME:= .cmp .NotEq
noncomputable abbrev zL:ME->ME->ME:= .cmp .Lt
noncomputable abbrev zG:ME->ME->ME:= .cmp .Gt
noncomputable abbrev zM:ME->ME->ME:= .cmp .LtE
noncomputable abbrev zH:ME->ME->ME:= .cmp .GtE
noncomputable abbrev zI:ME->ME->ME:= .cmp .Is
noncomputable abbrev zA:ME->ME->ME:= .bin .Add
noncomputable abbrev zS:ME->ME->ME:= .bin .Sub
noncomputable abbrev zU:ME->ME->ME:= .bin .Mult
noncomputable def MH:List MS:=[.asgA v0 0 v1,.asgA v0 1 v2]
noncomputable def H2:List MS:=[.asg 1 (.calB .ord [v0]),.ite (.cmp2 (yi 48) v1 (yi 57)) [.ret (zS v1 (yi 48))] [],.ite (.cmp2 (yi 97) v1 (yi 102)) [.ret (zS v1 (yi 87))] [],.ite (.cmp2 (yi 65) v1 (yi 70)) [.ret (zS v1 (yi 55))] [],.ret (yi 16)]
noncomputable def H4:List MS:=[.asg 1 (.calB .ord [v0]),.ret (.bop false [.cmp2 (yi 97) v1 (yi 122),.cmp2 (yi 65) v1 (yi 90)])]
noncomputable def H5:List MS:=[.ret (.bop false [.calF 115 [v0],zE v0 (ys [95]),zE v0 (ys [46])])]
noncomputable def H6:List MS:=[.asg 1 (.calB .ord [v0]),.ret (.bop false [.cmp2 (yi 48) v1 (yi 57),.cmp2 (yi 97) v1 (yi 122),.cmp2 (yi 65) v1 (yi 90),zE v0 (ys [95]),zE v0 (ys [46]),zE v0 (ys [36])])]
noncomputable def yT:List MS:=[.ite (zH (zA v1 (yi 1)) (.calB .len [v0])) [.ret (.tup [.neg (yi 1),zA v1 (yi 1)])] [],.asg 2 (.idx v0 (zA v1 (yi 1))),.asg 3 (yi 0),.asg 4 (zA v1 (yi 1)),.ite (zL (.calF 108 [v2]) (yi 8)) [.whl (.bop true [zL v4 (.calB .len [v0]),zL v4 (zA v1 (yi 4)),zL (.calF 108 [.idx v0 v4]) (yi 8)]) [.asg 3 (zA (zU v3 (yi 8)) (.calF 108 [.idx v0 v4])),.asg 4 (zA v4 (yi 1))],.ret (.tup [.bin .Mod v3 (yi 256),v4])] [],.ite (zE v2 (ys [120])) [.asg 4 (zA v4 (yi 1)),.whl (.bop true [zL v4 (.calB .len [v0]),zL (.calF 108 [.idx v0 v4]) (yi 16)]) [.asg 3 (.bin .Mod (zA (zU v3 (yi 16)) (.calF 108 [.idx v0 v4])) (yi 256)),.asg 4 (zA v4 (yi 1))],.ite (zE v4 (zA v1 (yi 2))) [.ret (.tup [.neg (yi 1),zA v1 (yi 1)])] [],.ret (.tup [v3,v4])] [],.forl [5] (.rng (.calB .len [.glb 1])) [.ite (zE (.idx (.glb 1) v5) v2) [.ret (.tup [.calB .ord [.idx (.glb 2) v5],zA v1 (yi 2)])] []],.ret (.tup [.neg (yi 1),zA v1 (yi 1)])]
noncomputable def H7:List MS:=[.ite (.bop false [zH (zA v1 (yi 1)) (.calB .len [v0]),zE (.idx v0 (zA v1 (yi 1))) (ys [10])]) [.ret (.tup [.neg (yi 1),zA v1 (yi 1)])] [],.asg 2 (.calB .ord [.idx v0 (zA v1 (yi 1))]),.asg 3 (zA v1 (yi 2)),.ite (zE (.idx v0 (zA v1 (yi 1))) (ys [92])) [.asgT [2,3] (.calF 136 [v0,zA v1 (yi 1)])] [.ite (.bop false [zL v2 (yi 32),zG v2 (yi 126)]) [.asg 2 (.neg (yi 1))] []],.ite (.bop true [zH v2 (yi 0),zL v3 (.calB .len [v0]),zE (.idx v0 v3) (ys [39])]) [.asg 3 (zA v3 (yi 1))] [],.ret (.tup [v2,v3])]
noncomputable def yU:List MS:=[.asg 1 (yi 10),.asg 2 (yi 0),.ite (.bop true [zG (.calB .len [v0]) (yi 1),zE (.idx v0 (yi 0)) (ys [48])]) [.asg 1 (yi 8),.asg 2 (yi 1),.ite (.bop false [zE (.idx v0 (yi 1)) (ys [120]),zE (.idx v0 (yi 1)) (ys [88])]) [.asg 1 (yi 16),.asg 2 (yi 2)] [.ite (.bop false [zE (.idx v0 (yi 1)) (ys [98]),zE (.idx v0 (yi 1)) (ys [66])]) [.asg 1 (yi 2),.asg 2 (yi 2)] []]] [],.ite (zE v2 (.calB .len [v0])) [.ret (.neg (yi 1))] [],.asg 3 (yi 0),.forl [4] (.itm (.sli v0 v2 yn)) [.asg 5 (.calF 108 [v4]),.ite (zH v5 v1) [.ret (.neg (yi 1))] [],.asg 3 (zA (zU v3 v1) v5)],.ret v3]
noncomputable def B8:List MS:=[.ite (.bop false [zL (.calB .len [v0]) (yi 2),.bop true [zN (.idx v0 (.neg (yi 1))) (ys [98]),zN (.idx v0 (.neg (yi 1))) (ys [102])]]) [.ret (.neg (yi 1))] [],.asg 1 (yi 0),.forl [2] (.itm (.sli v0 yn (.neg (yi 1)))) [.ite (zG (.calF 108 [v2]) (yi 9)) [.ret (.neg (yi 1))] [],.asg 1 (zA (zU v1 (yi 10)) (.calF 108 [v2]))],.ret v1]
noncomputable def H8:List MS:=[.asgA v0 2 v1,.asgA v0 3 v2,.asgA v0 4 v3,.asgA v0 5 v4]
noncomputable def H9:List MS:=[.ret (.bop true [zE (.att v0 2) (ys [115,105,103,110]),zE (.att v0 3) v1])]
noncomputable def H_:List MS:=[.ret (.tup [.att v0 2,.att v0 4])]
noncomputable def H':List MS:=[.asgA v0 3 v1,.asgA v0 0 v2,.asgA v0 5 (yi 0)]
noncomputable def Ia:List MS:=[.ret (.calF 45 [.att v0 0,zA v1 (yi 1)])]
noncomputable def yV:List MS:=[.whl (.bop true [zL (.att v0 5) (.calB .len [.att v0 3]),.cmp .In (.idx (.att v0 3) (.att v0 5)) (.tup [ys [32],ys [9],ys [13]])]) [.asgA v0 5 (zA (.att v0 5) (yi 1))],.ret (.bop false [zH (.att v0 5) (.calB .len [.att v0 3]),zE (.idx (.att v0 3) (.att v0 5)) (ys [35])])]
noncomputable def Ib:List MS:=[.asg 2 (.att v0 5),.asgA v0 5 v1,.ret (.sli (.att v0 3) v2 v1)]
noncomputable def yW:List MS:=[.asg 2 v1,.whl (.bop true [zL v2 (.calB .len [.att v0 3]),.tru (.calF 129 [.idx (.att v0 3) v2])]) [.asg 2 (zA v2 (yi 1))],.ret v2]
noncomputable def Ic:List MS:=[.asg 1 (.calM v0 8 [.att v0 5]),.asg 2 (.calM v0 10 [.calM v0 11 [.att v0 5]]),.asg 3 (.calF 150 [v2]),.ite (zG v3 (.glb 3)) [.rai 87 [ys [110,117,109,98,101,114,32,116,111,111,32,108,97,114,103,101],v1]] [],.ite (zH v3 (yi 0)) [.ret (.calF 195 [ys [110,117,109,98,101,114],v2,v3,v1])] [],.asg 3 (.calF 157 [v2]),.ite (zH v3 (yi 0)) [.ret (.calF 195 [ys [108,111,99,97,108],v2,v3,v1])] [],.rai 87 [zA (ys [98,97,100,32,110,117,109,98,101,114,32]) v2,v1]]
noncomputable def Id:List MS:=[.asg 1 (.calM v0 8 [.att v0 5]),.asgT [2,3] (.calF 143 [.att v0 3,.att v0 5]),.ite (zL v2 (yi 0)) [.rai 87 [ys [98,97,100,32,99,104,97,114,97,99,116,101,114,32,99,111,110,115,116,97,110,116],v1]] [],.ret (.calF 195 [ys [110,117,109,98,101,114],.calM v0 10 [v3],v2,v1])]
noncomputable def Ie:List MS:=[.asg 1 (.calM v0 8 [.att v0 5]),.ite (.cmp .NotIn (.idx (.att v0 3) (.att v0 5)) (.glb 0)) [.rai 87 [ys [98,97,100,32,115,105,103,110],v1]] [],.asg 2 (.sli (.att v0 3) (.att v0 5) (zA (.att v0 5) (yi 2))),.asg 3 (.calM v0 10 [.ite (.bop false [zE v2 (ys [60,60]),zE v2 (ys [62,62])]) (zA (.att v0 5) (yi 2)) (zA (.att v0 5) (yi 1))]),.ret (.calF 195 [ys [115,105,103,110],v3,v3,v1])]
noncomputable def Ig:List MS:=[.asg 1 (.idx (.att v0 3) (.att v0 5)),.ite (.tru (.calF 122 [v1])) [.asg 2 (.calM v0 8 [.att v0 5]),.asg 3 (.calM v0 10 [.calM v0 11 [.att v0 5]]),.ret (.calF 195 [ys [110,97,109,101],v3,v3,v2])] [],.ite (zL (.calF 108 [v1]) (yi 10)) [.ret (.calM v0 12 [])] [],.ite (zE v1 (ys [39])) [.ret (.calM v0 13 [])] [],.ite (zE v1 (ys [34])) [.ret (.calM v0 14 [])] [],.ite (.bop true [zE v1 (ys [37]),zL (zA (.att v0 5) (yi 1)) (.calB .len [.att v0 3]),.tru (.calF 115 [.idx (.att v0 3) (zA (.att v0 5) (yi 1))])]) [.ret (.calM v0 15 [])] [],.ret (.calM v0 16 [])]
noncomputable def yX:List MS:=[.asg 2 (.calF 286 [v0,v1]),.asg 3 (.lst false []),.whl (.nt (.tru (.calM v2 9 []))) [.expr (.calM v3 0 [.calM v2 17 []])],.expr (.calM v3 0 [.calF 195 [ys [101,110,100],ys [],ys [],.calM v2 8 [.att v2 5]]]),.ret v3]
noncomputable def Ih:List MS:=[.asgA v0 6 v1,.asgA v0 5 (yi 0)]
noncomputable def Ii:List MS:=[.ret (.idx (.att v0 6) (.att v0 5))]
noncomputable def Ij:List MS:=[.asg 1 (.idx (.att v0 6) (.att v0 5)),.ite (zN (.att v1 2) (ys [101,110,100])) [.asgA v0 5 (zA (.att v0 5) (yi 1))] [],.ret v1]
noncomputable def Ik:List MS:=[.ret (.calM (.idx (.att v0 6) (.att v0 5)) 7 [v1])]
noncomputable def Il:List MS:=[.ret (zE (.att (.idx (.att v0 6) (.att v0 5)) 2) (ys [101,110,100]))]
noncomputable def Im:List MS:=[.ite (.tru (.calM v0 7 [v1])) [.asgA v0 5 (zA (.att v0 5) (yi 1)),.ret yt] [],.ret yf]
noncomputable def Io:List MS:=[.ite (.nt (.tru (.calM v0 21 [v1]))) [.rai 87 [zA (ys [101,120,112,101,99,116,101,100,32]) v1,.calM v0 24 []]] []]
noncomputable def Ip:List MS:=[.ite (.nt (.tru (.calM v0 20 []))) [.rai 87 [zA (ys [117,110,101,120,112,101,99,116,101,100,32]) (.att (.calM v0 18 []) 3),.calM v0 24 []]] []]
noncomputable def Iq:List MS:=[.ret (.att (.idx (.att v0 6) (.att v0 5)) 5)]
noncomputable def Ir:List MS:=[.asgA v0 2 (ys [110,117,109,98,101,114]),.asgA v0 4 v1]
noncomputable def It:List MS:=[.ret (.tup [ys [110,117,109,98,101,114],.att v0 4])]
noncomputable def Iu:List MS:=[.asgA v0 2 (ys [115,121,109,98,111,108]),.asgA v0 7 v1]
noncomputable def Iv:List MS:=[.ret (.tup [ys [115,121,109,98,111,108],.att v0 7])]
noncomputable def Iw:List MS:=[.asgA v0 2 (ys [104,101,114,101])]
noncomputable def Ix:List MS:=[.asgA v0 2 (ys [117,110,97,114,121]),.asgA v0 8 v1,.asgA v0 9 v2]
noncomputable def Iy:List MS:=[.ret (.tup [ys [117,110,97,114,121],.att v0 8,.calM (.att v0 9) 6 []])]
noncomputable def Iz:List MS:=[.asgA v0 2 (ys [98,105,110,97,114,121]),.asgA v0 8 v1,.asgA v0 10 v2,.asgA v0 11 v3]
noncomputable def EY:List MS:=[.asgT [1,2] (.calF 553 [v0]),.asg 3 (.calM v1 6 []),.forl [4] (.itm v2) [.asg 3 (.tup [ys [98,105,110,97,114,121],.att v4 8,v3,.calM (.att v4 11) 6 []])],.ret v3]
noncomputable def vF:List MS:=[.asg 1 (.lst false []),.asg 2 v0,.whl (zE (.att v2 2) (ys [98,105,110,97,114,121])) [.expr (.calM v1 0 [v2]),.asg 2 (.att v2 10)],.expr (.calM v1 3 []),.ret (.tup [v2,v1])]
noncomputable def IA:List MS:=[.ite (.bop false [zE v0 (ys [43]),zE v0 (ys [45])]) [.ret (yi 1)] [],.ite (.bop false [zE v0 (ys [124]),zE v0 (ys [38]),zE v0 (ys [94])]) [.ret (yi 2)] [],.ite (.bop false [zE v0 (ys [42]),zE v0 (ys [47]),zE v0 (ys [37]),zE v0 (ys [60,60]),zE v0 (ys [62,62])]) [.ret (yi 3)] [],.ret (yi 0)]
noncomputable def IB:List MS:=[.ite (zN (.att v0 2) (ys [115,105,103,110])) [.ret (yi 0)] [],.ret (.calF 560 [.att v0 3])]
noncomputable def kc:List MS:=[.asg 2 (.calM v0 18 []),.ite (zG v1 (.glb 4)) [.rai 87 [ys [101,120,112,114,101,115,115,105,111,110,32,110,101,115,116,101,100,32,116,111,111,32,100,101,101,112],.att v2 5]] [],.ite (zE (.att v2 2) (ys [110,117,109,98,101,114])) [.expr (.calM v0 19 []),.ret (.calF 447 [.att v2 4])] [],.ite (zE (.att v2 2) (ys [110,97,109,101])) [.expr (.calM v0 19 []),.ite (zE (.att v2 3) (ys [46])) [.ret (.calF 492 [])] [],.ret (.calF 473 [.att v2 3])] [],.ite (.bop false [.tru (.calM v2 7 [ys [45]]),.tru (.calM v2 7 [ys [126]]),.tru (.calM v2 7 [ys [33]])]) [.expr (.calM v0 19 []),.ret (.calF 518 [.att v2 3,.calF 574 [v0,zA v1 (yi 1)]])] [],.ite (.tru (.calM v2 7 [ys [40]])) [.expr (.calM v0 19 []),.asg 3 (.calF 581 [v0,yi 1,zA v1 (yi 1)]),.expr (.calM v0 22 [ys [41]]),.ret v3] [],.rai 87 [ys [101,120,112,101,99,116,101,100,32,97,110,32,101,120,112,114,101,115,115,105,111,110],.att v2 5]]
noncomputable def yY:List MS:=[.asg 3 (.calF 574 [v0,v2]),.asg 4 (.calF 567 [.calM v0 18 []]),.whl (zH v4 v1) [.asg 5 (.att (.calM v0 19 []) 3),.asg 3 (.calF 544 [v5,v3,.calF 581 [v0,zA v4 (yi 1),v2]]),.asg 4 (.calF 567 [.calM v0 18 []])],.ret v3]
noncomputable def IC:List MS:=[.ret (.calF 581 [v0,yi 1,yi 0])]
noncomputable def ID:List MS:=[.asg 1 (.calF 391 [.calF 297 [v0,yi 1]]),.asg 2 (.calF 588 [v1]),.expr (.calM v1 23 []),.ret v2]
noncomputable def yZ:List MS:=[.asgA v0 4 v1,.asgA v0 12 (.ite (zN v2 v3) v2 (ys [])),.asgA v0 13 (.ite (zN v2 v3) v3 (ys []))]
noncomputable def IE:List MS:=[.ret (.tup [.att v0 4,.att v0 12,.att v0 13])]
noncomputable def IF:List MS:=[.ret (.bop true [zE (.att v0 12) (ys []),zE (.att v0 13) (ys [])])]
noncomputable def IG:List MS:=[.ret (.bop true [zN (.att v0 12) (ys []),zE (.att v0 13) (ys [])])]
noncomputable def II:List MS:=[.ret (.calF 655 [.neg (.att v0 4),.att v0 13,.att v0 12])]
noncomputable def IJ:List MS:=[.ret (.calF 664 [zA (.att v0 4) (.att v1 4),.lst true [.att v0 12,.att v1 12],.lst true [.att v0 13,.att v1 13]])]
noncomputable def y3:List MS:=[.asg 4 (.comp false [none,none] [1] v1 (.itm v1) [zN v1 (ys [])]),.asg 5 (.lst false []),.forl [3] (.itm v2) [.ite (.bop true [zN v3 (ys []),.cmp .In v3 v4]) [.expr (.calM v4 2 [v3])] [.ite (zN v3 (ys [])) [.expr (.calM v5 0 [v3])] []]],.ite (.bop false [zG (.calB .len [v4]) (yi 1),zG (.calB .len [v5]) (yi 1)]) [.rai 99 [ys [110,111,116,32,97,32,110,117,109,98,101,114,32,112,108,117,115,32,111,110,101,32,115,121,109,98,111,108,32,108,101,115,115,32,97,110,111,116,104,101,114]]] [],.ret (.calF 655 [v0,.ite (zN v4 (.lst true [])) (.idx v4 (yi 0)) (ys []),.ite (zN v5 (.lst true [])) (.idx v5 (yi 0)) (ys [])])]
noncomputable def EZ:List MS:=[.asgA v0 14 (.ite (zI v1 yn) (.dct [] []) v1)]
noncomputable def IK:List MS:=[.asgS (.att v0 14) v1 v2]
noncomputable def IL:List MS:=[.ret (.calM v0 31 [.calF 655 [yi 0,v1]])]
noncomputable def y4:List MS:=[.asg 2 (zU (.calB .len [.att v0 14]) (zA (.calB .len [.att v0 14]) (yi 2))),.asg 3 v1,.whl (.bop false [.cmp .In (.att v3 12) (.att v0 14),.cmp .In (.att v3 13) (.att v0 14)]) [.ite (zE v2 (yi 0)) [.rai 99 [ys [115,121,109,98,111,108,115,32,116,104,97,116,32,115,116,97,110,100,32,102,111,114,32,116,104,101,109,115,101,108,118,101,115]]] [],.asg 2 (zS v2 (yi 1)),.ite (.cmp .In (.att v3 12) (.att v0 14)) [.asg 3 (.calM (.calF 655 [.att v3 4,ys [],.att v3 13]) 28 [.idx (.att v0 14) (.att v3 12)])] [.asg 3 (.calM (.calF 655 [.att v3 4,.att v3 12]) 28 [.calM (.idx (.att v0 14) (.att v3 13)) 27 []])]],.ret v3]
noncomputable def IM:List MS:=[.ite (zE v1 (yi 0)) [.rai 99 [ys [100,105,118,105,115,105,111,110,32,98,121,32,122,101,114,111]]] [],.ite (zN (zL v0 (yi 0)) (zL v1 (yi 0))) [.ret (.neg (.bin .FloorDiv (.calB .abs [v0]) (.calB .abs [v1])))] [],.ret (.bin .FloorDiv (.calB .abs [v0]) (.calB .abs [v1]))]
noncomputable def IN:List MS:=[.ite (.bop false [zL v2 (yi 0),zG v2 (.glb 5)]) [.rai 99 [ys [115,104,105,102,116,32,99,111,117,110,116]]] [],.ite (zE v0 (ys [60,60])) [.ret (.bin .LShift v1 v2)] [],.ret (.bin .RShift v1 v2)]
noncomputable def IO:List MS:=[.ite (zE v0 (ys [42])) [.ret (zU v1 v2)] [],.ite (zE v0 (ys [47])) [.ret (.calF 714 [v1,v2])] [],.ite (zE v0 (ys [37])) [.ret (zS v1 (zU v2 (.calF 714 [v1,v2])))] [],.ite (zE v0 (ys [124])) [.ret (.bin .BitOr v1 v2)] [],.ite (zE v0 (ys [38])) [.ret (.bin .BitAnd v1 v2)] [],.ite (zE v0 (ys [94])) [.ret (.bin .BitXor v1 v2)] [],.ret (.calF 721 [v0,v1,v2])]
noncomputable def IP:List MS:=[.ite (zE v0 (ys [43])) [.ret (.calM v1 28 [v2])] [],.ite (zE v0 (ys [45])) [.ret (.calM v1 28 [.calM v2 27 []])] [],.ite (.bop false [.nt (.tru (.calM v1 25 [])),.nt (.tru (.calM v2 25 []))]) [.rai 99 [zA (ys [110,111,32,110,117,109,98,101,114,32,98,101,115,105,100,101,32]) v0]] [],.ret (.calF 655 [.calF 728 [v0,.att v1 4,.att v2 4]])]
noncomputable def IR:List MS:=[.ite (zE v0 (ys [45])) [.ret (.calM v1 27 [])] [],.ite (.nt (.tru (.calM v1 25 []))) [.rai 99 [zA (ys [110,111,32,110,117,109,98,101,114,32,98,101,104,105,110,100,32]) v0]] [],.ite (zE v0 (ys [126])) [.ret (.calF 655 [zS (.neg (yi 1)) (.att v1 4)])] [],.ret (.calF 655 [.ite (zE (.att v1 4) (yi 0)) (yi 1) (yi 0)])]
noncomputable def tz:List MS:=[.asgT [3,4] (.calF 553 [v0]),.ite (zE (.att v3 2) (ys [110,117,109,98,101,114])) [.asg 5 (.calF 655 [.att v3 4])] [.ite (zE (.att v3 2) (ys [115,121,109,98,111,108])) [.asg 5 (.calM v1 30 [.att v3 7])] [.ite (zE (.att v3 2) (ys [117,110,97,114,121])) [.asg 5 (.calF 742 [.att v3 8,.calF 750 [.att v3 9,v1,v2]])] [.ite (zE v2 (ys [])) [.rai 99 [ys [110,111,32,112,111,105,110,116,32,104,101,114,101]]] [.asg 5 (.calF 655 [yi 0,v2])]]]],.forl [6] (.itm v4) [.asg 5 (.calF 735 [.att v6 8,v5,.calF 750 [.att v6 11,v1,v2]])],.ret v5]
noncomputable def IS:List MS:=[.asg 2 (.calF 750 [v0,v1]),.ite (.nt (.tru (.calM v2 25 []))) [.rai 99 [ys [110,111,116,32,97,32,110,117,109,98,101,114]]] [],.ret (.att v2 4)]
noncomputable def IT:List MS:=[.ite (.bop true [zE (.att v0 2) (ys [98,105,110,97,114,121]),zL (.calF 560 [.att v0 8]) v1]) [.ret (zA (zA (ys [40]) (.calF 778 [v0])) (ys [41]))] [],.ret (.calF 778 [v0])]
noncomputable def IU:List MS:=[.ite (zE (.att v0 2) (ys [110,117,109,98,101,114])) [.ret (.calB .str [.att v0 4])] [],.ite (zE (.att v0 2) (ys [115,121,109,98,111,108])) [.ret (.att v0 7)] [],.ite (zE (.att v0 2) (ys [104,101,114,101])) [.ret (ys [46])] [],.ret (zA (.att v0 8) (.calF 764 [.att v0 9,yi 4]))]
noncomputable def E0:List MS:=[.asgT [1,2] (.calF 553 [v0]),.asg 3 (.calF 771 [v1]),.asg 4 (yi 4),.forl [5] (.itm v2) [.asg 6 (.calF 560 [.att v5 8]),.ite (zL v4 v6) [.asg 3 (zA (zA (ys [40]) v3) (ys [41]))] [],.asg 3 (zA (zA (zA (zA v3 (ys [32])) (.att v5 8)) (ys [32])) (.calF 764 [.att v5 11,zA v6 (yi 1)])),.asg 4 v6],.ret v3]
noncomputable def E2:List MS:=[.ite (zE (.att v0 12) (ys [])) [.asg 1 (.calB .str [.att v0 4])] [.ite (zG (.att v0 4) (yi 0)) [.asg 1 (zA (zA (.att v0 12) (ys [32,43,32])) (.calB .str [.att v0 4]))] [.ite (zL (.att v0 4) (yi 0)) [.asg 1 (zA (zA (.att v0 12) (ys [32,45,32])) (.calB .str [.neg (.att v0 4)]))] [.asg 1 (.att v0 12)]]],.ite (zN (.att v0 13) (ys [])) [.asg 1 (zA (zA v1 (ys [32,45,32])) (.att v0 13))] [],.ret v1]
noncomputable def vG:List MS:=[.asg 1 (.lst false []),.asg 2 (.lst false [v0]),.whl (zN v2 (.lst true [])) [.asg 3 (.calM v2 1 []),.ite (.bop true [zE (.att v3 2) (ys [115,121,109,98,111,108]),.cmp .NotIn (.att v3 7) v1]) [.expr (.calM v1 0 [.att v3 7])] [],.ite (zE (.att v3 2) (ys [117,110,97,114,121])) [.expr (.calM v2 0 [.att v3 9])] [],.ite (zE (.att v3 2) (ys [98,105,110,97,114,121])) [.expr (.calM v2 0 [.att v3 10]),.expr (.calM v2 0 [.att v3 11])] []],.ret (.calB .sorted [v1])]
noncomputable def B9:List MS:=[.asgT [1,2] (.calF 553 [v0]),.ite (.bop false [zE (.att v1 2) (ys [104,101,114,101]),.bop true [zE (.att v1 2) (ys [117,110,97,114,121]),.tru (.calF 799 [.att v1 9])]]) [.ret yt] [],.forl [3] (.itm v2) [.ite (.tru (.calF 799 [.att v3 11])) [.ret yt] []],.ret yf]
noncomputable def IV:List MS:=[.ret (.dct [[42],[47],[37],[60,60],[62,62],[124],[38],[94],[43],[45]] [yi 3,yi 3,yi 3,yi 3,yi 3,yi 2,yi 2,yi 2,yi 1,yi 1])]
noncomputable def IW:List MS:=[.asg 2 (.idx v0 (yi 0)),.asg 3 (.idx v0 (yi 1)),.asgS v0 (yi 1) (zA v3 (yi 1)),.ret (.bin .Mod (zA (.idx v2 (.bin .Mod v3 (.calB .len [v2]))) (zU (yi 11) (.bin .FloorDiv v3 (.calB .len [v2])))) v1)]
noncomputable def IX:List MS:=[.asg 1 (.calF 816 [v0,yi 5]),.ite (zL v1 (yi 2)) [.ret (.tup [ys [110,117,109,98,101,114],.calF 816 [v0,yi 12]])] [],.ite (zE v1 (yi 2)) [.ret (.tup [ys [110,117,109,98,101,114],.calF 816 [v0,.bin .LShift (yi 1) (yi 64)]])] [],.ite (zE v1 (yi 3)) [.ret (.tup [ys [115,121,109,98,111,108],.idx (.glb 6) (.calF 816 [v0,yi 6])])] [],.ret (.tup [ys [104,101,114,101]])]
noncomputable def IY:List MS:=[.ite (.bop true [zE (.calF 816 [v0,yi 3]) (yi 2),zG v1 (yi 0)]) [.ret (zA (zA (.lst true [ys [40]]) (.calF 837 [v0,zS v1 (yi 1)])) (.lst true [ys [41]]))] [],.ret (.lst true [.calF 823 [v0]])]
noncomputable def IZ:List MS:=[.asg 2 (.calF 816 [v0,yi 9]),.ite (.bop false [zL v2 (yi 4),zE v1 (yi 0)]) [.ret (.lst true [.calF 823 [v0]])] [],.ite (zE v2 (yi 4)) [.asg 3 (.idx (.glb 8) (.calF 816 [v0,yi 3])),.ret (zA (.lst true [v3]) (.calF 830 [v0,zS v1 (yi 1)]))] [],.ite (zE v2 (yi 5)) [.ret (zA (zA (.lst true [ys [40]]) (.calF 837 [v0,zS v1 (yi 1)])) (.lst true [ys [41]]))] [],.asg 4 (.calF 837 [v0,zS v1 (yi 1)]),.asg 3 (.idx (.glb 7) (.calF 816 [v0,yi 10])),.ret (zA (zA v4 (.lst true [v3])) (.calF 837 [v0,zS v1 (yi 1)]))]
noncomputable def lE:List MS:=[.asg 2 (ys []),.asg 3 v0,.whl (.bop false [zG v3 (yi 0),zE v2 (ys [])]) [.asg 2 (zA (.idx (ys [48,49,50,51,52,53,54,55,56,57,97,98,99,100,101,102]) (.bin .Mod v3 v1)) v2),.asg 3 (.bin .FloorDiv v3 v1)],.ret v2]
noncomputable def B_:List MS:=[.ite (.tru (.isin v1 true)) [.ret v1] [],.ite (zE (.idx v1 (yi 0)) (ys [115,121,109,98,111,108])) [.ret (.idx v1 (yi 1))] [],.ite (zE (.idx v1 (yi 0)) (ys [104,101,114,101])) [.ret (ys [46])] [],.asg 2 (.idx v1 (yi 1)),.asg 3 (.calF 816 [v0,yi 6]),.ite (zE v3 (yi 1)) [.ret (zA (ys [48,120]) (.calF 844 [v2,yi 16]))] [],.ite (zE v3 (yi 2)) [.ret (zA (ys [48,88]) (.calM (.calF 844 [v2,yi 16]) 5 []))] [],.ite (.bop true [zE v3 (yi 3),zL v2 (yi 4096)]) [.ret (zA (ys [48,98]) (.calF 844 [v2,yi 2]))] [],.ite (zE v3 (yi 4)) [.ret (zA (ys [48]) (.calF 844 [v2,yi 8]))] [],.ite (.bop true [zE v3 (yi 5),.cmp2 (yi 32) v2 (yi 126)]) [.asg 4 (.ite (.cmp .In v2 (.tup [yi 34,yi 39,yi 92])) (ys [92]) (ys [])),.ret (zA (zA (zA (ys [39]) v4) (.calB .chr [v2])) (ys [39]))] [],.ret (.calF 844 [v2,yi 10])]
noncomputable def pF:List MS:=[.asg 2 (ys []),.forl [3] (.rng (.calB .len [v1])) [.asg 4 (.calF 816 [v0,yi 3]),.ite (.bop true [zE v4 (yi 0),zG v3 (yi 0)]) [.asg 5 (.bop true [.isin (.idx v1 v3) false,.isin (.idx v1 (zS v3 (yi 1))) false]),.ite (.bop false [.tru v5,zE (.idx v1 (zS v3 (yi 1))) (ys [37])]) [.asg 4 (yi 1)] []] [],.asg 2 (zA (zA v2 (zU (ys [32]) v4)) (.calF 851 [v0,.idx v1 v3]))],.ret v2]
noncomputable def iC:List MS:=[.asg 1 (.lst false []),.asg 2 yf,.forl [3] (.itm v0) [.ite (.bop false [.tru (.isin v3 false),zE v3 (ys [41])]) [.ite (zG (.calB .len [v1]) (yi 10)) [.ret yt] [],.ite (.bop true [zE v3 (ys [41]),.cmp .In (ys [40]) v1]) [.whl (zN (.calM v1 1 []) (ys [40])) [.asg 2 yt]] [],.whl (.bop true [zN v1 (.lst true []),zN (.idx v1 (.neg (yi 1))) (ys [40])]) [.expr (.calM v1 1 [])],.asg 2 yt] [.ite (.bop false [zE v3 (ys [40]),.nt (.tru v2)]) [.expr (.calM v1 0 [v3]),.asg 2 yf] [.asg 2 yf]]],.ret yf]
noncomputable def tA:List MS:=[.ite (zE v0 (.lst true [])) [.ret yn] [],.asg 1 (yi 0),.asg 2 yf,.asg 3 (.neg (yi 1)),.asg 4 (yi 3),.forl [5] (.rng (.calB .len [v0])) [.asg 6 (.idx v0 v5),.ite (.tru (.isin v6 false)) [.asg 2 yt] [.ite (zE v6 (ys [40])) [.asg 1 (zA v1 (yi 1)),.asg 2 yf] [.ite (zE v6 (ys [41])) [.asg 1 (zS v1 (yi 1)),.asg 2 yt,.ite (.bop false [zL v1 (yi 0),.bop true [zE v1 (yi 0),zL v3 (yi 0),zE (.idx v0 (yi 0)) (ys [40]),zL v5 (zS (.calB .len [v0]) (yi 1)),.cmp .NotIn (.idx v0 (zA v5 (yi 1))) (.glb 7)]]) [.ret yn] []] [.ite (.bop true [.tru v2,zE v1 (yi 0),.cmp .In v6 (.calF 808 []),zM (.idx (.calF 808 []) v6) v4]) [.asg 3 v5,.asg 4 (.idx (.calF 808 []) v6)] [],.asg 2 yf]]]],.ite (zN v1 (yi 0)) [.ret yn] [],.ite (zH v3 (yi 0)) [.asg 7 (.calF 872 [.sli v0 yn v3]),.asg 8 (.calF 872 [.sli v0 (zA v3 (yi 1)) yn]),.ite (.bop false [zI v7 yn,zI v8 yn]) [.ret yn] [],.ret (.tup [ys [98,105,110,97,114,121],.idx v0 v3,v7,v8])] [],.ite (.tru (.isin (.idx v0 (yi 0)) false)) [.ret (.ite (zE (.calB .len [v0]) (yi 1)) (.idx v0 (yi 0)) yn)] [],.ite (zE (.idx v0 (yi 0)) (ys [40])) [.ret (.ite (zE (.idx v0 (.neg (yi 1))) (ys [41])) (.calF 872 [.sli v0 (yi 1) (.neg (yi 1))]) yn)] [],.ite (.cmp .NotIn (.idx v0 (yi 0)) (.glb 8)) [.ret yn] [],.asg 9 (.calF 872 [.sli v0 (yi 1) yn]),.ite (zI v9 yn) [.ret yn] [],.ret (.tup [ys [117,110,97,114,121],.idx v0 (yi 0),v9])]
noncomputable def E3:List MS:=[.asgc 3 (.calB .dict [.idx v0 (yi 1)]),.forl [4,5] (.itm (.idx v1 (yi 1))) [.asgS v3 v4 (zA (.calM v3 4 [v4,yi 0]) (zU v2 v5))],.asg 6 (.calB .tuple [.comp true [none,none,some 3] [1] (.tup [v1,.idx v2 v1]) (.itm (.calB .sorted [v3])) [zN (.idx v2 v1) (yi 0)]]),.ite (.bop false [zG (.calB .sum [.comp true [none,none,none] [1,2] v2 (.itm v6) [zG v2 (yi 0)]]) (yi 1),zL (.calB .sum [.comp true [none,none,none] [1,2] v2 (.itm v6) [zL v2 (yi 0)]]) (.neg (yi 1))]) [.ret yn] [],.ret (.tup [zA (.idx v0 (yi 0)) (zU v2 (.idx v1 (yi 0))),v6])]
noncomputable def I0:List MS:=[.ite (.cmp .In v0 (.tup [ys [47],ys [37]])) [.ite (zE v2 (yi 0)) [.ret yn] [],.asgT [3,4] (.calB .divmod [v1,v2]),.ite (.bop true [zN v4 (yi 0),zN (zL v1 (yi 0)) (zL v2 (yi 0))]) [.asg 3 (zA v3 (yi 1))] [],.ret (.ite (zE v0 (ys [47])) v3 (zS v1 (zU v2 v3)))] [],.ite (.cmp .In v0 (.tup [ys [60,60],ys [62,62]])) [.ite (.bop false [zL v2 (yi 0),zG v2 (yi 63)]) [.ret yn] [],.ret (.ite (zE v0 (ys [60,60])) (zU v1 (.bin .Pow (yi 2) v2)) (.bin .FloorDiv v1 (.bin .Pow (yi 2) v2)))] [],.ite (zE v0 (ys [42])) [.ret (zU v1 v2)] [],.ite (zE v0 (ys [124])) [.ret (zS (zA v1 v2) (.bin .BitAnd v1 v2))] [],.ite (zE v0 (ys [38])) [.ret (.bin .BitAnd v1 v2)] [],.ret (zS (zA v1 v2) (zU (yi 2) (.bin .BitAnd v1 v2)))]
noncomputable def I1:List MS:=[.ite (zE (.idx v0 (yi 0)) (ys [110,117,109,98,101,114])) [.ret (.tup [.idx v0 (yi 1),.tup []])] [],.ite (zE (.idx v0 (yi 0)) (ys [115,121,109,98,111,108])) [.ret (.ite (.cmp .In (.idx v0 (yi 1)) v1) (.idx v1 (.idx v0 (yi 1))) (.tup [yi 0,.tup [.tup [.idx v0 (yi 1),yi 1]]]))] [],.ite (zE (.idx v0 (yi 0)) (ys [104,101,114,101])) [.ret (.ite (zN v2 (ys [])) (.tup [yi 0,.tup [.tup [v2,yi 1]]]) yn)] [],.ite (zE (.idx v0 (yi 0)) (ys [117,110,97,114,121])) [.asg 3 (.calF 891 [.idx v0 (yi 2),v1,v2]),.ite (zI v3 yn) [.ret yn] [],.ite (zE (.idx v0 (yi 1)) (ys [45])) [.ret (.calF 877 [.tup [yi 0,.tup []],v3,.neg (yi 1)])] [],.ite (zN (.idx v3 (yi 1)) (.tup [])) [.ret yn] [],.ite (zE (.idx v0 (yi 1)) (ys [126])) [.ret (.tup [zS (.neg (.idx v3 (yi 0))) (yi 1),.tup []])] [],.ret (.tup [.calB .int [zE (.idx v3 (yi 0)) (yi 0)],.tup []])] [],.asg 4 (.calF 891 [.idx v0 (yi 2),v1,v2]),.asg 5 (.calF 891 [.idx v0 (yi 3),v1,v2]),.ite (.bop false [zI v4 yn,zI v5 yn]) [.ret yn] [],.ite (.cmp .In (.idx v0 (yi 1)) (.tup [ys [43],ys [45]])) [.ret (.calF 877 [v4,v5,.ite (zE (.idx v0 (yi 1)) (ys [43])) (yi 1) (.neg (yi 1))])] [],.ite (.bop false [zN (.idx v4 (yi 1)) (.tup []),zN (.idx v5 (yi 1)) (.tup [])]) [.ret yn] [],.asg 6 (.calF 884 [.idx v0 (yi 1),.idx v4 (yi 0),.idx v5 (yi 0)]),.ret (.ite (zI v6 yn) yn (.tup [v6,.tup []]))]
noncomputable def I4:List MS:=[.tryR (.calF 595 [v0]) 0]
noncomputable def I5:List MS:=[.tryR (.calF 757 [v0,v1]) 1]
noncomputable def I6:List MS:=[.ite (zE (.idx v0 (yi 0)) (ys [117,110,97,114,121])) [.ret (.calF 912 [.idx v0 (yi 2)])] [],.ite (zE (.idx v0 (yi 0)) (ys [98,105,110,97,114,121])) [.ret (zA (.calF 912 [.idx v0 (yi 2)]) (.calF 912 [.idx v0 (yi 3)]))] [],.ret (.lst true [v0])]
noncomputable def tB:List MS:=[.asg 3 (yi 0),.asg 4 v1,.whl (.bop false [zG v3 (yi 0),zE v4 v1]) [.asg 3 (zS (zA v3 (.calB .int [zE (.idx v0 v4) (ys [40])])) (.calB .int [zE (.idx v0 v4) (ys [41])])),.asg 4 (zA v4 (yi 1))],.asg 5 (.calF 898 [zA (zA (.sli v0 yn v1) (.sli v0 (zA v1 (yi 1)) (zS v4 (yi 1)))) (.sli v0 v4 yn)]),.ret (.bop true [.cmp .IsNot v5 yn,zE (.calM v5 6 []) v2])]
noncomputable def cV:List MS:=[.asg 1 (.comp true [none,none,none] [1] (.calB .int [v1]) (.itm (.sli v0 yn (yi 60))) []),.asgc 2 (.lst false [.ite (.tru v1) v1 (.lst false [yi 0]),yi 0]),.asg 4 (.comp true [none,none,none,some 2] [1] (zS (.calF 816 [v3,yi 2001]) (yi 1000)) (.rng (yi 4)) []),.asg 5 (.ite (zG (.calF 816 [v2,yi 3]) (yi 0)) (ys [72]) (ys [])),.asg 6 (.calF 837 [v2,yi 3]),.ite (zE (.calF 816 [v2,yi 6]) (yi 5)) [.forl [3] (.rng (.calF 816 [v2,yi 13])) [.asg 7 (.idx (.tup [ys [40],ys [45],ys [126],ys [33]]) (.calF 816 [v2,yi 4])),.asg 6 (.ite (zE v7 (ys [40])) (zA (zA (.lst true [ys [40]]) v6) (.lst true [ys [41]])) (zA (.lst true [v7]) v6))]] [],.ite (zE (.calF 816 [v2,yi 4]) (yi 3)) [.asg 8 (.calF 816 [v2,.calB .len [v6]]),.asg 9 (.calF 816 [v2,yi 3]),.asg 7 (.idx (.tup [ys [40],ys [41],ys [45],ys [126],ys [60,60],ys [43],.tup [ys [115,121,109,98,111,108],ys [97]]]) (.calF 816 [v2,yi 7])),.asg 6 (zA (zA (.sli v6 yn v8) (.idx (.tup [.lst true [],.lst true [.idx v6 v8,.idx v6 v8],.lst true [v7]]) v9)) (.sli v6 (zA v8 (yi 1)) yn))] [],.asg 10 (.calF 858 [v2,v6]),.asg 11 (.lst false []),.forl [12] (.itm v6) [.ite (.tru (.isin DQ true)) [.expr (.calM GP 0 [.tup [ys [115,105,103,110],DQ]])] [.ite (zE (.idx DQ (yi 0)) (ys [110,117,109,98,101,114])) [.expr (.calM GP 0 [DQ])] [.expr (.calM GP 0 [.tup [ys [110,97,109,101],.ite (zE (.idx DQ (yi 0)) (ys [115,121,109,98,111,108])) (.idx DQ (yi 1)) (ys [46])]])]]],.ite (zN (.comp true [none,none] [1] (.calM v1 6 []) (.itm (.calF 297 [L6,yi 1])) []) (zA GP (.lst true [.tup [ys [101,110,100],ys []]]))) [.ret yf] [],.asg 13 (.ite (.tru (.calF 865 [v6])) yn (.calF 872 [v6])),.asg 14 (.calF 898 [L6]),.ite (.bop false [zI AG yn,zI AH yn]) [.ret (.bop true [zI AG yn,zI AH yn])] [],.ite (zN (.calM AH 6 []) AG) [.ret yf] [],.asg 15 (.calF 703 []),.expr (.calM DS 29 [ys [99],.calF 655 [.idx v4 (yi 1),ys [98]]]),.expr (.calM DS 29 [ys [98],.calF 655 [.idx v4 (yi 0),ys [97]]]),.expr (.calM DS 29 [ys [100],.calF 655 [.idx v4 (yi 2),ys [97],ys [101]]]),.expr (.calM DS 29 [ys [95,110,46,49,36],.calF 655 [.idx v4 (yi 3)]]),.asg 16 (.dct [[98],[99]] [.tup [.idx v4 (yi 0),.tup [.tup [ys [97],yi 1]]],.tup [zA (.idx v4 (yi 0)) (.idx v4 (yi 1)),.tup [.tup [ys [97],yi 1]]]]),.asgS GQ (ys [100]) (.tup [.idx v4 (yi 2),.tup [.tup [ys [97],yi 1],.tup [ys [101],.neg (yi 1)]]]),.asgS GQ (ys [95,110,46,49,36]) (.tup [.idx v4 (yi 3),.tup []]),.asg 17 (.calF 891 [AG,GQ,v5]),.tryA 18 (.calF 750 [AH,DS,v5]) 1,.ite (.bop false [zI B6 yn,zI B7 yn]) [.ite (.bop false [.cmp .IsNot B6 yn,.cmp .IsNot B7 yn]) [.ret yf] []] [.asg 19 (.comp true [none,none,none] [1,2] v1 (.itm (.idx B6 (yi 1))) [zG v2 (yi 0)]),.asg 20 (.comp true [none,none,none] [1,2] v1 (.itm (.idx B6 (yi 1))) [zL v2 (yi 0)]),.ite (zN (.calM B7 6 []) (.tup [.idx B6 (yi 0),.ite (.tru HY) (.idx HY (yi 0)) (ys []),.ite (.tru HZ) (.idx HZ (yi 0)) (ys [])])) [.ret yf] [],.ite (.bop false [zN (.calM B7 26 []) (.bop true [zN HY (.lst true []),zE HZ (.lst true [])]),zN (.calM B7 25 []) (zE (.idx B6 (yi 1)) (.tup []))]) [.ret yf] [],.ite (.bop true [zL (.calB .abs [.idx B6 (yi 0)]) (.bin .LShift (yi 1) (yi 64)),zN (.calM (.calF 750 [.calF 595 [.calF 785 [B7]],.calF 703 []]) 6 []) (.calM B7 6 [])]) [.ret yf] []],.asg 21 (.calF 891 [AG,GQ,ys []]),.ite (zN (.calF 905 [AH,DS]) (.ite (.bop true [.cmp .IsNot H0 yn,zE (.idx H0 (yi 1)) (.tup [])]) (.idx H0 (yi 0)) yn)) [.ret yf] [],.asg 22 (.calF 778 [AH]),.asg 23 (.calF 898 [GR]),.ite (.bop false [zI L7 yn,zN (.calM L7 6 []) AG]) [.ret yf] [],.forl [24] (.rng (.calB .len [GR])) [.ite (.bop true [zE (.idx GR L8) (ys [40]),.tru (.calF 919 [GR,L8,AG])]) [.ret yf] []],.asg 25 (.calF 912 [AG]),.asg 26 (.calB .sortset [.comp true [none,none] [1] (.idx v1 (yi 1)) (.itm L9) [zE (.idx v1 (yi 0)) (ys [115,121,109,98,111,108])]]),.ret (.bop true [zE (.calF 792 [AH]) MG,zE (.calF 799 [AH]) (.cmp .In (.tup [ys [104,101,114,101]]) L9)])]
set_option tactic.hygienic true
noncomputable def E5(d:Data):Option (Array M_):=by cases d with|fields vs=>exact some vs|_=>exact none
theorem y5:E5 d=some vs->d= .fields vs:=by cases d<;>first|exact aj|exact fun h=>Nw Data.fields (Nh h)
noncomputable def E6(v:M_):Option Str:=by cases v with|str q _=>exact some q|_=>exact none
theorem y6:E6 v=some q->∃t,v= .str q t:=by cases v<;>first|exact aj|exact fun h=>by injection h with z0;subst z0;exact⟨_,rfl⟩
noncomputable def AI(o:Option Obj):Option Str:=o.bind fun o=>(E5 o.data).bind fun vs=>(vs[1]?).bind E6
theorem vH(e:AI o=some q):∃o' vs t,o=some o'/\o'.data= .fields vs/\vs[1]? =some (.str q t):=by apply bc;intro a;refine bF e fun o' b c=>?_;refine bF c fun vs d f=>?_;refine bF f fun v g h=>?_;obtain⟨t,rfl⟩:=y6 h;apply a;exact⟨o',vs,t,b,y5 d,g⟩
noncomputable def E7(v:M_):Option NC:=by cases v with|ref c=>exact some c|_=>exact none
theorem y7:E7 v=some c->v= .ref c:=by cases v<;>first|exact aj|exact fun h=>Nw OF (Nh h)
noncomputable def vI(h:Om)(fd:Qi):Bool:=((E7 fd.code).bind fun c=>AI (h.get? c))==some fd.qualname
theorem vJ{h:Om}{fd:Qi}(e:vI h fd=true):∃c o vs t,fd.code= .ref c/\h.get? c=some o/\o.data= .fields vs/\vs[1]? =some (.str fd.qualname t):=by apply bc;intro a;refine bF (beq_iff_eq.mp e) fun c b e=>?_;obtain⟨o,vs,t,d,f,g⟩:=vH e;apply a;exact⟨c,o,vs,t,y7 b,d,f,g⟩
structure mw(f:Nat)(x:NY×List OP×NR)(ps:List Str):Prop where
 h1:∀P,(H1 P).get? f=some ⟨.type "function",none,.func (be f P),#[]⟩
 h2:∀P,be f P=xh x (be f P).name (be f P).qualname 3 [] (be f P).defaults (be f P).kwdefaults (be f P).doc (be f P).pyModule (be f P).annotations (be f P).code (be f P).closureTuple 0
 hc:∀P,vI (H1 P) (be f P)=true
 h3:(bB x.2.2&&decide ps.Nodup&&ps.all fun p=>x.2.2.names.lookup p==some .local)=true
theorem mw.at{f:Nat}{x:NY×List OP×NR}{ps:List Str}(K:mw f x ps):BS f x.2.2 x.2.1 ps (be f):=by obtain⟨c,a,d,b⟩:=K;simp only[N1,OD,Rt,Qn]at b;exact⟨fun P=>⟨_,c P,rfl⟩,fun P=>by rw[a P],fun P=>by rw[a P],fun P=>by rw[a P],fun P=>by rw[a P],fun P=>by rw[a P],fun P=>vJ (d P),b.1.1,b.1.2,b.2⟩
noncomputable def jJ(a:NR):Bool:=a.names.all (·.2 != .cell)
theorem kH{a:NR}(h:jJ a=true):∀x∈a.names,x.2≠.cell:=fun x b=>by simpa using List.all_eq_true.mp h x b
noncomputable abbrev I7(x:NY×List OP×NR)(b:M_)(vals:List M_)(c:List (Str×M_)):Prop:=∀(n q:Str)(d a e:M_)(f:Option NC)(g h:M_),UI (xh x n q 3 [] b d a e f g h 0) ⟨vals,[]⟩=OJ c
theorem ft{d f:Nat}{x:NY×List OP×NR}{ps:List Str}(K:mw f x ps)(g:∀P,(be f P).defaults= .none)(i:jJ x.2.2=true){ms:List MS}(j:dh (qM ia 40 x.2.2) x.2.1=some ms){a:List PV}{e:ar}(b:iB x.2.2 ps a=e)
  (k:∀(P:Np)(fz:Fz)(vals:List M_),aL P fz a vals->I7 x .none vals (ps.zip vals))
  {σ:aa} {Q:PV->aa->Prop} {X:QX} (w:ai d ms e σ (fun o _ c=>a_ Q (o.getD .none) c) (ao X)):af (d+1) (.ref f) a σ Q X:=
 jE K.at (kH i) (d_ (fun st m h=>g7 40 st m h K.at.ok) _ _ j) (fun C l σ fz s vals G h=>⟨vals,by rw[K.h2 C.P,g C.P];exact BindsTo.of_eq (k _ _ _ h _ _ _ _ _ _ _ _),h⟩) (b▸w)
theorem nH{d f:Nat}{x:NY×List OP×NR}{ps:List Str}(K:mw f x ps)(g:∀P,(be f P).defaults= .none){ms:List MS}(i:dh (qM ia 40 x.2.2) x.2.1=some ms){a:List PV}{e:ar}(b:iB x.2.2 ps a=e)
  (j:∀(P:Np)(fz:Fz)(vals:List M_),aL P fz a vals->I7 x .none vals (ps.zip vals))
  {σ:aa} {Q:PV->aa->Prop} {X:QX} (w:ai d ms e σ (fun o _ c=>a_ Q (o.getD .none) c) (ao X)):af (d+1) (.ref f) a σ Q X:=
 nq K.at (d_ (fun st m h=>g7 40 st m h K.at.ok) _ _ i) (fun P fz vals h=>⟨vals,by rw[K.h2 P,g P];exact j _ _ _ h _ _ _ _ _ _ _ _,h⟩) (b▸w)
theorem b0{P:Np}{fz:Fz}(h:aL P fz [] vals):vals=[]:=h.inv
theorem b1{P:Np}{fz:Fz}(h:aL P fz [a] vals):∃x,vals=[x]:=by obtain⟨w,_,rfl,_,t⟩:=h.inv;cases t.inv;exact⟨w,rfl⟩
theorem b2{P:Np}{fz:Fz}(h:aL P fz [a,b] vals):∃x y,vals=[x,y]:=by obtain⟨w,_,rfl,_,t⟩:=h.inv;obtain⟨y,rfl⟩:=b1 t;exact⟨w,y,rfl⟩
theorem b3{P:Np}{fz:Fz}(h:aL P fz [a,b,c] vals):∃x y z,vals=[x,y,z]:=by obtain⟨w,_,rfl,_,t⟩:=h.inv;obtain⟨y,z,rfl⟩:=b2 t;exact⟨w,y,z,rfl⟩
theorem b4{P:Np}{fz:Fz}(h:aL P fz [a,b,c,d] vals):∃x y z u,vals=[x,y,z,u]:=by obtain⟨w,_,rfl,_,t⟩:=h.inv;obtain⟨y,z,u,rfl⟩:=b3 t;exact⟨w,y,z,u,rfl⟩
theorem b5{P:Np}{fz:Fz}(h:aL P fz [a,b,c,d,e] vals):∃x y z u v,vals=[x,y,z,u,v]:=by obtain⟨w,_,rfl,_,t⟩:=h.inv;obtain⟨y,z,u,v,rfl⟩:=b4 t;exact⟨w,y,z,u,v,rfl⟩
noncomputable def fL(f:Nat)(P:Np):(Option Obj×Qi)×Bool×M_:=(((H1 P).get? f,be f P),vI (H1 P) (be f P),(be f P).defaults)
noncomputable def fR(f:Nat)(x:NY×List OP×NR)(P:Np):(Option Obj×Qi)×Bool×M_:=((some ⟨.type "function",none,.func (be f P),#[]⟩,xh x (be f P).name (be f P).qualname 3 [] (be f P).defaults (be f P).kwdefaults (be f P).doc (be f P).pyModule (be f P).annotations (be f P).code (be f P).closureTuple 0),true,.none)
noncomputable def sL(x:NY×List OP×NR)(ps:List Str):Bool×Option (List MS):=(bB x.2.2&&decide ps.Nodup&&ps.all fun p=>x.2.2.names.lookup p==some .local,dh (qM ia 40 x.2.2) x.2.1)
noncomputable def sR(b:List MS):Bool×Option (List MS):=(true,some b)
noncomputable def rL(x:NY×List OP×NR)(ps:List Str)(as:List PV):ar:=iB x.2.2 ps as
noncomputable def rR(as:List PV)(n:Nat):ar:=as.map some++NF n none
noncomputable def bL(x:NY×List OP×NR)(b:List M_)(n q:Str)(c a d:M_)(e:Option NC)(f g:M_):Sem (List (Str×M_)):=UI (xh x n q 3 [] .none c a d e f g 0) ⟨b,[]⟩
noncomputable def bR(ps:List Str)(a:List M_):Sem (List (Str×M_)):=OJ (ps.zip a)
theorem mw.of(h:∀P,fL f P=fR f x P)(t:sL x ps=sR b):mw f x ps:=⟨fun P=>Nw (·.1.1) (h P),fun P=>Nw (·.1.2) (h P),fun P=>Nw (·.2.1) (h P),Nw (·.1) t⟩
theorem eU(h:∀P,fL f P=fR f x P)(P:Np):(be f P).defaults= .none:=Nw (·.2.2) (h P)
theorem ig{x:NY×List OP×NR}{ps:List Str}{b:List MS}(t:sL x ps=sR b):dh (qM ia 40 x.2.2) x.2.1=some b:=Nw (·.2) t
noncomputable def P0:Np:={strHash:=fun _=>0,shareClass:=fun _=>0,mergeTok:=id,idOf:=fun _=>0,idOfShared:=fun _ _=>0,followText:=fun _=>false,idOfImm:=fun _=>0}
noncomputable def gL(f:Nat)(x:NY×List OP×NR)(ps:List Str)(z:Bool)(P:Np)(as:List PV)(b:List M_)(n q:Str)(c a d:M_)(e:Option NC)(g h:M_):=(fL f P,sL x ps,z||jJ x.2.2,rL x ps as,bL x b n q c a d e g h)
noncomputable def gR(f:Nat)(x:NY×List OP×NR)(ps:List Str)(b:List MS)(m:Nat)(P:Np)(as:List PV)(a:List M_):=(fR f x P,sR b,true,rR as m,bR ps a)
noncomputable abbrev gE(f:Nat)(x:NY×List OP×NR)(ps:List Str)(z:Bool)(b:List MS)(m:Nat)(as:List PV)(c:List M_):Prop:=∀(P:Np)(n q:Str)(d a e:M_)(g:Option NC)(h i:M_),gL f x ps z P as c n q d a e g h i=gR f x ps b m P as c
section
variable{f m:Nat}{x:NY×List OP×NR}{ps:List Str}{z:Bool}{b:List MS}{as:List PV}{us:List M_}
theorem gK(h:gE f x ps z b m as us):∀P,fL f P=fR f x P:=fun P=>Nw (·.1) (h P "" "" .none .none .none none .none .none)
theorem gS(P:Np)(h:gE f x ps z b m as us):sL x ps=sR b:=Nw (·.2.1) (h P "" "" .none .none .none none .none .none)
theorem gN(P:Np)(h:gE f x ps z b m as us):(z||jJ x.2.2)=true:=Nw (·.2.2.1) (h P "" "" .none .none .none none .none .none)
theorem gA(P:Np)(h:gE f x ps z b m as us):rL x ps as=rR as m:=Nw (·.2.2.2.1) (h P "" "" .none .none .none none .none .none)
theorem gB(P:Np)(h:gE f x ps z b m as us):I7 x .none us (ps.zip us):=fun n q c a d e g i=>Nw (·.2.2.2.2) (h P n q c a d e g i)
end
noncomputable abbrev W0(f:Nat)(b:List MS)(n:Nat):Prop:=∀{d:Nat}{σ:aa}{Q:QV}{X:QX},ai d b (NF n none) σ (fun o _ a=>a_ Q (o.getD .none) a) (ao X)->af (d+1) (.ref f) [] σ Q X
noncomputable def MI(f:Nat)(x:NY×List OP×NR)(ps:List Str)(z:Bool):=fun(P:Np) (b q:Str) (c a d:M_) (e:Option NC) (g h:M_)=>gL f x ps z P [] [] b q c a d e g h
noncomputable def MJ(f:Nat)(x:NY×List OP×NR)(ps:List Str)(b:List MS)(n:Nat):=fun(P:Np) (c q:Str) (d a e:M_) (g:Option NC) (h i:M_)=>gR f x ps b n P [] []
theorem g0(x:NY×List OP×NR)(ps:List Str)(H:MI f x ps false=MJ f x ps b n):W0 f b n:=by have H:∀(P:Np)(c q:Str)(d a e:M_)(g:Option NC)(i j:M_),gL f x ps false P [] [] c q d a e g i j=gR f x ps b n P [] []:=fun P c q d a e g i j=>Nu (Nu (Nu (Nu (Nu (Nu (Nu (Nu (Nu H P) c) q) d) a) e) g) i) j;intro _ _ _ _ w;exact ft (mw.of (gK H) (gS P0 H)) (eU (gK H)) (gN P0 H) (ig (gS P0 H)) (gA P0 H) (fun P fz vals h=>by obtain rfl:=b0 h;exact gB P H) w
noncomputable abbrev W1(f:Nat)(b:List MS)(n:Nat):Prop:=∀{d:Nat}{a0:PV}{σ:aa}{Q:QV}{X:QX},ai d b (some a0::NF n none) σ (fun o _ a=>a_ Q (o.getD .none) a) (ao X)->af (d+1) (.ref f) [a0] σ Q X
noncomputable def L_(f:Nat)(x:NY×List OP×NR)(ps:List Str)(z:Bool):=fun(a0:PV) (b:M_) (P:Np) (c q:Str) (d a e:M_) (g:Option NC) (h i:M_)=>gL f x ps z P [a0] [b] c q d a e g h i
noncomputable def Ma(f:Nat)(x:NY×List OP×NR)(ps:List Str)(b:List MS)(n:Nat):=fun(a0:PV) (a:M_) (P:Np) (d q:Str) (e c g:M_) (h:Option NC) (i j:M_)=>gR f x ps b n P [a0] [a]
theorem g1(x:NY×List OP×NR)(ps:List Str)(H:L_ f x ps false=Ma f x ps b n):W1 f b n:=by have H:∀(a0:PV)(c:M_)(P:Np)(d q:Str)(e a g:M_)(i:Option NC)(j k:M_),gL f x ps false P [a0] [c] d q e a g i j k=gR f x ps b n P [a0] [c]:=fun a0 c P d q e a g i j k=>Nu (Nu (Nu (Nu (Nu (Nu (Nu (Nu (Nu (Nu (Nu H a0) c) P) d) q) e) a) g) i) j) k;intro _ _ _ _ _ w;exact ft (mw.of (gK (H .none .none)) (gS P0 (H .none .none))) (eU (gK (H .none .none))) (gN P0 (H .none .none)) (ig (gS P0 (H .none .none))) (gA P0 (H _ .none)) (fun P fz vals h=>by obtain⟨c,rfl⟩:=b1 h;exact gB P (H .none c)) w
theorem MK(x:NY×List OP×NR)(ps:List Str)(H:L_ f x ps true=Ma f x ps b n):W1 f b n:=by have H:∀(a0:PV)(c:M_)(P:Np)(d q:Str)(e a g:M_)(i:Option NC)(j k:M_),gL f x ps true P [a0] [c] d q e a g i j k=gR f x ps b n P [a0] [c]:=fun a0 c P d q e a g i j k=>Nu (Nu (Nu (Nu (Nu (Nu (Nu (Nu (Nu (Nu (Nu H a0) c) P) d) q) e) a) g) i) j) k;intro _ _ _ _ _ w;exact nH (mw.of (gK (H .none .none)) (gS P0 (H .none .none))) (eU (gK (H .none .none))) (ig (gS P0 (H .none .none))) (gA P0 (H _ .none)) (fun P fz vals h=>by obtain⟨c,rfl⟩:=b1 h;exact gB P (H .none c)) w
noncomputable abbrev W2(f:Nat)(b:List MS)(n:Nat):Prop:=∀{d:Nat}{a0 a1:PV}{σ:aa}{Q:QV}{X:QX},ai d b (some a0::some a1::NF n none) σ (fun o _ a=>a_ Q (o.getD .none) a) (ao X)->af (d+1) (.ref f) [a0,a1] σ Q X
noncomputable def ML(f:Nat)(x:NY×List OP×NR)(ps:List Str)(z:Bool):=fun(a0 a1:PV) (b c:M_) (P:Np) (d q:Str) (e a g:M_) (h:Option NC) (i j:M_)=>gL f x ps z P [a0,a1] [b,c] d q e a g h i j
noncomputable def MM(f:Nat)(x:NY×List OP×NR)(ps:List Str)(b:List MS)(n:Nat):=fun(a0 a1:PV) (a c:M_) (P:Np) (e q:Str) (g d h:M_) (i:Option NC) (j k:M_)=>gR f x ps b n P [a0,a1] [a,c]
theorem g2(x:NY×List OP×NR)(ps:List Str)(H:ML f x ps false=MM f x ps b n):W2 f b n:=by have H:∀(a0 a1:PV)(c d:M_)(P:Np)(e q:Str)(g a i:M_)(j:Option NC)(k l:M_),gL f x ps false P [a0,a1] [c,d] e q g a i j k l=gR f x ps b n P [a0,a1] [c,d]:=fun a0 a1 c d P e q g a i j k l=>Nu (Nu (Nu (Nu (Nu (Nu (Nu (Nu (Nu (Nu (Nu (Nu (Nu H a0) a1) c) d) P) e) q) g) a) i) j) k) l;intro _ _ _ _ _ _ w;exact ft (mw.of (gK (H .none .none .none .none)) (gS P0 (H .none .none .none .none))) (eU (gK (H .none .none .none .none))) (gN P0 (H .none .none .none .none)) (ig (gS P0 (H .none .none .none .none))) (gA P0 (H _ _ .none .none)) (fun P fz vals h=>by obtain⟨c,d,rfl⟩:=b2 h;exact gB P (H .none .none c d)) w
noncomputable abbrev W3(f:Nat)(b:List MS)(n:Nat):Prop:=∀{d:Nat}{a0 a1 c:PV}{σ:aa}{Q:QV}{X:QX},ai d b (some a0::some a1::some c::NF n none) σ (fun o _ a=>a_ Q (o.getD .none) a) (ao X)->af (d+1) (.ref f) [a0,a1,c] σ Q X
noncomputable def Mb(f:Nat)(x:NY×List OP×NR)(ps:List Str)(z:Bool):=fun(a0 a1 b:PV) (c d e:M_) (P:Np) (g q:Str) (h a i:M_) (j:Option NC) (k l:M_)=>gL f x ps z P [a0,a1,b] [c,d,e] g q h a i j k l
noncomputable def Mc(f:Nat)(x:NY×List OP×NR)(ps:List Str)(b:List MS)(n:Nat):=fun(a0 a1 a:PV) (c d e:M_) (P:Np) (h q:Str) (i g j:M_) (k:Option NC) (l m:M_)=>gR f x ps b n P [a0,a1,a] [c,d,e]
theorem g3(x:NY×List OP×NR)(ps:List Str)(H:Mb f x ps false=Mc f x ps b n):W3 f b n:=by have H:∀(a0 a1 g:PV)(c d e:M_)(P:Np)(i q:Str)(j a k:M_)(l:Option NC)(m o:M_),gL f x ps false P [a0,a1,g] [c,d,e] i q j a k l m o=gR f x ps b n P [a0,a1,g] [c,d,e]:=fun a0 a1 g c d e P i q j a k l m o=>Nu (Nu (Nu (Nu (Nu (Nu (Nu (Nu (Nu (Nu (Nu (Nu (Nu (Nu (Nu H a0) a1) g) c) d) e) P) i) q) j) a) k) l) m) o;intro _ _ _ _ _ _ _ w;exact ft (mw.of (gK (H .none .none .none .none .none .none)) (gS P0 (H .none .none .none .none .none .none))) (eU (gK (H .none .none .none .none .none .none))) (gN P0 (H .none .none .none .none .none .none)) (ig (gS P0 (H .none .none .none .none .none .none))) (gA P0 (H _ _ _ .none .none .none)) (fun P fz vals h=>by obtain⟨c,d,e,rfl⟩:=b3 h;exact gB P (H .none .none .none c d e)) w
theorem MN(x:NY×List OP×NR)(ps:List Str)(H:Mb f x ps true=Mc f x ps b n):W3 f b n:=by have H:∀(a0 a1 g:PV)(c d e:M_)(P:Np)(i q:Str)(j a k:M_)(l:Option NC)(m o:M_),gL f x ps true P [a0,a1,g] [c,d,e] i q j a k l m o=gR f x ps b n P [a0,a1,g] [c,d,e]:=fun a0 a1 g c d e P i q j a k l m o=>Nu (Nu (Nu (Nu (Nu (Nu (Nu (Nu (Nu (Nu (Nu (Nu (Nu (Nu (Nu H a0) a1) g) c) d) e) P) i) q) j) a) k) l) m) o;intro _ _ _ _ _ _ _ w;exact nH (mw.of (gK (H .none .none .none .none .none .none)) (gS P0 (H .none .none .none .none .none .none))) (eU (gK (H .none .none .none .none .none .none))) (ig (gS P0 (H .none .none .none .none .none .none))) (gA P0 (H _ _ _ .none .none .none)) (fun P fz vals h=>by obtain⟨c,d,e,rfl⟩:=b3 h;exact gB P (H .none .none .none c d e)) w
noncomputable abbrev W4(f:Nat)(b:List MS)(n:Nat):Prop:=∀{d:Nat}{a0 a1 c a3:PV}{σ:aa}{Q:QV}{X:QX},ai d b (some a0::some a1::some c::some a3::NF n none) σ (fun o _ a=>a_ Q (o.getD .none) a) (ao X)->af (d+1) (.ref f) [a0,a1,c,a3] σ Q X
noncomputable def MP(f:Nat)(x:NY×List OP×NR)(ps:List Str)(z:Bool):=fun(a0 a1 b a3:PV) (c d e g:M_) (P:Np) (h q:Str) (i a j:M_) (k:Option NC) (l m:M_)=>gL f x ps z P [a0,a1,b,a3] [c,d,e,g] h q i a j k l m
noncomputable def MQ(f:Nat)(x:NY×List OP×NR)(ps:List Str)(b:List MS)(n:Nat):=fun(a0 a1 a a3:PV) (c d e g:M_) (P:Np) (i q:Str) (j h k:M_) (l:Option NC) (m o:M_)=>gR f x ps b n P [a0,a1,a,a3] [c,d,e,g]
theorem g4(x:NY×List OP×NR)(ps:List Str)(H:MP f x ps false=MQ f x ps b n):W4 f b n:=by have H:∀(a0 a1 i a3:PV)(c d e g:M_)(P:Np)(j q:Str)(k a l:M_)(m:Option NC)(o p:M_),gL f x ps false P [a0,a1,i,a3] [c,d,e,g] j q k a l m o p=gR f x ps b n P [a0,a1,i,a3] [c,d,e,g]:=fun a0 a1 i a3 c d e g P j q k a l m o p=>Nu (Nu (Nu (Nu (Nu (Nu (Nu (Nu (Nu (Nu (Nu (Nu (Nu (Nu (Nu (Nu (Nu H a0) a1) i) a3) c) d) e) g) P) j) q) k) a) l) m) o) p;intro _ _ _ _ _ _ _ _ w;exact ft (mw.of (gK (H .none .none .none .none .none .none .none .none)) (gS P0 (H .none .none .none .none .none .none .none .none))) (eU (gK (H .none .none .none .none .none .none .none .none))) (gN P0 (H .none .none .none .none .none .none .none .none)) (ig (gS P0 (H .none .none .none .none .none .none .none .none))) (gA P0 (H _ _ _ _ .none .none .none .none)) (fun P fz vals h=>by obtain⟨c,d,e,g,rfl⟩:=b4 h;exact gB P (H .none .none .none .none c d e g)) w
noncomputable abbrev W5(f:Nat)(b:List MS)(n:Nat):Prop:=∀{d:Nat}{a0 a1 c a3 e:PV}{σ:aa}{Q:QV}{X:QX},ai d b (some a0::some a1::some c::some a3::some e::NF n none) σ (fun o _ a=>a_ Q (o.getD .none) a) (ao X)->af (d+1) (.ref f) [a0,a1,c,a3,e] σ Q X
noncomputable def MT(f:Nat)(x:NY×List OP×NR)(ps:List Str)(z:Bool):=fun(a0 a1 b a3 c:PV) (d e g h i:M_) (P:Np) (j q:Str) (k a l:M_) (m:Option NC) (n o:M_)=>gL f x ps z P [a0,a1,b,a3,c] [d,e,g,h,i] j q k a l m n o
noncomputable def MU(f:Nat)(x:NY×List OP×NR)(ps:List Str)(b:List MS)(n:Nat):=fun(a0 a1 a a3 c:PV) (d e g h i:M_) (P:Np) (k q:Str) (l j m:M_) (o:Option NC) (p r:M_)=>gR f x ps b n P [a0,a1,a,a3,c] [d,e,g,h,i]
theorem g5(x:NY×List OP×NR)(ps:List Str)(H:MT f x ps false=MU f x ps b n):W5 f b n:=by have H:∀(a0 a1 j a3 k:PV)(c d e g i:M_)(P:Np)(l q:Str)(m a o:M_)(p:Option NC)(r s:M_),gL f x ps false P [a0,a1,j,a3,k] [c,d,e,g,i] l q m a o p r s=gR f x ps b n P [a0,a1,j,a3,k] [c,d,e,g,i]:=fun a0 a1 j a3 k c d e g i P l q m a o p r s=>Nu (Nu (Nu (Nu (Nu (Nu (Nu (Nu (Nu (Nu (Nu (Nu (Nu (Nu (Nu (Nu (Nu (Nu (Nu H a0) a1) j) a3) k) c) d) e) g) i) P) l) q) m) a) o) p) r) s;intro _ _ _ _ _ _ _ _ _ w;exact ft (mw.of (gK (H .none .none .none .none .none .none .none .none .none .none)) (gS P0 (H .none .none .none .none .none .none .none .none .none .none))) (eU (gK (H .none .none .none .none .none .none .none .none .none .none))) (gN P0 (H .none .none .none .none .none .none .none .none .none .none)) (ig (gS P0 (H .none .none .none .none .none .none .none .none .none .none))) (gA P0 (H _ _ _ _ _ .none .none .none .none .none)) (fun P fz vals h=>by obtain⟨c,d,e,g,i,rfl⟩:=b5 h;exact gB P (H .none .none .none .none .none c d e g i)) w
theorem MV:W3 35 MH 0:=@g3 _ _ _ (ay 2 0) ["self","line","column"] (by kernel_rfl)
theorem I8:W1 108 H2 2:=@g1 _ _ _ (aB 11) ["sign"] (by kernel_rfl)
theorem I9:W1 115 H4 2:=@g1 _ _ _ (aB 12) ["sign"] (by kernel_rfl)
theorem I_:W1 122 H5 1:=@g1 _ _ _ (aB 13) ["sign"] (by kernel_rfl)
theorem I':W1 129 H6 2:=@g1 _ _ _ (aB 14) ["sign"] (by kernel_rfl)
theorem Ja:W2 136 yT 10:=@g2 _ _ _ (aB 15) ["text","at"] (by kernel_rfl)
theorem E8:W2 143 H7 5:=@g2 _ _ _ (aB 16) ["text","at"] (by kernel_rfl)
theorem Jb:W1 150 yU 7:=@g1 _ _ _ (aB 17) ["word"] (by kernel_rfl)
theorem Jc:W1 157 B8 4:=@g1 _ _ _ (aB 18) ["word"] (by kernel_rfl)
theorem Jd:W5 171 H8 0:=@g5 _ _ _ (ay 19 0) ["self","kind","text","worth","at"] (by kernel_rfl)
theorem Je:W2 178 H9 0:=@g2 _ _ _ (ay 19 1) ["self","text"] (by kernel_rfl)
theorem Jf:W1 192 H_ 0:=@g1 _ _ _ (ay 19 3) ["self"] (by kernel_rfl)
theorem Jg:W3 213 H' 0:=@g3 _ _ _ (ay 20 0) ["self","text","line"] (by kernel_rfl)
theorem Jh:W2 220 Ia 1:=@g2 _ _ _ (ay 20 1) ["self","at"] (by kernel_rfl)
theorem Ji:W1 227 yV 1:=@g1 _ _ _ (ay 20 2) ["self"] (by kernel_rfl)
theorem Jj:W2 234 Ib 1:=@g2 _ _ _ (ay 20 3) ["self","end"] (by kernel_rfl)
theorem Jk:W2 241 yW 3:=@g2 _ _ _ (ay 20 4) ["self","at"] (by kernel_rfl)
theorem Jl:W1 248 Ic 8:=@g1 _ _ _ (ay 20 5) ["self"] (by kernel_rfl)
theorem Jm:W1 255 Id 6:=@g1 _ _ _ (ay 20 6) ["self"] (by kernel_rfl)
theorem Jn:W1 276 Ie 6:=@g1 _ _ _ (ay 20 9) ["self"] (by kernel_rfl)
theorem E9:W1 283 Ig 8:=@g1 _ _ _ (ay 20 10) ["self"] (by kernel_rfl)
theorem Jo:W2 297 yX 4:=@g2 _ _ _ (aB 21) ["text","line"] (by kernel_rfl)
theorem Jp:W2 311 Ih 0:=@g2 _ _ _ (ay 22 0) ["self","tokens"] (by kernel_rfl)
theorem Jq:W1 318 Ii 0:=@g1 _ _ _ (ay 22 1) ["self"] (by kernel_rfl)
theorem Jr:W1 332 Ij 1:=@g1 _ _ _ (ay 22 3) ["self"] (by kernel_rfl)
theorem Js:W2 339 Ik 0:=@g2 _ _ _ (ay 22 4) ["self","text"] (by kernel_rfl)
theorem Jt:W1 346 Il 0:=@g1 _ _ _ (ay 22 5) ["self"] (by kernel_rfl)
theorem Ju:W2 353 Im 0:=@g2 _ _ _ (ay 22 6) ["self","text"] (by kernel_rfl)
theorem Jv:W2 367 Io 1:=@g2 _ _ _ (ay 22 8) ["self","text"] (by kernel_rfl)
theorem E_:W1 374 Ip 1:=@g1 _ _ _ (ay 22 9) ["self"] (by kernel_rfl)
theorem Jw:W1 388 Iq 0:=@g1 _ _ _ (ay 22 11) ["self"] (by kernel_rfl)
theorem Jx:W2 437 Ir 0:=@g2 _ _ _ (ay 27 0) ["self","worth"] (by kernel_rfl)
theorem Jy:W1 444 It 0:=@g1 _ _ _ (ay 27 1) ["self"] (by kernel_rfl)
theorem Jz:W2 463 Iu 0:=@g2 _ _ _ (ay 28 0) ["self","name"] (by kernel_rfl)
theorem JA:W1 470 Iv 0:=@g1 _ _ _ (ay 28 1) ["self"] (by kernel_rfl)
theorem JB:W1 489 Iw 0:=@g1 _ _ _ (ay 29 0) ["self"] (by kernel_rfl)
theorem JC:W3 508 Ix 0:=@g3 _ _ _ (ay 30 0) ["self","sign","body"] (by kernel_rfl)
theorem JD:W1 515 Iy 0:=@g1 _ _ _ (ay 30 1) ["self"] (by kernel_rfl)
theorem JE:W4 534 Iz 0:=@g4 _ _ _ (ay 31 0) ["self","sign","left","right"] (by kernel_rfl)
theorem JF:W1 541 EY 5:=@g1 _ _ _ (ay 31 1) ["self"] (by kernel_rfl)
theorem JG:W1 553 vF 2:=@g1 _ _ _ (aB 32) ["node"] (by kernel_rfl)
theorem JH:W1 560 IA 0:=@g1 _ _ _ (aB 33) ["sign"] (by kernel_rfl)
theorem Fa:W1 567 IB 1:=@g1 _ _ _ (aB 34) ["token"] (by kernel_rfl)
theorem JI:W2 574 kc 10:=@g2 _ _ _ (aB 35) ["cursor","depth"] (by kernel_rfl)
theorem JJ:W3 581 yY 7:=@g3 _ _ _ (aB 36) ["cursor","least","depth"] (by kernel_rfl)
theorem JK:W1 588 IC 1:=@g1 _ _ _ (aB 37) ["cursor"] (by kernel_rfl)
theorem JL:W1 595 ID 5:=@g1 _ _ _ (aB 38) ["text"] (by kernel_rfl)
theorem JM:W1 617 IE 0:=@g1 _ _ _ (ay 39 1) ["self"] (by kernel_rfl)
theorem JN:W1 624 IF 0:=@g1 _ _ _ (ay 39 2) ["self"] (by kernel_rfl)
theorem JO:W1 631 IG 0:=@g1 _ _ _ (ay 39 3) ["self"] (by kernel_rfl)
theorem JP:W1 638 II 1:=@g1 _ _ _ (ay 39 4) ["self"] (by kernel_rfl)
theorem JQ:W2 645 IJ 1:=@g2 _ _ _ (ay 39 5) ["self","other"] (by kernel_rfl)
theorem JR:W3 664 y3 6:=@g3 _ _ _ (aB 40) ["worth","pluses","minuses"] (by kernel_rfl)
theorem JS:W3 686 IK 0:=@g3 _ _ _ (ay 41 1) ["self","name","affine"] (by kernel_rfl)
theorem JT:W2 693 IL 1:=@g2 _ _ _ (ay 41 2) ["self","name"] (by kernel_rfl)
theorem JU:W2 700 y4 5:=@g2 _ _ _ (ay 41 3) ["self","affine"] (by kernel_rfl)
theorem JV:W2 714 IM 2:=@g2 _ _ _ (aB 42) ["one","other"] (by kernel_rfl)
theorem JW:W3 721 IN 2:=@g3 _ _ _ (aB 43) ["sign","one","count"] (by kernel_rfl)
theorem JX:W3 728 IO 2:=@g3 _ _ _ (aB 44) ["sign","one","other"] (by kernel_rfl)
theorem JY:W3 735 IP 3:=@g3 _ _ _ (aB 45) ["sign","left","right"] (by kernel_rfl)
theorem JZ:W2 742 IR 2:=@g2 _ _ _ (aB 46) ["sign","affine"] (by kernel_rfl)
theorem J0:W2 757 IS 3:=@g2 _ _ _ (aB 48) ["node","scope"] (by kernel_rfl)
theorem vK:W2 764 IT 2:=@g2 _ _ _ (aB 49) ["node","least"] (by kernel_rfl)
theorem y8:W1 771 IU 2:=@g1 _ _ _ (aB 50) ["node"] (by kernel_rfl)
theorem J1:W1 778 E0 10:=@g1 _ _ _ (aB 51) ["node"] (by kernel_rfl)
theorem J2:W1 785 E2 2:=@g1 _ _ _ (aB 52) ["affine"] (by kernel_rfl)
theorem J3:W1 792 vG 4:=@g1 _ _ _ (aB 53) ["node"] (by kernel_rfl)
theorem J4:W1 799 B9 5:=@g1 _ _ _ (aB 54) ["node"] (by kernel_rfl)
theorem J5:W0 808 IV 0:=@g0 _ _ _ (aB 58) [] (by kernel_rfl)
theorem J6:W2 816 IW 3:=@g2 _ _ _ (aB 60) ["source","limit"] (by kernel_rfl)
theorem J7:W1 823 IX 3:=@g1 _ _ _ (aB 61) ["source"] (by kernel_rfl)
theorem Fb:W2 830 IY 3:=@g2 _ _ _ (aB 62) ["source","depth"] (by kernel_rfl)
theorem Fc:W2 837 IZ 9:=@g2 _ _ _ (aB 63) ["source","depth"] (by kernel_rfl)
theorem J8:W2 844 lE 2:=@g2 _ _ _ (aB 64) ["worth","base"] (by kernel_rfl)
theorem y9:W2 851 B_ 8:=@g2 _ _ _ (aB 65) ["source","token"] (by kernel_rfl)
theorem J9:W2 858 pF 10:=@g2 _ _ _ (aB 66) ["source","row"] (by kernel_rfl)
theorem J_:W1 865 iC 6:=@g1 _ _ _ (aB 67) ["row"] (by kernel_rfl)
theorem B':W1 872 tA 17:=@g1 _ _ _ (aB 68) ["row"] (by kernel_rfl)
theorem J':W3 877 E3 8:=@MN _ _ _ (aB 69) ["one","two","times"] (by kernel_rfl)
theorem Ka:W3 884 I0 3:=@g3 _ _ _ (aB 70) ["sign","one","other"] (by kernel_rfl)
theorem vL:W3 891 I1 8:=@g3 _ _ _ (aB 71) ["tree","known","here"] (by kernel_rfl)
theorem Kb:W1 898 I4 2:=@g1 _ _ _ (aB 72) ["text"] (by kernel_rfl)
theorem Kc:W2 905 I5 2:=@g2 _ _ _ (aB 73) ["node","scope"] (by kernel_rfl)
theorem vM:W1 912 I6 1:=@g1 _ _ _ (aB 74) ["tree"] (by kernel_rfl)
theorem Kd:W3 919 tB 5:=@g3 _ _ _ (aB 75) ["text","at","tree"] (by kernel_rfl)
theorem Ke:W1 924 cV 53:=@MK _ _ _ (aB 76) ["script"] (by kernel_rfl)
theorem Ca:mw 610 (ay 39 0) ["self","worth","plus","minus"]:=⟨by intro P;kernel_rfl,by intro P;kernel_rfl,by intro P;kernel_rfl,by kernel_rfl⟩
theorem Cb:dh (qM ia 40 (ay 39 0).2.2) (ay 39 0).2.1=some yZ:=by kernel_rfl
theorem Kf:mw 679 (ay 41 0) ["self","equates"]:=⟨by intro P;kernel_rfl,by intro P;kernel_rfl,by intro P;kernel_rfl,by kernel_rfl⟩
theorem Kg:dh (qM ia 40 (ay 41 0).2.2) (ay 41 0).2.1=some EZ:=by kernel_rfl
theorem Fd:mw 750 (aB 47) ["node","scope","here"]:=⟨by intro P;kernel_rfl,by intro P;kernel_rfl,by intro P;kernel_rfl,by kernel_rfl⟩
theorem Fe:dh (qM ia 40 (aB 47).2.2) (aB 47).2.1=some tz:=by kernel_rfl
theorem AJ{P:Np}{fz:Fz}(t:Tok):VR P fz (.str []) (.str (NH "") t):= .str [] t ⟨by simp,fun c h=>absurd h Nx⟩
theorem dP{d f:Nat}{x:NY×List OP×NR}{ps:List Str}(K:mw f x ps){D:Array M_->Prop}(p:∀P,∃T c e n,(be f P).defaults= .ref T/\(H1 P).get? T=some c/\c.data= .seq e n/\D e)(r:jJ x.2.2=true){ms:List MS}(t:dh (qM ia 40 x.2.2) x.2.1=some ms){b pargs:List PV}{l:ar}(g:iB x.2.2 ps pargs=l)
  (u:∀(s:Nc)(P:Np)(fz:Fz)(vals:List M_)(T:NC)(c:Obj)(e:Array M_)(k:Nat),aL P fz b vals->s.heap.get? T=some c->c.data= .seq e k->D e->∃a,aL P fz pargs a/\∀(n q:Str)(v i y:M_)(z:Option NC)(A E:M_),Ut s (xh x n q 3 [] (.ref T) v i y z A E 0) ⟨vals,[]⟩ (ps.zip a))
  {σ:aa} {Q:PV->aa->Prop} {X:QX} (w:ai d ms l σ (fun o _ j=>a_ Q (o.getD .none) j) (ao X)):af (d+1) (.ref f) b σ Q X:=
 jE K.at (kH r) (d_ (fun st m h=>g7 40 st m h K.at.ok) _ _ t) (fun C V σ fz s vals G h=>by
  apply bc;intro F;obtain⟨T,c,e,n,H,L,M,O⟩:=p C.P;obtain⟨a,v1,v2⟩:=u s C.P fz vals T c e n h (aJ C L G).2 M O;apply F;exact⟨a,by rw[K.h2 C.P,H];exact v2 _ _ _ _ _ _ _ _,v1⟩) (g▸w)
noncomputable abbrev d2(a:Array M_):Prop:=∃t1 b,a=#[.str (NH "") t1,.str (NH "") b]
noncomputable abbrev d1(a:Array M_):Prop:=∃t1,a=#[.str (NH "") t1]
theorem Cc(P:Np):∃T a b n,(be 610 P).defaults= .ref T/\(H1 P).get? T=some a/\a.data= .seq b n/\d2 b:=⟨_,_,_,_,rfl,rfl,rfl,_,_,rfl⟩
theorem Kh(P:Np):∃T a b n,(be 679 P).defaults= .ref T/\(H1 P).get? T=some a/\a.data= .seq b n/\b=#[.none]:=⟨_,_,_,_,rfl,rfl,rfl,rfl⟩
theorem Ff(P:Np):∃T a b n,(be 750 P).defaults= .ref T/\(H1 P).get? T=some a/\a.data= .seq b n/\d1 b:=⟨_,_,_,_,rfl,rfl,rfl,_,rfl⟩
section
variable{d:Nat}{a0 a1 a2 a3:PV}{σ:aa}{Q:PV->aa->Prop}{X:QX}
theorem Ki(w:ai d yZ [some a0,some a1,some a2,some a3] σ (fun o _ a=>a_ Q (o.getD .none) a) (ao X)):af (d+1) (.ref 610) [a0,a1,a2,a3] σ Q X:=
 dP Ca Cc (by kernel_rfl) Cb (pargs:=[a0,a1,a2,a3]) (by kernel_rfl) (fun s P fz vals T g i k h b c e=>⟨vals,h,fun n q j f l m p r=>by obtain⟨x,y,z,u,rfl⟩:=b4 h;obtain⟨t1,t,rfl⟩:=e;exact jH rfl b c (by kernel_rfl)⟩) w
theorem Cd(w:ai d yZ [some a0,some a1,some a2,some (.str [])] σ (fun o _ a=>a_ Q (o.getD .none) a) (ao X)):af (d+1) (.ref 610) [a0,a1,a2] σ Q X:=
 dP Ca Cc (by kernel_rfl) Cb (pargs:=[a0,a1,a2,.str []]) (by kernel_rfl) (fun s P fz vals T i j k h b c e=>by
  obtain⟨t1,f,rfl⟩:=e;exact⟨vals++[.str (NH "") f],h.append (.cons (AJ _) .nil),fun n q l g m p r t=>by obtain⟨x,y,z,rfl⟩:=b3 h;exact jH rfl b c (by kernel_rfl)⟩) w
theorem Ce(w:ai d yZ [some a0,some a1,some (.str []),some (.str [])] σ (fun o _ a=>a_ Q (o.getD .none) a) (ao X)):af (d+1) (.ref 610) [a0,a1] σ Q X:=
 dP Ca Cc (by kernel_rfl) Cb (pargs:=[a0,a1,.str [],.str []]) (by kernel_rfl) (fun s P fz vals T i j k h b c e=>by
  obtain⟨t1,f,rfl⟩:=e;exact⟨vals++[.str (NH "") t1,.str (NH "") f],h.append (.cons (AJ _) (.cons (AJ _) .nil)),fun n q l g m p r t=>by obtain⟨x,y,rfl⟩:=b2 h;exact jH rfl b c (by kernel_rfl)⟩) w
theorem Cf(w:ai d EZ [some a0,some .none] σ (fun o _ a=>a_ Q (o.getD .none) a) (ao X)):af (d+1) (.ref 679) [a0] σ Q X:=
 dP Kf Kh (by kernel_rfl) Kg (pargs:=[a0,.none]) (by kernel_rfl) (fun s P fz vals T g i k h b c e=>by
  subst e;exact⟨vals++[.none],h.append (.cons .none .nil),fun n q j f l m p r=>by obtain⟨x,rfl⟩:=b1 h;exact jH rfl b c (by kernel_rfl)⟩) w
noncomputable abbrev pG(a0 a1 a:PV):ar:=[some a0,some a1,some a,none,none,none,none,none,none,none,none,none,none]
theorem Kj(w:ai d tz (pG a0 a1 a2) σ (fun o _ a=>a_ Q (o.getD .none) a) (ao X)):af (d+1) (.ref 750) [a0,a1,a2] σ Q X:=
 dP Fd Ff (by kernel_rfl) Fe (pargs:=[a0,a1,a2]) (by kernel_rfl) (fun s P fz vals T g i k h b c e=>⟨vals,h,fun n q j f l m p r=>by obtain⟨x,y,z,rfl⟩:=b3 h;obtain⟨t1,rfl⟩:=e;exact jH rfl b c (by kernel_rfl)⟩) w
theorem Cg(w:ai d tz (pG a0 a1 (.str [])) σ (fun o _ a=>a_ Q (o.getD .none) a) (ao X)):af (d+1) (.ref 750) [a0,a1] σ Q X:=
 dP Fd Ff (by kernel_rfl) Fe (pargs:=[a0,a1,.str []]) (by kernel_rfl) (fun s P fz vals T g i k h b c e=>by
  obtain⟨t1,rfl⟩:=e;exact⟨vals++[.str (NH "") t1],h.append (.cons (AJ _) .nil),fun n q j f l m p r=>by obtain⟨x,y,rfl⟩:=b2 h;exact jH rfl b c (by kernel_rfl)⟩) w
end
noncomputable def Kk:List MS:=[.ret (.tup [.att v0 2])]
theorem Kl:W1 416 Kk 0:=@g1 _ _ _ (ay 26 1) ["self"] (by kernel_rfl)
set_option tactic.hygienic false
theorem iT{p:Prop}[Rl p]{F:Bool->Prop}(a:p->F true)(b:¬p->F false):∃c,some (decide p)=some c/\F c:=by
 refine⟨decide p,rfl,?_⟩;by_cases h:p
 .rw[NN h];exact a h
 .rw[NQ h];exact b h
theorem fF{F:Bool->Prop}(a:b=true->F true)(d:b=false->F false):∃c,some b=some c/\F c:=⟨b,rfl,by cases b;exact d rfl;exact a rfl⟩
theorem tS{c k:Nat}{F:Bool->Prop}(a:c=k->F true)(b:c≠k->F false):∃x,some ([c]==[k])=some x/\F x:=by exact fF (fun h=>a (O9 (beq_iff_eq.mp h)).1) fun h=>b fun e=>by rw[e]at h;exact df ((ND [k]).symm.trans h)
theorem Fh{c k:Nat}{F:Bool->Prop}(a:c=k->F false)(b:c≠k->F true):∃x,some (!([c]==[k]))=some x/\F x:=by exact fF (fun h=>b fun e=>by rw[e,ND]at h;exact aK h) fun h=>a (Decidable.byContradiction fun e=>by rw[beq_eq_false_iff_ne.mpr fun z=>e (O9 z).1]at h;exact df h)
theorem ak{F:Bool->Prop}(e:v=some b)(h:F b):∃c,v=some c/\F c:=⟨b,e,h⟩
theorem ah{F:PV->Prop}(e:v=some w)(h:F w):∃c,v=some c/\F c:=⟨w,e,h⟩
theorem ag{Q:QV}{σ:aa}(q:Q v σ):a_ Q v σ:= .val .rfl q
noncomputable def iD(lo hi c:Nat):Bool:=decide (lo<=c)&&decide (c<=hi)
theorem DT{lo hi c:Nat}{F:Bool->Prop}(h:F (iD lo hi c)):∃x,some (decide ((lo:Int)<=c))=some x/\match x with|true=>∃y,some (decide ((c:Int)<=hi))=some y/\F y|false=>F false:=by
 unfold iD at h;refine iT (fun a=>iT (fun b=>?_) fun b=>?_) fun a=>?_
 .rwa [NN (Int.ofNat_le.mp a),NN (Int.ofNat_le.mp b)]at h
 .rwa [NN (Int.ofNat_le.mp a),NQ (fun z=>b (Int.ofNat_le.mpr z))]at h
 .rwa [NQ (fun z=>a (Int.ofNat_le.mpr z))]at h
theorem GU{lo hi c:Nat}{F:Bool->Prop}(a:iD lo hi c=true->F true)(b:iD lo hi c=false->F false):∃x,some (decide ((lo:Int)<=c))=some x/\match x with|true=>∃y,some (decide ((c:Int)<=hi))=some y/\F y|false=>F false:=
 DT (by cases h:iD lo hi c;exact b h;exact a h)
noncomputable def aD(c:Nat):Int:=if iD 48 57 c then c-48 else if iD 97 102 c then c-87 else if iD 65 70 c then c-55 else 16
theorem tC{d c:Nat}{σ:aa}{Q:QV}{X:QX}(q:Q (.int (aD c)) σ):af (d+1) (.ref 108) [.str [c]] σ Q X:=by
 unfold aD at q;refine I8 (GU (lo:=48) (hi:=57) (fun h=>?_) fun h=>GU (lo:=97) (hi:=102) (fun a=>?_) fun a=>GU (lo:=65) (hi:=70) (fun b=>?_) fun b=>?_)
 .rw[Nd h]at q;exact ag q
 all_goals rw[Na (by simp[h])]at q
 .rw[Nd a]at q;exact ag q
 all_goals rw[Na (by simp[a])]at q
 .rw[Nd b]at q;exact ag q
 .rw[Na (by simp[b])]at q;exact ag q
noncomputable def cM(c:Nat):Bool:=iD 97 122 c||iD 65 90 c
theorem AK(P:Bool->Prop){σ:aa}{G:PV->aa->Prop}{F:Prop}(q:P (a||r))(b:P true->G (.bool true) σ)(c:P r->F):∃x,eH (.bool a) σ=some x/\if x=false then F else G (.bool a) σ:=by
 cases a
 .exact⟨false,rfl,c q⟩
 .exact⟨true,rfl,b q⟩
theorem Ch(P:Bool->Prop){σ:aa}{G:PV->aa->Prop}{F:Prop}(q:P (a&&r))(b:P false->G (.bool false) σ)(c:P r->F):∃x,eH (.bool a) σ=some x/\if x=true then F else G (.bool a) σ:=by
 cases a
 .exact⟨false,rfl,b q⟩
 .exact⟨true,rfl,c q⟩
theorem Fj{d c:Nat}{σ:aa}{Q:QV}{X:QX}(q:Q (.bool (cM c)) σ):af (d+1) (.ref 115) [.str [c]] σ Q X:=
 I9 (DT (lo:=97) (hi:=122) (AK (fun b=>Q (.bool b) σ) q ag fun q=>DT (lo:=65) (hi:=90) (ag q)))
noncomputable def dG(c:Nat):Bool:=cM c||([c]==[95]||[c]==[46])
theorem Fk{σ:aa}{Q:QV}{X:QX}(q:Q (.bool (dG c)) σ):af (d+2) (.ref 122) [.str [c]] σ Q X:=
 I_ (Fj (AK (fun b=>Q (.bool b) σ) q ag fun q=>ak (b:=[c]==[95]) rfl (AK (fun b=>Q (.bool b) σ) q ag fun q=>ak (b:=[c]==[46]) rfl (ag q))))
noncomputable def am(c:Nat):Bool:=iD 48 57 c||(iD 97 122 c||(iD 65 90 c||([c]==[95]||([c]==[46]||[c]==[36]))))
theorem Km{d c:Nat}{σ:aa}{Q:QV}{X:QX}(q:Q (.bool (am c)) σ):af (d+1) (.ref 129) [.str [c]] σ Q X:=
 I' (DT (lo:=48) (hi:=57) (AK (fun b=>Q (.bool b) σ) q ag fun q=>DT (lo:=97) (hi:=122) (AK (fun b=>Q (.bool b) σ) q ag fun q=>DT (lo:=65) (hi:=90) (AK (fun b=>Q (.bool b) σ) q ag fun q=>
  ak (b:=[c]==[95]) rfl (AK (fun b=>Q (.bool b) σ) q ag fun q=>ak (b:=[c]==[46]) rfl (AK (fun b=>Q (.bool b) σ) q ag fun q=>ak (b:=[c]==[36]) rfl (ag q)))))))
theorem Fl{k:Int}{n j:Nat}(h0: -1000000000<=k/\k<=1000000000)(J:(if k<0 then k+n else k)=(j:Int))(h:j<n):kY k n=some j:=by unfold kY;rw[Nd h0];show(if(decide (0<=(if k<0 then k+n else k))&&decide ((if k<0 then k+n else k)<(n:Int)))=true then some (if k<0 then k+n else k).toNat else none)=some j;rw[J,NN (NK j),NN (Int.ofNat_lt.mpr h)];rfl
theorem fW{i n:Nat}(h:i<n)(a:n<=1000000):kY (i:Int) n=some i:=
 Fl ⟨O4 (by decide) (NK i),O4 (Int.ofNat_le.mpr (M7 (NW h) a)) (by decide)⟩ (Na (Int.not_lt.mpr (NK i))) h
theorem pH{i n:Nat}(h:i<n)(a:n<=1000000):kY (-((i:Int)+1)) n=some (n-1-i):=by obtain⟨k,rfl⟩:=Nat.exists_eq_add_of_lt h;have e:i+k+1-1-i=k:=Tq i k;rw[e];refine Fl ⟨Int.neg_le_neg (O4 (Int.ofNat_le.mpr (M7 h a)) (by decide)),O4 (Int.neg_nonpos_of_nonneg (NK (i+1))) (by decide)⟩ ?_ (Oz (Ny k i));rw[Nd (show -((i:Int)+1)<0 from Int.neg_neg_of_pos (Int.natCast_pos.mpr (Oh i)))];rw[show((i+k+1:Nat):Int)=((i:Int)+1)+k from Nw Wl (Qa i k 1)];exact Tu _ _
theorem eb{a:Type}{s r:List a}{i:Nat}{c:a}(h:s.drop i=c::r):i<s.length:=Rw fun q=>Bb ((Tt q).symm.trans h)
theorem nJ{a:Type}{s r:List a}{i:Nat}{c:a}(h:s.drop i=c::r):s[i]? =some c:=(List.getElem?_drop (xs:=s) (i:=i) (j:=0)).symm.trans (by rw[h];rfl)
theorem aT{s r:List Nat}{i c:Nat}{σ:aa}(h:s.drop i=c::r)(a:s.length<=1000000):bl (.str s) (.int i) σ=some (.str [c]):=by show((kY (i:Int) s.length).bind fun j=>(s[j]?).map fun c=>PV.str [c])=_;rw[fW (eb h) a,PM,nJ h];rfl
theorem aU{s r:List PV}{i:Nat}{c:PV}{σ:aa}(h:s.drop i=c::r)(a:s.length<=1000000):bl (.lst s) (.int i) σ=some c:=by show((kY (i:Int) s.length).bind fun j=>s[j]?)=_;rw[fW (eb h) a,PM,nJ h]
theorem cb{a:Type}{s r:List a}{i:Nat}{c:a}(h:s.drop i=c::r):s.drop (i+1)=r:=by rw[←OU,h];rfl
theorem cJ(n i:Nat):O5 n i=min i n:=by
 unfold O5;rw[Na (Int.not_lt.mpr (NK i))];rcases Nat.le_total i n with h|h
 .rw[OL h,UR (Int.ofNat_le.mpr h),SJ (NK _)];rfl
 .rw[Rv h,Int.min_eq_right (Int.ofNat_le.mpr h),SJ (NK _)];rfl
theorem nK{a:Type}(s:List a)(i:Nat):s.drop (min i s.length)=s.drop i:=by
 by_cases h:i<=s.length
 .rw[OL h]
 .have h:=Qy h;rw[Rv h,Rr,Tt h]
theorem vN{a:Type}(s:List a)(h:i<=j):(s.drop i).take (min j s.length-min i s.length)=(s.drop i).take (j-i):=by
 by_cases q:j<=s.length
 .rw[OL q,OL (M7 h q)]
 .have q:=Qy q;rw[Rv q,OT (by rw[Oe];exact Uc (QN _ _) _),OT (by rw[Oe];exact Nat.sub_le_sub_right q _)]
theorem Ci{s:List Nat}{i j:Nat}{σ:aa}(h:i<=j):fC (.str s) (.int i) (.int j) σ=some (.str ((s.drop i).take (j-i))):=by show some (PV.str ((s.drop (O5 s.length i)).take (O5 s.length j-O5 s.length i)))=_;rw[cJ,cJ,nK,vN s h]
theorem nL{s:List Nat}{i:Nat}{σ:aa}:fC (.str s) (.int i) .none σ=some (.str (s.drop i)):=by show some (PV.str ((s.drop (O5 s.length i)).take (s.length-O5 s.length i)))=_;rw[cJ,OT (NJ Oe),nK]
theorem vO{s:List Nat}{i n:Nat}{σ:aa}:fC (.str s) (.int i) (.int ↑(i+n)) σ=some (.str ((s.drop i).take n)):=by rw[Ci (Nn i n),Tq]
theorem aF{x:Int}{n:Nat}(h:x.natAbs<2^n)(b:n<=8000):small x:=by
 unfold small Pi;by_cases a:(x==0)=true
 .rw[Nd a];exact NP _
 .rw[Na a];exact M7 ((Nat.log2_lt fun e=>a (beq_iff_eq.mpr (Int.natAbs_eq_zero.mp e))).mpr h) b
noncomputable def dQ(b:Int):List Nat->Int->Int
 |[],a=>a
 |c::r,a=>if b<=aD c then -1 else dQ b r (a*b+aD c)
theorem lF{lo hi k c:Nat}(h:iD lo hi c=true)(d:Uu k lo=true)(e:Uu hi (k+16)=true):0<=(c:Int)-k/\(c:Int)-k<=16:=by refine qh h fun a b=>?_;exact⟨Int.sub_nonneg_of_le (Int.ofNat_le.mpr (M7 (No d) (N2 a))),Int.sub_left_le_of_le_add (Int.ofNat_le.mpr (M7 (N2 b) (No e)))⟩
theorem kI(c:Nat):0<=aD c/\aD c<=16:=by
 unfold aD;by_cases h:iD 48 57 c=true
 .rw[Nd h];exact lF (k:=48) h rfl rfl
 rw[Na h];clear h;by_cases h:iD 97 102 c=true
 .rw[Nd h];exact lF (k:=87) h rfl rfl
 rw[Na h];clear h;by_cases h:iD 65 70 c=true
 .rw[Nd h];exact lF (k:=55) h rfl rfl
 rw[Na h];decide
theorem Cj{a b:Int}{F:Bool->Prop}(d:a=b->F true)(f:a≠b->F false):∃c,some (a==b)=some c/\F c:=
 fF (fun h=>d (N9 h)) fun h=>f fun e=>by rw[e,ND]at h;exact df h
theorem ec{a b:Nat}{F:Bool->Prop}(d:a=b->F true)(f:a≠b->F false):∃c,some ((a:Int)==(b:Int))=some c/\F c:=
 Cj (fun h=>d (Pv h)) fun h=>f fun e=>h (Nw _ e)
theorem fX{a b:Nat}{F:Bool->Prop}(d:a<b->F true)(f:b<=a->F false):∃c,some (decide ((a:Int)<b))=some c/\F c:=
 iT (fun h=>d (Int.ofNat_lt.mp h)) fun h=>f (Nat.le_of_not_lt fun e=>h (Int.ofNat_lt.mpr e))
theorem Ck{a b:Nat}{F:Bool->Prop}(d:a<=b->F true)(f:b<a->F false):∃c,some (decide ((a:Int)<=b))=some c/\F c:=
 iT (fun h=>d (Int.ofNat_le.mp h)) fun h=>f (Rw fun e=>h (Int.ofNat_le.mpr e))
noncomputable def ax(l:List MS)(n:Nat):List MS:=match l.drop n with
 |.forl _ _ b::_=>b
 |.whl _ b::_=>b
 |_=>[]
noncomputable def cx(l:List MS)(n:Nat):ME:=match l.drop n with
 |.whl c _::_=>c
 |_=> .lit .none
noncomputable def fG(b:Int)(r:List Nat):Int:=if r=[] then -1 else dQ b r 0
noncomputable def iE(w:List Nat):Int:=match w with
 |c::e::r=>if c=48 then(if e=120\/e=88 then fG 16 r else if e=98\/e=66 then fG 2 r else fG 8 (e::r))else fG 10 w
 |_=>fG 10 w
theorem AL{x b g:Int}{n:Nat}(a:x.natAbs<2^(4*n))(d:0<=b/\b<=16)(h0:0<=x)(f:0<=g/\g<b):(x*b+g).natAbs<2^(4*(n+1))/\0<=x*b+g:=by
 obtain⟨y,rfl⟩:=Pu h0;obtain⟨c,rfl⟩:=Pu d.1;obtain⟨e,rfl⟩:=Pu f.1;have a:y<2^(4*n):=a;have h:c<=16:=Int.ofNat_le.mp d.2;have i:e<c:=Int.ofNat_lt.mp f.2;refine⟨?_,NK (y*c+e)⟩;show y*c+e<_;have j:y*c+e<(y+1)*c:=by rw[Nat.succ_mul];exact QW i _
 have k:(y+1)*c<=2^(4*n)*16:=U3 a h;have l:2^(4*(n+1))=2^(4*n)*16:=by rw[Nat.mul_succ,VN]
 rw[l];exact Nv j k
theorem Cl{d:Nat}{w:PV}{b:Int}{k:PV}{σ:aa}{Q:QV}{X:QX}(f:0<=b/\b<=16)(r:List Nat):∀(a:Int)(n:Nat)(g i:Option PV),0<=a->a.natAbs<2^(4*n)->n+r.length<=2000->Q (.int (dQ b r a)) σ->bu (fun s σ K'=>ai (d+1) (ax yU 5) s σ K' X) [4] (r.map fun c=> .str [c]) [some w,some (.int b),some k,some (.int a),g,i,none,none] σ (fun o j e=>match o with|some v=>a_ Q v e|none=>ai (d+1) (yU.drop 6) j e (fun o _ e=>a_ Q (o.getD .none) e) (ao X)):=by
 induction r with
 |nil=>exact fun a n g i _ _ _ q=>ag q
 |cons c r t=>
  intro a n g i h0 l m q;refine⟨_,rfl,tC (iT (p:=b<=aD c) (fun h=>?_) fun h=>?_)⟩
  .unfold dQ at q;rw[Nd h]at q;exact ag q
  .unfold dQ at q;rw[Na h]at q;have u:0<=aD c/\aD c<b:=⟨(kI c).1,Int.not_le.mp h⟩
   have:=AL l f h0 u;refine⟨aF l (M7 (Op 4 (M7 (Nn n _) m)) (by decide)),aF (n:=5) ?_ (by decide),?_⟩
   .exact Int.ofNat_lt.mp (by rw[QD f.1];exact Sh f.2 (by decide))
   .exact t _ (n+1) _ _ this.2 this.1 (by rw[O3];exact m) q
theorem ij{d:Nat}{w:List Nat}{b:Int}{k:Nat}{σ:aa}{Q:QV}{X:QX}(f:0<=b/\b<=16)(g:w.length<=2000)(i:k<=w.length)(q:Q (.int (fG b (w.drop k))) σ):
  ai (d+1) (yU.drop 3) [some (.str w),some (.int b),some (.int k),none,none,none,none,none] σ (fun o _ c=>a_ Q (o.getD .none) c) (ao X):=by
 unfold fG at q;refine ec (a:=k) (b:=w.length) (fun h=>?_) fun h=>ah nL ⟨_,rfl,?_⟩
 .rw[h,Rr,Nd rfl]at q;exact ag q
 .rw[Na (fun e=>h (QO i (List.drop_eq_nil_iff.mp e)))]at q;exact Cl f _ 0 0 _ _ (by decide) (by decide) (by rw[N7,Oe];exact M7 (Q9 _ _) g) q
theorem de(c e:Nat)(r:List Nat):iE (c::e::r)=if c=48 then(if e=120\/e=88 then fG 16 r else if e=98\/e=66 then fG 2 r else fG 8 (e::r))else fG 10 (c::e::r):=rfl
theorem Kn{d:Nat}{w:List Nat}{σ:aa}{Q:QV}{X:QX}(a:w.length<=2000)(q:Q (.int (iE w)) σ):af (d+2) (.ref 150) [.str w] σ Q X:=by
 apply Jb
 match w,a,q with
 |[],a,q=>exact ak (b:=false) rfl <| ij (k:=0) (by decide) a (NP _) q
 |[c],a,q=>exact ak (b:=false) rfl <| ij (k:=0) (by decide) a (NP _) q
 |c::e::r,a,q=>
  have f:(c::e::r).length<=1000000:=M7 a (by decide);refine ak (b:=true) (Nw some (NN (Int.ofNat_lt.mpr (Qx (Oh _))))) (ah (aT (i:=0) rfl f) (tS (fun h=>?_) fun h=>?_))
  .refine ah (aT (i:=1) rfl f) (tS (fun g=>?_) fun g=>ah (aT (i:=1) rfl f) (tS (fun j=>?_) fun j=>ah (aT (i:=1) rfl f) (tS (fun l=>?_) fun l=>ah (aT (i:=1) rfl f) (tS (fun m=>?_) fun m=>?_))))
   .exact ij (k:=2) (by decide) a (Ny _ _) (by rw[de,Nd h,Nd (.inl g)]at q;exact q)
   .exact ij (k:=2) (by decide) a (Ny _ _) (by rw[de,Nd h,Nd (.inr j)]at q;exact q)
   .exact ij (k:=2) (by decide) a (Ny _ _) (by rw[de,Nd h,Na fun z=>z.elim g j,Nd (.inl l)]at q;exact q)
   .exact ij (k:=2) (by decide) a (Ny _ _) (by rw[de,Nd h,Na fun z=>z.elim g j,Nd (.inr m)]at q;exact q)
   .exact ij (k:=1) (by decide) a (Ny _ _) (by rw[de,Nd h,Na fun z=>z.elim g j,Na fun z=>z.elim l m]at q;exact q)
  .exact ij (k:=0) (by decide) a (NP _) (by rw[de,Na h]at q;exact q)
theorem aa.uU(σ:aa)(a:NC)(m c:MO):(σ.upd a m).upd a c=σ.upd a c:=by
 funext b;unfold aa.upd;split<;>rfl
theorem aa.del_upd{σ:aa}(m:MO)(h:σ a=none):(σ.upd a m).del a=σ:=by
 funext b
 by_cases e:b=a
 .rw[e,h];exact Nd rfl
 .rw[aa.dN _ e,aa.uN _ _ e]
theorem ed{σ:aa}(m:MO)(h:σ a=none):Le σ (σ.upd a m):=fun b n c=>by
 unfold aa.upd;split
 .rename_i e;rw[e,h]at c;exact aj c
 .exact c
theorem bf{c D a:Nat}{as:List Nat}{vs:List PV}{v:PV}{σ:aa}{K:aa->Prop}(b:Uu as.length 100=true)(d:(aP c).contains a=true)(k:K (σ.upd D (.ins c (gb as vs a v).1 (gb as vs a v).2))):mG (.iref c D) a v (σ.upd D (.ins c as vs)) K:=by show(match(σ.upd D (.ins c as vs)) D with|some (.ins e as vs)=>_|_=>_);rw[aa.uS];exact⟨rfl,No b,d,by rw[aa.uU];exact k⟩
theorem MW{c D a:Nat}{as:List Nat}{vs:List PV}{v:PV}{σ:aa}{K:aa->Prop}(h:σ D=some (.ins c as vs))(b:Uu as.length 100=true)(d:(aP c).contains a=true)(k:K (σ.upd D (.ins c (gb as vs a v).1 (gb as vs a v).2))):mG (.iref c D) a v σ K:=by show(match σ D with|some (.ins e as vs)=>_|_=>_);rw[h];exact⟨rfl,No b,d,k⟩
theorem g8{σ:aa}{Q:QV}(h:σ D=none)(q:Q (.obj c b) σ):a_ (fun v a=>v= .none/\(Q (.iref c D) a\/∃b,a D=some (.ins c (aP c) b)/\Q (.obj c b) (a.del D))) .none (σ.upd D (.ins c (aP c) b)):=
 ag ⟨rfl,.inr ⟨b,aa.uS ..,by rw[aa.del_upd _ h];exact q⟩⟩
section
variable{d:Nat}{a b c e:PV}{σ:aa}{Q:QV}{X:QX}
theorem MX(q:Q (.obj 45 [a,b]) σ):af (d+2) (.ref 45) [a,b] σ Q X:=
 aM (by decide) fun D h=>MV (bf rfl rfl (bf rfl rfl (g8 h q)))
theorem nM(q:Q (.obj 195 [a,b,c,e]) σ):af (d+2) (.ref 195) [a,b,c,e] σ Q X:=
 aM (by decide) fun D h=>Jd (bf rfl rfl (bf rfl rfl (bf rfl rfl (bf rfl rfl (g8 h q)))))
theorem Ko(q:Q (.obj 447 [.str [110,117,109,98,101,114],a]) σ):af (d+2) (.ref 447) [a] σ Q X:=
 aM (by decide) fun D h=>Jx (bf rfl rfl (bf rfl rfl (g8 h q)))
theorem Kq(q:Q (.obj 473 [.str [115,121,109,98,111,108],a]) σ):af (d+2) (.ref 473) [a] σ Q X:=
 aM (by decide) fun D h=>Jz (bf rfl rfl (bf rfl rfl (g8 h q)))
theorem Kr(q:Q (.obj 492 [.str [104,101,114,101]]) σ):af (d+2) (.ref 492) [] σ Q X:=
 aM (by decide) fun D h=>JB (bf rfl rfl (g8 h q))
theorem Ks(q:Q (.obj 518 [.str [117,110,97,114,121],a,b]) σ):af (d+2) (.ref 518) [a,b] σ Q X:=
 aM (by decide) fun D h=>JC (bf rfl rfl (bf rfl rfl (bf rfl rfl (g8 h q))))
theorem Kt(q:Q (.obj 544 [.str [98,105,110,97,114,121],a,b,c]) σ):af (d+2) (.ref 544) [a,b,c] σ Q X:=
 aM (by decide) fun D h=>JE (bf rfl rfl (bf rfl rfl (bf rfl rfl (bf rfl rfl (g8 h q)))))
theorem Ku(q:∀D,σ D=none->Q (.iref 286 D) (σ.upd D (.ins 286 [3,0,5] [a,b,.int 0]))):af (d+2) (.ref 286) [a,b] σ Q X:=
 aM (by decide) fun D h=>Jg (bf rfl rfl (bf rfl rfl (bf rfl rfl (ag ⟨rfl,.inl (q D h)⟩))))
theorem Kv(q:∀D,σ D=none->Q (.iref 391 D) (σ.upd D (.ins 391 [6,5] [a,.int 0]))):af (d+2) (.ref 391) [a] σ Q X:=
 aM (by decide) fun D h=>Jp (bf rfl rfl (bf rfl rfl (ag ⟨rfl,.inl (q D h)⟩)))
theorem y_(q:Q (.tup [a,c]) σ):af (d+1) (.ref 192) [.obj 195 [a,b,c,e]] σ Q X:=
 Jf (ah rfl (ah rfl (ag q)))
end
theorem vP{σ:aa}{Q:QV}{X:QX}(q:Q (.bool (k==[115,105,103,110]&&w==t)) σ):af (d+1) (.ref 178) [.obj 195 [.str k,.str w,v,p],.str t] σ Q X:=
 Je (ah rfl (ak (b:=k==[115,105,103,110]) rfl (Ch (fun b=>Q (.bool b) σ) q ag fun q=>ah rfl (ak (b:=w==t) rfl (ag q)))))
theorem aH{c D a:Nat}{as:List Nat}{vs:List PV}{w:PV}{σ:aa}(h:(if(aP c).contains a=true then(as.idxOf? a).bind fun j=>vs[j]? else none)=some w):xw (.iref c D) a (σ.upd D (.ins c as vs))=some w:=by show(match(σ.upd D (.ins c as vs)) D with|some (.ins b as vs)=>(if b=c/\(aP c).contains a=true then(as.idxOf? a).bind fun j=>vs[j]? else none)|_=>none)=_;rw[aa.uS];rw[←h];show(if c=c/\_ then _ else _)=_;simp only[true_and]
theorem dR{σ:aa}(h:(dg c m).isSome=true):xj (.iref c D) m (σ.upd D (.ins c as vs)):=by
 show _/\(match(σ.upd D (.ins c as vs)) D with|some (.ins a _ _)=>a=c|_=>False)
 rw[aa.uS];exact⟨h,rfl⟩
noncomputable abbrev rd(t:List Nat)(ln:PV)(i:Nat):MO:= .ins 286 [3,0,5] [.str t,ln,.int i]
noncomputable abbrev g9:List Nat:=[110,117,109,98,101,114]
noncomputable abbrev nO:List Nat:=[110,97,109,101]
noncomputable abbrev bt:List Nat:=[115,105,103,110]
noncomputable abbrev Kw:List Nat:=[108,111,99,97,108]
noncomputable abbrev ds:List Nat:=[101,110,100]
inductive Tk where
 |num (n:Int)|name (s:List Nat)|sign (s:List Nat)|other|fin
inductive TR:PV->Tk->Prop
 |num {w:List Nat} {n:Int} {p:PV} (h:w.length<=2000):TR (.obj 195 [.str g9,.str w,.int n,p]) (.num n)
 |name {s:List Nat} {p:PV} (h:s.length<=2000):TR (.obj 195 [.str nO,.str s,.str s,p]) (.name s)
 |sign {s:List Nat} {p:PV} (h:s.length<=2000):TR (.obj 195 [.str bt,.str s,.str s,p]) (.sign s)
 |other {w:List Nat} {n:Int} {p:PV} (h:w.length<=2000):TR (.obj 195 [.str Kw,.str w,.int n,p]) .other
 |fin {p:PV}:TR (.obj 195 [.str ds,.str [],.str [],p]) .fin
section
variable{d r:Nat}{t:List Nat}{ln:PV}{i:Nat}{τ:aa}{Q:QV}{X:QX}
theorem vQ(q:Q (.obj 45 [ln,.int (n+1)]) (τ.upd r (rd t ln i))):af (d+3) (.ref 220) [.iref 286 r,.int n] (τ.upd r (rd t ln i)) Q X:=
 Jh (ah (aH rfl) (MX (ag q)))
theorem tD(n:Nat)(q:Q (.str ((t.drop i).take n)) (τ.upd r (rd t ln (i+n)))):af (d+1) (.ref 234) [.iref 286 r,.int ↑(i+n)] (τ.upd r (rd t ln i)) Q X:=
 Jj (ah (aH rfl) (bf rfl rfl (ah (aH rfl) (ah vO (ag q)))))
noncomputable def bD:List Nat->Nat
 |[]=>0
 |c::r=>if am c then bD r+1 else 0
theorem Fm(r:List Nat):bD r<=r.length:=by
 induction r with
 |nil=>exact Nj _
 |cons c r a=>unfold bD;split;exact NE (a);exact NP _
theorem vR(h:t.drop i=[]):t.length<=i:=List.drop_eq_nil_iff.mp h
theorem nP(h:t.drop i=c::s):(decide ((i:Int)<(t.length:Int)))=true:=NN (Int.ofNat_lt.mpr (eb h))
theorem vS(h:t.drop i=[]):(decide ((i:Int)<(t.length:Int)))=false:=NQ (Int.not_lt.mpr (Int.ofNat_le.mpr (vR h)))
theorem Cm(l:t.length<=1000000)(s:List Nat):∀(i j:Nat)(a:PV),t.drop j=s->Q (.int ↑(j+bD s)) (τ.upd r (rd t ln i))->bE (fun g σ K'=>fQ (d+1) (cx yW 1) g σ K' (ao X)) (fun g σ K'=>ai (d+1) (ax yW 1) g σ K' (ao X)) (s.length+1) [some (.iref 286 r),some a,some (.int j),none,none] (τ.upd r (rd t ln i)) (fun o k f=>match o with|some v=>a_ Q v f|none=>ai (d+1) (yW.drop 2) k f (fun o _ f=>a_ Q (o.getD .none) f) (ao X)):=by
 induction s with
 |nil=>exact fun i j a h q=>ah (aH rfl) (ak (Nw some (vS h)) (ag q))
 |cons c s m=>
  exact fun i j a h q=>ah (aH rfl) (ak (Nw some (nP h)) (ah (aH rfl) (ah (aT h l) (Km (fF (b:=am c) (fun e=>m i (j+1) a (cb h) (by
   unfold bD at q;rw[Nd e,Ol _ 1,←Oc]at q;exact q)) fun e=>by
   unfold bD at q;rw[Na (by rw[e];decide)]at q;exact ag q)))))
theorem Fo(a:t.length<=1000000)(q:Q (.int ↑(j+bD (t.drop j))) (τ.upd r (rd t ln i))):af (d+2) (.ref 241) [.iref 286 r,.int j] (τ.upd r (rd t ln i)) Q X:=
 Jk ⟨_,Cm a _ i j _ rfl q⟩
noncomputable def ws(c:Nat):Bool:=[32]==[c]||([9]==[c]||([13]==[c]||false))
noncomputable def dz:List Nat->Nat
 |[]=>0
 |c::r=>if ws c then dz r+1 else 0
noncomputable def dS:List Nat->Bool
 |[]=>true
 |c::r=>if ws c then dS r else [c]==[35]
theorem Cn(j:t.length<=1000000)(s:List Nat):∀(i:Nat),t.drop i=s->Q (.bool (dS s)) (τ.upd r (rd t ln (i+dz s)))->bE (fun f σ K'=>fQ d (cx yV 0) f σ K' (ao X)) (fun f σ K'=>ai d (ax yV 0) f σ K' (ao X)) (s.length+1) [some (.iref 286 r),none] (τ.upd r (rd t ln i)) (fun o g a=>match o with|some v=>a_ Q v a|none=>ai d (yV.drop 1) g a (fun o _ a=>a_ Q (o.getD .none) a) (ao X)):=by
 induction s with
 |nil=>exact fun i h q=>ah (aH rfl) (ah (aH rfl) (ak (Nw some (vS h)) (ah (aH rfl) (ah (aH rfl) (ak (b:=true) (Nw some (NN (Int.ofNat_le.mpr (vR h)))) ⟨true,rfl,ag q⟩)))))
 |cons c s k=>
  exact fun i h q=>ah (aH rfl) (ah (aH rfl) (ak (Nw some (nP h)) (ah (aH rfl) (ah (aH rfl) (ah (aT h j) (fF (b:=ws c) (fun e=>ah (aH rfl) (bf rfl rfl (k (i+1) (cb h) (by
   unfold dz dS at q;rw[Nd e,Nd e,Ol _ 1,←Oc]at q;exact q)))) fun e=>ah (aH rfl) (ah (aH rfl) (ak (b:=false) (Nw some (NQ (Int.not_le.mpr (Int.ofNat_lt.mpr (eb h))))) ⟨false,rfl,ah (aH rfl) (ah (aH rfl) (ah (aT h j) (ak (b:=[c]==[35]) rfl (ag (by
   unfold dz dS at q;rw[Na (by rw[e];decide),Na (by rw[e];decide)]at q;exact q)))))⟩))))))))
theorem za(a:t.length<=1000000)(q:Q (.bool (dS (t.drop i))) (τ.upd r (rd t ln (i+dz (t.drop i))))):af (d+1) (.ref 227) [.iref 286 r] (τ.upd r (rd t ln i)) Q X:=
 Ji ⟨_,Cn a _ i rfl q⟩
end
theorem tE{σ:aa}{X:QX}(x:X 0 σ):1<=d+1/\(87=87\/87=99)/\(∃a r',[PV.str m,p]= .str a::r'/\r'.length<=1)/\ao X (eq 87) σ:=
 ⟨Ny _ _,.inl rfl,⟨_,_,rfl,Nj _⟩,⟨σ,Le.rfl,x⟩⟩
inductive Lx where
 |un|err|loc (n:Nat)|tok (t:Tk) (n:Nat)
noncomputable def LQ(o:Lx)(t:List Nat)(ln:PV)(i r:Nat)(a:aa)(Q:QV)(X:QX):Prop:=match o with
 |.un=>False
 |.err=>∀j,X 0 (a.upd r (rd t ln j))
 |.loc n=>(∀j,X 0 (a.upd r (rd t ln j)))/\∀v,TR v .other->Q v (a.upd r (rd t ln (i+n)))
 |.tok k n=>∀v,TR v k->Q v (a.upd r (rd t ln (i+n)))
noncomputable def lG(r:List Nat):Lx:=if 18446744073709551615<iE (r.take (bD r))then .err else if 0<=iE (r.take (bD r))then .tok (.num (iE (r.take (bD r)))) (bD r)else .loc (bD r)
noncomputable def qO:List Nat:=[43,45,42,47,37,38,124,94,126,33,40,41,91,93,44,58,36,61,60,62]
noncomputable def iU(c:Nat)(r:List Nat):Lx:=if qO.contains c then(if((c::r).take 2==[60,60]||(c::r).take 2==[62,62])then .tok (.sign ((c::r).take 2)) 2 else .tok (.sign [c]) 1)else .err
section
variable{d r:Nat}{t:List Nat}{ln:PV}{i:Nat}{τ:aa}{Q:QV}{X:QX}
theorem Co{σ:aa}(s:List Nat):∀(w:PV)(a:Int)(n:Nat)(s2:Option PV),0<=a->a.natAbs<2^(4*n)->n+s.length<=2000->(∀v:Int,Q (.int v) σ)->bu (fun j σ K'=>ai (d+1) (ax B8 2) j σ K' (ao X)) [2] (s.map fun c=> .str [c]) [some w,some (.int a),s2,none,none] σ (fun o f e=>match o with|some v=>a_ Q v e|none=>ai (d+1) (B8.drop 3) f e (fun o _ e=>a_ Q (o.getD .none) e) (ao X)):=by
 induction s with
 |nil=>exact fun w a n s2 _ _ _ q=>ag (q _)
 |cons c s k=>intro w a n s2 h0 g i q;refine⟨_,rfl,tC (iT (p:=(9:Int)<aD c) (fun h=>ag (q _)) fun h=>?_)⟩;have:=AL (b:=10) g (by decide) h0 ⟨(kI c).1,Sh (Int.not_lt.mp h) (by decide)⟩;exact⟨aF g (M7 (Op 4 (M7 (Nn n _) i)) (by decide)),aF (x:=10) (n:=5) (by decide) (by decide),tC (k w _ (n+1) _ this.2 this.1 (by rw[O3];exact i) q)⟩
theorem Kx{w:List Nat}{σ:aa}(e:w.length<=2000)(q:∀v:Int,Q (.int v) σ):af (d+2) (.ref 157) [.str w] σ Q X:=by
 have n:(w.dropLast.take (w.length-1)).length<=2000:=M7 (List.length_take_le _ _) (M7 (Q9 _ _) e);have hs:fC (.str w) .none (.int (-1)) σ=some (.str (w.take (O5 w.length (-1)-0))):=rfl;have l:(w.take (O5 w.length (-1)-0)).length<=2000:=by rw[O1];exact M7 (Ru _ _) e
 refine Jc (fX (a:=w.length) (b:=2) (fun _=>ag (q _)) fun h=>?_);have hi:∃c,bl (.str w) (.int (-1)) σ=some (.str [c]):=by have g:0<w.length:=Nv (by decide) h;have f:w.length-1-0<w.length:=Un g (by decide);refine⟨w[w.length-1-0],?_⟩;show((kY (-((0:Nat)+1:Int)) w.length).bind fun j=>(w[j]?).map fun c=>PV.str [c])=_;rw[pH (i:=0) g (M7 e (by decide))];show Rp _ (w[w.length-1-0]?)=_;rw[NA f];rfl
 obtain⟨c,k⟩:=hi;have z:=Co (d:=d) (X:=X) _ (.str w) 0 0 none (by decide) (by decide) (by rw[N7];exact l) q;refine ah k (Fh (fun f=>ah hs ⟨_,rfl,z⟩) fun f=>ah k (Fh (fun m=>ah hs ⟨_,rfl,z⟩) fun m=>ag (q _)))
theorem ce{s:List Nat}{n:Nat}(h:s.length<=2000):((s.drop i).take n).length<=2000:=
 M7 (RV _ _) (by rw[Oe];exact M7 (Q9 _ _) h)
theorem Ky(a:t.length<=2000)(q:LQ (lG (t.drop i)) t ln i r τ Q X):af (d+4) (.ref 248) [.iref 286 r] (τ.upd r (rd t ln i)) Q X:=by
 unfold lG at q;refine Jl ⟨dR rfl,ah (aH rfl) ⟨_,rfl,vQ ⟨dR rfl,⟨dR rfl,ah (aH rfl) ⟨_,rfl,Fo (M7 a (by decide)) ⟨_,rfl,tD _ (Kn (ce a) (iT (p:=(18446744073709551615:Int)<_) (fun h=>?_) fun h=>?_))⟩⟩⟩⟩⟩⟩
 .rw[Nd h]at q;exact tE (q _)
 .rw[Na h]at q;refine iT (p:=(0:Int)<=_) (fun b=>?_) fun b=>?_
  .rw[Nd b]at q;exact nM (ag (q _ (.num (ce a))))
  .rw[Na b]at q;refine Kx (ce a) fun v=>iT (p:=(0:Int)<=_) (fun c=>nM (ag (q.2 _ (.other (ce a))))) fun c=>⟨?_,tE (q.1 _)⟩
   exact M7 (NM (ce a) _) (by decide)
theorem Kz(f:t.drop i=c::s)(a:t.length<=2000)(q:LQ (iU c s) t ln i r τ Q X):af (d+4) (.ref 276) [.iref 286 r] (τ.upd r (rd t ln i)) Q X:=by
 unfold iU at q;have k:t.length<=1000000:=M7 a (by decide);refine Jn ⟨dR rfl,ah (aH rfl) ⟨_,rfl,vQ (ah (aH rfl) (ah (aH rfl) (ah (aT f k) (fF (b:= !(qO.contains c)) (fun h=>?_) fun h=>?_))))⟩⟩
 .rw[Na (by rw[Sr _ |>.mp h];decide)]at q;exact tE (q _)
 .rw[Nd (by cases e:qO.contains c;rw[e]at h;exact df h;rfl)]at q;refine ah (aH rfl) (ah (aH rfl) (ah (aH rfl) (ah (vO (n:=2)) ⟨dR rfl,fF (b:=(t.drop i).take 2==[60,60]) (fun g=>?_) fun g=>fF (b:=(t.drop i).take 2==[62,62]) (fun j=>?_) fun j=>?_⟩)))
  .rw[←f,Nd (by rw[g];rfl)]at q;exact ah (aH rfl) ⟨_,rfl,tD 2 (nM (ag (q _ (.sign (ce a)))))⟩
  .rw[←f,Nd (by rw[g,j];rfl)]at q;exact ah (aH rfl) ⟨_,rfl,tD 2 (nM (ag (q _ (.sign (ce a)))))⟩
  .rw[←f,Na (by rw[g,j];decide)]at q;refine ah (aH rfl) ⟨_,rfl,tD 1 ?_⟩;rw[f];exact nM (ag (q _ (.sign (No rfl))))
end
set_option tactic.hygienic true
section
variable{d r:Nat}{t:List Nat}{ln:PV}{i:Nat}{σ τ:aa}{Q:QV}{X:QX}
theorem bm{k c e:Nat}{s1 s2 s3:Option PV}{S A:PV}{a:List PV}{K:QS}(h:bl (cu 1) (.int k) σ=some (.str [e]))(f:([e]==[c])=false)
  (z:bu (fun b σ K'=>ai d (ax yT 6) b σ K' X) [5] a [some S,some A,some (.str [c]),s1,s2,some (.int k),none,none,none,none,none,none] σ K):
  bu (fun b σ K'=>ai d (ax yT 6) b σ K' X) [5] (.int k::a) [some S,some A,some (.str [c]),s1,s2,s3,none,none,none,none,none,none] σ K:=
 ⟨_,rfl,ah h (ak (Nw some f) z)⟩
theorem lH{k c a:Nat}{s1 s2 s3:Option PV}{S:PV}{e:List PV}{K:QS}(h:bl (cu 1) (.int k) σ=some (.str [c]))(g:bl (cu 2) (.int k) σ=some (.str [c]))
  (z:∀f,K (some (.tup [.int c,.int ↑(a+2)])) f σ):
  bu (fun f σ K'=>ai d (ax yT 6) f σ K' X) [5] (.int k::e) [some S,some (.int a),some (.str [c]),s1,s2,s3,none,none,none,none,none,none] σ K:=
 ⟨_,rfl,ah h (ak (b:=true) (Nw some (ND [c])) (ah g (z _)))⟩
theorem KB{c:Nat}{s:List Nat}(h:t.drop i=92::c::s)(a:c=34\/c=39\/c=92)(j:t.length<=1000000)(q:Q (.tup [.int c,.int ↑(i+2)]) σ):af (d+2) (.ref 136) [.str t,.int i] σ Q X:=by
 have f:=cb h;have l:(decide ((t.length:Int)<=((i:Int)+1)))=false:=NQ (Int.not_le.mpr (Int.ofNat_lt.mpr (eb f)));have g5:aD c=16:=by rcases a with rfl|rfl|rfl<;>rfl
 refine Ja (ak (Nw some l) (ah (aT (i:=i+1) f j) (tC (ak (b:=false) (by rw[g5];rfl) (tS (fun e=>?_) fun e=>⟨_,rfl,?_⟩)))))
 .subst e;rcases a with e|e|e<;>cases e
 .rcases a with rfl|rfl|rfl
  .exact bm (k:=0) (e:=98) rfl rfl (bm (k:=1) (e:=116) rfl rfl (bm (k:=2) (e:=110) rfl rfl (bm (k:=3) (e:=102) rfl rfl (bm (k:=4) (e:=114) rfl rfl (lH (k:=5) rfl rfl fun g=>ag q)))))
  .exact bm (k:=0) (e:=98) rfl rfl (bm (k:=1) (e:=116) rfl rfl (bm (k:=2) (e:=110) rfl rfl (bm (k:=3) (e:=102) rfl rfl (bm (k:=4) (e:=114) rfl rfl (bm (k:=5) (e:=34) rfl rfl (lH (k:=6) rfl rfl fun g=>ag q))))))
  .exact bm (k:=0) (e:=98) rfl rfl (bm (k:=1) (e:=116) rfl rfl (bm (k:=2) (e:=110) rfl rfl (bm (k:=3) (e:=102) rfl rfl (bm (k:=4) (e:=114) rfl rfl (bm (k:=5) (e:=34) rfl rfl (bm (k:=6) (e:=39) rfl rfl (lH (k:=7) rfl rfl fun g=>ag q)))))))
inductive CC:List Nat->Nat->Nat->Prop
 |esc {c:Nat} {s:List Nat} (h:c=34\/c=39\/c=92):CC (92::c::39::s) c 4
 |raw {c:Nat} {s:List Nat} (h:32<=c/\c<=126/\c≠92):CC (c::39::s) c 3
theorem KC(hr:t.drop i=39::s)(hc:CC s c n)(ht:t.length<=1000000)(q:Q (.tup [.int c,.int ↑(i+n)]) σ):af (d+3) (.ref 143) [.str t,.int i] σ Q X:=by
 have h1:=cb hr;cases hc with
 |esc h=>have h3:=cb (cb h1);refine E8 (ak (b:=false) (Nw some (NQ (Int.not_le.mpr (Int.ofNat_lt.mpr (eb h1))))) (ah (aT (i:=i+1) h1 ht) (ak (b:=false) rfl (ah (aT (i:=i+1) h1 ht) (ah (aT (i:=i+1) h1 ht) (ak (b:=true) rfl (KB (i:=i+1) h1 h ht ⟨_,_,rfl,rfl,?_⟩)))))));exact ak (b:=true) rfl (ak (Nw some (nP (i:=i+3) h3)) (ah (aT (i:=i+3) h3 ht) (ak (b:=true) rfl (ag q))))
 |raw h=>
  have h2:=cb h1;refine E8 (ak (b:=false) (Nw some (NQ (Int.not_le.mpr (Int.ofNat_lt.mpr (eb h1))))) (ah (aT (i:=i+1) h1 ht) (tS (fun e=>?_) fun e=>ah (aT (i:=i+1) h1 ht) (ah (aT (i:=i+1) h1 ht) (tS (fun e=>?_) fun e=>?_)))))
  .subst e;exact absurd h.1 (by decide)
  .exact absurd e h.2.2
  .exact ak (b:=false) (Nw some (NQ (Int.not_lt.mpr (Int.ofNat_le.mpr h.1)))) (ak (b:=false) (Nw some (NQ (Int.not_lt.mpr (Int.ofNat_le.mpr h.2.1))))
    (ak (b:=true) rfl (ak (Nw some (nP (i:=i+2) h2)) (ah (aT (i:=i+2) h2 ht) (ak (b:=true) rfl (ag q))))))
theorem KD(e:t.drop i=39::s)(f:CC s c n)(a:t.length<=2000)(q:∀v,TR v (.num c)->Q v (τ.upd r (rd t ln (i+n)))):af (d+4) (.ref 255) [.iref 286 r] (τ.upd r (rd t ln i)) Q X:=
 Jm ⟨dR rfl,ah (aH rfl) ⟨_,rfl,vQ (ah (aH rfl) (ah (aH rfl) (KC e f (M7 a (by decide)) ⟨_,_,rfl,rfl,ak (b:=false) rfl ⟨dR rfl,⟨_,rfl,tD n (nM (ag (q _ (.num (ce a)))))⟩⟩⟩)))⟩⟩
noncomputable def fY:List Nat->Bool
 |c::_=>cM c
 |_=>false
noncomputable def lI(c:Nat)(s:List Nat):Lx:=if dG c=true then .tok (.name ((c::s).take (bD (c::s)))) (bD (c::s))else if aD c<10 then lG (c::s)else if c=39 then .un else if c=34 then .un
 else if c=37/\fY s=true then .un else iU c s
inductive LX:List Nat->Lx->Prop
 |c {s:List Nat} {c n:Nat} (h:CC s c n):LX (39::s) (.tok (.num c) n)
 |f {c:Nat} {s:List Nat}:LX (c::s) (lI c s)
theorem LQ.out(q:LQ o t ln i r τ Q X):LQ o t ln i r τ (fun v a=>a_ Q v a) (ao X):=match o,q with
 |.un,q=>q.elim
 |.err,q=>fun j=>⟨_,Le.rfl,q j⟩
 |.loc n,q=>⟨fun j=>⟨_,Le.rfl,q.1 j⟩,fun v h=>ag (q.2 v h)⟩
 |.tok k n,q=>fun v h=>ag (q v h)
theorem Cp(g:t.drop i=s)(y:LX s o)(j:t.length<=2000)(q:LQ o t ln i r τ Q X):af (d+5) (.ref 283) [.iref 286 r] (τ.upd r (rd t ln i)) Q X:=by
 have a:t.length<=1000000:=M7 j (by decide);cases y with
 |c h=>exact E9 (ah (aH rfl) (ah (aH rfl) (ah (aT g a) (Fk (ak (b:=false) rfl (tC (ak (b:=false) rfl (ak (b:=true) rfl ⟨dR rfl,⟨_,rfl,KD g h j fun v h=>ag (q v h)⟩⟩))))))))
 |f=>
  rename_i c s;unfold lI at q;refine E9 (ah (aH rfl) (ah (aH rfl) (ah (aT g a) (Fk (fF (b:=dG c) (fun h=>?_) fun h=>tC (iT (p:=aD c<10) (fun k=>?_) fun k=>tS (fun l=>?_) fun l=>tS (fun m=>?_) fun m=>?_))))))
  .rw[Nd h]at q;refine⟨dR rfl,ah (aH rfl) ⟨_,rfl,vQ ⟨dR rfl,⟨dR rfl,ah (aH rfl) ⟨_,rfl,Fo a ⟨_,rfl,tD _ (nM (ag ?_))⟩⟩⟩⟩⟩⟩;rw[←g]at q;exact q _ (.name (ce j))
  all_goals rw[Na (by rw[h];decide)]at q
  .rw[Nd k]at q;exact⟨dR rfl,⟨_,rfl,Ky j (by rw[g];exact q.out)⟩⟩
  all_goals rw[Na k]at q
  .rw[Nd l]at q;exact q.elim
  all_goals rw[Na l]at q
  .rw[Nd m]at q;exact q.elim
  rw[Na m]at q;have mk:¬(c=37/\fY s=true)->af (d+4) (.ref 276) [.iref 286 r] (τ.upd r (rd t ln i)) (fun v n=>a_ Q v n) (ao X):=fun e=>by rw[Na e]at q;exact Kz g j q.out
  have u:=cb g;refine tS (fun w=>?_) fun w=>⟨dR rfl,⟨_,rfl,mk fun e=>w e.1⟩⟩
  cases s with
  |nil=>exact ah (aH rfl) (ah (aH rfl) (ak (Nw some (vS (i:=i+1) u)) ⟨dR rfl,⟨_,rfl,mk fun e=>aK e.2⟩⟩))
  |cons e s=>refine ah (aH rfl) (ah (aH rfl) (ak (Nw some (nP (i:=i+1) u)) (ah (aH rfl) (ah (aH rfl) (ah (aT (i:=i+1) u a) (Fj (fF (b:=cM e) (fun x=>?_) fun x=>⟨dR rfl,⟨_,rfl,mk fun z=>by have z:cM e=true:=z.2;rw[x]at z;exact aK z⟩⟩)))))));rw[Nd ⟨w,x⟩]at q;exact q.elim
end
set_option tactic.hygienic false
inductive gv:List PV->List Tk->Prop
 |nil:gv [] []
 |cons {v:PV} {vs:List PV} {t:Tk} {ts:List Tk} (h:TR v t) (hs:gv vs ts):gv (v::vs) (t::ts)
theorem gv.app{vs:List PV}{a:List Tk}{ws:List PV}{b:List Tk}(h:gv vs a)(k:gv ws b):gv (vs++ws) (a++b):=by
 induction h with
 |nil=>exact k
 |cons h _ c=>exact .cons h c
theorem gv.len{vs:List PV}{ks:List Tk}(h:gv vs ks):vs.length=ks.length:=by
 induction h with
 |nil=>rfl
 |cons _ _ a=>exact Nw (·+1) a
theorem lJ{σ:aa}(h:σ f=some (.lst vs))(a:m<4):xj (.ref f) m σ:=by show(match σ f with|some (.lst _)=>m<4|some (.dct _)=>m=4|_=>False);rw[h];exact a
theorem zb{σ:aa}(h:σ f=some (.lst vs)):rQ σ (.ref f)=some (f,vs):=by show(match σ f with|some (.lst kvs)=>some (f,kvs)|_=>none)=_;rw[h]
theorem cj{σ:aa}{Q:QV}(h:σ f=some (.lst vs))(k:xy f vs m as σ Q):xi (.ref f) m as σ Q:=by unfold xi;rw[zb h];exact k
theorem GV{σ:aa}(h:r≠f):((σ.upd f m).upd r x).upd f a=(σ.upd f a).upd r x:=by
 funext b
 by_cases e:b=f
 .subst e;rw[aa.uS,aa.uN _ _ (NZ h),aa.uS]
 .rw[aa.uN _ _ e];by_cases g:b=r
  .subst g;rw[aa.uS,aa.uS]
  .rw[aa.uN _ _ g,aa.uN _ _ g,aa.uN _ _ e,aa.uN _ _ e]
theorem Fp{σ:aa}(h:r≠f):(σ.upd r x).upd f m=(σ.upd f m).upd r x:=by
 funext b
 by_cases e:b=f
 .subst e;rw[aa.uS,aa.uN _ _ (NZ h),aa.uS]
 .rw[aa.uN _ _ e];by_cases g:b=r
  .subst g;rw[aa.uS,aa.uS]
  .rw[aa.uN _ _ g,aa.uN _ _ g,aa.uN _ _ e]
theorem GW{σ:aa}(c:σ f=none)(d:σ r=none):Le σ ((σ.upd f m).upd r x):=fun b n a=>by
 have e:b≠f:=fun e=>by rw[e,c]at a;exact aj a
 have g:b≠r:=fun e=>by rw[e,d]at a;exact aj a
 rw[aa.uN _ _ g,aa.uN _ _ e];exact a
theorem Me{σ c:aa}(d:σ f=none)(h:Le σ c):Le σ ((c.upd f m).del f):=fun b n a=>by
 have e:b≠f:=fun e=>by rw[e,d]at a;exact aj a
 rw[aa.dN _ e,aa.uN _ _ e];exact h b n a
inductive ci:List Nat->(Option (List Tk)->Prop)->Prop
 |done {s:List Nat} {P:Option (List Tk)->Prop} (h:dS s=true) (p:P (some [])):ci s P
 |err {s:List Nat} {P:Option (List Tk)->Prop} (h:dS s=false) (x:LX (s.drop (dz s)) .err) (p:P none):ci s P
 |loc {s:List Nat} {P:Option (List Tk)->Prop} {n:Nat} (h:dS s=false) (x:LX (s.drop (dz s)) (.loc n)) (hn:0<n) (p:P none) (r:ci (s.drop (dz s+n)) fun o=>P (o.map (.other::·))):ci s P
 |tok {s:List Nat} {P:Option (List Tk)->Prop} {n:Nat} {k:Tk} (h:dS s=false) (x:LX (s.drop (dz s)) (.tok k n)) (hn:0<n) (r:ci (s.drop (dz s+n)) fun o=>P (o.map (k::·))):ci s P
theorem qP{s:List Nat}{n:Nat}(h:dS s=false)(a:0<n):(s.drop (dz s+n)).length<s.length:=by
 cases s with
 |nil=>exact df h
 |cons c s=>rw[Oe];exact Un (Oh _) (Nv a (Ny _ _))
section
variable{d r f:Nat}{t:List Nat}{ln:PV}{σ:aa}{Q:QV}{X:QX}
theorem Cq{vs:List PV}{i:Nat}(a:r≠f)(c:σ f=none)(e:σ r=none)(g:vs.length<aV)(q:∀v,TR v .fin->Q (.lst (vs++[v])) σ):
  ai (d+5) (yX.drop 3) [some (.str t),some ln,some (.iref 286 r),some (.ref f),none,none] ((σ.upd f (.lst vs)).upd r (rd t ln i)) (fun o _ b=>a_ Q (o.getD .none) b) (ao X):=by
 have hs:((σ.upd f (.lst vs)).upd r (rd t ln i)) f=some (.lst vs):=by rw[aa.uN _ _ (NZ a),aa.uS]
 exact⟨lJ hs (by decide),⟨dR rfl,ah (aH rfl) ⟨_,rfl,vQ (nM (cj hs ⟨g,.frz (aa.uS ..) (Me c (GW c e)) (q _ .fin)⟩))⟩⟩⟩
noncomputable abbrev zc(σ:aa)(f r:Nat)(t:List Nat)(ln:PV)(vs:List PV)(i:Nat):aa:=(σ.upd f (.lst vs)).upd r (rd t ln i)
noncomputable abbrev Fq(t:List Nat)(ln:PV)(r f:Nat):ar:=[some (.str t),some ln,some (.iref 286 r),some (.ref f),none,none]
theorem Cr{Y:QX}(ht:t.length<=2000)(hrf:r≠f){s:List Nat}{P:Option (List Tk)->Prop}(L:ci s P):∀i,t.drop i=s->∃n,∀{vs ts K},gv vs ts->vs.length+s.length<=2000->(P none->∀vs j,Y 0 (zc σ f r t ln vs j))->
  (∀ks vs' j,P (some ks)->gv vs' (ts++ks)->vs'.length<=2000->K none (Fq t ln r f) (zc σ f r t ln vs' j))->
  bE (fun ρ σ K'=>fQ (d+5) (cx yX 2) ρ σ K' Y) (fun ρ σ K'=>ai (d+5) (ax yX 2) ρ σ K' Y) n (Fq t ln r f) (zc σ f r t ln vs i) K:=by
 have ht1:t.length<=1000000:=M7 ht (by decide);have hs:∀vs i,zc σ f r t ln vs i f=some (.lst vs):=fun vs i=>by show((σ.upd f _).upd r _) f=_;rw[aa.uN _ _ (NZ hrf),aa.uS]
 have up:∀{vs:List PV}{v:PV}{s:List Nat}{n:Nat},dS s=false->0<n->vs.length+s.length<=2000->(vs++[v]).length+(s.drop (dz s+n)).length<=2000:=fun h hn hl=>by rw[M9,Oc];exact M7 (NM (by rw[Ol];exact qP h hn) _) hl
 have lt:∀{vs:List PV}{s:List Nat},vs.length+s.length<=2000->vs.length<aV:=fun hl=>Nf (M7 (Nn _ _) hl) (by decide);induction L with
 |done h p=>intro i hi;exact⟨1,fun{vs ts K} hv hl hX hQ=>⟨dR rfl,⟨_,rfl,za ht1 (ak (b:=true) (by rw[hi,h];rfl) (hQ [] vs _ p (by rw[NB];exact hv) (M7 (Nn _ _) hl)))⟩⟩⟩
 |err h x p=>intro i hi;exact⟨1,fun hv hl hX hQ=>⟨dR rfl,⟨_,rfl,za ht1 (ak (b:=false) (by rw[hi,h];rfl) ⟨lJ (hs _ _) (by decide),⟨dR rfl,⟨_,rfl,Cp (by rw[←OU,hi]) x ht fun j=>hX p _ j⟩⟩⟩)⟩⟩⟩
 |loc h x hn p r ih=>intro i hi;obtain⟨n,ih⟩:=ih _ (by rw[←hi,OU]);refine⟨n+1,fun{vs ts K} hv hl hX hQ=>⟨dR rfl,⟨_,rfl,za ht1 (ak (b:=false) (by rw[hi,h];rfl) ⟨lJ (hs _ _) (by decide),⟨dR rfl,⟨_,rfl,Cp (by rw[←OU,hi]) x ht ⟨fun j=>hX p _ j,fun v hv'=>cj (hs _ _) ⟨lt hl,?_⟩⟩⟩⟩⟩)⟩⟩⟩;rw[GV hrf,Oc];exact ih (hv.app (.cons hv' .nil)) (up h hn hl) hX fun ks vs' j hp ht'=>hQ (.other::ks) vs' j hp (by rw[Nk ts]at ht';exact ht')
 |tok h x hn r ih=>intro i hi;obtain⟨n,ih⟩:=ih _ (by rw[←hi,OU]);refine⟨n+1,fun{vs ts K} hv hl hX hQ=>⟨dR rfl,⟨_,rfl,za ht1 (ak (b:=false) (by rw[hi,h];rfl) ⟨lJ (hs _ _) (by decide),⟨dR rfl,⟨_,rfl,Cp (by rw[←OU,hi]) x ht fun v hv'=>cj (hs _ _) ⟨lt hl,?_⟩⟩⟩⟩)⟩⟩⟩;rw[GV hrf,Oc];exact ih (hv.app (.cons hv' .nil)) (up h hn hl) hX fun ks vs' j hp ht'=>hQ (_::ks) vs' j hp (by rw[Nk ts]at ht';exact ht')
theorem Ft{P:Option (List Tk)->Prop}(c:t.length<=2000)(L:ci t P)(h:P none->X 0 σ)(k:∀ks vs,P (some ks)->gv vs (ks++[.fin])->Q (.lst vs) σ):af (d+6) (.ref 297) [.str t,ln] σ Q X:=by
 refine Jo (Ku fun r g f a=>?_);have e:f≠r:=fun e=>by rw[e,aa.uS]at a;exact bb a
 rw[aa.uN _ _ e]at a;obtain⟨n,z⟩:=Cr (σ:=σ) (d:=d) (ln:=ln) (Y:=ao X) c (NZ e) L 0 rfl;rw[Fp (NZ e)];exact⟨n,z .nil (by rw[Oa,N7];exact c) (fun p _ j=>⟨σ,GW a g,h p⟩) fun ks vs i p l m=>Cq (NZ e) a g (Nf m (by decide)) fun v b=>k ks _ p (l.app (.cons b .nil))⟩
end
theorem eV{s k:List Nat}{F:Bool->Prop}(a:s=k->F true)(b:s≠k->F false):∃x,some (s==k)=some x/\F x:=
 fF (fun h=>a (N9 h)) fun h=>b fun e=>by rw[e,ND]at h;exact df h
noncomputable def ae(s:List Nat):Nat:=if s=[43]\/s=[45] then 1 else if s=[124]\/s=[38]\/s=[94] then 2 else if s=[42]\/s=[47]\/s=[37]\/s=[60,60]\/s=[62,62] then 3 else 0
noncomputable def oA:Tk->Nat
 |.sign s=>ae s
 |_=>0
noncomputable def DU:Tk->List Nat
 |.sign s=>s
 |_=>[]
inductive Tr where
 |num (n:Int)|name (s:List Nat)|here|un (s:List Nat) (b:Tr)|bin (s:List Nat) (l r:Tr)
noncomputable abbrev pI:List Nat:=[115,121,109,98,111,108]
noncomputable abbrev ik:List Nat:=[104,101,114,101]
noncomputable abbrev Fu:List Nat:=[117,110,97,114,121]
noncomputable abbrev Fv:List Nat:=[98,105,110,97,114,121]
noncomputable def tv:Tr->PV
 |.num n=> .obj 447 [.str g9,.int n]
 |.name s=> .obj 473 [.str pI,.str s]
 |.here=> .obj 492 [.str ik]
 |.un s b=> .obj 518 [.str Fu,.str s,tv b]
 |.bin s l r=> .obj 544 [.str Fv,.str s,tv l,tv r]
noncomputable abbrev Rs:=Option (Option (Tr×List Tk))
noncomputable def qQ(p:Nat->List Tk->Rs)(l:Nat->Nat->List Tk->Rs)(a:Nat):List Tk->Rs
 |[]=>none
 |k::r=>if 10<a then some none else match k with
  |.num n=>some (some (.num n,r))
  |.name s=>some (some (if s=[46] then .here else .name s,r))
  |.sign s=>if s=[45]\/s=[126]\/s=[33] then(match p (a+1) r with|some (some (t,r'))=>some (some (.un s t,r'))|x=>x)
   else if s=[40] then(match l 1 (a+1) r with|some (some (t,.sign u::r'))=>if u=[41] then some (some (t,r'))else some none|some (some (t,_::_))=>some none|some (some (t,[]))=>none|x=>x)
   else some none
  |_=>some none
noncomputable def ck(l:Nat->Nat->List Tk->Rs)(a b:Nat):Nat->Tr->List Tk->Rs
 |_,_,[]=>none
 |n,t,k::r=>if a<=oA k then(match n with
  |0=>none
  |n+1=>match l (oA k+1) b r with|some (some (u,r'))=>ck l a b n (.bin (DU k) t u) r'|x=>x)else some (some (t,k::r))
noncomputable def lK(p:Nat->List Tk->Rs)(l:Nat->Nat->List Tk->Rs)(a b:Nat)(ks:List Tk):Rs:=match p b ks with
 |some (some (t,r))=>ck l a b r.length t r
 |x=>x
noncomputable def Pz:Nat->(Nat->List Tk->Rs)×(Nat->Nat->List Tk->Rs)
 |0=>(fun _ _=>none,fun _ _ _=>none)
 |m+1=>(qQ (Pz m).1 (Pz m).2,lK (Pz m).1 (Pz m).2)
theorem GX{F:Tr->List Tk->Rs}(h:(match o1 with|some (some (u,r'))=>F u r'|x=>x)=some o){P:Prop}(a:o1=some none->o=none->P)(b:∀{u r'},o1=some (some (u,r'))->F u r'=some o->P):P:=by
 cases o1 with
 |none=>exact aj h
 |some o1=>cases o1 with
  |none=>exact a rfl (Nh h).symm
  |some p=>exact b (u:=p.1) (r':=p.2) rfl h
noncomputable abbrev cr(a:List PV)(i:Nat):MO:= .ins 391 [6,5] [.lst a,.int i]
section
variable{d c i:Nat}{ts rs:List PV}{v:PV}{k:Tk}{ks:List Tk}{σ:aa}{Q:QV}{X:QX}
theorem gv.hd(h:gv (ts.drop i) (k::ks)):∃v a,ts.drop i=v::a/\TR v k/\gv (ts.drop (i+1)) ks:=by
 generalize e:ts.drop i=l at h;cases h with
 |cons h hs=>exact⟨_,_,rfl,h,by rw[cb e];exact hs⟩
theorem zd(a:ts.drop i=v::rs)(b:ts.length<=1000000)(q:Q v (σ.upd c (cr ts i))):af (d+1) (.ref 318) [.iref 391 c] (σ.upd c (cr ts i)) Q X:=
 Jq (ah (aH rfl) (ah (aH rfl) (ah (aU a b) (ag q))))
theorem vT(f:ts.drop i= .obj 195 [.str e,.str w,a,p]::rs)(g:(e==ds)=false)(h:ts.length<=1000000)(q:Q (.obj 195 [.str e,.str w,a,p]) (σ.upd c (cr ts (i+1)))):af (d+1) (.ref 332) [.iref 391 c] (σ.upd c (cr ts i)) Q X:=
 Jr (ah (aH rfl) (ah (aH rfl) (ah (aU f h) (ah rfl (ak (b:=true) (by show some (!(e==ds))=_;rw[g];rfl) (ah (aH rfl) (bf rfl rfl (ag q))))))))
theorem Cs{s:List Nat}(q:Q (.int (ae s)) σ):af (d+1) (.ref 560) [.str s] σ Q X:=by
 unfold ae at q;refine JH (eV (fun h=>?_) fun a1=>eV (fun h=>?_) fun a=>?_)
 .rw[Nd (.inl h)]at q;exact ag q
 .rw[Nd (.inr h)]at q;exact ag q
 rw[Na (fun h=>h.elim a1 a)]at q;refine eV (fun h=>?_) fun a1=>eV (fun h=>?_) fun a=>eV (fun h=>?_) fun a3=>?_
 .rw[Nd (.inl h)]at q;exact ag q
 .rw[Nd (.inr (.inl h))]at q;exact ag q
 .rw[Nd (.inr (.inr h))]at q;exact ag q
 rw[Na (fun h=>h.elim a1 fun h=>h.elim a a3)]at q;refine eV (fun h=>?_) fun a1=>eV (fun h=>?_) fun a=>eV (fun h=>?_) fun a3=>eV (fun h=>?_) fun b=>eV (fun h=>?_) fun c=>?_
 .rw[Nd (.inl h)]at q;exact ag q
 .rw[Nd (.inr (.inl h))]at q;exact ag q
 .rw[Nd (.inr (.inr (.inl h)))]at q;exact ag q
 .rw[Nd (.inr (.inr (.inr (.inl h))))]at q;exact ag q
 .rw[Nd (.inr (.inr (.inr (.inr h))))]at q;exact ag q
 rw[Na (fun h=>h.elim a1 fun h=>h.elim a fun h=>h.elim a3 fun h=>h.elim b c)]at q;exact ag q
theorem Fw(h:TR v k)(q:Q (.int (oA k)) σ):af (d+2) (.ref 567) [v] σ Q X:=by
 cases h with
 |sign=>exact Fa (ah rfl (ak (b:=false) rfl (ah rfl (Cs (ag q)))))
 |_=>exact Fa (ah rfl (ak (b:=true) rfl (ag q)))
theorem KE(e:ts.drop i= .obj 195 [.str b,.str w,a,p]::rs)(f:ts.length<=1000000)(q:Q (.bool (b==bt&&w==s)) (σ.upd c (cr ts i))):af (d+2) (.ref 339) [.iref 391 c,.str s] (σ.upd c (cr ts i)) Q X:=
 Js (ah (aH rfl) (ah (aH rfl) (ah (aU e f) ⟨rfl,⟨_,rfl,vP (ag q)⟩⟩)))
theorem KF(f:ts.drop i= .obj 195 [.str e,.str w,a,p]::rs)(g:ts.length<=1000000)(j:e=bt->w=s->Q (.bool true) (σ.upd c (cr ts (i+1))))(k:(e==bt&&w==s)=false->Q (.bool false) (σ.upd c (cr ts i))):af (d+3) (.ref 353) [.iref 391 c,.str s] (σ.upd c (cr ts i)) Q X:=
 Ju ⟨dR rfl,⟨_,rfl,KE f g (fF (b:=e==bt&&w==s) (fun h=>ah (aH rfl) (bf rfl rfl (ag (j (N9 (Bool.and_eq_true_iff.mp h).1) (N9 (Bool.and_eq_true_iff.mp h).2))))) fun h=>ag (k h))⟩⟩
theorem Fx(e:ts.drop i= .obj 195 [.str b,.str w,a,p]::rs)(f:ts.length<=1000000)(q:Q p (σ.upd c (cr ts i))):af (d+1) (.ref 388) [.iref 391 c] (σ.upd c (cr ts i)) Q X:=
 Jw (ah (aH rfl) (ah (aH rfl) (ah (aU e f) (ah rfl (ag q)))))
theorem Fy(f:ts.drop i= .obj 195 [.str e,.str w,a,p]::rs)(g:ts.length<=1000000)(q:Q (.bool (e==ds)) (σ.upd c (cr ts i))):af (d+1) (.ref 346) [.iref 391 c] (σ.upd c (cr ts i)) Q X:=
 Jt (ah (aH rfl) (ah (aH rfl) (ah (aU f g) (ah rfl (ak (b:=e==ds) rfl (ag q))))))
theorem TR.sg(h:TR v k){P:Prop}(f:∀{b w a p},v= .obj 195 [.str b,.str w,a,p]->(∀{s},(b==bt&&w==s)=true->k= .sign s)->(∀{s},(b==bt&&w==s)=false->k≠.sign s)->P):P:=by
 cases h with
 |sign=>exact f rfl (fun h=>by rw[N9 (Bool.and_eq_true_iff.mp h).2]) (fun{s} h e=>by injection e with z0;subst z0;exact df ((ND s).symm.trans h))
 |_=>exact f rfl (fun h=>aK h) (fun _ e=>Tk.noConfusion e)
theorem FA(g:gv (ts.drop i) (k::ks))(f:ts.length<=1000000)(j:k= .sign [41]->Q .none (σ.upd c (cr ts (i+1))))(l:k≠.sign [41]->X 0 (σ.upd c (cr ts i))):af (d+4) (.ref 367) [.iref 391 c,.str [41]] (σ.upd c (cr ts i)) Q X:=by apply bc;intro m;obtain⟨v,r,a,n,hs⟩:=g.hd;apply m;refine n.sg fun e a1 o=>?_;rw[e]at a;exact Jv ⟨dR rfl,⟨_,rfl,KF a f (fun p q=>ak (b:=true) rfl (ag (j (a1 (by rw[p,q];rfl))))) fun h=>ak (b:=false) rfl ⟨No rfl,⟨dR rfl,⟨_,rfl,Fx a f (tE (l (o h)))⟩⟩⟩⟩⟩
theorem KG(n:gv (ts.drop i) (k::ks))(f:ts.length<=1000000)(o:k= .fin->Q .none (σ.upd c (cr ts i)))(g:k≠.fin->X 0 (σ.upd c (cr ts i))):af (d+2) (.ref 374) [.iref 391 c] (σ.upd c (cr ts i)) Q X:=by
 apply bc;intro q;obtain⟨v,t,j,r,hs⟩:=n.hd;apply q;have l:∀{m w:List Nat}{a p:PV},v= .obj 195 [.str m,.str w,a,p]->w.length<=2000->(m==ds)=false->X 0 (σ.upd c (cr ts i))->af (d+2) (.ref 374) [.iref 391 c] (σ.upd c (cr ts i)) Q X:=fun{m w a p} e s h x=>by subst e;exact E_ ⟨dR rfl,⟨_,rfl,Fy j f (ak (b:=false) (by rw[h];rfl) ⟨dR rfl,⟨_,rfl,zd j f (ah rfl ⟨M7 (NM s _) (No rfl),⟨dR rfl,⟨_,rfl,Fx j f (tE x)⟩⟩⟩)⟩⟩)⟩⟩
 cases r with
 |fin=>exact E_ ⟨dR rfl,⟨_,rfl,Fy j f (ak (b:=true) rfl (ag (o rfl)))⟩⟩
 |num h=>exact l rfl h rfl (g fun e=>Tk.noConfusion e)
 |name h=>exact l rfl h rfl (g fun e=>Tk.noConfusion e)
 |sign h=>exact l rfl h rfl (g fun e=>Tk.noConfusion e)
 |other h=>exact l rfl h rfl (g fun e=>Tk.noConfusion e)
end
noncomputable def RQ(o:Option (Tr×List Tk))(c:Nat)(a:List PV)(σ:aa)(Q:QV)(X:QX):Prop:=match o with
 |none=>∀i,X 0 (σ.upd c (cr a i))
 |some (t,ks)=>∀i,gv (a.drop i) ks->Q (tv t) (σ.upd c (cr a i))
section
variable{c:Nat}{ts:List PV}{σ:aa}
structure Pc(c:Nat)(ts:List PV)(σ:aa)(m:Nat):Prop where
 p:∀{i dep ks o}{Q:QV}{X:QX},gv (ts.drop i) ks->(Pz m).1 dep ks=some o->RQ o c ts σ Q X->af (m+6) (.ref 574) [.iref 391 c,.int dep] (σ.upd c (cr ts i)) Q X
 l:∀{i Z5 dep ks o}{Q:QV}{X:QX},1<=Z5->gv (ts.drop i) ks->(Pz m).2 Z5 dep ks=some o->RQ o c ts σ Q X->af (m+6) (.ref 581) [.iref 391 c,.int Z5,.int dep] (σ.upd c (cr ts i)) Q X
theorem jK(h:1<=oA k):k= .sign (DU k):=by cases k<;>first|rfl|exact(QC _ h).elim
theorem KH{o1:Rs}{o:Option (Tr×List Tk)}(h:(match o1 with|some (some (t,.sign u::r'))=>if u=[41] then some (some (t,r'))else some none|some (some (t,_::_))=>some none|some (some (t,[]))=>none|x=>x)=some o){P:Prop}(c:o1=some none->o=none->P)(a:∀{t r'},o1=some (some (t,.sign [41]::r'))->o=some (t,r')->P)
  (b:∀{t k r'},o1=some (some (t,k::r'))->k≠.sign [41]->o=none->P):P:=by
 cases o1 with
 |none=>exact aj h
 |some o1=>cases o1 with
  |none=>exact c rfl (Nh h).symm
  |some p=>
   obtain⟨u,ks⟩:=p;cases ks with
   |nil=>exact aj h
   |cons k r=>cases k with
    |sign v=>
     by_cases g:v=[41]
     .have i0:=cf g h;injection i0 with z0;subst z0;rw[g]at a;exact a rfl rfl
     .exact b rfl (fun e=>g (by cases e;rfl)) (Nh (bV g h)).symm
    |_=>exact b rfl (fun e=>Tk.noConfusion e) (Nh h).symm
theorem RQ.map{Q Q':QV}{X:QX}(f:∀v σ,Q v σ->Q' v σ)(q:RQ o c ts σ Q X):RQ o c ts σ Q' X:=by
 cases o with
 |none=>exact q
 |some p=>exact fun i h=>f _ _ (q i h)
theorem RQ.out{Q:QV}{X:QX}(q:RQ o c ts σ Q X):RQ o c ts σ (fun v a=>a_ Q v a) (ao X):=by
 cases o with
 |none=>exact fun i=>⟨_,Le.rfl,q i⟩
 |some p=>exact fun i h=>ag (q i h)
noncomputable def qR(l:List MS)(n:Nat):List MS:=match l.drop n with
 |.ite _ b _::_=>b
 |_=>[]
noncomputable abbrev pJ(c a:Nat)(v:PV):ar:=[some (.iref 391 c),some (.int a),some v,none,none,none,none,none,none,none,none,none]
section
variable{m i dep:Nat}{K:QS}{Y:QX}{r:List Tk}{s w kd:List Nat}{a p:PV}{o:Option (Tr×List Tk)}{rs:List PV}
theorem GY(h:(kd==bt&&w==s)=false)(e:kd=bt):w≠s:=fun a=>by rw[e,a,ND,ND]at h;exact df h
theorem vU{f:aa}(g:kd=bt->(w=[45]\/w=[126]\/w=[33])->∀{K':QS},(∀v d σ,K (some v) d σ->K' (some v) d σ)->ai (m+6) (qR kc 4) (pJ c dep (.obj 195 [.str kd,.str w,a,p])) f K' Y)
  (j:kd=bt->¬(w=[45]\/w=[126]\/w=[33])->w=[40]->∀{K':QS},(∀v d σ,K (some v) d σ->K' (some v) d σ)->ai (m+6) (qR kc 5) (pJ c dep (.obj 195 [.str kd,.str w,a,p])) f K' Y)
  (k:(kd=bt->¬(w=[45]\/w=[126]\/w=[33])/\w≠[40])->Y 0 f):ai (m+6) (kc.drop 4) (pJ c dep (.obj 195 [.str kd,.str w,a,p])) f K Y:=by
 have b:∀{s},(kd==bt&&w==s)=true->kd=bt/\w=s:=fun h=>⟨N9 (Bool.and_eq_true_iff.mp h).1,N9 (Bool.and_eq_true_iff.mp h).2⟩
 refine⟨rfl,⟨_,rfl,vP (fF (fun h=>g (b h).1 (.inl (b h).2) (K':=ue (xk (m+6) (kc.drop 5) Y) K) fun _ _ _ z=>z) fun l=>⟨rfl,⟨_,rfl,vP (fF (fun h=>g (b h).1 (.inr (.inl (b h).2)) (K':=ue (xk (m+6) (kc.drop 5) Y) K) fun _ _ _ z=>z) fun n=>⟨rfl,⟨_,rfl,vP (fF (fun h=>g (b h).1 (.inr (.inr (b h).2)) (K':=ue (xk (m+6) (kc.drop 5) Y) K) fun _ _ _ z=>z) fun o=>?_)⟩⟩)⟩⟩)⟩⟩;have i:kd=bt->¬(w=[45]\/w=[126]\/w=[33]):=fun e h=>h.elim (GY l e) fun h=>h.elim (GY n e) (GY o e);exact⟨rfl,⟨_,rfl,vP (fF (fun h=>j (b h).1 (i (b h).1) (b h).2 (K':=ue (xk (m+6) (kc.drop 6) Y) K) fun _ _ _ z=>z) fun q=>ah rfl ⟨Ny 1 _,.inl rfl,⟨_,_,rfl,Nj 1⟩,k fun e=>⟨i e,GY q e⟩⟩)⟩⟩
theorem FB(g:ts.length<=1000000)(f:Pc c ts σ m)(k:ts.drop i= .obj 195 [.str bt,.str s,a,p]::rs)(hs:gv (ts.drop (i+1)) r)(h:(match(Pz m).1 (dep+1) r with|some (some (t,r'))=>some (some (.un s t,r'))|x=>x)=some o)
  (q:RQ o c ts σ (fun v b=>K (some v) (pJ c dep (.obj 195 [.str bt,.str s,a,p])) b) Y):ai (m+6) (qR kc 4) (pJ c dep (.obj 195 [.str bt,.str s,a,p])) (σ.upd c (cr ts i)) K Y:=by
 refine⟨dR rfl,⟨_,rfl,vT k rfl g (ah rfl (GX (F:=fun t r'=>some (some (.un s t,r'))) h (fun d e=>f.p hs d ?_) fun d e=>f.p hs d ?_))⟩⟩
 .rw[e]at q;exact q
 .rw[←Nh e]at q;exact fun j l=>Ks (q j l)
theorem Ct(f:ts.length<=1000000)(k:Pc c ts σ m)(w:ts.drop i= .obj 195 [.str bt,.str s,a,p]::rs)(hs:gv (ts.drop (i+1)) r)
  (h:(match(Pz m).2 1 (dep+1) r with|some (some (t,.sign u::r'))=>if u=[41] then some (some (t,r'))else some none|some (some (t,_::_))=>some none|some (some (t,[]))=>none|x=>x)=some o)
  (q:RQ o c ts σ (fun v n=>∀x,K (some v) ((pJ c dep (.obj 195 [.str bt,.str s,a,p])).set 3 x) n) Y):ai (m+6) (qR kc 5) (pJ c dep (.obj 195 [.str bt,.str s,a,p])) (σ.upd c (cr ts i)) K Y:=by
 refine⟨dR rfl,⟨_,rfl,vT w rfl f (KH h (fun b e=>k.l (Nj 1) hs b ?_) (fun b e=>k.l (Nj 1) hs b ?_) fun b g e=>k.l (Nj 1) hs b ?_)⟩⟩<;>rw[e]at q
 .exact q
 .exact fun j d=>⟨dR rfl,⟨_,rfl,FA d f (fun _=>by obtain⟨_,_,_,_,z⟩:=d.hd;exact q _ z _) fun g=>absurd rfl g⟩⟩
 .exact fun j d=>⟨dR rfl,⟨_,rfl,FA d f (fun z=>absurd z g) fun _=>q j⟩⟩
end
theorem TR.tok(h:TR v k):∃b w a p,v= .obj 195 [.str b,.str w,a,p]:=h.sg fun e _ _=>⟨_,_,_,_,e⟩
theorem FC(g:ts.length<=1000000)(u:Pc c ts σ m){Q:QV}{X:QX}(w:gv (ts.drop i) ks)(h:qQ (Pz m).1 (Pz m).2 d ks=some o)(q:RQ o c ts σ Q X):
  af (m+7) (.ref 574) [.iref 391 c,.int d] (σ.upd c (cr ts i)) Q X:=by
 cases ks with
 |nil=>exact aj h
 |cons k r=>
  apply bc;intro l;obtain⟨v,A,j,y,hs⟩:=w.hd;apply l;refine JI ⟨dR rfl,⟨_,rfl,zd j g (fX (a:=10) (b:=d) (fun t=>?_) fun t=>?_)⟩⟩
  .apply bc;intro l;obtain⟨_,_,_,_,e⟩:=y.tok;apply l;rw[←Nh (cf t h)]at q;rw[e];exact ah rfl (tE (q _))
  .replace h:=bV (Nat.not_lt.mpr t) h;clear w;cases y with
   |num=>rw[←Nh h]at q;exact ah rfl (ak (b:=true) rfl ⟨dR rfl,⟨_,rfl,vT j rfl g (ah rfl (Ko (ag (q _ hs))))⟩⟩)
   |@name s p z=>
    rw[←Nh h]at q;refine ah rfl (ak (b:=false) rfl (ah rfl (ak (b:=true) rfl ⟨dR rfl,⟨_,rfl,vT j rfl g (ah rfl (eV (fun e=>?_) fun e=>ah rfl ?_))⟩⟩)))
    .rw[Nd e]at q;exact Kr (ag (q _ hs))
    .rw[Na e]at q;exact Kq (ag (q _ hs))
   |other=>rw[←Nh h]at q;exact ah rfl (ak (b:=false) rfl (ah rfl (ak (b:=false) rfl (vU (fun e=>absurd e (by decide)) (fun e=>absurd e (by decide)) fun _=>⟨_,Le.rfl,q _⟩))))
   |fin=>rw[←Nh h]at q;exact ah rfl (ak (b:=false) rfl (ah rfl (ak (b:=false) rfl (vU (fun e=>absurd e (by decide)) (fun e=>absurd e (by decide)) fun _=>⟨_,Le.rfl,q _⟩))))
   |@sign s p z=>
    refine ah rfl (ak (b:=false) rfl (ah rfl (ak (b:=false) rfl (vU (fun _ e _ f=>FB g u j hs (cf e h) (q.out.map fun v _ h=>f v _ _ h)) (fun _ n e _ f=>Ct g u j hs (cf e (bV n h)) (q.out.map fun v _ h x=>f v _ _ h)) fun e=>?_))))
    .rw[←Nh (bV (e rfl).2 (bV (e rfl).1 h))]at q;exact⟨_,Le.rfl,q _⟩
end
section
variable{c:Nat}{ts:List PV}{σ:aa}
noncomputable abbrev zf(c a b:Nat)(t:Tr)(lv:Nat)(x:Option PV):ar:=[some (.iref 391 c),some (.int a),some (.int b),some (tv t),some (.int lv),x,none,none,none,none]
theorem FD(y:ts.length<=1000000)(z:Pc c ts σ m){K:QS}{Y:QX}(C:o=none->∀j,Y 0 (σ.upd c (cr ts j)))(D:gv (ts.drop j) (.sign s::r))
 (h:(match(Pz m).2 (ae s+1) b r with|some (some (u,r'))=>ck (Pz m).2 a b n (.bin s t u) r'|x=>x)=some o)
 (d:∀{A:Tr}{g:Tk}{r':List Tk}{i:Nat}{x:Option PV},gv (ts.drop i) (g::r')->ck (Pz m).2 a b n A (g::r')=some o->K none (zf c a b A (oA g) x) (σ.upd c (cr ts i))):
  lv=ae s->ai (m+6) (ax yY 2) (zf c a b t lv x) (σ.upd c (cr ts j)) K Y:=by
 intro e;subst e;apply bc;intro k;obtain⟨v,O,E,H,hs⟩:=D.hd;apply k;cases H with
 |sign P=>
  refine⟨dR rfl,⟨_,rfl,vT E rfl y (ah rfl (GX (F:=fun u r'=>ck (Pz m).2 a b n (.bin s t u) r') h (fun p e=>z.l (Ny 1 _) hs p (C e)) fun{u r'} p h=>z.l (Ny 1 _) hs p ?_))⟩⟩;cases r' with
  |nil=>cases n<;>exact aj h
  |cons g r'=>refine fun i f=>Kt ⟨dR rfl,⟨_,rfl,?_⟩⟩;apply bc;intro k;obtain⟨Q,L,q,w,M⟩:=f.hd;apply k;exact zd q y (Fw w (d f h))
theorem MY(q:ts.length<=1000000)(u:1<=d)(v:Pc c ts σ m){K:QS}{Y:QX}(w:o=none->∀j,Y 0 (σ.upd c (cr ts j)))
 (p:∀{t ks j lv x},o=some (t,ks)->gv (ts.drop j) ks->K none (zf c d f t lv x) (σ.upd c (cr ts j))) (n:Nat):∀{t:Tr}{k:Tk}{r:List Tk}{j:Nat}{x:Option PV},
  gv (ts.drop j) (k::r)->ck (Pz m).2 d f n t (k::r)=some o->
  bE (fun i σ K'=>fQ (m+6) (cx yY 2) i σ K' Y) (fun i σ K'=>ai (m+6) (ax yY 2) i σ K' Y) (n+1) (zf c d f t (oA k) x) (σ.upd c (cr ts j)) K:=by
 induction n with
 |zero=>exact fun{t k r j x} g h=>Ck (a:=d) (b:=oA k) (fun e=>aj (cf e h)) fun e=>p (Nh (bV (Nat.not_le.mpr e) h)).symm g
 |succ n l=>intro t k r j x g h;refine Ck (a:=d) (b:=oA k) (fun e=>?_) fun e=>p (Nh (bV (Nat.not_le.mpr e) h)).symm g;have hs:=jK (M7 u e);replace h:=cf e h;generalize DU k=s at hs h;subst hs;exact FD q v w g h (fun g h=>l g h) rfl
theorem FE(l:ts.length<=1000000)(f:Pc c ts σ m){Q:QV}{X:QX}(u:1<=a)(n:gv (ts.drop i) ks)(h:lK (Pz m).1 (Pz m).2 a b ks=some o)(q:RQ o c ts σ Q X):
  af (m+7) (.ref 581) [.iref 391 c,.int a,.int b] (σ.upd c (cr ts i)) Q X:=by
 have s:o=none->∀j,ao X 0 (σ.upd c (cr ts j)):=fun e j=>by rw[e]at q;exact⟨_,Le.rfl,q j⟩
 refine JJ (GX (F:=fun t r=>ck (Pz m).2 a b r.length t r) (o1:=(Pz m).1 b ks) h (fun g e=>f.p n g (s e)) fun{t r} g h=>f.p n g ?_);cases r with
 |nil=>exact aj h
 |cons k r=>
  refine fun j d=>⟨dR rfl,⟨_,rfl,?_⟩⟩
  apply bc;intro w;obtain⟨v,z,x,y,hs⟩:=d.hd;apply w;exact zd x l (Fw y ⟨_,MY l u f s (fun e d=>by rw[e]at q;exact ag (q _ d)) _ d h⟩)
theorem Cu(b:ts.length<=1000000)(m:Nat):Pc c ts σ m:=by
 induction m with
 |zero=>exact⟨fun _ h=>aj h,fun _ _ h=>aj h⟩
 |succ m d=>exact⟨fun a h q=>FC b d a h q,fun e a h q=>FE b d e a h q⟩
end
theorem ci.mono{P:Option (List Tk)->Prop}(L:ci s P):∀{P':Option (List Tk)->Prop},(∀o,P o->(∀ks,o=some ks->ks.length<=s.length)->P' o)->ci s P':=by
 have st:∀{s:List Nat}{n:Nat}{k:Tk}{o:Option (List Tk)},dS s=false->0<n->(∀ks,o=some ks->ks.length<=(s.drop (dz s+n)).length)->∀ks,o.map (k::·)=some ks->ks.length<=s.length:=fun h hn z ks e=>by refine cq e fun ZQ e1 e0=>?_;subst e0;exact Nf (z _ e1) (qP h hn)
 induction L with
 |done h p=>exact fun f=> .done h (f _ p fun ks e=>by injection e with z0;subst z0;exact NP _)
 |err h x p=>exact fun f=> .err h x (f _ p fun ks e=>aj e)
 |loc h x hn p r ih=>exact fun f=> .loc h x hn (f _ p fun ks e=>aj e) (ih fun o po z=>f _ po (st h hn z))
 |tok h x hn r ih=>exact fun f=> .tok h x hn (ih fun o po z=>f _ po (st h hn z))
noncomputable def eW(m:Nat)(ks:List Tk):Option (Option Tr):=match(Pz m).2 1 0 (ks++[.fin])with
 |some (some (t,.fin::_))=>some (some t)
 |some (some (_,_::_))=>some none
 |some (some (_,[]))=>none
 |some none=>some none
 |none=>none
theorem FF{m:Nat}{t:List Nat}{P:Option (List Tk)->Prop}{σ:aa}{Q:QV}{X:QX}(g:t.length<=2000)(L:ci t P)(n:P none->X 0 σ)(q:∀ks,P (some ks)->ks.length<=2000->∃o,eW m ks=some o/\match o with|none=>X 0 σ|some u=>Q (tv u) σ):
  af (m+8) (.ref 595) [.str t] σ Q X:=by
 refine JL (Ft (P:=fun o=>P o/\∀ks,o=some ks->ks.length<=2000) g ?_ (fun h=>⟨_,Le.rfl,n h.1⟩) fun ks vs d i=>Kv fun D f=>?_)
 .exact L.mono fun o p z=>⟨p,fun ks e=>M7 (z ks e) g⟩
 apply bc;intro s;obtain⟨o,a,c⟩:=q ks d.1 (d.2 ks rfl);apply s;have b:vs.length<=1000000:=by rw[i.len,M9];exact M7 (NL (d.2 ks rfl) _) (No rfl)
 unfold eW at a;revert a;cases e:(Pz m).2 1 0 (ks++[.fin])with
 |none=>exact fun a=>aj a
 |some o1=>
  refine fun a=>JK ((Cu b m).l (Nj 1) i e ?_);clear e L;cases o1 with
  |none=>rw[←Nh a]at c;exact fun j=>⟨_,Le.rfl,⟨σ,ed _ f,c⟩⟩
  |some p=>
   obtain⟨u,r⟩:=p;cases r with
   |nil=>exact aj a
   |cons k r=>
    refine fun j v=>ag ⟨dR rfl,⟨_,rfl,KG v b (fun e=>?_) fun e=>?_⟩⟩
    .rw[e]at a;rw[←Nh a]at c;exact .val (ed _ f) c
    .have:o=none:=by cases k<;>first|exact(Nh a).symm|exact absurd rfl e
     rw[this]at c;exact⟨σ,ed _ f,c⟩
theorem gw{b:ar->aa->QS->Prop}{K:QS}(h:List PV):∀(f:ar)(σ:aa),bu b e (h++g) f σ K=bu b e h f σ (fun o a c=>match o with|some v=>K (some v) a c|none=>bu b e g a c K):=by
 induction h with
 |nil=>exact fun f σ=>rfl
 |cons v r i=>
  intro f σ;show(∃a,oM f e v=some a/\b a σ fun o d c=>match o with|some v=>K (some v) d c|none=>bu b e (r++g) d c K)=_;simp only[i];show _=(∃a,oM f e v=some a/\b a σ fun o d c=>match o with|some v=>K (some v) d c|none=>bu b e r d c _)
  congr
noncomputable def tt:Tr->PV
 |.num n=> .tup [.str g9,.int n]
 |.name s=> .tup [.str pI,.str s]
 |.here=> .tup [.str ik]
 |.un s b=> .tup [.str Fu,.str s,tt b]
 |.bin s l r=> .tup [.str Fv,.str s,tt l,tt r]
noncomputable def KI:Tr->Nat
 |.num _=>444|.name _=>470|.here=>416|.un _ _=>515|.bin _ _ _=>541
noncomputable def sz:Tr->Nat
 |.un _ b=>sz b+1
 |.bin _ l r=>sz l+sz r+1
 |_=>1
noncomputable def Mf:Tr->Nat
 |.bin _ l _=>Mf l+1
 |_=>0
noncomputable def aX:Tr->Tr
 |.bin _ l _=>aX l
 |t=>t
noncomputable def dA:Tr->List Tr
 |.bin s l r=>dA l++[.bin s l r]
 |_=>[]
section
variable{d:Nat}{σ:aa}{Q:QV}{X:QX}
theorem tF(w:af d (.ref (KI t)) [tv t] σ Q X):xj (tv t) 6 σ/\(match tv t with|.obj c _=>∃f,dg c 6=some f/\af d (.ref f) [tv t] σ Q X|.iref c _=>∃f,dg c 6=some f/\af d (.ref f) [tv t] σ Q X|_=>xi (tv t) 6 [] σ Q):=by cases t<;>exact⟨rfl,_,rfl,w⟩
theorem FG{a:Nat}{N:PV}:∀(t:Tr)(acc:List PV),σ a=none->acc.length+sz t<=2000->Q (.tup [tv (aX t),.lst ((dA t).map tv++acc.reverse)]) σ->
  bE (fun f σ K'=>fQ d (cx vF 2) f σ K' (ao X)) (fun f σ K'=>ai d (ax vF 2) f σ K' (ao X)) (Mf t+1) [some N,some (.ref a),some (tv t)] (σ.upd a (.lst acc))
   (fun o g c=>match o with|some v=>a_ Q v c|none=>ai d (vF.drop 3) g c (fun o _ c=>a_ Q (o.getD .none) c) (ao X)):=by
 intro t;have fin:∀{t:Tr}{acc:List PV}{V:PV},σ a=none->Q (.tup [V,.lst acc.reverse]) σ->ai d (vF.drop 3) [some N,some (.ref a),some V] (σ.upd a (.lst acc)) (fun o _ c=>a_ Q (o.getD .none) c) (ao X):=fun h q=>
  ⟨lJ (aa.uS ..) (by decide),cj (aa.uS ..) ⟨rfl,.frz2 (aa.uS ..) (Me h (ed _ h)) q⟩⟩
 induction t with
 |num n=>exact fun acc h e q=>ah rfl (ak (b:=false) rfl (fin (t:= .here) h q))
 |name n=>exact fun acc h e q=>ah rfl (ak (b:=false) rfl (fin (t:= .here) h q))
 |here=>exact fun acc h e q=>ah rfl (ak (b:=false) rfl (fin (t:= .here) h q))
 |un s b _=>exact fun acc h e q=>ah rfl (ak (b:=false) rfl (fin (t:= .here) h q))
 |bin s l r i _=>
  intro acc h e q;refine ah rfl (ak (b:=true) rfl ⟨lJ (aa.uS ..) (by decide),cj (aa.uS ..) ⟨Nf (M7 (Nn _ _) e) (by decide),ah rfl ?_⟩⟩);rw[aa.uU];have z:=i (acc++[tv (.bin s l r)]) h (by
   rw[M9];exact M7 (by show acc.length+1+sz l<=acc.length+(sz l+sz r+1);rw[Oc,Ol 1];exact NM (NE (Nn _ _)) _) e) (by
   have q:Q (.tup [tv (aX l),.lst ((dA l++[Tr.bin s l r]).map tv++acc.reverse)]) σ:=q;rw[NG,Nk]at q;rw[List.reverse_append];exact q)
  exact z
theorem zg(b:sz t<=2000)(q:Q (.tup [tv (aX t),.lst ((dA t).map tv)]) σ):af (d+1) (.ref 553) [tv t] σ Q X:=
 JG fun a h=>⟨_,FG t [] h (by rw[Oa,N7];exact b) (by rw[List.reverse_nil,NB];exact q)⟩
end
theorem dn(t:Tr):0<sz t:=by
 induction t with
 |num _=>exact T2
 |name _=>exact T2
 |here=>exact T2
 |un _ b a=>exact Oh _
 |bin _ l r a c=>exact Oh _
theorem gy(t:Tr):sz (aX t)<=sz t:=by
 induction t with
 |num _=>exact Nj _
 |name _=>exact Nj _
 |here=>exact Nj _
 |un _ _ a=>exact Nj _
 |bin _ l r a b=>exact M7 (a) (M7 (Nn _ _) (Oi _))
section
variable{d:Nat}{σ:aa}{Q:QV}{X:QX}
theorem Cv{N I W:PV}(t:Tr)(H:∀b,sz b<sz t->∀{Q:QV}{X:QX},Q (tt b) σ->af d (.ref (KI b)) [tv b] σ Q X):∀(u:Tr)(K:QS)(a:Option PV),sz u<=sz t->(∀a,K none [some N,some I,some W,some (tt u),a,none] σ)->
  bu (fun g σ K'=>ai d (ax EY 2) g σ K' X) [4] ((dA u).map tv) [some N,some I,some W,some (tt (aX u)),a,none] σ K:=by
 intro u;induction u with
 |bin s l r h _=>
  intro K a e c;show bu _ _ ((dA l++[Tr.bin s l r]).map tv) _ _ _;rw[NG,gw];have f:sz l+sz r<sz (.bin s l r):=NX _;refine h _ _ (M7 (M7 (Nn _ _) (NW f)) e) fun a=>⟨_,rfl,ah rfl (ah rfl (tF (H r (Nv (Nf (Ny _ _) f) e) (c _))))⟩
 |_=>exact fun K a _ c=>c _
theorem jL(n:Nat):∀(t:Tr),sz t<=n->n<=2000->∀{σ:aa}{Q:QV}{X:QX},Q (tt t) σ->af (n+1) (.ref (KI t)) [tv t] σ Q X:=by
 induction n with
 |zero=>exact fun t h _ _ _ _ _=>absurd (dn t) (Nat.not_lt.mpr h)
 |succ n c=>
  intro t0;cases t0 with
  |num _=>exact fun h a σ Q X q=>Jy (ah rfl (ag q))
  |name _=>exact fun h a σ Q X q=>JA (ah rfl (ag q))
  |here=>exact fun h a σ Q X q=>Kl (ah rfl (ag q))
  |un s b=>exact fun h a σ Q X q=>JD (ah rfl (ah rfl (tF (c b (NO h) (Nr a) (ag q)))))
  |bin s l r=>
   exact fun h a σ Q X q=>JF (zg (M7 h a) ⟨_,_,rfl,rfl,tF (c (aX l) (NO (M7 (NE (M7 (gy l) (Nn _ _))) h)) (Nr a)
    ⟨_,rfl,Cv (.bin s l r) (fun e d=>c e (Pl (Nv d h)) (Nr a)) (.bin s l r) _ _ (Nj _) fun f=>ag q⟩)⟩)
end
theorem iF{s k:List Nat}{F:Bool->Prop}(a:s=k->F false)(b:s≠k->F true):∃x,some (!(s==k))=some x/\F x:=
 fF (fun h=>b fun e=>by rw[e,ND]at h;exact aK h) fun h=>a (N9 (by cases e:s==k;rw[e]at h;exact df h;rfl))
theorem lL{σ:aa}{X:QX}(x:X 1 σ):1<=d+1/\(99=87\/99=99)/\(∃a r',[PV.str m]= .str a::r'/\r'.length<=1)/\ao X (eq 99) σ:=
 ⟨Ny _ _,.inr rfl,⟨_,_,rfl,NP _⟩,⟨σ,Le.rfl,x⟩⟩
structure Af where
 w:Int
 p:List Nat
 m:List Nat
noncomputable def av(a:Af):PV:= .obj 655 [.int a.w,.str a.p,.str a.m]
noncomputable def eu(w:Int)(p m:List Nat):Af:=if p=m then⟨w,[],[]⟩ else⟨w,p,m⟩
noncomputable def gz(a:Af):Af:=eu (-a.w) a.m a.p
noncomputable def dH(r:List (List Nat)×List (List Nat))(n:List Nat):List (List Nat)×List (List Nat):=if n≠[]/\n∈r.1 then(r.1.erase n,r.2)else if n≠[] then(r.1,r.2++[n])else r
noncomputable def jM(w:Int)(r:List (List Nat)×List (List Nat)):Option Af:=if 1<r.1.length\/1<r.2.length then none else some (eu w (r.1.headD []) (r.2.headD []))
noncomputable def AM(w:Int)(ps ms:List (List Nat)):Option Af:=jM w (ms.foldl dH (ps.filter (·≠[]),[]))
noncomputable def eA(a b:Af):Option Af:=AM (a.w+b.w) [a.p,b.p] [a.m,b.m]
noncomputable def aQ(a:Af):Bool:=a.p==[]&&a.m==[]
noncomputable def pK(a:Af):Bool:= !(a.p==[])&&a.m==[]
theorem jN(ss:List (List Nat)):gT (ss.map .str)=true:=by
 induction ss with
 |nil=>exact rfl
 |cons s r a=>exact a
theorem eX(ss:List (List Nat)):bo (ss.map .str)=some ss:=by
 induction ss with
 |nil=>exact rfl
 |cons s r a=>show(bo (r.map .str)).map _=_;rw[a];rfl
theorem qS(n:List Nat)(ss:List (List Nat)):((ss.map PV.str).any fun v=>fB v (.str n))=decide (n∈ss):=by
 induction ss with
 |nil=>exact rfl
 |cons s r a=>
  rw[NU,Pf,a];show((s==n)||_)=_;by_cases h:n∈r
  .rw[NN h,NN (Ni _ h),Tv]
  .rw[NQ h,Rm];by_cases e:s=n
   .subst e;rw[ND,NN (Ng ..)]
   .rw[R6 e,NQ (fun z=>by cases z with|head=>exact e rfl|tail _ z=>exact h z)]
section
variable{d:Nat}{σ:aa}{Q:QV}{X:QX}
theorem bg(h:σ a=some (.lst vs)):(PV.ref a).seen σ= .lst vs:=by show(match σ a with|some (.lst vs)=>PV.lst vs|_=> .ref a)=_;rw[h]
theorem AN{a:Nat}{ss:List (List Nat)}{n:List Nat}(h:σ a=some (.lst (ss.map .str))):kU (.str n) (.ref a) σ=some (decide (n∈ss)):=by unfold kU;rw[bg h];show(if(true&&gT (ss.map .str))=true then some _ else none)=_;rw[jN,qS];rfl
theorem pL{a:Nat}{vs:List PV}(h:σ a=some (.lst vs)):gU (.ref a) σ=some vs.length:=by unfold gU;rw[bg h];rfl
theorem Cw{a:Nat}{ss:List (List Nat)}(h:σ a=some (.lst (ss.map .str))):fK (.ref a) (.lst []) σ=some (ss.map PV.str).isEmpty:=by
 unfold fK;rw[bg h];show(if(b' (.lst (ss.map .str)) 60&&true)=true then some (dX (ss.map .str) [])else some (ss.map PV.str).isEmpty)=_;rw[show b' (.lst (ss.map .str)) 60=true from(show bd (ss.map .str) 59=true from by
  have:∀ss:List (List Nat),bd (ss.map .str) 59=true:=fun ss=>by induction ss with|nil=>rfl|cons s r b=>exact b
  exact this ss)]
 cases ss<;>rfl
theorem vV{a:Nat}{s:List Nat}{ss:List (List Nat)}(h:σ a=some (.lst ((s::ss).map .str)))(b:ss.length<=100):bl (.ref a) (.int 0) σ=some (.str s):=by unfold bl;rw[bg h];show(kY ((0:Nat):Int) _).bind _=_;rw[fW (i:=0) (n:=((s::ss).map PV.str).length) (Oh _) (by rw[Nb];exact M7 (NE b) (by decide))];rfl
theorem zh{w:Int}{p m:List Nat}(q:Q (av (eu w p m)) σ):af (d+2) (.ref 655) [.int w,.str p,.str m] σ Q X:=by
 unfold eu at q;refine aM (by decide) fun D h=>Ki (bf rfl rfl (iF (fun e=>?_) fun e=>bf rfl rfl (iF (fun a=>absurd a e) fun _=>bf rfl rfl ?_)))
 .rw[Nd e]at q;exact bf rfl rfl (iF (fun _=>bf rfl rfl (g8 h q)) fun a=>absurd e a)
 .rw[Na e]at q;exact g8 h q
theorem jO{w:Int}{p:List Nat}(q:Q (av (eu w p [])) σ):af (d+2) (.ref 655) [.int w,.str p] σ Q X:=by
 unfold eu at q;refine aM (by decide) fun D h=>Cd (bf rfl rfl (iF (fun e=>?_) fun e=>bf rfl rfl (iF (fun a=>absurd a e) fun _=>bf rfl rfl ?_)))
 .rw[Nd e]at q;exact bf rfl rfl (iF (fun _=>bf rfl rfl (g8 h q)) fun a=>absurd e a)
 .rw[Na e]at q;exact g8 h q
theorem g_(q:Q (av ⟨w,[],[]⟩) σ):af (d+2) (.ref 655) [.int w] σ Q X:=
 aM (by decide) fun D h=>Ce (bf rfl rfl (ak (b:=false) rfl (bf rfl rfl (ak (b:=false) rfl (bf rfl rfl (g8 h q))))))
theorem Cy{a:Af}(q:Q (.tup [.int a.w,.str a.p,.str a.m]) σ):af (d+1) (.ref 617) [av a] σ Q X:=JM (ah rfl (ah rfl (ah rfl (ag q))))
theorem vW(q:Q (.bool (aQ a)) σ):af (d+1) (.ref 624) [av a] σ Q X:=
 JN (ah rfl (ak (b:=a.p==[]) rfl (Ch (fun b=>Q (.bool b) σ) q ag fun q=>ah rfl (ak (b:=a.m==[]) rfl (ag q)))))
theorem KJ(q:Q (.bool (pK a)) σ):af (d+1) (.ref 631) [av a] σ Q X:=
 JO (ah rfl (ak (b:= !(a.p==[])) rfl (Ch (fun b=>Q (.bool b) σ) q ag fun q=>ah rfl (ak (b:=a.m==[]) rfl (ag q)))))
theorem Cz(q:Q (av (gz a)) σ):af (d+3) (.ref 638) [av a] σ Q X:=JP (ah rfl (ah rfl (ah rfl (zh (ag q)))))
theorem zi{P:List PV->aa->Prop}(ss:List (List Nat)):∀(acc:List (List Nat))(o v:Option PV),acc.length+ss.length<=100->P ((acc++ss.filter (·≠[])).map .str) σ->dK (fun c g K=>jc d [.cmp .NotEq (.loc 1) (.lit (.str []))] c g (fun j a=>match j with|true=>cR d (.loc 1) c a (fun v b=>K (some v) b) (fun _ _=>False)|false=>K none a) (fun _ _=>False)) [1] (ss.map .str) [o,v] (acc.map .str) σ P:=by
 induction ss with
 |nil=>intro acc o v _ p;rw[QH,NB]at p;exact p
 |cons s r h=>
  intro acc o v i p;have f:acc.length+1+r.length<=100:=by rw[Oc,Ol 1];exact i
  refine⟨_,rfl,by rw[Nb];exact Nf (M7 (Nn _ _) i) (by decide),iF (fun e=>?_) fun e=>?_⟩
  .rw[Pq (by simp[e])]at p;exact h acc o _ (M7 (M7 (NL (Oi _) _) f) (Nj _)) p
  .rw[Of (by simp[e])]at p;have z:=h (acc++[s]) o (some (.str s)) (by rw[M9];exact f) (by rw[Nk];exact p);rw[NG]at z;exact z
theorem CA{a b:Nat}{w ps ms:PV}(g:a≠b){K:QS}(ss:List (List Nat)):∀(A B:List (List Nat))(s3:Option PV),B.length+ss.length<=100->(∀s3,K none [some w,some ps,some ms,s3,some (.ref a),some (.ref b),none,none,none] ((σ.upd a (.lst ((ss.foldl dH (A,B)).1.map .str))).upd b (.lst ((ss.foldl dH (A,B)).2.map .str))))->bu (fun m σ K'=>ai d (ax y3 2) m σ K' X) [3] (ss.map .str) [some w,some ps,some ms,s3,some (.ref a),some (.ref b),none,none,none] ((σ.upd a (.lst (A.map .str))).upd b (.lst (B.map .str))) K:=by
 induction ss with
 |nil=>exact fun A B s3 _ c=>c _
 |cons s r i=>
  intro A B s3 k c;have j:((σ.upd a (.lst (A.map .str))).upd b (.lst (B.map .str))) a=some (.lst (A.map .str)):=by rw[aa.uN _ _ g,aa.uS]
  have l:((σ.upd a (.lst (A.map .str))).upd b (.lst (B.map .str))) b=some (.lst (B.map .str)):=aa.uS ..;have f:B.length+r.length+1<=100:=k;have n:dH (A,B) s=if s≠[]/\s∈A then(A.erase s,B)else if s≠[] then(A,B++[s])else(A,B):=rfl;rw[RF,n]at c;refine⟨_,rfl,iF (fun e=>?_) fun e=>ak (AN j) ?_⟩
  .rw[Na (fun z=>z.1 e),Na (fun z=>z e)]at c;exact iF (fun _=>i A B _ (Nr f) c) fun z=>absurd e z
  .by_cases h:s∈A
   .rw[Nd ⟨e,h⟩]at c;rw[NN h];refine⟨lJ j (by decide),cj j ?_⟩;show dJ (bo _) _;rw[eX];refine⟨List.contains_iff_mem.mpr h,?_⟩;rw[GV (NZ g)];exact i (A.erase s) B _ (Nr f) c
   .rw[Na (fun z=>h z.2),Nd e]at c;rw[NQ h];refine iF (fun z=>absurd z e) fun _=>⟨lJ l (by decide),cj l ⟨by rw[Nb];exact Nf (M7 (Nn _ _) k) (by decide),?_⟩⟩
    rw[aa.uU];have z:=i A (B++[s]) (some (.str s)) (by rw[M9,Qa];exact f) c;rw[NG]at z;exact z
end
theorem tT{b:Type}{o:Option b}{a:b}{K:b->Prop}(h:o=some a)(k:K a):dJ o K:=by rw[h];exact k
noncomputable def gC(a b:Int):Int:=if(decide (a<0)==decide (b<0))=false then -(Th a.natAbs b.natAbs)else Th a.natAbs b.natAbs
noncomputable def pM(s:List Nat)(a b:Int):Option Int:=
 if s=[42] then some (a*b)else if s=[47] then(if b=0 then none else some (gC a b))else if s=[37] then(if b=0 then none else some (a-b*gC a b))
 else if s=[124] then some (S6 a b)else if s=[38] then some (OH a b)else if s=[94] then some (QR a b)
 else if b<0\/63<b then none else if s=[60,60] then some (a*2^b.toNat)else some (a.fdiv (2^b.toNat))
noncomputable def cP(s:List Nat)(a b:Af):Option Af:=if s=[43] then eA a b else if s=[45] then eA a (gz b)else if(aQ a&&aQ b)=true then(pM s a.w b.w).map fun x=>⟨x,[],[]⟩ else none
noncomputable def ew(s:List Nat)(a:Af):Option Af:=if s=[45] then some (gz a)else if aQ a=true then some ⟨if s=[126] then -1-a.w else if a.w=0 then 1 else 0,[],[]⟩ else none
noncomputable def AQ(o:Option Af)(σ:aa)(Q:QV)(X:QX):Prop:=match o with
 |none=>X 1 σ
 |some a=>Q (av a) σ
noncomputable def IQ(o:Option Int)(σ:aa)(Q:QV)(X:QX):Prop:=match o with
 |none=>X 1 σ
 |some a=>Q (.int a) σ
section
variable{d:Nat}{σ:aa}{Q:QV}{X:QX}
theorem IQ.out(q:IQ o σ Q X):IQ o σ (fun v a=>a_ Q v a) (ao X):=by cases o;exact⟨_,Le.rfl,q⟩;exact ag q
theorem AQ.out(q:AQ o σ Q X):AQ o σ (fun v a=>a_ Q v a) (ao X):=by cases o;exact⟨_,Le.rfl,q⟩;exact ag q
theorem jP{a:Nat}{ss:List (List Nat)}{b:aa}(h:b a=some (.lst (ss.map .str))):eJ .NotEq (.ref a) (.lst []) b=some (!(ss.map PV.str).isEmpty):=by show(fK _ _ _).map _=_;rw[Cw h];rfl
theorem qT{c:aa}(a:Le σ c)(q:Q (av (eu w p m)) σ):af (d+2) (.ref 655) [.int w,.str p,.str m] c (fun v b=>a_ Q v b) (ao X):=zh (.val a q)
theorem CB{a b:Nat}{w:Int}{ps ms s3:PV}{f:aa}{A B:List (List Nat)}(g:f a=some (.lst (A.map .str)))(e:f b=some (.lst (B.map .str)))(c:Le σ f){s:Option PV}(q:AQ (jM w (A,B)) σ Q X):
  ai (d+2) (y3.drop 3) [some (.int w),some ps,some ms,s,some (.ref a),some (.ref b),none,none,none] f (fun o _ i=>a_ Q (o.getD .none) i) (ao X):=by
 have l:gU (.ref a) f=some A.length:=by rw[pL g,Nb]
 have m:gU (.ref b) f=some B.length:=by rw[pL e,Nb]
 unfold jM at q;refine tT l (fX (a:=1) (b:=A.length) (fun h=>?_) fun k=>tT m (fX (a:=1) (b:=B.length) (fun h=>?_) fun j=>?_))
 .rw[Nd (.inl h)]at q;exact⟨Ny _ _,.inr rfl,⟨_,_,rfl,NP _⟩,⟨σ,c,q⟩⟩
 .rw[Nd (.inr h)]at q;exact⟨Ny _ _,.inr rfl,⟨_,_,rfl,NP _⟩,⟨σ,c,q⟩⟩
 rw[Na (fun h=>h.elim (Nat.not_lt.mpr k) (Nat.not_lt.mpr j))]at q;cases A with
 |nil=>
  cases B with
  |nil=>exact ak (b:=false) (jP g) (ak (b:=false) (jP e) (qT c q))
  |cons y B=>exact ak (b:=false) (jP g) (ak (b:=true) (jP e) (ah (vV e (M7 (NO j) (by decide))) (qT c q)))
 |cons x A=>
  refine ak (b:=true) (jP g) (ah (vV g (M7 (NO k) (by decide))) ?_);cases B with
  |nil=>exact ak (b:=false) (jP e) (qT c q)
  |cons y B=>exact ak (b:=true) (jP e) (ah (vV e (M7 (NO j) (by decide))) (qT c q))
theorem KM{w:Int}{ps ms:List (List Nat)}(h:ps.length<=100)(i:ms.length<=100)(q:AQ (AM w ps ms) σ Q X):af (d+3) (.ref 664) [.int w,.lst (ps.map .str),.lst (ms.map .str)] σ Q X:=by
 refine JR ⟨_,rfl,zi ps [] _ _ (by rw[Oa,N7];exact h) fun a j b f=>?_⟩;have e:b≠a:=fun e=>by rw[e,aa.uS]at f;exact bb f
 rw[aa.uN _ _ e]at f;have z:=CA (d:=d+2) (X:=ao X) (w:= .int w) (ps:= .lst (ps.map .str)) (ms:= .lst (ms.map .str)) (σ:=σ) (NZ e) (K:=fun o g c=>match o with|some v=>a_ Q v c|none=>ai (d+2) (y3.drop 3) g c (fun o _ c=>a_ Q (o.getD .none) c) (ao X)) ms (ps.filter (·≠[])) [] none (by rw[Oa,N7];exact i) (fun s3=>CB (s3:= .none) (by rw[aa.uN _ _ (NZ e),aa.uS]) (aa.uS ..) (GW j f) q);exact⟨_,rfl,z⟩
theorem zj(q:AQ (eA a b) σ Q X):af (d+4) (.ref 645) [av a,av b] σ Q X:=
 JQ (ah rfl (ah rfl (ah rfl (ah rfl (ah rfl (ah rfl (KM (ps:=[a.p,b.p]) (ms:=[a.m,b.m]) (No rfl) (No rfl) q.out)))))))
theorem FH(c:small b)(q:IQ (if b=0 then none else some (gC a b)) σ Q X):af (d+2) (.ref 714) [.int a,.int b] σ Q X:=by
 refine JV (Cj (fun e=>?_) fun e=>?_)
 .rw[Nd e]at q;exact lL q
 rw[Na e]at q;have nz:((b.natAbs:Nat):Int)≠0:=fun z=>e (Int.natAbs_eq_zero.mp (Pv z));have f:small (b.natAbs:Int):=by unfold small Pi at c⊢;simpa using c
 have q:Q (.int (gC a b)) σ:=q;unfold gC at q;refine ak rfl (ak rfl (fF (b:= !(decide (a<0)==decide (b<0))) (fun h=>?_) fun h=>?_))
 .rw[Nd (by cases z:(decide (a<0)==decide (b<0));rfl;rw[z]at h;exact aK h)]at q;exact⟨nz,f,ag q⟩
 .rw[Na (by cases z:(decide (a<0)==decide (b<0));rw[z]at h;exact df h;decide)]at q;exact⟨nz,f,ag q⟩
theorem KN{s:List Nat}{a b:Int}(f:small a)(q:IQ (if b<0\/63<b then none else if s=[60,60] then some (a*2^b.toNat)else some (a.fdiv (2^b.toNat))) σ Q X):af (d+2) (.ref 721) [.str s,.int a,.int b] σ Q X:=by
 refine JW (iT (p:=b<0) (fun h=>?_) fun c=>iT (p:=(63:Int)<b) (fun h=>?_) fun e=>?_)
 .rw[Nd (.inl h)]at q;exact lL q
 .rw[Nd (.inr h)]at q;exact lL q
 rw[Na (fun h=>h.elim c e)]at q;have h0:0<=b:=Int.not_lt.mp c;refine eV (fun h=>?_) fun h=>?_
 .rw[Nd h]at q;exact⟨h0,O4 (Int.not_lt.mp e) (by decide),f,ag q⟩
 .rw[Na h]at q;exact⟨h0,ag q⟩
theorem KO(f:small a)(c:small b)(g:small (gC a b))(q:IQ (pM s a b) σ Q X):af (d+3) (.ref 728) [.str s,.int a,.int b] σ Q X:=by
 unfold pM at q;refine JX (eV (fun h=>?_) fun h=>?_)
 .rw[Nd h]at q;exact⟨f,c,ag q⟩
 rw[Na h]at q;refine eV (fun h=>?_) fun h=>?_
 .rw[Nd h]at q;exact FH c q.out
 rw[Na h]at q;refine eV (fun h=>?_) fun h=>?_
 .rw[Nd h]at q;refine FH c ?_;by_cases e:b=0
  .rw[Nd e]at q⊢;exact⟨_,Le.rfl,q⟩
  .rw[Na e]at q⊢;exact⟨c,g,ag q⟩
 rw[Na h]at q;refine eV (fun h=>?_) fun h=>?_
 .rw[Nd h]at q;exact ag q
 rw[Na h]at q;refine eV (fun h=>?_) fun h=>?_
 .rw[Nd h]at q;exact ag q
 rw[Na h]at q;refine eV (fun h=>?_) fun h=>?_
 .rw[Nd h]at q;exact ag q
 rw[Na h]at q;exact KN f q.out
theorem KP{s:List Nat}{a b:Af}(hs:s.length<=2)(j:small a.w)(k:small b.w)(l:small (gC a.w b.w))(q:AQ (cP s a b) σ Q X):af (d+5) (.ref 735) [.str s,av a,av b] σ Q X:=by
 unfold cP at q;refine JY (eV (fun h=>?_) fun h=>?_)
 .rw[Nd h]at q;exact⟨rfl,⟨_,rfl,zj q.out⟩⟩
 rw[Na h]at q;refine eV (fun h=>?_) fun h=>?_
 .rw[Nd h]at q;exact⟨rfl,⟨rfl,⟨_,rfl,Cz ⟨_,rfl,zj q.out⟩⟩⟩⟩
 rw[Na h]at q;have i:(aQ a&&aQ b)=false->1<=d+4/\(99=87\/99=99)/\(∃m r',[PV.str ([110,111,32,110,117,109,98,101,114,32,98,101,115,105,100,101,32]++s)]= .str m::r'/\r'.length<=1)/\ao X (eq 99) σ:=fun e=>by rw[Na (by rw[e];decide)]at q;exact lL q
 have c:([110,111,32,110,117,109,98,101,114,32,98,101,115,105,100,101,32]:List Nat).length+s.length<=aV:=M7 (NM hs _) (No rfl);refine⟨rfl,⟨_,rfl,vW (fF (b:=aQ a) (fun f=>⟨rfl,⟨_,rfl,vW (fF (b:=aQ b) (fun g=>?_) fun g=>⟨c,i (by rw[g,S9])⟩)⟩⟩) fun f=>⟨c,i (by rw[f];rfl)⟩)⟩⟩;rw[Nd (by rw[f,g];rfl)]at q;refine ah rfl (ah rfl (KO j k l ?_));cases e:pM s a.w b.w with
 |none=>rw[e]at q;exact⟨_,Le.rfl,q⟩
 |some x=>rw[e]at q;exact g_ (ag q)
theorem KQ{s:List Nat}{a:Af}(hs:s.length<=2)(q:AQ (ew s a) σ Q X):af (d+5) (.ref 742) [.str s,av a] σ Q X:=by
 unfold ew at q;refine JZ (eV (fun h=>?_) fun h=>?_)
 .rw[Nd h]at q;exact⟨rfl,⟨_,rfl,Cz (ag q)⟩⟩
 rw[Na h]at q;refine⟨rfl,⟨_,rfl,vW (fF (b:=aQ a) (fun c=>?_) fun c=>?_)⟩⟩
 .rw[Nd c]at q;refine eV (fun h=>ah rfl ?_) fun h=>ah rfl (Cj (fun e=>?_) fun e=>?_)
  .rw[Nd h]at q;exact g_ (ag q)
  .rw[Na h,Nd e]at q;exact g_ (ag q)
  .rw[Na h,Na e]at q;exact g_ (ag q)
 .rw[Na (by rw[c];decide)]at q;exact⟨M7 (NM hs _) (No rfl),lL q⟩
end
noncomputable abbrev xm:=List (List Nat×Af)
noncomputable def dv(E:xm):List (List Nat×PV):=E.map fun x=>(x.1,av x.2)
noncomputable def xn(E:xm)(n:List Nat):Option Af:=(E.find? fun x=>x.1=n).map (·.2)
theorem vX(n:List Nat)(E:xm):i' (dv E) n=(xn E n).map av:=by
 induction E with
 |nil=>rfl
 |cons x E a=>
  unfold i' xn at a⊢;show((Ue _ ((x.1,av x.2)::dv E)).map _)=_;by_cases h:x.1=n
  .rw[Og (by simpa using h),Og (by simpa using h)];rfl
  .rw[N8 (by simpa using h),N8 (by simpa using h)];exact a
noncomputable def fH(E:xm):Nat->Af->Option Af
 |n,a=>match xn E a.p with
  |some b=>(match n with|0=>none|n+1=>(eA (eu a.w [] a.m) b).bind (fH E n))
  |none=>match xn E a.m with
   |some b=>(match n with|0=>none|n+1=>(eA (eu a.w a.p []) (gz b)).bind (fH E n))
   |none=>some a
noncomputable def bG(E:xm)(here:List Nat):Tr->Option Af
 |.num n=>some ⟨n,[],[]⟩
 |.name s=>fH E (E.length*(E.length+2)) (eu 0 s [])
 |.here=>if here=[] then none else some (eu 0 here [])
 |.un s b=>(bG E here b).bind (ew s)
 |.bin s l r=>(bG E here l).bind fun a=>(bG E here r).bind (cP s a)
noncomputable def nQ(f:Tr->Option Af):Tr->Prop
 |.bin s l r=>nQ f l/\nQ f r/\s.length<=2/\∀a b,f l=some a->f r=some b->small a.w/\small b.w/\small (gC a.w b.w)
 |.un s b=>nQ f b/\s.length<=2
 |_=>True
section
variable{d:Nat}{σ:aa}{Q:QV}{X:QX}{e:Nat}{E:xm}
theorem ef(h:σ e=some (.dct kvs)):fP σ (.ref e)=some (e,kvs):=by show(match σ e with|some (.dct kvs)=>some (e,kvs)|_=>none)=_;rw[h]
theorem kJ(h:σ e=some (.dct kvs)):(PV.ref e).seen σ= .ref e:=by show(match σ e with|some (.lst vs)=>PV.lst vs|_=> .ref e)=_;rw[h]
theorem DV(h:σ e=some (.dct (dv E))):kU (.str n) (.ref e) σ=some (xn E n).isSome:=by unfold kU;rw[kJ h];show(fP σ (.ref e)).map _=_;rw[ef h];show some (i' (dv E) n).isSome=_;rw[vX,Option.isSome_map]
theorem KR{kvs:List (List Nat×PV)}(h:σ e=some (.dct kvs)):gU (.ref e) σ=some kvs.length:=by unfold gU;rw[kJ h];show(fP σ (.ref e)).map _=_;rw[ef h];rfl
theorem FJ(h:σ e=some (.dct (dv E)))(k:xn E n=some a):bl (.ref e) (.str n) σ=some (av a):=by unfold bl;rw[kJ h];show(fP σ (.ref e)).bind _=_;rw[ef h];show i' (dv E) n=_;rw[vX,k];rfl
theorem FK(q:∀a,σ a=none->Q (.obj 703 [.ref a]) (σ.upd a (.dct []))):af (d+2) (.ref 703) [] σ Q X:=
 aM (by decide) fun D h=>Cf ⟨true,rfl,⟨rfl,Q6,fun a b=>by
  have e:a≠D:=fun e=>by rw[e,aa.uS]at b;exact bb b
  rw[Fp (NZ e)];rw[aa.uN _ _ e]at b;have h':(σ.upd a (.dct [])) D=none:=by rw[aa.uN _ _ (NZ e)];exact h
  exact bf rfl rfl (g8 h' (q a b))⟩⟩
theorem KS{n:List Nat}{v:PV}{kvs:List (List Nat×PV)}(h:σ e=some (.dct kvs))(a:kvs.length<=100)(q:Q .none (σ.upd e (.dct (rP kvs n v)))):af (d+1) (.ref 686) [.obj 703 [.ref e],.str n,v] σ Q X:=by refine JS (ah rfl ?_);show(match σ e with|some (.dct kvs)=>_|_=>False);rw[h];exact⟨Nf a (by decide),ag q⟩
theorem CD(g:σ e=some (.dct (dv E))):∀(n:Nat)(a:Af),AQ (fH E n a) σ Q X->
  bE (fun k σ K'=>fQ (d+4) (cx y4 2) k σ K' (ao X)) (fun k σ K'=>ai (d+4) (ax y4 2) k σ K' (ao X)) (n+1) [some (.obj 703 [.ref e]),some t,some (.int n),some (av a),none,none,none] σ
   (fun o l f=>match o with|some v=>a_ Q v f|none=>ai (d+4) (y4.drop 3) l f (fun o _ f=>a_ Q (o.getD .none) f) (ao X)):=by
 intro n;induction n with
 |zero=>
  intro a q;unfold fH at q;refine ah rfl (ah rfl (ak (DV g) ?_));cases h:xn E a.p with
  |some b=>rw[h]at q;exact ak (b:=true) rfl (lL q)
  |none=>
   rw[h]at q;refine ah rfl (ah rfl (ak (DV g) ?_));cases i:xn E a.m with
   |some b=>rw[i]at q;exact ak (b:=true) rfl (lL q)
   |none=>rw[i]at q;exact ag q
 |succ n r=>
  intro a q;unfold fH at q;have s:((n+1:Nat):Int)-1=n:=Qe (n:Int) 1;refine ah rfl (ah rfl (ak (DV g) ?_));cases h:xn E a.p with
  |some b=>
   rw[h]at q;refine ak (b:=false) rfl (ah rfl (ah rfl (ak (b:=true) (by show kU _ _ _=_;rw[DV g,h];rfl) (ah rfl (ah rfl (zh ⟨rfl,ah rfl (ah rfl (ah (FJ g h) ⟨_,rfl,zj ?_⟩))⟩))))));have q:AQ ((eA (eu a.w [] a.m) b).bind (fH E n)) σ Q X:=q;cases j:eA (eu a.w [] a.m) b with
   |none=>rw[j]at q;exact⟨_,Le.rfl,q⟩
   |some c=>rw[j]at q;have z:=r c q;rw[←s]at z;exact z
  |none=>
   rw[h]at q;refine ah rfl (ah rfl (ak (DV g) ?_));cases i:xn E a.m with
   |some b=>
    rw[i]at q;refine ak (b:=false) rfl (ah rfl (ah rfl (ak (b:=false) (by show kU _ _ _=_;rw[DV g,h];rfl) (ah rfl (ah rfl (jO ⟨rfl,ah rfl (ah rfl (ah (FJ g i) ⟨rfl,⟨_,rfl,Cz ⟨_,rfl,zj ?_⟩⟩⟩))⟩))))));have q:AQ ((eA (eu a.w a.p []) (gz b)).bind (fH E n)) σ Q X:=q;cases j:eA (eu a.w a.p []) (gz b)with
    |none=>rw[j]at q;exact⟨_,Le.rfl,q⟩
    |some c=>rw[j]at q;have z:=r c q;rw[←s]at z;exact z
   |none=>rw[i]at q;exact ag q
theorem KT(b:σ e=some (.dct (dv E)))(c:E.length<=100)(q:AQ (fH E (E.length*(E.length+2)) a) σ Q X):af (d+5) (.ref 700) [.obj 703 [.ref e],av a] σ Q X:=by
 have f:gU (.ref e) σ=some E.length:=by rw[KR b];exact Nw some (Nb ..)
 exact JU (ah rfl (tT f (ah rfl (tT f ⟨aF (n:=7) (Nf c (by decide)) (by decide),aF (n:=7) (Nf (NL c 2) (by decide)) (by decide),⟨_,CD b _ a q⟩⟩))))
theorem KU(a:σ e=some (.dct (dv E)))(b:E.length<=100)(q:AQ (fH E (E.length*(E.length+2)) (eu 0 s [])) σ Q X):af (d+6) (.ref 693) [.obj 703 [.ref e],.str s] σ Q X:=
 JT ⟨rfl,jO ⟨_,rfl,KT a b q.out⟩⟩
end
section
variable{σ:aa}{e:Nat}{E:xm}{here:List Nat}
noncomputable abbrev KW(d:Nat)(σ:aa)(e:Nat)(E:xm)(here:List Nat)(t:Tr):Prop:=∀{Q:QV}{X:QX},AQ (bG E here t) σ Q X->af d (.ref 750) [tv t,.obj 703 [.ref e],.str here] σ Q X
theorem kK{f:Tr->Option Af}:∀{t:Tr},nQ f t->nQ f (aX t)
 |.num _,h|.name _,h|.here,h|.un _ _,h=>h
 |.bin _ l _,h=>kK (t:=l) h.1
theorem KX{d:Nat}{N I W:PV}{X:QX}(t:Tr)(H:∀j,sz j<sz t->nQ (bG E here) j->KW (d+5) σ e E here j):∀(u:Tr)(a:Af)(K:QS)(h:Option PV),sz u<=sz t->nQ (bG E here) u->bG E here (aX u)=some a->
  (match bG E here u with|none=>X 1 σ|some b=>∀h,K none [some N,some (.obj 703 [.ref e]),some (.str here),some I,some W,some (av b),h,none,none,none,none,none,none] σ)->
  bu (fun v σ K'=>ai (d+5) (ax tz 2) v σ K' (ao X)) [6] ((dA u).map tv) [some N,some (.obj 703 [.ref e]),some (.str here),some I,some W,some (av a),h,none,none,none,none,none,none] σ K:=by
 intro u;induction u with
 |bin s l r w _=>
  intro a K h o i g f;show bu _ _ ((dA l++[Tr.bin s l r]).map tv) _ _ _;rw[NG,gw];have p:sz l+sz r<sz (.bin s l r):=NX _;refine w a _ _ (M7 (M7 (Nn _ _) (NW p)) o) i.1 g ?_;have y:bG E here (.bin s l r)=(bG E here l).bind fun a=>(bG E here r).bind (cP s a):=rfl;rw[y]at f;cases m:bG E here l with
  |none=>rw[m]at f;exact f
  |some b=>
   rw[m]at f;refine fun h=>⟨_,rfl,ah rfl (ah rfl (H r (Nv (Nf (Ny _ _) p) o) i.2.1 ?_))⟩
   cases n:bG E here r with
   |none=>rw[n]at f;exact⟨_,Le.rfl,f⟩
   |some c=>
    rw[n]at f;have f:(match cP s b c with|none=>X 1 σ|some b=>∀h,K none [some N,some (.obj 703 [.ref e]),some (.str here),some I,some W,some (av b),h,none,none,none,none,none,none] σ):=f;apply bc;intro z;obtain⟨s1,s2,s3⟩:=i.2.2.2 b c m n;apply z;refine KP i.2.2.1 s1 s2 s3 ?_;cases q:cP s b c with
    |none=>rw[q]at f;exact⟨_,Le.rfl,f⟩
    |some x=>rw[q]at f;exact f _
 |num k=>exact fun a K h _ _ g f=>by change bG E here (.num k)=some a at g;rw[g]at f;exact f _
 |name k=>exact fun a K h _ _ g f=>by change bG E here (.name k)=some a at g;rw[g]at f;exact f _
 |here=>exact fun a K h _ _ g f=>by change bG E here .here=some a at g;rw[g]at f;exact f _
 |un k b _=>exact fun a K h _ _ g f=>by change bG E here (.un k b)=some a at g;rw[g]at f;exact f _
theorem qU(z:σ e=some (.dct (dv E)))(A:E.length<=100){n:Nat}{t:Tr}(C:sz t<=n+1)(D:n<2000)(H:∀p,sz p<sz t->nQ (bG E here) p->KW (n+8) σ e E here p)(w:nQ (bG E here) t){Q:QV}{X:QX}(q:AQ (bG E here t) σ Q X):
  ai (n+8) tz (pG (tv t) (.obj 703 [.ref e]) (.str here)) σ (fun o _ m=>a_ Q (o.getD .none) m) (ao X):=by
 refine zg (M7 C D) ⟨_,_,rfl,rfl,?_⟩;have f:=kK w;have g:∀a,bG E here (aX t)=some a->ai (n+8) (tz.drop 2) [some (tv t),some (.obj 703 [.ref e]),some (.str here),some (tv (aX t)),some (.lst ((dA t).map tv)),some (av a),none,none,none,none,none,none,none] σ (fun o _ m=>a_ Q (o.getD .none) m) (ao X):=fun a F=>by
  refine⟨_,rfl,KX (d:=n+3) t H t a _ _ (Nj _) w F ?_⟩;cases h:bG E here t with
  |none=>rw[h]at q;exact q
  |some b=>rw[h]at q;exact fun K=>ag q
 have i:bG E here (aX t)=none->X 1 σ:=fun h=>by
  have:∀u:Tr,bG E here (aX u)=none->bG E here u=none:=fun u=>by
   induction u with
   |bin s l r v _=>intro h;have:bG E here l=none:=v h;show(bG E here l).bind _=none;rw[this];rfl
   |_=>exact fun h=>h
  rw[this t h]at q;exact q
 have hs:sz (aX t)<=sz t:=gy t;revert g i f hs;generalize hi:aX t=u;cases u with
 |num k=>exact fun f g i hs=>ah rfl (ak (b:=true) rfl (ah rfl (g_ (g _ rfl))))
 |name k=>
  intro f g i hs;refine ah rfl (ak (b:=false) rfl (ah rfl (ak (b:=true) rfl ⟨rfl,ah rfl ⟨_,rfl,KU z A ?_⟩⟩)));have j:bG E here (.name k)=fH E (E.length*(E.length+2)) (eu 0 k []):=rfl;cases h:fH E (E.length*(E.length+2)) (eu 0 k [])with
  |none=>exact⟨_,Le.rfl,i (j.trans h)⟩
  |some b=>exact g b (j.trans h)
 |here=>intro f g i hs;have j:bG E here .here=if here=[] then none else some (eu 0 here []):=rfl;refine ah rfl (ak (b:=false) rfl (ah rfl (ak (b:=false) rfl (ah rfl (ak (b:=false) rfl (eV (fun h=>lL (i (j.trans (Nd h)))) fun h=>jO (g _ (j.trans (Na h)))))))))
 |un s b=>
  intro f g i hs;refine ah rfl (ak (b:=false) rfl (ah rfl (ak (b:=false) rfl (ah rfl (ak (b:=true) rfl (ah rfl (ah rfl (H b (Nv (NX _) hs) f.1 ?_))))))));have j:bG E here (.un s b)=(bG E here b).bind (ew s):=rfl;cases h:bG E here b with
  |none=>exact⟨_,Le.rfl,i (by rw[j,h];rfl)⟩
  |some c=>
   refine KQ f.2 ?_;cases y:ew s c with
   |none=>exact⟨_,Le.rfl,i (by rw[j,h];exact y)⟩
   |some x=>exact g x (by rw[j,h];exact y)
 |bin s l r=>
  intro f g i hs;have:∀u:Tr,∀s l r,aX u≠.bin s l r:=fun u=>by
   induction u with
   |bin s l r v _=>exact v
   |_=>exact fun s l r h=>Tr.noConfusion h
  exact absurd hi (this t s l r)
theorem vY(c:σ e=some (.dct (dv E)))(d:E.length<=100)(n:Nat):∀(t:Tr),sz t<=n->n<=2000->nQ (bG E here) t->KW (n+8) σ e E here t:=by
 induction n with
 |zero=>exact fun t h _ _ _ _ _=>absurd (dn t) (Nat.not_lt.mpr h)
 |succ n ih=>exact fun t h f g Q X q=>Kj (qU c d h f (fun i a b=>ih i (Pl (Nv a h)) (Nr f) b) g q)
theorem vZ(c:σ e=some (.dct (dv E)))(d:E.length<=100)(h:sz t<=n)(f:n<=2000)(g:nQ (bG E []) t){Q:QV}{X:QX}(q:AQ (bG E [] t) σ Q X):af (n+8) (.ref 750) [tv t,.obj 703 [.ref e]] σ Q X:=by
 match n,h with
 |0,h=>exact absurd (dn t) (Nat.not_lt.mpr h)
 |n+1,h=>exact Cg (qU (here:=[]) c d h f (fun i a b=>vY c d n i (Pl (Nv a h)) (Nr f) b) g q)
theorem KY(f:σ e=some (.dct (dv E)))(g:E.length<=100)(h:sz t<=n)(i:n<=2000)(j:nQ (bG E []) t){Q:QV}{X:QX}(q:IQ ((bG E [] t).bind fun a=>if aQ a=true then some a.w else none) σ Q X):af (n+9) (.ref 757) [tv t,.obj 703 [.ref e]] σ Q X:=by
 refine J0 (vZ f g h i j ?_);cases d:bG E [] t with
 |none=>rw[d]at q;exact⟨_,Le.rfl,q⟩
 |some a=>
  rw[d]at q;have q:IQ (if aQ a=true then some a.w else none) σ Q X:=q;refine⟨rfl,⟨_,rfl,vW (fF (b:=aQ a) (fun c=>?_) fun c=>?_)⟩⟩
  .rw[Nd c]at q;exact ah rfl (ag q)
  .rw[Na (by rw[c];decide)]at q;exact lL q
end
noncomputable def aN:Tr->Nat
 |.bin s _ _=>ae s
 |_=>4
noncomputable def bx(b:Bool)(x:List Nat):List Nat:=if b=true then [40]++x++[41] else x
noncomputable def cQ:Tr->List Nat
 |.num n=>aE n
 |.name s=>s
 |.here=>[46]
 |.un s b=>s++bx (decide (aN b<4)) (cQ b)
 |.bin s l r=>bx (decide (aN l<ae s)) (cQ l)++[32]++s++[32]++bx (decide (aN r<ae s+1)) (cQ r)
noncomputable def iG:Tr->Prop
 |.num n=> -(2^64)<n/\n<2^64/\e' (aE n)
 |.un _ b=>iG b
 |.bin _ l r=>iG l/\iG r
 |_=>True
theorem au(s:List Nat):ae s<=3:=by unfold ae;split;decide;split;decide;split<;>decide
noncomputable abbrev mx:Nat:=1000000
theorem lM{x y:List Nat}(h:(x++y).length<=mx):x.length+y.length<=aV:=by rw[M9]at h;exact M7 h (by decide)
theorem bK{x y:List Nat}(h:(x++y).length<=mx):x.length<=mx:=by rw[M9]at h;exact M7 (Nn _ _) h
theorem pN{x y:List Nat}(h:(x++y).length<=mx):y.length<=mx:=by rw[M9]at h;exact M7 (Ny _ _) h
theorem v_{b:Bool}{x:List Nat}(h:(bx b x).length<=mx):x.length<=mx:=by
 cases b
 .exact h
 .exact pN (bK (x:=[40]++x) h)
section
variable{σ:aa}{Q:QV}{X:QX}
noncomputable abbrev FL(d:Nat)(σ:aa)(t:Tr):Prop:=∀{Q:QV}{X:QX},Q (.str (cQ t)) σ->af d (.ref 778) [tv t] σ Q X
theorem CE(f:k<=4)(e:(bx (decide (aN t<k)) (cQ t)).length<=mx)(H:FL (d+1) σ t)(q:Q (.str (bx (decide (aN t<k)) (cQ t))) σ):af (d+2) (.ref 764) [tv t,.int k] σ Q X:=by
 have c:aN t=4->Q (.str (cQ t)) σ:=fun h=>by rw[h,NQ (Nat.not_lt.mpr f)]at q;exact q
 cases t with
 |bin s l r=>
  refine vK (ah rfl (ak (b:=true) rfl (ah rfl (Cs (fX (a:=ae s) (b:=k) (fun h=>?_) fun h=>?_)))))
  .rw[show aN (.bin s l r)=ae s from rfl,NN h]at q e;exact H ⟨lM (bK (x:=[40]++cQ (.bin s l r)) e),lM e,ag q⟩
  .rw[show aN (.bin s l r)=ae s from rfl,NQ (Nat.not_lt.mpr h)]at q;exact H (ag q)
 |num=>exact vK (ah rfl (ak (b:=false) rfl (H (ag (c rfl)))))
 |name=>exact vK (ah rfl (ak (b:=false) rfl (H (ag (c rfl)))))
 |here=>exact vK (ah rfl (ak (b:=false) rfl (H (ag (c rfl)))))
 |un=>exact vK (ah rfl (ak (b:=false) rfl (H (ag (c rfl)))))
theorem KZ(h:aN t=4)(hi:aX t=t)(a:iG t)(e:(cQ t).length<=mx)(H:∀c,sz c<sz t->iG c->(cQ c).length<=mx->FL (d+1) σ c)(q:Q (.str (cQ t)) σ):af (d+3) (.ref 771) [tv t] σ Q X:=by
 cases t with
 |num n=>exact y8 (ah rfl (ak (b:=true) rfl (ah rfl ⟨a.1,a.2.1,a.2.2,ag q⟩)))
 |name n=>exact y8 (ah rfl (ak (b:=false) rfl (ah rfl (ak (b:=true) rfl (ah rfl (ag q))))))
 |here=>exact y8 (ah rfl (ak (b:=false) rfl (ah rfl (ak (b:=false) rfl (ah rfl (ak (b:=true) rfl (ag q)))))))
 |un s b=>exact y8 (ah rfl (ak (b:=false) rfl (ah rfl (ak (b:=false) rfl (ah rfl (ak (b:=false) rfl (ah rfl (ah rfl (CE (k:=4) (Nj 4) (pN e) (H b (NX _) a (v_ (pN e))) ⟨lM e,ag q⟩)))))))))
 |bin s l r=>exact absurd (show ae s=4 from h) (N4 (Oz (au s)))
theorem FM{d:Nat}{N I W:PV}(t:Tr)(H:∀i,sz i<sz t->iG i->(cQ i).length<=mx->FL (d+1) σ i):∀(u:Tr)(K:QS)(e f:Option PV),sz u<=sz t->iG u->(cQ u).length<=mx->
  (∀e f,K none [some N,some I,some W,some (.str (cQ u)),some (.int (aN u)),e,f,none,none,none,none] σ)->
  bu (fun o σ K'=>ai (d+2) (ax E0 3) o σ K' (ao X)) [5] ((dA u).map tv) [some N,some I,some W,some (.str (cQ (aX u))),some (.int 4),e,f,none,none,none,none] σ K:=by
 intro u;induction u with
 |bin s l r p _=>
  intro K e f j m c g;show bu _ _ ((dA l++[Tr.bin s l r]).map tv) _ _ _;rw[NG,gw];have n:sz l+sz r<sz (.bin s l r):=NX _;have c:(bx (decide (aN l<ae s)) (cQ l)++[32]++s++[32]++bx (decide (aN r<ae s+1)) (cQ r)).length<=mx:=c;have g:∀e f,K none [some N,some I,some W,some (.str (bx (decide (aN l<ae s)) (cQ l)++[32]++s++[32]++bx (decide (aN r<ae s+1)) (cQ r))),some (.int (ae s)),e,f,none,none,none,none] σ:=g;refine p _ _ _ (M7 (M7 (Nn _ _) (NW n)) j) m.1 (v_ (bK (bK (bK (bK c))))) fun e f=>⟨_,rfl,ah rfl (Cs (fX (a:=aN l) (b:=ae s) (fun h=>?_) fun h=>?_))⟩
  .rw[NN h]at c g;have b:=bK (bK (bK (bK c)));exact⟨lM (bK (x:=[40]++cQ l) b),lM (x:=[40]++cQ l) b,lM (bK (bK (bK c))),ah rfl ⟨lM (bK (bK c)),lM (bK c),ah rfl (CE (k:=ae s+1) (NE (au s)) (pN c) (H r (Nv (Nf (Ny _ _) n) j) m.2 (v_ (pN c))) ⟨lM c,g _ _⟩)⟩⟩
  .rw[NQ (Nat.not_lt.mpr h)]at c g;exact⟨lM (bK (bK (bK c))),ah rfl ⟨lM (bK (bK c)),lM (bK c),ah rfl (CE (k:=ae s+1) (NE (au s)) (pN c) (H r (Nv (Nf (Ny _ _) n) j) m.2 (v_ (pN c))) ⟨lM c,g _ _⟩)⟩⟩
 |_=>exact fun K e f _ _ _ g=>g _ _
theorem v'(t:Tr):aN (aX t)=4/\aX (aX t)=aX t/\(iG t->iG (aX t))/\((cQ t).length<=mx->(cQ (aX t)).length<=mx):=by
 induction t with
 |num _=>exact⟨rfl,rfl,id,id⟩
 |name _=>exact⟨rfl,rfl,id,id⟩
 |here=>exact⟨rfl,rfl,id,id⟩
 |un _ _ d=>exact⟨rfl,rfl,id,id⟩
 |bin s l r d f=>apply bc;intro g;obtain⟨a,b,c,e⟩:=d;apply g;exact⟨a,b,fun h=>c h.1,fun h=>e (v_ (bK (bK (bK (bK (y:=bx (decide (aN r<ae s+1)) (cQ r)) h)))))⟩
theorem CF(n:Nat):∀(t:Tr),sz t<=n->n<=2000->iG t->(cQ t).length<=mx->∀k,FL (k+(3*n+2)) σ t:=by
 induction n with
 |zero=>exact fun t h _ _ _ _ _ _ _=>absurd (dn t) (Nat.not_lt.mpr h)
 |succ n i=>
  intro t h g j l k Q X q;apply bc;intro o;obtain⟨p,r,s,u⟩:=v' t;apply o;have e:k+(3*n+3)=k+1+(3*n+2):=by rw[Qa];rfl
  have m:∀{a:Tr},sz a<sz t->sz a<=n:=fun v=>Pl (Nv v h);exact J1 (zg (M7 h g) ⟨_,_,rfl,rfl,KZ (d:=k+(3*n+1)) p r (s j) (u l) (fun a b c f=>i a (m (Nv b (gy t))) (Nr g) c f k)
   ⟨_,rfl,FM (d:=k+(3*n+2)) t (fun a b c f=>by
    have z:FL (k+1+(3*n+2)) σ a:=i a (m b) (Nr g) c f (k+1);rw[←e]at z;exact @z) t _ _ _ (Nj _) j l fun w x=>ag q⟩⟩)
end
noncomputable def jQ:Tr->List (List Nat)
 |.name s=>[s]
 |.un _ b=>jQ b
 |.bin _ l r=>jQ l++jQ r
 |_=>[]
noncomputable def hh:Tr->Bool
 |.here=>true
 |.un _ b=>hh b
 |.bin _ l r=>hh l||hh r
 |_=>false
noncomputable def ke(S:List Tr):Nat:=(S.map sz).sum
theorem zk(S:List Tr):S.length<=ke S:=by
 induction S with
 |nil=>exact Nj _
 |cons t S a=>have e:ke (t::S)=sz t+ke S:=rfl;rw[e,Nz,Ol];exact Od (dn t) (a)
theorem bM(S:List Tr)(t:Tr):ke (S++[t])=ke S+sz t:=by unfold ke;rw[NG,List.sum_append];rfl
section
variable{σ:aa}{Q:QV}{X:QX}
theorem K_{d:Nat}{N I W:PV}(t:Tr)(H:∀f,sz f<sz t->∀{Q:QV}{X:QX},Q (.bool (hh f)) σ->af d (.ref 799) [tv f] σ Q X):∀(u:Tr)(K:QS)(s3:Option PV),sz u<=sz t->hh (aX u)=false->
  (hh u=true->∀h,K (some (.bool true)) h σ)->(hh u=false->∀s3,K none [some N,some I,some W,s3,none,none] σ)->
  bu (fun h σ K'=>ai d (ax B9 2) h σ K' X) [3] ((dA u).map tv) [some N,some I,some W,s3,none,none] σ K:=by
 intro u;induction u with
 |bin s l r m _=>
  intro K s3 i hi c a;show bu _ _ ((dA l++[Tr.bin s l r]).map tv) _ _ _;rw[NG,gw];have j:sz l+sz r<sz (.bin s l r):=NX _;have e:hh (.bin s l r)=(hh l||hh r):=rfl;rw[e]at c a;exact m _ _ (M7 (M7 (Nn _ _) (NW j)) i) hi (fun z=>c (by rw[z];rfl)) fun z s3=>
   ⟨_,rfl,ah rfl (H r (Nv (Nf (Ny _ _) j) i) (fF (b:=hh r) (fun g=>c (by rw[z,g];rfl) _) fun g=>a (by rw[z,g];rfl) _))⟩
 |num k=>exact fun K s3 _ hi c a=>a hi _
 |name k=>exact fun K s3 _ hi c a=>a hi _
 |here=>exact fun K s3 _ hi c a=>a hi _
 |un k b=>exact fun K s3 _ hi c a=>a hi _
theorem FN{t:Tr}(h:hh (aX t)=true):hh t=true:=by
 induction t with
 |bin s l r a _=>show(hh l||hh r)=true;rw[a h];rfl
 |_=>exact h
theorem FO(u:Tr){s:List Nat}{l r:Tr}:aX u≠.bin s l r:=by
 induction u with
 |bin s l r a _=>exact a
 |_=>exact fun h=>nomatch h
theorem CG(n:Nat)(m:n<=2000):∀{t:Tr}{Q:QV}{X:QX},sz t<=n->Q (.bool (hh t)) σ->af (n+1) (.ref 799) [tv t] σ Q X:=by
 induction n with
 |zero=>exact fun{t _ _} h _=>absurd (dn t) (Nat.not_lt.mpr h)
 |succ n p=>
  intro t Q X h q;have H:∀f,sz f<sz t->∀{Q:QV}{X:QX},Q (.bool (hh f)) σ->af (n+1) (.ref 799) [tv f] σ Q X:=fun f i=>p (Nr m) (Pl (Nv i h));have a:hh (aX t)=true->a_ Q (.bool true) σ:=fun e=>by rw[FN e]at q;exact ag q
  refine J4 (zg (M7 h m) ⟨_,_,rfl,rfl,?_⟩);have d:=fun e=>K_ (N:=tv t) (I:=tv (aX t)) (W:= .lst ((dA t).map tv)) (X:=ao X) t H t (fun o j c=>match o with|some v=>a_ Q v c|none=>ai (n+1) (B9.drop 3) j c (fun o _ c=>a_ Q (o.getD .none) c) (ao X)) none (Nj _) e (fun g u=>by rw[g]at q;exact ag q) fun g s3=>by rw[g]at q;exact ag q
  have hs:=gy t;have k:=@FO t;clear q h p;revert a d hs k;cases aX t with
  |num _=>exact fun a d _ _=>ah rfl (ak (b:=false) rfl (ah rfl (ak (b:=false) rfl ⟨_,rfl,d rfl⟩)))
  |name _=>exact fun a d _ _=>ah rfl (ak (b:=false) rfl (ah rfl (ak (b:=false) rfl ⟨_,rfl,d rfl⟩)))
  |here=>exact fun a d _ _=>ah rfl (ak (b:=true) rfl (a rfl))
  |un s b=>exact fun a d hs _=>ah rfl (ak (b:=false) rfl (ah rfl (ak (b:=true) rfl (ah rfl (H b (Nv (NX _) hs) (fF (b:=hh b) (fun g=>a g) fun g=>⟨_,rfl,d g⟩))))))
  |bin s l r=>exact fun _ _ _ k=>absurd rfl (k (s:=s) (l:=l) (r:=r))
theorem La{g:Nat}{S:List Tr}{a:aa}(h:a g=some (.lst (S.map tv))):eJ .NotEq (.ref g) (.lst []) a=some (!S.isEmpty):=by
 show(fK _ _ _).map _=_;have:fK (.ref g) (.lst []) a=some S.isEmpty:=by
  unfold fK;rw[bg h];cases S with
  |nil=>rfl
  |cons t S=>cases t<;>rfl
 rw[this];rfl
theorem bT{a:Type}(S:List a):S=[]\/∃W t,S=W++[t]:=by
 rcases List.eq_nil_or_concat S with h|⟨W,t,h⟩
 .exact .inl h
 .exact .inr ⟨W,t,by rw[h,List.concat_eq_append]⟩
theorem wa{a:Nat}{ss:List (List Nat)}{n:List Nat}{b:aa}(h:b a=some (.lst (ss.map .str))):eJ .NotIn (.str n) (.ref a) b=some (!decide (n∈ss)):=by show(kU _ _ _).map _=_;rw[AN h];rfl
theorem eg{W:List Tr}{t:Tr}{x:List Nat}:x∈(W++[t]).flatMap jQ↔x∈W.flatMap jQ\/x∈jQ t:=by rw[List.flatMap_append,SM,show [t].flatMap jQ=jQ t from NB _]
abbrev Go(F:List (List Nat))(S:List Tr)(a:List (List Nat))(b:List Tr):Prop:=
 ke b<ke S/\a.Nodup/\a.length+ke b<=F.length+ke S/\∀x,(x∈a\/x∈b.flatMap jQ)↔(x∈F\/x∈S.flatMap jQ)
theorem lN(W:List Tr)(t:Tr):ke W<ke (W++[t]):=by rw[bM];exact Qh (dn t)
theorem lO{F:List (List Nat)}{W:List Tr}{t:Tr}(a:F.Nodup)(h:∀x,x∈jQ t->x∈F):Go F (W++[t]) F W:=
 ⟨lN W t,a,NM (NW (lN W t)) _,fun x=>by
  rw[eg];exact⟨fun z=>z.elim .inl fun z=> .inr (.inl z),fun z=>z.elim .inl fun z=>z.elim .inr fun z=> .inl (h x z)⟩⟩
theorem CH{F:List (List Nat)}{W:List Tr}{k:List Nat}(c:F.Nodup)(h:¬k∈F):Go F (W++[.name k]) (F++[k]) W:=
 ⟨lN W _,List.nodup_append.mpr ⟨c,Qb _ _,fun a d b f e=>h (by rw[←List.mem_singleton.mp f,←e];exact d)⟩,
  by rw[M9,bM,Oc];exact NM (NJ (Ol 1 _)) _,fun x=>by
  rw[eg,SM,or_assoc,or_comm (a:=x∈[k])];rfl⟩
theorem FP{F:List (List Nat)}{W:List Tr}{s:List Nat}{b:Tr}(a:F.Nodup):Go F (W++[.un s b]) F (W++[b]):=
 ⟨by rw[bM,bM];exact NX _,a,by rw[bM,bM];exact NM (Oi _) _,fun x=>by rw[eg,eg];rfl⟩
theorem CI{F:List (List Nat)}{W:List Tr}{s:List Nat}{l r:Tr}(a:F.Nodup):Go F (W++[.bin s l r]) F (W++[l]++[r]):=
 have e:ke (W++[l]++[r])+1=ke (W++[.bin s l r]):=by rw[bM,bM,bM,Oc (ke W)];rfl
 ⟨by rw[←e];exact NX _,a,by rw[←e];exact NM (Oi _) _,fun x=>by
  rw[eg,eg,eg,show jQ (.bin s l r)=jQ l++jQ r from rfl,SM,or_assoc]⟩
theorem zl(W:List Tr)(t:Tr):(W++[t]).map tv=W.map tv++[tv t]:=NG
theorem zm{d f g:Nat}(c:g≠f){N:PV}{s3:Option PV}{K:QS}{W:List Tr}{t:Tr}{F:List (List Nat)}(a:F.Nodup)(h:F.length+ke (W++[t])<=100)
  (k:∀{n o s3},Go F (W++[t]) o n->K none [some N,some (.ref f),some (.ref g),s3,none] ((σ.upd f (.lst (o.map .str))).upd g (.lst (n.map tv)))):
  ai d (ax vG 2) [some N,some (.ref f),some (.ref g),s3,none] ((σ.upd f (.lst (F.map .str))).upd g (.lst ((W++[t]).map tv))) K X:=by
 have i:W.length<=100:=M7 (zk W) (M7 (NW (lN W t)) (M7 (Ny _ _) h));have j:∀F V,((σ.upd f (.lst F)).upd g V) f=some (.lst F):=fun F V=>by rw[aa.uN _ _ (NZ c),aa.uS]
 have m:F.length<=100:=M7 (Nn _ _) h;clear h;refine⟨lJ (aa.uS ..) (by decide),cj (aa.uS ..) ⟨rfl,W.map tv,tv t,zl W t,?_⟩⟩;rw[aa.uU];cases t with
 |num _=>exact ah rfl (ak (b:=false) rfl (ah rfl (ak (b:=false) rfl (ah rfl (ak (b:=false) rfl (k (lO a fun _ z=>absurd z Nx)))))))
 |here=>exact ah rfl (ak (b:=false) rfl (ah rfl (ak (b:=false) rfl (ah rfl (ak (b:=false) rfl (k (lO a fun _ z=>absurd z Nx)))))))
 |name s=>
  refine ah rfl (ak (b:=true) rfl (ah rfl (ak (wa (j _ _)) ?_)));by_cases e:s∈F
  .rw[NN e];exact ah rfl (ak (b:=false) rfl (ah rfl (ak (b:=false) rfl (k (lO a fun x z=>List.mem_singleton.mp z▸e)))))
  .rw[NQ e];refine⟨lJ (j _ _) (by decide),ah rfl (cj (j _ _) ⟨by rw[Nb];exact Nf m (by decide),?_⟩)⟩;rw[GV c];have z:=k (s3:=some (tv (.name s))) (CH a e);rw[NG]at z;exact ah rfl (ak (b:=false) rfl (ah rfl (ak (b:=false) rfl z)))
 |un s b=>refine ah rfl (ak (b:=false) rfl (ah rfl (ak (b:=true) rfl ⟨lJ (aa.uS ..) (by decide),ah rfl (cj (aa.uS ..) ⟨by rw[Nb];exact Nf i (by decide),?_⟩)⟩)));rw[aa.uU,←zl];exact ah rfl (ak (b:=false) rfl (k (FP a)))
 |bin s l r=>refine ah rfl (ak (b:=false) rfl (ah rfl (ak (b:=false) rfl (ah rfl (ak (b:=true) rfl ⟨lJ (aa.uS ..) (by decide),ah rfl (cj (aa.uS ..) ⟨by rw[Nb];exact Nf i (by decide),?_⟩)⟩)))));rw[aa.uU,←zl];refine⟨lJ (aa.uS ..) (by decide),ah rfl (cj (aa.uS ..) ⟨by rw[Nb,M9];exact Nf (NL i 1) (by decide),?_⟩)⟩;rw[aa.uU,←zl];exact k (CI a)
theorem CJ{d f g:Nat}(k:g≠f){N:PV}{K:QS}:∀(n:Nat)(S:List Tr)(F:List (List Nat))(s3:Option PV),ke S<=n->F.Nodup->F.length+ke S<=100->
  (∀(e:List (List Nat))(s3:Option PV),e.Nodup->e.length<=F.length+ke S->(∀x,x∈e↔x∈F\/x∈S.flatMap jQ)->K none [some N,some (.ref f),some (.ref g),s3,none] ((σ.upd f (.lst (e.map .str))).upd g (.lst [])))->
  bE (fun l σ K'=>fQ d (cx vG 2) l σ K' X) (fun l σ K'=>ai d (ax vG 2) l σ K' X) (n+1) [some N,some (.ref f),some (.ref g),s3,none] ((σ.upd f (.lst (F.map .str))).upd g (.lst (S.map tv))) K:=by
 intro n;induction n with
 |zero=>
  intro S F s3 h i m j;rcases bT S with rfl|⟨W,t,rfl⟩
  .exact ak (b:=false) (La (aa.uS ..)) (j F _ i (Nn _ _) fun x=>(or_iff_left Nx).symm)
  .rw[bM]at h;exact absurd (Nv (dn t) (M7 (Ny _ _) h)) (Ro 0)
 |succ n o=>
  intro S F s3 h i m j;rcases bT S with rfl|⟨W,t,rfl⟩
  .exact ak (b:=false) (La (aa.uS ..)) (j F _ i (Nn _ _) fun x=>(or_iff_left Nx).symm)
  exact ak (b:=true) (by rw[La (aa.uS ..)];cases W<;>rfl) (zm k i m fun{p q s3} G=>
   o p q s3 (Pl (Nv G.1 h)) G.2.1 (M7 G.2.2.1 m) fun e s3 a b c=>j e s3 a (M7 b G.2.2.1) fun x=>(c x).trans (G.2.2.2 x))
theorem Lb{d:Nat}{t:Tr}(k:sz t<=63)(q:∀ss:List (List Nat),ss.Nodup->(∀x,x∈ss↔x∈jQ t)->ss.Pairwise (fun a b=>¬b<a)->Q (.lst (ss.map .str)) σ):af (d+1) (.ref 792) [tv t] σ Q X:=by
 refine J3 fun f m g h=>?_;have e:g≠f:=fun e=>by rw[e,aa.uS]at h;exact bb h
 rw[aa.uN _ _ e]at h;have hs:ke [t]=sz t:=by unfold ke;exact Nat.add_zero _
 have z:=CJ (d:=d) (X:=ao X) (σ:=σ) e (N:=tv t) (K:=fun o i c=>match o with|some v=>a_ Q v c|none=>ai d (vG.drop 3) i c (fun o _ c=>a_ Q (o.getD .none) c) (ao X)) _ [t] [] none (Nj _) Q6 (by rw[hs];exact M7 (NM k _) (by decide)) fun j s3 n p r=>by
  have s:((σ.upd f (.lst (j.map .str))).upd g (.lst [])) f=some (.lst (j.map .str)):=by rw[aa.uN _ _ (NZ e),aa.uS]
  show dY (.ref f) _ _;unfold dY;rw[bg s];refine tT (eX j) ⟨Nf p (by rw[hs];exact Oz (M7 (NJ (N7 _)) k)),fun ss l u=> .val (GW m h) (q ss (l.nodup_iff.mpr n) (fun x=>l.mem_iff.trans ((r x).trans (by rw[show [t].flatMap jQ=jQ t from NB _];exact or_iff_right Nx))) u)⟩
 exact⟨_,z⟩
noncomputable def qV(a:Af):List Nat:=
 let x:=if a.p=[] then aE a.w else if 0<a.w then a.p++[32,43,32]++aE a.w else if a.w<0 then a.p++[32,45,32]++aE (-a.w)else a.p
 if a.m=[] then x else x++[32,45,32]++a.m
theorem Lc{d:Nat}{a:Af}(i: -(2^64)<a.w)(j:a.w<2^64)(l:e' (aE a.w))(n:e' (aE (-a.w)))(c:(qV a).length<=mx)(q:Q (.str (qV a)) σ):af (d+1) (.ref 785) [av a] σ Q X:=by
 have b:∀x:List Nat,qV a=(if a.m=[] then x else x++[32,45,32]++a.m)->ai d (E2.drop 1) [some (av a),some (.str x),none] σ (fun o _ k=>a_ Q (o.getD .none) k) (ao X):=fun x e=>by
  rw[e]at q c;refine ah rfl (iF (fun h=>?_) fun h=>?_)
  .rw[Nd h]at q;exact ag q
  .rw[Na h]at q c;exact⟨lM (bK c),ah rfl ⟨lM c,ag q⟩⟩
 have f:∀x:List Nat,qV a=(if a.m=[] then x else x++[32,45,32]++a.m)->x.length<=mx:=fun x e=>by
  rw[e]at c;by_cases h:a.m=[]
  .rw[Nd h]at c;exact c
  .rw[Na h]at c;exact bK (bK c)
 refine J2 (ah rfl (eV (fun h=>ah rfl ⟨i,j,l,?_⟩) fun h=>ah rfl (iT (p:=0<a.w) (fun g=>?_) fun g=>ah rfl (iT (p:=a.w<0) (fun g2=>?_) fun g2=>ah rfl ?_))))
 .exact b _ (by unfold qV;rw[Nd h])
 .have e:qV a=(if a.m=[] then a.p++[32,43,32]++aE a.w else a.p++[32,43,32]++aE a.w++[32,45,32]++a.m):=by unfold qV;rw[Na h,Nd g]
  exact ah rfl ⟨lM (bK (f _ e)),ah rfl ⟨i,j,l,lM (f _ e),b _ e⟩⟩
 .have e:qV a=(if a.m=[] then a.p++[32,45,32]++aE (-a.w)else a.p++[32,45,32]++aE (-a.w)++[32,45,32]++a.m):=by unfold qV;rw[Na h,Na g,Nd g2]
  exact ah rfl ⟨lM (bK (f _ e)),ah rfl ⟨Q_ j,(Q_ i),n,lM (f _ e),b _ e⟩⟩
 .exact b _ (by unfold qV;rw[Na h,Na g,Na g2])
end
inductive Lt where
 |sg (s:List Nat)|num (n:Nat)|sym (s:List Nat)|here
noncomputable def lv:Lt->PV
 |.sg s=> .str s
 |.num n=> .tup [.str g9,.int n]
 |.sym s=> .tup [.str pI,.str s]
 |.here=> .tup [.str ik]
noncomputable def bk:List (List Nat):=[[97],[98],[99],[100],[101],[95,110,46,49,36]]
noncomputable def eD:List (List Nat):=[[42],[47],[37],[60,60],[62,62],[124],[38],[94],[43],[45]]
noncomputable def gP:List (List Nat):=[[45],[126],[33]]
noncomputable def bN:Lt->Prop
 |.sg s=>s∈eD\/s∈gP\/s=[40]\/s=[41]
 |.num n=>n<2^64
 |.sym s=>s∈bk
 |.here=>True
noncomputable def tG:Nat->Nat
 |0=>1
 |d+1=>2*tG d+1
noncomputable def ey(d:Nat)(r:List Lt):Prop:=r≠[]/\r.length<=tG d/\∀t∈r,bN t
theorem Ld:cu 6= .tup (bk.map .str):=rfl
theorem FQ:cu 7= .tup (eD.map .str):=rfl
theorem FS:cu 8= .tup (gP.map .str):=rfl
noncomputable abbrev sr(cl:PV)(n:Nat):MO:= .lst [cl,.int n]
structure eY(σ:aa)(a:Nat)(cl:PV)(is:List Int):Prop where
 ne:0<is.length
 le:is.length<=1000
 sn:∀m,cl.seen (σ.upd a m)= .lst (is.map .int)
section
variable{d a n:Nat}{σ:aa}{cl:PV}{is:List Int}{Q:QV}{X:QX}
theorem CK:bl (.ref a) (.int 0) (σ.upd a (sr cl n))=some cl:=by unfold bl;rw[bg (aa.uS ..)];rfl
theorem CM:bl (.ref a) (.int 1) (σ.upd a (sr cl n))=some (.int n):=by unfold bl;rw[bg (aa.uS ..)];rfl
theorem cW(C:eY σ a cl is)(l:n<=1000000000)(g:0<m)(q:∀r:Nat,r<m->Q (.int r) (σ.upd a (sr cl (n+1)))):af (d+1) (.ref 816) [.ref a,.int m] (σ.upd a (sr cl n)) Q X:=by
 have o:U6 (n:Int) (is.length:Int)=((n % is.length:Nat):Int):=by rw[Tf _ (NK _)];rfl
 have b:∀m,gU cl (σ.upd a m)=some is.length:=fun m=>by unfold gU;rw[C.sn];exact Nw some (Nb ..)
 have c:n % is.length<is.length:=Sg _ C.ne;have f:∀m,bl cl (.int ((n % is.length:Nat):Int)) (σ.upd a m)=some (.int is[n % is.length]):=fun m=>by unfold bl;rw[C.sn];show((kY ((n % is.length:Nat):Int) (is.map PV.int).length).bind fun j=>(is.map PV.int)[j]?)=_;rw[fW (n:=(is.map PV.int).length) (by rw[Nb];exact c) (by rw[Nb];exact M7 C.le (by decide))];show(is.map PV.int)[n % is.length]? =_;rw[Oy,NA c];rfl
 have nz:((is.length:Nat):Int)≠0:=fun e=>Ro 0 ((Pv e)▸C.ne);have p:small (is.length:Int):=aF (n:=10) (Nf C.le (by decide)) (by decide);refine J6 (ah CK (ah CM ?_));show(match(σ.upd a (sr cl n)) a with|some (.lst vs)=>_|_=>False);rw[aa.uS];refine⟨by decide,NX 1,?_⟩;show Hx _ _ ((σ.upd a (sr cl n)).upd a (.lst [cl,.int (n+1)]));rw[aa.uU];refine tT (b _) ⟨nz,?_⟩;show ∃w,bl cl (.int ((n:Int).fmod (is.length:Int))) _=some w/\_;rw[o];refine ah (f _) (tT (b _) ⟨nz,p,aF (x:=11) (n:=5) (by decide) (by decide),?_,?_⟩)
 .have:Th (n:Int) (is.length:Int)=((n / is.length:Nat):Int):=by rw[Tg _ (NK _)];rfl
  rw[this];exact aF (n:=31) (Nf (M7 (Nat.div_le_self _ _) l) (by decide)) (by decide)
 have s:((m:Nat):Int)≠0:=fun e=>Ro 0 ((Pv e)▸g);refine⟨s,?_⟩;have h:(0:Int)<(m:Int):=Int.ofNat_lt.mpr g;generalize i:(is[n % is.length]+11*Th (n:Int) (is.length:Int)).fmod (m:Int)=x;have h0:0<=x:=by rw[←i];exact Int.fmod_nonneg_of_pos _ h
 have t:x<m:=by rw[←i];exact Int.fmod_lt_of_pos _ h
 obtain⟨k,rfl⟩:=Pu h0;exact ag (q k (Int.ofNat_lt.mp t))
theorem zn{ss:List (List Nat)}{r:Nat}(h:r<ss.length)(a:ss.length<=1000):bl (.tup (ss.map .str)) (.int r) σ=some (.str ss[r]):=by show((kY (r:Int) (ss.map PV.str).length).bind fun j=>(ss.map PV.str)[j]?)=_;rw[fW (n:=(ss.map PV.str).length) (by rw[Nb];exact h) (by rw[Nb];exact M7 a (by decide))];show(ss.map PV.str)[r]? =_;rw[Oy,NA h];rfl
theorem Lg(C:eY σ a cl is)(j:n+2<=1000000000)(q:∀t i,i<=n+2->bN t->(∀s,t≠.sg s)->Q (lv t) (σ.upd a (sr cl i))):af (d+2) (.ref 823) [.ref a] (σ.upd a (sr cl n)) Q X:=by
 have c:n+1<=1000000000:=Nr j;refine J7 (cW C (Nr c) (m:=5) (by decide) fun r l=>fX (a:=r) (b:=2) (fun h=>?_) fun h=>ec (a:=r) (b:=2) (fun h=>?_) fun h=>ec (a:=r) (b:=3) (fun h=>?_) fun h=>?_)
 .exact cW C c (m:=12) (by decide) fun k f=>ag (q (.num k) (n+2) (Nj _) (Pe f (by decide)) fun s e=>Lt.noConfusion e)
 .refine⟨by decide,by decide,aF (x:=1) (n:=1) (by decide) (by decide),?_⟩;have g:(1:Int)*2^(64:Int).toNat=((2^64:Nat):Int):=by decide
  show af (d+1) (.ref 816) [.ref a,.int ((1:Int)*2^(64:Int).toNat)] _ _ _;rw[g];exact cW C c (m:=2^64) (by decide) fun k f=>ag (q (.num k) (n+2) (Nj _) f fun s e=>Lt.noConfusion e)
 .refine cW C c (m:=6) (by decide) fun k f=>?_;show ∃w,bl (cu 6) (.int k) _=some w/\_;rw[Ld];exact ah (zn (ss:=bk) f (by decide)) (ag (q (.sym bk[k]) (n+2) (Nj _) (OO _) fun s e=>Lt.noConfusion e))
 .exact ag (q .here (n+1) (Oi _) trivial fun s e=>Lt.noConfusion e)
end
noncomputable def pO:Nat->Nat
 |0=>3
 |d+1=>2*pO d+2
theorem nR:∀d,1<=tG d
 |0=>Nj _
 |d+1=>Ny _ _
theorem zo:∀{d:Nat},d<=5->tG d<=63
 |0,_|1,_|2,_|3,_|4,_|5,_=>by decide
 |d+6,h=>absurd h (by lia)
theorem zp(h:bN t):ey d [t]:=⟨NV _ _,nR d,fun x a=>by cases a with|head=>exact h|tail _ z=>cases z⟩
theorem FT(hs:s∈gP)(h:ey d r):ey (d+1) (.sg s::r):=
 ⟨NV _ _,NE (M7 h.2.1 (TJ _ (by decide))),fun x a=>by cases a with|head=>exact .inr (.inl hs)|tail _ z=>exact h.2.2 _ z⟩
theorem CN(h:ey d r):ey (d+1) (.sg [40]::r++[.sg [41]]):=
 ⟨NV _ _,by
  have b:=h.2.1;have c:=nR d;show(Lt.sg [40]::r++[Lt.sg [41]]).length<=2*tG d+1;rw[M9,Nz];show r.length+1+1<=_;lia,fun x a=>by
  rcases List.mem_append.mp a with z|z
  .cases z with|head=>exact .inr (.inr (.inl rfl))|tail _ z=>exact h.2.2 _ z
  .cases z with|head=>exact .inr (.inr (.inr rfl))|tail _ z=>cases z⟩
theorem CO(hs:s∈eD)(hl:ey d l)(hr:ey d r):ey (d+1) (l++[.sg s]++r):=
 ⟨fun e=>hl.1 (List.append_eq_nil_iff.mp (List.append_eq_nil_iff.mp e).1).1,by
  have h1:=hl.2.1;have h2:=hr.2.1;show(l++[Lt.sg s]++r).length<=2*tG d+1;rw[M9,M9];show l.length+1+_<=_;lia,fun x hx=>by
  rcases List.mem_append.mp hx with z|z
  .rcases List.mem_append.mp z with z|z
   .exact hl.2.2 _ z
   .cases z with|head=>exact .inl hs|tail _ z=>cases z
  .exact hr.2.2 _ z⟩
section
variable{a:Nat}{σ:aa}{cl:PV}{is:List Int}
noncomputable abbrev FU(k d f:Nat)(σ:aa)(a:Nat)(cl:PV):Prop:=∀{n:Nat}{Q:QV}{X:QX},n+pO d<=1000000000->(∀r b,b<=n+pO d->ey d r->Q (.lst (r.map lv)) (σ.upd a (sr cl b)))->af k (.ref f) [.ref a,.int d] (σ.upd a (sr cl n)) Q X
theorem Mg:∀d,3<=pO d
 |0=>Nj _
 |d+1=>by have:=Mg d;show 3<=2*pO d+2;lia
theorem ll{x y:List PV}{d:Nat}(h:x.length+y.length<=200):x.length+y.length<=aV:=M7 h (by decide)
theorem CP(C:eY σ a cl is):∀d k,d<=5->FU (k+(d+4)) d 837 σ a cl/\FU (k+(d+4)) d 830 σ a cl:=by
 have Z1:∀{d k n n0:Nat}{Q:QV}{X:QX},n+2<=n0+pO d->n0+pO d<=1000000000->(∀r n',n'<=n0+pO d->ey d r->Q (.lst (r.map lv)) (σ.upd a (sr cl n')))->
   af (k+2) (.ref 823) [.ref a] (σ.upd a (sr cl n)) (fun v Z6=>a_ Q (.lst [v]) Z6) (ao X):=fun h1 h2 q=>
  Lg C (M7 h1 h2) fun t n' hn ht _=>ag (q [t] n' (M7 hn h1) (zp ht))
 have hp:∀d:Nat,((d+1:Nat):Int)-1=d:=fun d=>Qe (d:Int) 1;have m:∀{d:Nat}{r:List Lt},d<=5->ey d r->(r.map lv).length<=63:=fun hd h=>by rw[Nb];exact M7 h.2.1 (zo hd)
 intro d;induction d with
 |zero=>
  intro k _;refine⟨fun{n Q X} hn q=>?_,fun{n Q X} hn q=>?_⟩
  .have h0:n<=1000000000:=M7 (Nn _ _) hn;exact Fc (cW C h0 (m:=9) (by decide) fun r hr=>fX (a:=r) (b:=4) (fun _=>Z1 (d:=0) (Nj _) hn q) fun _=>ak (b:=true) rfl (Z1 (d:=0) (Nj _) hn q))
  .have h0:n<=1000000000:=M7 (Nn _ _) hn;exact Fb (cW C h0 (m:=3) (by decide) fun r hr=>ec (a:=r) (b:=2) (fun _=>ak (b:=false) rfl (Z1 (d:=0) (Nj _) hn q)) fun _=>Z1 (d:=0) (Nj _) hn q)
 |succ d ih=>
  intro k hd;have Zf:d<=5:=Nr hd;obtain⟨ZW,ihp⟩:=ih k Zf;have e:pO (d+1)=2*pO d+2:=rfl;have d3:=Mg d;have par:∀{n n0:Nat}{Q:QV}{X:QX},n+pO d<=n0+pO (d+1)->n0+pO (d+1)<=1000000000->(∀r n',n'<=n0+pO (d+1)->ey (d+1) r->Q (.lst (r.map lv)) (σ.upd a (sr cl n')))->
    af (k+(d+4)) (.ref 837) [.ref a,.int (((d+1:Nat):Int)-1)] (σ.upd a (sr cl n)) (fun v Z6=>oK (.lst [.str [40]]) v Z6 fun v Z6=>oK v (.lst [.str [41]]) Z6 fun v Z6=>a_ Q v Z6) (ao X):=fun{n n0 Q X} h1 h2 q=>by
   rw[hp];refine ZW (M7 h1 h2) fun r n' hn hr=>⟨M7 (NM (m Zf hr) _) (by decide),?_,ag ?_⟩
   .show([PV.str [40]]++r.map lv).length+1<=aV;rw[M9];exact M7 (NL (NM (m Zf hr) _) _) (by decide)
   .have z:=q _ n' (M7 hn h1) (CN hr);rw[NG]at z;exact z
  refine⟨fun{n Q X} hn q=>?_,fun{n Q X} hn q=>?_⟩
  .have h0:n<=1000000000:=M7 (Nn _ _) hn;have h1:n+1<=1000000000:=Nf (Nn ..) hn;refine Fc (cW C h0 (m:=9) (by decide) fun r hr=>fX (a:=r) (b:=4) (fun _=>Z1 (d:=d+1) (n0:=n) (by lia) hn q) fun _=>ec (a:=d+1) (b:=0) (fun z=>aK (beq_iff_eq.mpr z)) fun _=>ec (a:=r) (b:=4) (fun _=>?_) fun _=>ec (a:=r) (b:=5) (fun _=>?_) fun _=>?_)
   .refine cW C h1 (m:=3) (by decide) fun u hu=>?_;show ∃w,bl (cu 8) (.int u) _=some w/\_;rw[FS];refine ah (zn (ss:=gP) hu (by decide)) ?_;show af (k+(d+4)) (.ref 830) [.ref a,.int (((d+1:Nat):Int)-1)] _ _ _;rw[hp];exact ihp (by lia) fun r n' hn' hr=>⟨M7 (NM (m Zf hr) 1) (by decide),ag (q (.sg gP[u]::r) n' (by lia) (FT (OO _) hr))⟩
   .exact par (n0:=n) (by lia) hn q
   .show af (k+(d+4)) (.ref 837) [.ref a,.int (((d+1:Nat):Int)-1)] _ _ _;rw[hp];refine ZW (by lia) fun l n1 hn1 hl=>cW C (by lia) (m:=10) (by decide) fun u hu=>?_;show ∃w,bl (cu 7) (.int u) _=some w/\_;rw[FQ];refine ah (zn (ss:=eD) hu (by decide)) ⟨M7 (NL (m Zf hl) 1) (by decide),?_⟩;show af (k+(d+4)) (.ref 837) [.ref a,.int (((d+1:Nat):Int)-1)] _ _ _;rw[hp];refine ZW (by lia) fun r n2 hn2 hr=>⟨?_,ag ?_⟩
    .show(l.map lv++[PV.str eD[u]]).length+(r.map lv).length<=aV;rw[M9];exact M7 (Od (NL (m Zf hl) 1) (m Zf hr)) (by decide)
    .have z:=q _ n2 (by lia) (CO (OO hu) hl hr);rw[NG,NG]at z;exact z
  .have h0:n<=1000000000:=M7 (Nn _ _) hn;refine Fb (cW C h0 (m:=3) (by decide) fun r hr=>ec (a:=r) (b:=2) (fun _=>fX (a:=0) (b:=d+1) (fun _=>?_) fun _=>Z1 (d:=d+1) (n0:=n) (by lia) hn q) fun _=>Z1 (d:=d+1) (n0:=n) (by lia) hn q);exact par (n0:=n) (by lia) hn q
end
noncomputable def eh:List Nat:=[48,49,50,51,52,53,54,55,56,57,97,98,99,100,101,102]
noncomputable def lP(c:Nat):Bool:=iD 48 57 c||iD 97 102 c
theorem Lh:∀k:Fin 16,aD (eh.getD k 0)=(k:Nat)/\lP (eh.getD k 0)=true/\(k.1≠0->eh.getD k 0≠48)/\(k.1=0->eh.getD k 0=48):=by decide
structure Dg(b n k:Nat)(w:List Nat):Prop where
 ne:w≠[]
 v:dQ b w 0=n
 c:∀c∈w,lP c=true/\aD c<b
 z:w=[48]\/w.head? ≠some 48
 l:w.length<=k
section
variable{d a n:Nat}{σ:aa}{cl:PV}{is:List Int}{Q:QV}{X:QX}
theorem CQ{k:Nat}(h:k<16):bl (.str eh) (.int k) σ=some (.str [eh.getD k 0]):=by show((kY (k:Int) eh.length).bind fun j=>(eh[j]?).map fun c=>PV.str [c])=_;rw[fW (n:=eh.length) h (by decide)];show(eh[k]?).map _=_;rw[NA (show k<eh.length from h)];show some (PV.str [eh[k]])=_;show some (PV.str [eh[k]])=some (PV.str [(eh[k]?).getD 0]);rw[NA (show k<eh.length from h)];rfl
theorem CR{b k:Nat}{W:PV}(hb:2<=b)(hb2:b<=16)(hk:k<=100)(q:∀w,Dg b n k w->Q (.str w) σ):∀(j rest:Nat)(f:List Nat),rest<b^j->f.length+j<=k->(f=[]->1<=j)->dQ b f rest=n->(∀c∈f,lP c=true/\aD c<b)->(f=[]\/0<rest\/f=[48]\/f.head? ≠some 48)->
  bE (fun ρ σ K'=>fQ d (cx lE 2) ρ σ K' (ao X)) (fun ρ σ K'=>ai d (ax lE 2) ρ σ K' (ao X)) (j+1) [some W,some (.int b),some (.str f),some (.int rest)] σ
   (fun o ZY Z6=>match o with|some v=>a_ Q v Z6|none=>ai d (lE.drop 3) ZY Z6 (fun o _ Z6=>a_ Q (o.getD .none) Z6) (ao X)):=by
 have bz:((b:Nat):Int)≠0:=fun e=>by have:=Pv e;lia
 have bs:small (b:Int):=aF (n:=5) (Nf hb2 (by decide)) (by decide);intro j;induction j with
 |zero=>
  intro rest f hr hl h0 hv hc hz;have hr:rest=0:=by simpa using hr
  subst hr;have hf:f≠[]:=fun e=>absurd (h0 e) (by decide);refine ak (b:=false) rfl (eV (fun e=>absurd e hf) fun _=>ag (q f ⟨hf,hv,hc,?_,hl⟩));rcases hz with z|z|z
  .exact absurd z hf
  .exact absurd z (by decide)
  .exact z
 |succ j ih=>
  intro rest f hr hl h0 hv hc hz;have e1:U6 (rest:Int) (b:Int)=((rest % b:Nat):Int):=by rw[Tf _ (NK _)];rfl
  have e2:Th (rest:Int) (b:Int)=((rest / b:Nat):Int):=by rw[Tg _ (NK _)];rfl
  have hm:rest % b<b:=Sg _ (M7 (by decide) hb);have hF:=Lh ⟨rest % b,Nv hm hb2⟩;have body:(0<rest\/f=[])->ai d (ax lE 2) [some W,some (.int b),some (.str f),some (.int rest)] σ (fun o ZY Z6=>match o with|some v=>(match(some v:Option PV)with|some v=>a_ Q v Z6|none=>ai d (lE.drop 3) ZY Z6 (fun o _ Z6=>a_ Q (o.getD .none) Z6) (ao X))|none=>bE (fun ρ σ K'=>fQ d (cx lE 2) ρ σ K' (ao X)) (fun ρ σ K'=>ai d (ax lE 2) ρ σ K' (ao X)) (j+1) ZY Z6 (fun o ZY Z6=>match o with|some v=>a_ Q v Z6|none=>ai d (lE.drop 3) ZY Z6 (fun o _ Z6=>a_ Q (o.getD .none) Z6) (ao X))) (ao X):=fun hrf=>by
   refine⟨bz,?_⟩;show ∃w,bl (.str eh) (.int (U6 (rest:Int) (b:Int))) _=some w/\_;rw[e1];refine ah (CQ (Nv hm hb2)) ⟨M7 (show 1+f.length<=101 by lia) (by decide),bz,bs,?_⟩;have z:=ih (rest / b) (eh.getD (rest % b) 0::f) (by rw[TI,Sv]at hr;exact Nat.div_lt_of_lt_mul hr) (by rw[Nz];exact O3 _ _▸hl) (fun e=>aK (beq_iff_eq.mpr e)) (by
     unfold dQ;have h1:aD (eh.getD (rest % b) 0)=((rest % b:Nat):Int):=hF.1;rw[h1,Na (Int.not_le.mpr (Int.ofNat_lt.mpr hm))];have:((rest / b:Nat):Int)*(b:Int)+((rest % b:Nat):Int)=(rest:Int):=by have:=S2 rest b;rw[←Int.natCast_mul,←Int.natCast_add,Sv,this]
     rw[this];exact hv) (fun c hc'=>by
     cases hc' with
     |head=>exact⟨hF.2.1,by have h1:aD (eh.getD (rest % b) 0)=((rest % b:Nat):Int):=hF.1;rw[h1];exact Int.ofNat_lt.mpr hm⟩
     |tail _ z=>exact hc c z) (by
     by_cases hq:0<rest / b
     .exact .inr (.inl hq)
     .right;right
      have q0:rest / b=0:=Nat.eq_zero_of_not_pos hq;have hrb:rest % b=rest:=by have:=S2 rest b;rw[q0,Nat.mul_zero,N7]at this;exact this
      rcases hrf with h|h
      .right;intro e
       exact hF.2.2.1 (by show rest % b≠0;rw[hrb];exact RD h) (Nh e)
      .by_cases hr0:rest=0
       .left;rw[h];congr 1;exact hF.2.2.2 (by show rest % b=0;rw[hrb];exact hr0)
       .right;intro e
        exact hF.2.2.1 (by show rest % b≠0;rw[hrb];exact hr0) (Nh e))
   rw[←e2]at z;exact z
  refine fX (a:=0) (b:=rest) (fun h=>body (.inl h)) fun h=>eV (fun e=>body (.inr e)) fun e=>ag (q f ⟨e,?_,hc,?_,M7 (Nn ..) hl⟩)
  .have:rest=0:=Nat.le_zero.mp h;rw[this]at hv;exact hv
  .rcases hz with z|z|z
   .exact absurd z e
   .exact absurd h (Nat.not_le.mpr z)
   .exact z
theorem wb(f:2<=b)(a:b<=16)(e:1<=k)(g:k<=100)(i:n<b^k)(q:∀w,Dg b n k w->Q (.str w) σ):af (d+1) (.ref 844) [.int n,.int b] σ Q X:=
 J8 ⟨_,CR f a g q k n [] i (by simp) (fun _=>e) rfl (fun c h=>absurd h Nx) (.inl rfl)⟩
end
inductive cz(n:Nat):List Nat->Prop
 |dig {c:Nat} {s:List Nat} (h0:iD 48 57 c=true) (hs:∀x∈c::s,am x=true) (hv:iE (c::s)=n) (hl:(c::s).length<=25):cz n (c::s)
 |chr {s:List Nat} (h:∀rest,CC (s++rest) n (s.length+1)) (hl:s.length<=3):cz n (39::s)
noncomputable def nU:Lt->List Nat->Prop
 |.sg s,w=>w=s
 |.sym s,w=>w=s
 |.here,w=>w=[46]
 |.num n,w=>cz n w
theorem bQ{lo hi c:Nat}:iD lo hi c=true↔lo<=c/\c<=hi:=by unfold iD;rw[N1,OD,OD]
theorem fu{c:Nat}(h:lP c=true):am c=true:=by
 unfold lP at h;unfold am;rcases Bool.or_eq_true_iff.mp h with h|h
 .rw[h];rfl
 .rw[bQ.mpr ⟨(bQ.mp h).1,M7 (bQ.mp h).2 (by decide)⟩];exact Tv _
noncomputable def up(c:Nat):Nat:=if(decide (97<=c)&&decide (c<=122))=true then c-32 else c
theorem wc{c:Nat}(h:lP c=true):aD (up c)=aD c/\am (up c)=true:=by
 unfold lP at h;rcases Bool.or_eq_true_iff.mp h with h|h
 .have e:up c=c:=Na (fun z=>by rw[N1,OD]at z;exact absurd (M7 z.1 (bQ.mp h).2) (by decide));rw[e];exact⟨rfl,by unfold am;rw[h];rfl⟩
 .have hh:=bQ.mp h;have:∀k:Fin 6,aD (up (97+k))=aD (97+k)/\am (up (97+k))=true:=by decide
  have z:=this ⟨c-97,O0 hh.1 (Oz hh.2)⟩;have e:97+(c-97)=c:=R7 hh.1;rw[show((⟨c-97,O0 hh.1 (Oz hh.2)⟩:Fin 6):Nat)=c-97 from rfl,e]at z;exact z
theorem zq(w:List Nat):∀(a:Int),(∀c∈w,lP c=true)->dQ b (w.map up) a=dQ b w a:=by
 induction w with
 |nil=>exact fun a _=>rfl
 |cons c r d=>intro a h;show(if b<=aD (up c)then -1 else dQ b (r.map up) _)=if b<=aD c then -1 else dQ b r _;rw[(wc (h c (Ng ..))).1,d _ fun x e=>h x (Ni _ e)]
theorem fv(h:w≠[]):fG b w=dQ b w 0:=Na h
theorem nV:iE (c::e::r)=if c=48 then(if e=120\/e=88 then fG 16 r else if e=98\/e=66 then fG 2 r else fG 8 (e::r))else fG 10 (c::e::r):=rfl
section
variable{d a n:Nat}{σ:aa}{cl:PV}{is:List Int}{Q:QV}{X:QX}
theorem pP{b n k e:Nat}{w c:List Nat}(d:k<=23)(D:Dg b n k w)(f:am e=true)(g:c.length=w.length)(hs:∀x∈c,am x=true)(h:iE (48::e::c)=n):cz n (48::e::c):=
 .dig rfl (fun x a=>by
  cases a with
  |head=>rfl
  |tail _ a=>cases a with
   |head=>exact f
   |tail _ a=>exact hs x a) h (by rw[Nz,Nz,g];exact NE (NE (M7 D.l d)))
theorem MZ(D:Dg 8 n 22 w):cz n (48::w):=by
 match w,D with
 |[],D=>exact absurd rfl D.ne
 |c::r,D=>have d:=D.c c (Ng ..);have b:∀x:Nat,¬aD x<8->c≠x:=fun x a e=>a (e▸d.2);refine .dig rfl (fun x a=>by cases a with|head=>rfl|tail _ a=>exact fu (D.c x a).1) ?_ (NE (M7 D.l (by decide)));rw[nV,Nd rfl,Na (fun h=>h.elim (b 120 (by decide)) (b 88 (by decide))),Na (fun h=>h.elim (b 98 (by decide)) (b 66 (by decide))),fv (NV _ _)];exact D.v
theorem FV{n:Nat}{w:List Nat}(D:Dg 10 n 20 w):cz n w:=by
 match w,D with
 |[],D=>exact absurd rfl D.ne
 |c::r,D=>
  have a:=D.c c (Ng ..);have h0:iD 48 57 c=true:=by
   rcases Bool.or_eq_true_iff.mp a.1 with h|h
   .exact h
   .have:∀k:Fin 6,¬aD (97+k)<10:=by decide
    have hh:=bQ.mp h;have z:=this ⟨c-97,O0 hh.1 (Oz hh.2)⟩;rw[show 97+((⟨c-97,O0 hh.1 (Oz hh.2)⟩:Fin 6):Nat)=c from by show 97+(c-97)=c;exact R7 hh.1]at z;exact absurd a.2 z
  refine .dig h0 (fun x b=>fu (D.c x b).1) ?_ (M7 D.l (by decide))
  match r,D with
  |[],D=>exact(fv (NV _ _)).trans D.v
  |e::r,D=>
   rw[nV,Na (fun h=>by
    rcases D.z with z|z
    .cases z
    .exact z (by rw[h];rfl)),fv (NV _ _)]
   exact D.v
theorem Li{t:Lt}(C:eY σ a cl is)(hn:n+1<=1000000000)(ht:bN t)(q:∀w n',n'<=n+1->nU t w->Q (.str w) (σ.upd a (sr cl n'))):af (d+2) (.ref 851) [.ref a,lv t] (σ.upd a (sr cl n)) Q X:=by
 cases t with
 |sg s=>exact y9 (ak (b:=true) rfl (ag (q s n (Oi _) rfl)))
 |sym s=>exact y9 (ak (b:=false) rfl (ah rfl (ak (b:=true) rfl (ah rfl (ag (q s n (Oi _) rfl))))))
 |here=>exact y9 (ak (b:=false) rfl (ah rfl (ak (b:=false) rfl (ah rfl (ak (b:=true) rfl (ag (q [46] n (Oi _) rfl)))))))
 |num m=>
  have hm:m<2^64:=ht;have len:∀{k x:Nat}{w:List Nat},k<=30->w.length<=k->x<=10->x+w.length<=aV:=fun h1 h2 h3=>M7 (Od h3 (M7 h2 h1)) (by decide);refine y9 (ak (b:=false) rfl (ah rfl (ak (b:=false) rfl (ah rfl (ak (b:=false) rfl (ah rfl (cW C (Nr hn) (m:=6) (by decide) fun r hr=>ec (a:=r) (b:=1) (fun _=>?_) fun _=>ec (a:=r) (b:=2) (fun _=>?_) fun _=>?_)))))))
  .exact wb (b:=16) (k:=16) (by decide) (by decide) (by decide) (by decide) hm fun w D=>⟨len (by decide) D.l (by decide),ag (q (48::120::w) (n+1) (Nj _) (pP (by decide) D rfl rfl (fun x hx=>fu (D.c x hx).1) (by
    rw[nV,Nd rfl,Nd (.inl rfl),fv D.ne];exact D.v)))⟩
  .refine wb (b:=16) (k:=16) (by decide) (by decide) (by decide) (by decide) hm fun w D=>⟨rfl,rfl,rfl,fun c hc=>?_,?_⟩
   .rcases Bool.or_eq_true_iff.mp (D.c c hc).1 with h|h
    .exact Nf (bQ.mp h).2 (by decide)
    .exact Nf (bQ.mp h).2 (by decide)
   .have hl:(w.map up).length=w.length:=Nb ..;refine⟨len (k:=16) (w:=w.map up) (by decide) (by rw[hl];exact D.l) (by decide),ag (q (48::88::w.map up) (n+1) (Nj _) (pP (by decide) D rfl hl (fun x hx=>?_) ?_))⟩
    .refine i_ hx fun y hy e0=>?_;subst e0;exact(wc (D.c y hy).1).2
    .rw[nV,Nd rfl,Nd (.inr rfl),fv (fun e=>D.ne (List.map_eq_nil_iff.mp e)),zq w 0 fun c hc=>(D.c c hc).1];exact D.v
  have rest:ai (d+1) (B_.drop 8) [some (.ref a),some (lv (.num m)),some (.int m),some (.int r),none,none,none,none,none,none] (σ.upd a (sr cl (n+1))) (fun o _ Z6=>a_ Q (o.getD .none) Z6) (ao X):=by
   have dec:ai (d+1) (B_.drop 10) [some (.ref a),some (lv (.num m)),some (.int m),some (.int r),none,none,none,none,none,none] (σ.upd a (sr cl (n+1))) (fun o _ Z6=>a_ Q (o.getD .none) Z6) (ao X):=
    wb (b:=10) (k:=20) (by decide) (by decide) (by decide) (by decide) (Pe hm (by decide)) fun w D=>ag (q w (n+1) (Nj _) (FV D))
   refine ec (a:=r) (b:=4) (fun _=>?_) fun _=>ec (a:=r) (b:=5) (fun _=>GU (lo:=32) (hi:=126) (fun h=>?_) fun _=>dec) fun _=>dec
   .exact wb (b:=8) (k:=22) (by decide) (by decide) (by decide) (by decide) (Pe hm (by decide)) fun w D=>⟨len (by decide) D.l (by decide),ag (q (48::w) (n+1) (Nj _) (MZ D))⟩
   .have hh:=bQ.mp h;have i1:(0:Int)<=(m:Int):=NK _;have i2:(m:Int)<55296:=Int.ofNat_lt.mpr (Nf hh.2 (by decide));refine fF (b:=((34:Int)==m)||(((39:Int)==m)||(((92:Int)==m)||false))) (fun g=>?_) fun g=>?_
    .have hm3:m=34\/m=39\/m=92:=by
      rcases Bool.or_eq_true_iff.mp g with g|g
      .exact .inl (Pv (N9 g)).symm
      .rcases Bool.or_eq_true_iff.mp g with g|g
       .exact .inr (.inl (Pv (N9 g)).symm)
       .rw[Rm]at g;exact .inr (.inr (Pv (N9 g)).symm)
     exact⟨No rfl,i1,i2,No rfl,No rfl,ag (q [39,92,m,39] (n+1) (Nj _) (.chr (s:=[92,m,39]) (fun rest=> .esc hm3) (No rfl)))⟩
    .have hm3:m≠92:=fun e=>by subst e;exact df g
     exact⟨No rfl,i1,i2,No rfl,No rfl,ag (q [39,m,39] (n+1) (Nj _) (.chr (s:=[m,39]) (fun rest=> .raw ⟨hh.1,hh.2,hm3⟩) (No rfl)))⟩
  refine ec (a:=r) (b:=3) (fun _=>fX (a:=m) (b:=4096) (fun h=>?_) fun _=>rest) fun _=>rest;exact wb (b:=2) (k:=12) (by decide) (by decide) (by decide) (by decide) h fun w D=>⟨len (by decide) D.l (by decide),ag (q (48::98::w) (n+1) (Nj _) (pP (by decide) D rfl rfl (fun x hx=>fu (D.c x hx).1) (by
    rw[nV,Nd rfl,Na (by decide),Nd (.inl rfl),fv D.ne];exact D.v)))⟩
end
noncomputable def bA:Lt->Bool
 |.sg _=>false
 |_=>true
noncomputable def cK:Lt->Bool
 |.sg s=>s==[37]
 |_=>false
noncomputable def we(p:Option Lt)(t:Lt)(g:Nat):Prop:=g=0->∀x,p=some x->(bA t&&bA x)=false/\cK x=false
inductive Sp:Option Lt->List Lt->List Nat->Prop
 |nil {p:Option Lt}:Sp p [] []
 |cons {p:Option Lt} {t:Lt} {r:List Lt} {g:Nat} {w x:List Nat} (hw:nU t w) (hg:we p t g) (h:Sp (some t) r x):Sp p (t::r) (NF g 32++w++x)
theorem zr{s:List Nat}(h:s∈eD\/s∈gP\/s=[40]\/s=[41]):s.length<=2:=by
 have a:∀s∈eD,s.length<=2:=by decide
 have b:∀s∈gP,s.length<=2:=by decide
 rcases h with h|h|h|h
 .exact a s h
 .exact b s h
 .rw[h];decide
 .rw[h];decide
theorem nW{t:Lt}{w:List Nat}(ht:bN t)(hw:nU t w):w.length<=25:=by
 cases t with
 |sg s=>have hw:w=s:=hw;rw[hw];exact M7 (zr ht) (by decide)
 |sym s=>
  have hw:w=s:=hw;have h1:∀s∈bk,s.length<=25:=by decide
  rw[hw];exact h1 s ht
 |here=>have hw:w=[46]:=hw;rw[hw];decide
 |num n=>
  have hw:cz n w:=hw;cases hw with
  |dig _ _ _ hl=>exact hl
  |chr _ hl=>exact M7 (NE hl) (by decide)
theorem lQ{n:Nat}(h:n<=10000):rU (.int n)=some ((OM n).map fun(i:Nat)=>PV.int i):=by show(if -(2^62)<=(n:Int)/\(n:Int)<=1048576 then some ((OM (n:Int).toNat).map fun(i:Nat)=>PV.int i)else none)=_;rw[Nd ⟨O4 (by decide) (NK n),Int.ofNat_le.mpr (M7 h (by decide))⟩];rfl
section
variable{d a:Nat}{σ:aa}{cl:PV}{is:List Int}{Q:QV}{X:QX}
theorem Mh(t:Lt):(∃s,lv t= .str s/\bA t=false)\/∃vs,lv t= .tup vs/\bA t=true:=by
 cases t
 .exact .inl ⟨_,rfl,rfl⟩
 all_goals exact .inr ⟨_,rfl,rfl⟩
theorem FW{a:aa}:fK (lv t) (.str [37]) a=some (cK t):=by cases t<;>rfl
theorem qW{bv a:List Lt}{t:Lt}:((bv++t::a).map lv).drop bv.length=lv t::a.map lv:=by rw[←R8,PN];rfl
noncomputable abbrev wf(d:Nat)(Q:QV)(X:QX):QS:=fun o b a=>match o with|some v=>a_ Q v a|none=>ai d (pF.drop 2) b a (fun o _ a=>a_ Q (o.getD .none) a) (ao X)
theorem CS(C:eY σ a cl is){row:List Lt}(a1:∀t∈row,bN t)(L:row.length<=60){n0:Nat}(b8:n0+2*row.length<=1000000000)
  (q:∀x M,M<=n0+2*row.length->Sp none row x->x.length<=27*row.length->Q (.str x) (σ.upd a (sr cl M))):
  ∀(f bv:List Lt)(x:List Nat)(n:Nat)(s3 s4 F:Option PV),row=bv++f->n<=n0+2*bv.length->x.length<=27*bv.length->(∀rest y,Sp bv.getLast? rest y->Sp none (bv++rest) (x++y))->
  bu (fun O σ K'=>ai (d+2) (ax pF 1) O σ K' (ao X)) [3] ((Rf bv.length f.length).map fun(i:Nat)=>PV.int i) [some (.ref a),some (.lst (row.map lv)),some (.str x),s3,s4,F,none,none,none,none,none,none] (σ.upd a (sr cl n)) (wf (d+2) Q X):=by
 intro f;induction f with
 |nil=>intro bv x n s3 s4 F c hn Y hS;rw[NB]at c;rw[←c]at hn Y;have z:=hS [] [] .nil;rw[NB,NB,←c]at z;exact ag (q x n hn z Y)
 |cons t f ih=>
  intro bv x n s3 s4 F c hn Y hS;have c0:bv.length+1+f.length=row.length:=by rw[c,M9,Nz];exact Qa ..
  have P:n+2<=1000000000:=by lia
  have u:bN t:=a1 t (by rw[c];exact On _ (Ng ..));have H:(row.map lv).length<=1000000:=by rw[Nb];exact M7 L (by decide)
  have hi:(row.map lv).drop bv.length=lv t::f.map lv:=by rw[c];exact qW
  have fin:∀(g:Nat)(F:Option PV)(i:Nat),i=bv.length->we bv.getLast? t g->g<=2->ai (d+2) ((ax pF 1).drop 2) [some (.ref a),some (.lst (row.map lv)),some (.str x),some (.int i),some (.int g),F,none,none,none,none,none,none] (σ.upd a (sr cl (n+1)))
    (fun o j k=>match o with|some v=>wf (d+2) Q X (some v) j k|none=>bu (fun O σ K'=>ai (d+2) (ax pF 1) O σ K' (ao X)) [3] ((Rf (bv.length+1) f.length).map fun(i:Nat)=>PV.int i) j k (wf (d+2) Q X)) (ao X):=fun g F i e hg V=>by
   subst e;have c2:(x++NF g 32).length<=27*bv.length+2:=by rw[M9,Pg];exact Od Y V
   refine⟨NK g,Int.ofNat_le.mpr (M7 V (by decide)),?_,ah (aU hi H) (Li C P u fun w M c3 hw=>⟨?_,?_⟩)⟩
   .show x.length+(NF g 32).length<=1048576;rw[Pg];lia
   .have:=nW u hw;show(x++NF g 32).length+w.length<=1048576;lia
   .have c4:=nW u hw;have z:=ih (bv++[t]) (x++NF g 32++w) M (some (.int bv.length)) (some (.int g)) F (by rw[Nk];exact c) (by rw[M9];show M<=n0+2*(bv.length+1);lia) (by
      rw[M9,M9 (as:=bv)];show _<=27*(bv.length+1);lia) (fun rest y h=>by
      rw[TY]at h;have z:=hS (t::rest) _ (.cons hw hg h);rw[Nk bv,Nk x,Nk x];exact z)
    rw[M9]at z;exact z
  refine⟨_,rfl,cW C (M7 (Nn ..) P) (m:=3) (by decide) fun r hr=>ec (a:=r) (b:=0) (fun h0=>fX (a:=0) (b:=bv.length) (fun Z=>?_) fun Z=>?_) fun h0=>?_⟩
  .rcases bT bv with e|⟨A,p,e⟩
   .rw[e]at Z;exact absurd Z (by decide)
   have a6:((bv.length:Nat):Int)-1=(A.length:Int):=by rw[e,M9];exact Qe (A.length:Int) 1
   have hj:(row.map lv).drop A.length=lv p::(t::f).map lv:=by rw[c,e,Nk];exact qW
   have a7:bv.getLast? =some p:=by rw[e,TY]
   have K:bl (.lst (row.map lv)) (.int (((bv.length:Nat):Int)-1)) (σ.upd a (sr cl (n+1)))=some (lv p):=by rw[a6];exact aU hj H
   have D:bl (.lst (row.map lv)) (.int bv.length) (σ.upd a (sr cl (n+1)))=some (lv t):=aU hi H;have E:∀b,(bA t&&bA p)=b->ai (d+2) [MS.ite (.bop false [(.tru (.loc 5)),(.cmp .Eq (.idx (.loc 1) (.bin .Sub (.loc 3) (.lit (.int (1))))) (.lit (.str [37])))]) [(.asg 4 (.lit (.int (1))))] []] [some (.ref a),some (.lst (row.map lv)),some (.str x),some (.int bv.length),some (.int r),some (.bool b),none,none,none,none,none,none] (σ.upd a (sr cl (n+1)))
     (fun o a8 k=>match o with|some v=>a_ Q v k|none=>ai (d+2) ((ax pF 1).drop 2) a8 k (fun o j k=>match o with|some v=>wf (d+2) Q X (some v) j k|none=>bu (fun O σ K'=>ai (d+2) (ax pF 1) O σ K' (ao X)) [3] ((Rf (bv.length+1) f.length).map fun(i:Nat)=>PV.int i) j k (wf (d+2) Q X)) (ao X)) (ao X):=fun b hb=>by
    refine fF (b:=b) (fun h=>fin 1 _ _ rfl (fun z=>aK (beq_iff_eq.mpr z)) (by decide)) fun h=>ah K (ak FW ?_);cases hq:cK p with
    |true=>exact fin 1 _ _ rfl (fun z=>aK (beq_iff_eq.mpr z)) (by decide)
    |false=>exact fin r _ _ rfl (fun _ y W=>by rw[a7]at W;injection W with z0;subst z0;exact⟨hb.trans h,hq⟩) (M7 (NJ h0) (by decide))
   rcases Mh t with⟨s,e1,e2⟩|⟨vs,e1,e2⟩
   .rw[e1]at D;exact ah D ⟨false,rfl,E false (by rw[e2];rfl)⟩
   rw[e1]at D;rcases Mh p with⟨s,f1,f2⟩|⟨vs,f1,f2⟩
   .have l:=K;rw[f1]at l;exact ah D ⟨true,rfl,ah l (E false (by rw[e2,f2];rfl))⟩
   .have l:=K;rw[f1]at l;exact ah D ⟨true,rfl,ah l (E true (by rw[e2,f2];rfl))⟩
  .exact fin r _ _ rfl (fun _ y W=>by
    have:bv=[]:=List.length_eq_zero_iff.mp (Nat.le_zero.mp Z);rw[this]at W;exact aj W) (M7 (NJ h0) (by decide))
  .exact fin r _ _ rfl (fun z=>absurd z h0) (NO hr)
theorem Lj(C:eY σ a cl is){row:List Lt}(c:∀t∈row,bN t)(b:row.length<=60){n:Nat}(g:n+2*row.length<=1000000000)
  (q:∀x f,f<=n+2*row.length->Sp none row x->x.length<=27*row.length->Q (.str x) (σ.upd a (sr cl f))):af (d+3) (.ref 858) [.ref a,.lst (row.map lv)] (σ.upd a (sr cl n)) Q X:=by
 have j:(row.map lv).length=row.length:=Nb ..;have e:(OM row.length).map (fun(i:Nat)=>PV.int i)=(Rf ([]:List Lt).length row.length).map fun(i:Nat)=>PV.int i:=by rw[RT];rfl
 exact J9 ⟨_,by show rU (.int ((row.map lv).length:Nat))=_;rw[j,lQ (M7 b (by decide)),e],CS C c b g q row [] [] n none none none rfl (Nj _) (Nj _) fun rest y h=>h⟩
end
noncomputable def cn:Lt->Bool
 |.sg s=>s==[40]
 |_=>false
noncomputable def gQ:Lt->Bool
 |.sg s=>s==[41]
 |_=>false
noncomputable def eZ:List Lt->List Lt
 |[]=>[]
 |x::r=>if cn x=true then r else eZ r
noncomputable def cN:List Lt->List Lt
 |[]=>[]
 |x::r=>if cn x=true then x::r else cN r
noncomputable def aR:List Lt->Bool->List Lt->Bool
 |_,_,[]=>false
 |st,en,t::r=>if(bA t||gQ t)=true then(if 10<st.length then true else aR (cN (if(gQ t&&st.any cn)=true then eZ st else st)) true r)
   else if(cn t|| !en)=true then aR (t::st) false r else aR st false r
section
variable{d a:Nat}{σ:aa}{Q:QV}{X:QX}
theorem DW{a:aa}:fK (lv t) (.str [40]) a=some (cn t):=by cases t<;>rfl
theorem GZ{a:aa}:fK (lv t) (.str [41]) a=some (gQ t):=by cases t<;>rfl
theorem FX{b:aa}{vs:List PV}(h:b a=some (.lst vs)):eJ .NotEq (.ref a) (.lst []) b=some (!vs.isEmpty):=by
 show(fK _ _ _).map _=_;have:fK (.ref a) (.lst []) b=some vs.isEmpty:=by
  unfold fK;rw[bg h];show(if(b' (.lst vs) 60&&true)=true then some (dX vs [])else some vs.isEmpty)=_;split
  .cases vs<;>rfl
  .rfl
 rw[this];rfl
theorem zs(a:List Lt):gT (a.map lv)=true:=by
 induction a with
 |nil=>exact rfl
 |cons t r b=>show(b' (lv t) 60&&gT (r.map lv))=true;rw[b];cases t<;>rfl
theorem CT(a:List Lt):((a.map lv).any fun v=>fB v (.str [40]))=a.any cn:=by
 induction a with
 |nil=>exact rfl
 |cons t r b=>rw[NU,Pf,Pf,b];cases t<;>rfl
theorem M0{c:aa}{b:List Lt}(h:c a=some (.lst (b.map lv))):kU (.str [40]) (.ref a) c=some (b.any cn):=by unfold kU;rw[bg h];show(if(true&&gT (b.map lv))=true then some _ else none)=_;rw[zs,CT];rfl
theorem FY{c:aa}{b:List Lt}{t:Lt}(h:c a=some (.lst ((b++[t]).map lv)))(d:b.length<=1000):bl (.ref a) (.int (-1)) c=some (lv t):=by
 unfold bl;rw[bg h];have e:((b++[t]).map lv).length=b.length+1:=by rw[Nb,M9];rfl
 show((kY (-((0:Nat)+1:Int)) ((b++[t]).map lv).length).bind fun j=>((b++[t]).map lv)[j]?)=_;rw[pH (i:=0) (n:=((b++[t]).map lv).length) (by rw[e];exact Oh _) (by rw[e];exact M7 (NE d) (by decide)),e];show((b++[t]).map lv)[b.length]? =_;rw[NG,Q7 (by rw[Nb];exact Nj _),Nb,Su];rfl
theorem zu{b:aa}{c:List Lt}{t:Lt}{q:PV->aa->Prop}(h:b a=some (.lst ((c++[t]).map lv)))(k:q (lv t) (b.upd a (.lst (c.map lv)))):xj (.ref a) 1 b/\xi (.ref a) 1 [] b q:=
 ⟨lJ h (by decide),cj h ⟨rfl,c.map lv,lv t,by rw[NG];rfl,k⟩⟩
noncomputable def my(st:List Lt):List PV:=st.reverse.map lv
noncomputable def iV(l:List MS):List MS:=match l with
 |.ite _ b _::_=>b
 |_=>[]
noncomputable abbrev D1:List MS:=iV (ax iC 2)
noncomputable abbrev E1(st row:PV)(en:Bool)(t:Lt):ar:=[some row,some st,some (.bool en),some (lv t),none,none,none]
theorem CU{K:QS}(st:List Lt):∀(en:Bool),st.any cn=true->st.length<=1000->(∀en,K none (E1 (.ref a) row en t) (σ.upd a (.lst (my (eZ st)))))->bE (fun c σ K'=>fQ d (cx (iV (D1.drop 1)) 0) c σ K' X) (fun c σ K'=>ai d (ax (iV (D1.drop 1)) 0) c σ K' X) (st.length+1) (E1 (.ref a) row en t) (σ.upd a (.lst (my st))) K:=by
 induction st with
 |nil=>exact fun en h _ _=>aK h
 |cons x r g=>
  intro en h i k;have hs:(σ.upd a (.lst (my (x::r)))) a=some (.lst ((r.reverse++[x]).map lv)):=by rw[aa.uS];unfold my;rw[Qk]
  refine⟨(zu (q:=fun _ _=>True) hs trivial).1,(zu hs ?_).2⟩;rw[aa.uU];refine ak (b:= !(cn x)) (by show(fK _ _ _).map _=_;rw[DW];rfl) ?_;cases f:cn x with
  |true=>have e:eZ (x::r)=r:=Nd f;rw[e]at k;exact k en
  |false=>
   have e:eZ (x::r)=eZ r:=Na (by rw[f];decide);rw[e]at k;have h':r.any cn=true:=by rw[Pf,f]at h;exact h
   exact g true h' (Nr i) k
theorem zv{K:QS}(st:List Lt):st.length<=1000->K none (E1 (.ref a) row en t) (σ.upd a (.lst (my (cN st))))->bE (fun c σ K'=>fQ d (cx (D1.drop 2) 0) c σ K' X) (fun c σ K'=>ai d (ax (D1.drop 2) 0) c σ K' X) (st.length+1) (E1 (.ref a) row en t) (σ.upd a (.lst (my st))) K:=by
 induction st with
 |nil=>exact fun _ k=>ak (b:=false) (FX (aa.uS ..)) k
 |cons x r h=>
  intro f k;have i:my (x::r)=(r.reverse++[x]).map lv:=by unfold my;rw[Qk]
  have hs:(σ.upd a (.lst (my (x::r)))) a=some (.lst ((r.reverse++[x]).map lv)):=by rw[aa.uS,i]
  refine ak (b:=true) (by rw[FX hs];cases r.reverse<;>rfl) (ah (FY hs (by rw[QP];exact Nr f)) (ak (b:= !(cn x)) (by show(fK _ _ _).map _=_;rw[DW];rfl) ?_));cases g:cn x with
  |true=>have e:cN (x::r)=x::r:=Nd g;rw[e]at k;exact k
  |false=>have e:cN (x::r)=cN r:=Na (by rw[g];decide);rw[e]at k;refine⟨(zu (q:=fun _ _=>True) hs trivial).1,(zu hs ?_).2⟩;rw[aa.uU];exact h (Nr f) k
theorem nY:∀st,(cN st).length<=st.length
 |[]=>Nj _
 |x::r=>by unfold cN;split;exact Nj _;exact OA (nY r)
theorem kL:∀st,(eZ st).length<=st.length
 |[]=>Nj _
 |x::r=>by unfold eZ;split;exact Oi _;exact OA (kL r)
theorem CV(C:σ a=none)(r:List Lt):∀(st:List Lt)(en:Bool)(s3:Option PV),st.length+r.length<=1000->Q (.bool (aR st en r)) σ->bu (fun k σ K'=>ai d (ax iC 2) k σ K' (ao X)) [3] (r.map lv) [some row,some (.ref a),some (.bool en),s3,none,none,none] (σ.upd a (.lst (my st))) (fun o f c=>match o with|some v=>a_ Q v c|none=>ai d (iC.drop 3) f c (fun o _ c=>a_ Q (o.getD .none) c) (ao X)):=by
 induction r with
 |nil=>exact fun st en s3 _ q=> .val (ed _ C) q
 |cons t r u=>
  intro st en s3 D q;have l:st.length<=1000:=M7 (Nn _ _) D;have m:st.length+r.length+1<=1000:=D;have ll:gU (.ref a) (σ.upd a (.lst (my st)))=some st.length:=by rw[pL (aa.uS ..)];unfold my;rw[Nb,QP]
  have i:(bA t||gQ t)=true->ai d D1 (E1 (.ref a) row en t) (σ.upd a (.lst (my st))) (fun o f c=>match o with|some v=>a_ Q v c|none=>bu (fun k σ K'=>ai d (ax iC 2) k σ K' (ao X)) [3] (r.map lv) f c (fun o f c=>match o with|some v=>a_ Q v c|none=>ai d (iC.drop 3) f c (fun o _ c=>a_ Q (o.getD .none) c) (ao X))) (ao X):=fun h=>by
   have e:aR st en (t::r)=if 10<st.length then true else aR (cN (if(gQ t&&st.any cn)=true then eZ st else st)) true r:=Nd h;rw[e]at q;refine tT ll (fX (a:=10) (b:=st.length) (fun g=>?_) fun g=>?_)
   .rw[Nd g]at q;exact .val (ed _ C) q
   rw[Na (Nat.not_lt.mpr g)]at q;refine ak GZ ?_;have w:∀(j:List Lt)(en:Bool),j.length<=st.length->Q (.bool (aR (cN j) true r)) σ->ai d (D1.drop 2) (E1 (.ref a) row en t) (σ.upd a (.lst (my j))) (fun o f c=>match o with|some v=>a_ Q v c|none=>bu (fun k σ K'=>ai d (ax iC 2) k σ K' (ao X)) [3] (r.map lv) f c (fun o f c=>match o with|some v=>a_ Q v c|none=>ai d (iC.drop 3) f c (fun o _ c=>a_ Q (o.getD .none) c) (ao X))) (ao X):=fun j en h q=>
    ⟨_,zv j (M7 h l) (u (cN j) true (some (lv t)) (M7 (NL (M7 (nY j) h) _) (Nr m)) q)⟩
   cases x:gQ t with
   |false=>rw[Na (by rw[x];exact N5)]at q;exact w st en (Nj _) q
   |true=>
    refine ak (M0 (by rw[aa.uS];rfl)) ?_;rw[List.any_reverse];cases n:st.any cn with
    |false=>rw[Na (by rw[x,n];exact N5)]at q;exact w st en (Nj _) q
    |true=>rw[Nd (by rw[x,n];rfl)]at q;exact⟨_,CU st en n l fun en=>w (eZ st) en (kL st) q⟩
  have y:(bA t||gQ t)=false->ai d [(.ite (.bop false [(.cmp .Eq (.loc 3) (.lit (.str [40]))),(.nt (.tru (.loc 2)))]) [(.expr (.calM (.loc 1) 0 [(.loc 3)])),(.asg 2 (.lit (.bool false)))] [(.asg 2 (.lit (.bool false)))])] (E1 (.ref a) row en t) (σ.upd a (.lst (my st))) (fun o f c=>match o with|some v=>a_ Q v c|none=>bu (fun k σ K'=>ai d (ax iC 2) k σ K' (ao X)) [3] (r.map lv) f c (fun o f c=>match o with|some v=>a_ Q v c|none=>ai d (iC.drop 3) f c (fun o _ c=>a_ Q (o.getD .none) c) (ao X))) (ao X):=fun h=>by
   have e:aR st en (t::r)=if(cn t|| !en)=true then aR (t::st) false r else aR st false r:=Na (by rw[h];decide);rw[e]at q;have p:(cn t|| !en)=true->ai d [(.expr (.calM (.loc 1) 0 [(.loc 3)])),(.asg 2 (.lit (.bool false)))] (E1 (.ref a) row en t) (σ.upd a (.lst (my st))) (fun o f c=>match o with|some v=>a_ Q v c|none=>bu (fun k σ K'=>ai d (ax iC 2) k σ K' (ao X)) [3] (r.map lv) f c (fun o f c=>match o with|some v=>a_ Q v c|none=>ai d (iC.drop 3) f c (fun o _ c=>a_ Q (o.getD .none) c) (ao X))) (ao X):=fun g=>by rw[Nd g]at q;refine⟨lJ (aa.uS ..) (by decide),cj (aa.uS ..) ⟨by unfold my;rw[Nb,QP];exact Nf l (by decide),?_⟩⟩;rw[aa.uU];have z:=u (t::st) false (some (lv t)) (by rw[Nz,Qa];exact m) q;unfold my at z⊢;rw[Qk,NG]at z;exact z
   refine ak DW ?_;cases A:cn t with
   |true=>exact p (by rw[A];rfl)
   |false=>
    refine ak (b:=en) rfl ?_;cases en with
    |false=>exact p (by rw[A];rfl)
    |true=>rw[Na (by rw[A];decide)]at q;exact u st false (some (lv t)) (Nr m) q
  refine⟨_,rfl,?_⟩;cases t with
  |sg s=>
   refine ak (b:=false) rfl (ak (GZ (t:= .sg s)) ?_);cases h:gQ (.sg s)with
   |true=>exact i (by rw[h];rfl)
   |false=>exact y (by rw[h];rfl)
  |num=>exact ak (b:=true) rfl (i rfl)
  |sym=>exact ak (b:=true) rfl (i rfl)
  |here=>exact ak (b:=true) rfl (i rfl)
theorem Lk{row:List Lt}(b:row.length<=1000)(q:Q (.bool (aR [] false row)) σ):af (d+1) (.ref 865) [.lst (row.map lv)] σ Q X:=
 J_ fun a c=>⟨_,rfl,CV c row [] false none (by rw[Oa,N7];exact b) q⟩
end
noncomputable def oB:Lt->List Nat
 |.sg s=>s
 |_=>[]
noncomputable def jR:Lt->Bool
 |.sg s=>decide (s∈eD)
 |_=>false
noncomputable def nZ:Lt->Bool
 |.sg s=>decide (s∈gP)
 |_=>false
noncomputable def kM:Lt->Tr
 |.num n=> .num n
 |.sym s=> .name s
 |_=> .here
noncomputable def gD:List Lt->Bool
 |u::_=> !(jR u)
 |[]=>false
noncomputable def bI:Option Nat->Int
 |none=> -1
 |some i=>i
noncomputable def az(h0:Lt):List Lt->Nat->Int->Bool->Option Nat->Nat->Option (Int×Option Nat)
 |[],_,a,_,best,_=>some (a,best)
 |t::r,i,a,en,best,lev=>
  if bA t=true then az h0 r (i+1) a true best lev
  else if cn t=true then az h0 r (i+1) (a+1) false best lev
  else if gQ t=true then(if a-1<0\/(a-1=0/\best=none/\cn h0=true/\gD r=true)then none else az h0 r (i+1) (a-1) true best lev)
  else if en=true/\a=0/\1<=ae (oB t)/\ae (oB t)<=lev then az h0 r (i+1) a false (some i) (ae (oB t))
  else az h0 r (i+1) a false best lev
theorem pQ(h0 t:Lt)(r:List Lt)(i:Nat)(a:Int)(en:Bool)(best:Option Nat)(lev:Nat):az h0 (t::r) i a en best lev=
  if bA t=true then az h0 r (i+1) a true best lev
  else if cn t=true then az h0 r (i+1) (a+1) false best lev
  else if gQ t=true then(if a-1<0\/(a-1=0/\best=none/\cn h0=true/\gD r=true)then none else az h0 r (i+1) (a-1) true best lev)
  else if en=true/\a=0/\1<=ae (oB t)/\ae (oB t)<=lev then az h0 r (i+1) a false (some i) (ae (oB t))
  else az h0 r (i+1) a false best lev:=rfl
noncomputable def G0:List (List Nat×PV):=[([42],.int 3),([47],.int 3),([37],.int 3),([60,60],.int 3),([62,62],.int 3),([124],.int 2),([38],.int 2),([94],.int 2),([43],.int 1),([45],.int 1)]
theorem qX(s:List Nat):i' G0 s=if 1<=ae s then some (.int (ae s))else none:=by
 unfold i' G0;by_cases c:s=[43];· subst c;rfl
 by_cases d:s=[45];· subst d;rfl
 by_cases e:s=[124];· subst e;rfl
 by_cases f:s=[38];· subst f;rfl
 by_cases g:s=[94];· subst g;rfl
 by_cases i:s=[42];· subst i;rfl
 by_cases j:s=[47];· subst j;rfl
 by_cases l:s=[37];· subst l;rfl
 by_cases m:s=[60,60];· subst m;rfl
 by_cases b:s=[62,62];· subst b;rfl
 have a:∀k:List Nat,s≠k->decide (k=s)=false:=fun k h=>NQ (NZ h);have n:ae s=0:=by unfold ae;rw[Na (fun h=>h.elim c d),Na (fun h=>h.elim e fun h=>h.elim f g),Na (fun h=>h.elim i fun h=>h.elim j fun h=>h.elim l fun h=>h.elim m b)]
 rw[n];simp only[QG,a _ c,a _ d,a _ e,a _ f,a _ g,a _ i,a _ j,a _ l,a _ m,a _ b,List.find?_nil,Option.map_none];rfl
section
variable{d a:Nat}{σ:aa}{Q:QV}{X:QX}
theorem hG{σ a:aa}(h:Le σ a)(c:a b=none):Le σ (a.upd b m):=fun x n d=>by have:=h x n d;rw[aa.uN _ _ (fun e=>by rw[e,c]at this;exact aj this)];exact this
theorem CW{a:aa}(q:∀b,a b=none->Q (.ref b) (a.upd b (.dct G0))):af (d+1) (.ref 808) [] a Q X:=
 J5 ⟨rfl,by decide,fun b c=>ag (q b c)⟩
theorem FZ{a:aa}(h:a b=some (.dct kvs)):kU (.str s) (.ref b) a=some (i' kvs s).isSome:=by unfold kU;rw[kJ h];show(fP a (.ref b)).map _=_;rw[ef h];rfl
theorem wg{a:aa}(h:a b=some (.dct kvs))(k:i' kvs s=some v):bl (.ref b) (.str s) a=some v:=by unfold bl;rw[kJ h];show(fP a (.ref b)).bind _=_;rw[ef h];exact k
theorem AO{a:aa}(h:a b=some (.dct G0))(g:1<=ae s):bl (.ref b) (.str s) a=some (.int (ae s)):=wg h (by rw[qX,Nd g])
theorem F0(s:List Nat):∀ss:List (List Nat),((ss.map PV.str).any fun v=>fB v (.str s))=decide (s∈ss):=qS s
theorem CX{a:aa}:eJ .NotIn (lv u) (cu 7) a=some (!(jR u)):=by
 rw[FQ];show(kU _ _ _).map _=_;cases u with
 |sg s=>show(if(true&&gT (eD.map .str))=true then some ((eD.map PV.str).any fun v=>fB v (.str s))else none).map _=_;rw[jN,F0];rfl
 |_=>rfl
noncomputable abbrev n7(row:PV)(a:Int)(en:Bool)(best:Option Nat)(lev:Nat)(b c:Option PV):ar:=[some row,some (.int a),some (.bool en),some (.int (bI best)),some (.int lev),b,c,none,none,none,none,none,none,none,none,none,none,none]
theorem zw{row:List Lt}:((row.map lv).length:Int)=(row.length:Int):=by rw[Nb]
noncomputable def Ll(σ:aa)(row:List Lt)(K:QS):Option (Int×Option Nat)->Prop
 |none=>∀d a,Le σ a->K (some .none) d a
 |some z=>∀a c b e f,Le σ a->K none (n7 (.lst (row.map lv)) z.1 c z.2 b e f) a
section
variable{row r bv:List Lt}{h0 t:Lt}{s:List Nat}{i lev:Nat}{dep:Int}{en:Bool}{best:Option Nat}{K:QS}
theorem zx{W:Option (Int×Option Nat)->Prop}{a b:Option (Int×Option Nat)}(q:W a)(e:a=b):W b:=e▸q
theorem CY(h:cn (.sg s)=true):az h0 (.sg s::r) i dep en best lev=az h0 r (i+1) (dep+1) false best lev:=Nd h
theorem CZ(h:cn (.sg s)=false)(h':gQ (.sg s)=true):az h0 (.sg s::r) i dep en best lev=if dep-1<0\/(dep-1=0/\best=none/\cn h0=true/\gD r=true)then none else az h0 r (i+1) (dep-1) true best lev:=
 (Na (show ¬bA (.sg s)=true from N5)).trans ((Na fun e=>N5 (h.symm.trans e)).trans (Nd h'))
theorem C0(h:cn (.sg s)=false)(h':gQ (.sg s)=false):az h0 (.sg s::r) i dep en best lev=if en=true/\dep=0/\1<=ae s/\ae s<=lev then az h0 r (i+1) dep false (some i) (ae s)else az h0 r (i+1) dep false best lev:=
 (Na (show ¬bA (.sg s)=true from N5)).trans ((Na fun e=>N5 (h.symm.trans e)).trans (Na fun e=>N5 (h'.symm.trans e)))
theorem F1(a:row=bv++t::r):(gD r=false/\decide ((bv.length:Int)<((row.map lv).length:Int)-1)=false)\/
  ∃u xs,gD r= !(jR u)/\decide ((bv.length:Int)<((row.map lv).length:Int)-1)=true/\(row.map lv).drop (bv.length+1)=lv u::xs:=by
 have hi:(row.map lv).drop bv.length=lv t::r.map lv:=by rw[a];exact qW
 have e:row.length=bv.length+(r.length+1):=by rw[a,M9];rfl
 rw[zw,e];cases r with
 |nil=>exact .inl ⟨rfl,NQ (by show ¬_;simp)⟩
 |cons u r'=>exact .inr ⟨u,r'.map lv,rfl,NN (by simp;lia),cb (r:=(u::r').map lv) hi⟩
end
theorem zy{row r bv:List Lt}{h0 t:Lt}{j:Int}{en:Bool}{best:Option Nat}{lev:Nat}{D E:Option PV}{l:aa}(y:row.head? =some h0)(v:(row.map lv).length<=1000000)(n:row=bv++t::r){W:Option (Int×Option Nat)->Prop}(f:Le σ l)
  (q:W (az h0 (t::r) bv.length j en best lev)) {J:QS} (A:W none->∀O l,Le σ l->J (some .none) O l)
  (o:∀j en best lev D E l,Le σ l->W (az h0 r (bv.length+1) j en best lev)->J none (n7 (.lst (row.map lv)) j en best lev D E) l):
  ai (d+1) (ax tA 5) ((n7 (.lst (row.map lv)) j en best lev D E).set 5 (some (.int bv.length))) l J X:=by
 refine ah (aU (by rw[n];exact qW) v) ?_;cases t with
 |num k=>exact ak (b:=true) rfl (o _ _ _ _ _ _ _ f q)
 |sym k=>exact ak (b:=true) rfl (o _ _ _ _ _ _ _ f q)
 |here=>exact ak (b:=true) rfl (o _ _ _ _ _ _ _ f q)
 |sg s=>
  refine ak (b:=false) rfl (ak (DW (t:= .sg s)) ?_);cases F:cn (.sg s)with
  |true=>exact o _ _ _ _ _ _ _ f (zx q (CY F))
  |false=>
   refine ak (GZ (t:= .sg s)) ?_;cases L:gQ (.sg s)with
   |true=>
    have q:=zx q (CZ F L);refine iT (p:=j-1<0) (fun g=>A (zx q (Nd (.inl g))) _ _ f) fun g=>Cj (a:=j-1) (b:=0) (fun g1=>?_) fun g1=>o _ _ _ _ _ _ _ f (zx q (Na fun w=>w.elim g fun w=>g1 w.1));have m:=fun z:¬(best=none/\cn h0=true/\gD r=true)=>o _ _ _ _ (some (.int bv.length)) (some (.str s)) _ f (zx q (Na fun w=>w.elim g fun w=>z w.2));cases best with
    |some i=>exact ak (b:=false) (Nw some (NQ (Int.not_lt.mpr (NK i)))) (m fun z=>aK (beq_iff_eq.mpr z.1))
    |none=>
     refine ak (b:=true) rfl (ah (aU (i:=0) (c:=lv h0) (r:=(row.drop 1).map lv) (by cases row with|nil=>exact aj y|cons x xs=>injection y with z0;subst z0;rfl) v) (ak (DW (t:=h0)) ?_));cases hh:cn h0 with
     |false=>exact m fun z=>N5 (hh.symm.trans z.2.1)
     |true=>
      rcases F1 n with⟨e,h⟩|⟨u,xs,e,h,P⟩
      .exact ak (b:=false) (Nw some h) (m fun z=>N5 (e.symm.trans z.2.2))
      .refine ak (b:=true) (Nw some h) (ah (aU (i:=bv.length+1) P v) (ak CX ?_));cases M:jR u with
       |true=>exact m fun z=>by rw[e,M]at z;exact N5 z.2.2
       |false=>exact A (zx q (Nd (.inr ⟨g1,rfl,hh,by rw[e,M];rfl⟩))) _ _ f
   |false=>
    have q:=zx q (C0 F L);have m:=fun(z:¬(en=true/\j=0/\1<=ae s/\ae s<=lev)) l f=>o _ _ _ _ (some (.int bv.length)) (some (.str s)) l f (zx q (Na z));refine ak (b:=en) rfl ?_;cases en with
    |false=>exact m (fun z=>aK z.1) _ f
    |true=>
     refine Cj (a:=j) (b:=0) (fun g=>CW fun b H=>ak (FZ (aa.uS ..)) ?_) fun g=>m (fun z=>g z.2.1) _ f;rw[qX];by_cases g1:1<=ae s
     .rw[Nd g1];exact CW fun b2 C=>ah (AO (aa.uS ..) g1) (Ck (a:=ae s) (b:=lev) (fun g2=>CW fun b3 K=>ah (AO (aa.uS ..) g1) (o _ _ _ _ _ _ _ (hG (hG (hG f H) C) K) (zx q (Nd ⟨rfl,g,g1,g2⟩)))) fun g2=>m (fun z=>absurd z.2.2.2 (Nat.not_le.mpr g2)) _ (hG (hG f H) C))
     .rw[Na g1];exact m (fun z=>g1 z.2.2.1) _ (hG f H)
theorem C1{row:List Lt}{h0:Lt}(j:row.head? =some h0)(l:row.length<=1000){K:QS}:
  ∀(b bv:List Lt)(a:Int)(en:Bool)(best:Option Nat)(lev:Nat)(g h:Option PV)(f:aa),row=bv++b->Le σ f->Ll σ row K (az h0 b bv.length a en best lev)->
  bu (fun m σ K'=>ai (d+1) (ax tA 5) m σ K' X) [5] ((Rf bv.length b.length).map fun(i:Nat)=>PV.int i) (n7 (.lst (row.map lv)) a en best lev g h) f K:=by
 intro b;induction b with
 |nil=>intro bv a en best lev g h f c e q;exact q _ _ _ _ _ e
 |cons t r n=>intro bv a en best lev g h f c e q;have k:=n (bv++[t]);rw[M9,Nk]at k;exact⟨_,rfl,zy j (by rw[Nb];exact M7 l (by decide)) c e q (fun q=>q) fun a en best lev g h f=>k a en best lev g h f c⟩
end
noncomputable def gF(f:List Lt->Option Tr)(h:Lt)(a:List Lt):Option Nat->Option Tr
 |some i=>(f ((h::a).take i)).bind fun l=>(f ((h::a).drop (i+1))).map fun r=> .bin (oB ((h::a).getD i .here)) l r
 |none=>if bA h=true then(if a=[] then some (kM h)else none)
  else if cn h=true then(if gQ ((h::a).getLastD .here)=true then f a.dropLast else none)
  else if nZ h=true then(f a).map (.un (oB h))else none
noncomputable def n8(f:List Lt->Option Tr)(h:Lt)(b:List Lt):Option (Int×Option Nat)->Option Tr
 |none=>none
 |some (a,best)=>if a≠0 then none else gF f h b best
noncomputable def ba:Nat->List Lt->Option Tr
 |_,[]=>none
 |0,_=>none
 |n+1,h::a=>n8 (ba n) h a (az h (h::a) 0 0 false none 3)
def lR(a:List Lt)(i:Nat)(best:Option Nat)(k:Nat):Prop:=best=some k\/∃j,k=i+j/\j<a.length/\(∃s,a[j]? =some (.sg s)/\1<=ae s)
theorem lR.up(z:lR r (i+1) b k):lR (t::r) i b k:=
 z.imp id fun⟨j,e,a,s⟩=>⟨j+1,by rw[e,Oc,Ol 1],Qx a,s⟩
theorem lR.set(h:1<=ae (oB t))(z:lR r (i+1) (some i) k):lR (t::r) i b k:=by
 rcases z with z|z
 .cases t with
  |sg s=>exact .inr ⟨0,(Nh z).symm,Oh _,s,rfl,h⟩
  |_=>exact absurd (show 1<=ae [] from h) (by decide)
 .exact(lR.up (.inr z:lR r (i+1) none k)).imp (fun e=>aj e) id
theorem kN(c:List Lt):∀(i:Nat)(a:Int)(en:Bool)(best:Option Nat)(lev:Nat)(b:Int)(k:Nat),az h0 c i a en best lev=some (b,some k)->lR c i best k:=by
 induction c with
 |nil=>intro i a en best lev b k h;exact .inl (Sk (Nh h)).2
 |cons t r d=>
  intro i a en best lev b k h;rw[pQ]at h;by_cases f:bA t=true
  .exact(d _ _ _ _ _ _ _ (cf f h)).up
  replace h:=bV f h;by_cases g:cn t=true
  .exact(d _ _ _ _ _ _ _ (cf g h)).up
  replace h:=bV g h;by_cases j:gQ t=true
  .replace h:=cf j h;by_cases l:a-1<0\/(a-1=0/\best=none/\cn h0=true/\gD r=true)
   .exact aj (cf l h)
   .exact(d _ _ _ _ _ _ _ (bV l h)).up
  replace h:=bV j h;by_cases e:en=true/\a=0/\1<=ae (oB t)/\ae (oB t)<=lev
  .exact(d _ _ _ _ _ _ _ (cf e h)).set e.2.2.1
  .exact(d _ _ _ _ _ _ _ (bV e h)).up
section
variable{d:Nat}{σ:aa}{Q:QV}{X:QX}
noncomputable def tQ(o:Option Tr):PV:=match o with
 |none=> .none
 |some t=>tt t
theorem iW(t:Tr):isNone (tt t)=false:=by cases t<;>rfl
theorem qY{row:List Lt}{i:Nat}(h:i<=row.length){a:aa}:fC (.lst (row.map lv)) .none (.int i) a=some (.lst ((row.take i).map lv)):=by show some (PV.lst ((((row.map lv).drop 0).take (O5 (row.map lv).length i-0))))=_;rw[cJ,Nb,OL h,RZ,Vy,Ti]
theorem hH{row:List Lt}{i:Nat}(h:i<=row.length){a:aa}:fC (.lst (row.map lv)) (.int i) .none a=some (.lst ((row.drop i).map lv)):=by show some (PV.lst (((row.map lv).drop (O5 (row.map lv).length i)).take ((row.map lv).length-O5 (row.map lv).length i)))=_;rw[cJ,Nb,OL h,OT (by rw[Oe,Nb];exact Nj _),R8]
theorem wh{h:Lt}{a:List Lt}(b:a≠[]){c:aa}:fC (.lst ((h::a).map lv)) (.int 1) (.int (-1)) c=some (.lst (a.dropLast.map lv)):=by
 have d:O5 ((h::a).map lv).length 1=1:=by show O5 _ ((1:Nat):Int)=1;rw[cJ,Nb];exact OL (Oh _)
 have e:O5 ((h::a).map lv).length (-1)=a.length:=by unfold O5;rw[Nd (by decide),Nb,Nz,show(-1:Int)+((a.length+1:Nat):Int)=(a.length:Int)from(Nw ((-1:Int)+·) (Int.add_comm (a.length:Int) 1)).trans (Tu 1 _),UR (Int.ofNat_le.mpr (Oi _)),SJ (NK _)];rfl
 show some (PV.lst ((((h::a).map lv).drop (O5 ((h::a).map lv).length 1)).take (O5 ((h::a).map lv).length (-1)-O5 ((h::a).map lv).length 1)))=_;rw[d,e];show some (PV.lst ((a.map lv).take (a.length-1)))=_;rw[TO,Ti]
theorem F2{row:List Lt}{h:Lt}{c:List Lt}(e:row=h::c)(b:row.length<=1000){d:aa}:bl (.lst (row.map lv)) (.int (-1)) d=some (lv (row.getLastD .here)):=by
 rcases bT row with z|⟨W,t,rfl⟩
 .rw[z]at e;exact Bb e
 have a:((W++[t]).map lv).length=W.length+1:=by rw[Nb,M9];rfl
 show((kY (-((0:Nat)+1:Int)) ((W++[t]).map lv).length).bind fun j=>((W++[t]).map lv)[j]?)=_;rw[M9]at b;rw[pH (i:=0) (n:=((W++[t]).map lv).length) (by rw[a];exact Oh _) (by rw[a];exact M7 b (by decide)),a];show((W++[t]).map lv)[W.length]? =_;rw[NG,Q7 (by rw[Nb];exact Nj _),Nb,Su,RX];rfl
theorem Ln{a:aa}:eJ .NotIn (lv u) (cu 8) a=some (!(nZ u)):=by
 rw[FS];show(kU _ _ _).map _=_;cases u with
 |sg s=>show(if(true&&gT (gP.map .str))=true then some ((gP.map PV.str).any fun v=>fB v (.str s))else none).map _=_;rw[jN,F0];rfl
 |_=>rfl
theorem C2{vs:List PV}{a:aa}:fK (.lst vs) (.lst []) a=some vs.isEmpty:=by
 show(if(b' (.lst vs) 60&&true)=true then some (dX vs [])else some vs.isEmpty)=_;split
 .cases vs<;>rfl
 .rfl
noncomputable abbrev qZ(n L:Nat)(σ:aa):Prop:=∀{row:List Lt}{a:aa}{Q:QV}{X:QX},row.length<=L->Le σ a->(∀a,Le σ a->Q (tQ (ba n row)) a)->af (n+3) (.ref 872) [.lst (row.map lv)] a Q X
section
variable{n:Nat}{h:Lt}{tl row:List Lt}{σ τ:aa}{Q:QV}{X:QX}{dep:Int}{en':Bool}{Zq i:Nat}{s5 s6:Option PV}{s:List Nat}
theorem F3(h:qZ n tl.length σ)(j:(Lt.sg s::tl).length<=1000)(a:Le σ c)(q:∀c,Le σ c->Q (tQ (if nZ (.sg s)=true then(ba n tl).map (.un s)else none)) c):
  ai (n+3) (tA.drop 10) (n7 (.lst ((Lt.sg s::tl).map lv)) dep en' none Zq s5 s6) c (fun o _ f=>a_ Q (o.getD .none) f) (ao X):=by
 have d:((Lt.sg s::tl).map lv).length<=1000000:=by rw[Nb];exact M7 j (by decide)
 have e:((Lt.sg s::tl).map lv).drop 0= .str s::tl.map lv:=rfl;refine ah (aU (i:=0) e d) (ak (Ln (u:= .sg s)) ?_);cases g:nZ (.sg s)with
 |false=>rw[Na (by rw[g];exact N5)]at q;exact ag (q c a)
 |true=>
  rw[Nd g]at q;refine ah (hH (row:= .sg s::tl) (i:=1) (Oh _)) (h (row:=tl) (Nj _) a fun c a=>?_);revert q;cases ba n tl with
  |none=>exact fun q=>ak (b:=true) rfl (ag (q c a))
  |some b=>exact fun q=>ak (b:=isNone (tt b)) rfl (by rw[iW];exact ah (aU (i:=0) e d) (ag (q c a)))
theorem zB(ih:qZ n tl.length σ)(hl:(h::tl).length<=1000)(Ze:Le σ τ)(q:∀τ,Le σ τ->Q (tQ (gF (ba n) h tl none)) τ):
  ai (n+3) (tA.drop 8) (n7 (.lst ((h::tl).map lv)) dep en' none Zq s5 s6) τ (fun o _ Z6=>a_ Q (o.getD .none) Z6) (ao X):=by
 have hrl:((h::tl).map lv).length<=1000000:=by rw[Nb];exact M7 hl (by decide)
 have hd0:((h::tl).map lv).drop 0=lv h::tl.map lv:=rfl;have q:∀τ,Le σ τ->Q (tQ (if bA h=true then(if tl=[] then some (kM h)else none)else if cn h=true then(if gQ ((h::tl).getLastD .here)=true then ba n tl.dropLast else none)else if nZ h=true then(ba n tl).map (.un (oB h))else none)) τ:=q;refine ah (aU (i:=0) hd0 hrl) ?_;by_cases ht:bA h=true
 .rw[Nd ht]at q;have leaf:lv h=tt (kM h)->cR (n+3) (.ite (.cmp .Eq (.calB .len [(.loc 0)]) (.lit (.int (1)))) (.idx (.loc 0) (.lit (.int (0)))) (.lit .none)) (n7 (.lst ((h::tl).map lv)) dep en' none Zq s5 s6) τ (fun v Z6=>a_ Q v Z6) (ao X):=fun e2=>by
   refine ec (a:=((h::tl).map lv).length) (b:=1) (fun z=>ah (aU (i:=0) hd0 hrl) ?_) fun z=>?_
   .rw[Nb,Nz]at z;rw[Nd (List.length_eq_zero_iff.mp (Pp z))]at q;rw[e2];exact ag (q τ Ze)
   .rw[Na (fun e=>z (by rw[e];rfl))]at q;exact ag (q τ Ze)
  clear q ih;cases h with
  |sg s=>exact aK ht
  |_=>exact ak (b:=true) rfl (leaf rfl)
 .rw[Na ht]at q;cases h with
  |sg s=>
   refine ak (b:=false) rfl (ah (aU (i:=0) hd0 hrl) (ak (DW (t:= .sg s)) ?_));cases hL:cn (.sg s)with
   |true=>
    rw[Nd hL]at q;refine ah (F2 (row:= .sg s::tl) rfl hl) (ak GZ ?_);cases hR:gQ ((Lt.sg s::tl).getLastD .here)with
    |false=>rw[Na (by rw[hR];exact N5)]at q;exact ag (q τ Ze)
    |true=>
     rw[Nd hR]at q;have Zj:tl≠[]:=fun e=>by rw[e]at hR;exact absurd ((N9 hL:s=[40]).symm.trans (N9 hR:s=[41])) (by decide)
     exact ah (wh Zj) (ih (by rw[TX];exact Q9 _ _) Ze fun τ Ze=>ag (q τ Ze))
   |false=>rw[Na (by rw[hL];exact N5)]at q;exact F3 ih hl Ze q
  |_=>exact absurd rfl ht
theorem zC(h:qZ n row.length.pred σ)(j:row.length<=1000)(a:Le σ c)(d:i<row.length)(e:row[i]? =some (.sg s)) (q:∀c,Le σ c->Q (tQ ((ba n (row.take i)).bind fun l=>(ba n (row.drop (i+1))).map fun r=> .bin s l r)) c):
  ai (n+3) (tA.drop 7) (n7 (.lst (row.map lv)) dep en' (some i) Zq s5 s6) c (fun o _ g=>a_ Q (o.getD .none) g) (ao X):=by
 have f:(row.map lv).drop i= .str s::(row.drop (i+1)).map lv:=by rw[←R8,OZ d];rw[NA d]at e;rw[Nh e];rfl
 refine ak (b:=true) (Nw some (NN (NK i))) (ah (qY (NW d)) ?_);refine h (by rw[O1];exact M7 (QN _ _) (Nat.le_pred_of_lt d)) a fun c a=>ah (hH (i:=i+1) d) ?_;refine h (by rw[Oe];exact Uc (NE (NP i)) _) a fun c a=>?_;revert q;cases ba n (row.take i)with
 |none=>exact fun q=>ak (b:=true) rfl (ag (q c a))
 |some l=>
  refine fun q=>ak (b:=isNone (tt l)) rfl ?_;rw[iW];revert q;cases ba n (row.drop (i+1))with
  |none=>exact fun q=>ak (b:=true) rfl (ag (q c a))
  |some r=>exact fun q=>ak (b:=isNone (tt r)) rfl (by rw[iW];exact ah (aU f (by rw[Nb];exact M7 j (by decide))) (ag (q c a)))
end
theorem Lo(n:Nat):∀(row:List Lt)(σ c:aa),row.length<=n->n<=1000->Le σ c->∀{Q:QV}{X:QX},(∀c,Le σ c->Q (tQ (ba n row)) c)->af (n+3) (.ref 872) [.lst (row.map lv)] c Q X:=by
 induction n with
 |zero=>intro row σ c o _ a Q X q;have e:=List.length_eq_zero_iff.mp (Nat.le_zero.mp o);subst e;exact B' (ak (b:=true) rfl (ag (q c a)))
 |succ n p=>
  intro row σ c o l a Q X q;cases row with
  |nil=>exact B' (ak (b:=true) rfl (ag (q c a)))
  |cons h f=>
   have p:qZ n f.length σ:=fun{_ _ _ _} z a q=>p _ σ _ (M7 z (NO o)) (Nr l) a q;have r:(h::f).length<=1000:=M7 o l;clear o l;refine B' (ak (b:=false) C2 ⟨_,by show rU (.int (((h::f).map lv).length:Nat))=_;rw[Nb,lQ (M7 r (by decide)),RT];rfl,C1 (d:=n+2) (X:=ao X) (σ:=σ) (row:=h::f) (h0:=h) rfl r (h::f) [] 0 false none 3 none none c rfl a ?_⟩);have q:∀c,Le σ c->Q (tQ (n8 (ba n) h f (az h (h::f) 0 0 false none 3))) c:=q;have t:=kN (h0:=h) (h::f) 0 0 false none 3;rw[Oa];revert q t;cases az h (h::f) 0 0 false none 3 with
   |none=>exact fun q _ C c a=>ag (q c a)
   |some z=>
    obtain⟨k,best⟩:=z;intro q t c x u D E a;have q:∀c,Le σ c->Q (tQ (if k≠0 then none else gF (ba n) h f best)) c:=q;refine fF (b:= !(k==0)) (fun g=>?_) fun g=>?_
    .rw[Nd (fun e=>by rw[e]at g;exact aK g)]at q;exact ag (q c a)
    have g:k=0:=N9 (by cases z:k==0;rw[z]at g;exact df g;rfl);rw[Na (fun z=>z g)]at q;cases best with
    |some i=>apply bc;intro y;obtain⟨j,v,w,s,m,A⟩:=(t _ _ rfl).resolve_left (fun z=>aj z);apply y;rw[N7]at v;rw[←v]at w m;exact zC p r a w m (by rw[show s=oB ((h::f).getD i .here)by rw[OE,m];rfl];exact q)
    |none=>exact ak (b:=false) rfl (zB p r a q)
end
noncomputable def mz:Tr->List Tr
 |.un _ b=>mz b
 |.bin _ l r=>mz l++mz r
 |t=>[t]
theorem fw:∀t,(mz t).length<=sz t
 |.num _|.name _|.here=>Nj _
 |.un _ b=>OA (fw b)
 |.bin _ l r=>by show(mz l++mz r).length<=sz l+sz r+1;rw[M9];exact OA (Od (fw l) (fw r))
noncomputable def pR(s:List Nat)(a b:Int):Option Int:=
 if s=[47]\/s=[37] then(if b=0 then none else some (if s=[47] then(if a.fmod b≠0/\decide (a<0)≠decide (b<0)then a.fdiv b+1 else a.fdiv b)else a-b*(if a.fmod b≠0/\decide (a<0)≠decide (b<0)then a.fdiv b+1 else a.fdiv b)))
 else if s=[60,60]\/s=[62,62] then(if b<0\/63<b then none else some (if s=[60,60] then a*2^b.toNat else a.fdiv (2^b.toNat)))
 else some (if s=[42] then a*b else if s=[124] then a+b-OH a b else if s=[38] then OH a b else a+b-2*OH a b)
noncomputable def Mi(o:Option Int):PV:=match o with
 |none=> .none
 |some i=> .int i
section
variable{d:Nat}{σ:aa}{Q:QV}{X:QX}
theorem Lp(n:Nat):∀(t:Tr),sz t<=n->n<=2000->∀{Q:QV}{X:QX},Q (.lst ((mz t).map tt)) σ->af (n+1) (.ref 912) [tt t] σ Q X:=by
 induction n with
 |zero=>exact fun t h _ _ _ _=>absurd (dn t) (Nat.not_lt.mpr h)
 |succ n c=>
  intro t0;cases t0 with
  |num _=>exact fun h a Q X q=>vM (ah rfl (ak (b:=false) rfl (ah rfl (ak (b:=false) rfl (ag q)))))
  |name _=>exact fun h a Q X q=>vM (ah rfl (ak (b:=false) rfl (ah rfl (ak (b:=false) rfl (ag q)))))
  |here=>exact fun h a Q X q=>vM (ah rfl (ak (b:=false) rfl (ah rfl (ak (b:=false) rfl (ag q)))))
  |un s b=>exact fun h a Q X q=>vM (ah rfl (ak (b:=true) rfl (ah rfl (c b (NO h) (Nr a) (ag q)))))
  |bin s l r=>
   intro h a Q X q;have h':sz l+sz r<=n:=NO h;have d:sz l<=n:=M7 (Nn _ _) h';have e:sz r<=n:=M7 (Ny _ _) h';refine vM (ah rfl (ak (b:=false) rfl (ah rfl (ak (b:=true) rfl (ah rfl (c l d (Nr a) (ah rfl (c r e (Nr a) ⟨?_,ag ?_⟩))))))))
   .rw[Nb,Nb];exact M7 (Od (M7 (fw l) (M7 d (Nr a))) (M7 (fw r) (M7 e (Nr a)))) (by decide)
   .have q:Q (.lst ((mz l++mz r).map tt)) σ:=q;rw[NG]at q;exact q
theorem C3{m:Nat}{t:List Nat}{P:Option (List Tk)->Prop}(b:t.length<=2000)(L:ci t P)(c:P none->Q .none σ)(d:∀ks,P (some ks)->ks.length<=2000->∃o,eW m ks=some o/\match o with|none=>Q .none σ|some u=>Q (tv u) σ):
  af (m+9) (.ref 898) [.str t] σ Q X:=by
 refine Kb (FF (m:=m) b L (fun h=>⟨rfl,ag (c h)⟩) fun ks e f=>?_);obtain⟨o,g,a⟩:=d ks e f;refine⟨o,g,?_⟩;cases o with
 |none=>exact⟨rfl,ag a⟩
 |some u=>exact ag a
theorem Lq{e:Nat}{E:xm}(c:σ e=some (.dct (dv E)))(d:E.length<=100){n:Nat}{t:Tr}(h:sz t<=n)(f:n<=2000)(g:nQ (bG E []) t)(q:Q (Mi ((bG E [] t).bind fun a=>if aQ a=true then some a.w else none)) σ):af (n+10) (.ref 905) [tv t,.obj 703 [.ref e]] σ Q X:=by
 refine Kc (KY c d h f g ?_);cases b:((bG E [] t).bind fun a=>if aQ a=true then some a.w else none)with
 |none=>rw[b]at q;exact⟨rfl,ag q⟩
 |some x=>rw[b]at q;exact ag q
theorem M5:kU (.str s) (.tup [.str a,.str b]) σ=some (a==s||(b==s||false)):=rfl
theorem Lr{s:List Nat}{a b:Int}(ha:small a)(hb:small b)(hq:small (a.fdiv b))(hq1:small (a.fdiv b+1))(hand:small (OH a b))(hp:∀k:Nat,k<=63->small (2^k))(q:Q (Mi (pR s a b)) σ):af (d+1) (.ref 884) [.str s,.int a,.int b] σ Q X:=by
 unfold pR at q;refine Ka (fF (b:=[47]==s||([37]==s||false)) (fun h=>?_) fun h=>?_)
 .have h:s=[47]\/s=[37]:=by
   rcases Bool.or_eq_true_iff.mp h with h|h
   .exact .inl (N9 h).symm
   .rw[Rm]at h;exact .inr (N9 h).symm
  rw[Nd h]at q;refine Cj (fun e=>?_) fun e=>?_
  .rw[Nd e]at q;exact ag q
  rw[Na e]at q;have fin:∀c,(if a.fmod b≠0/\decide (a<0)≠decide (b<0)then a.fdiv b+1 else a.fdiv b)=c->small c->ai d [MS.ret (.ite (.cmp .Eq (.loc 0) (.lit (.str [47]))) (.loc 3) (.bin .Sub (.loc 1) (.bin .Mult (.loc 2) (.loc 3))))] [some (.str s),some (.int a),some (.int b),some (.int c),some (.int (a.fmod b)),none] σ (fun o _ Z6=>a_ Q (o.getD .none) Z6) (ao X):=fun c e sm=>by
   rw[e]at q;refine eV (fun g=>?_) fun g=>⟨hb,sm,?_⟩
   .rw[Nd g]at q;exact ag q
   .rw[Na g]at q;exact ag q
  refine⟨rfl,e,hb,⟨_,_,rfl,rfl,fF (b:= !(a.fmod b==0)) (fun g=>ak rfl (ak rfl (fF (b:= !(decide (a<0)==decide (b<0))) (fun g2=>fin _ (Nd ⟨?_,?_⟩) hq1) fun g2=>fin _ (Na fun z=>z.2 ?_) hq))) fun g=>fin _ (Na fun z=>z.1 ?_) hq⟩⟩
  .intro z;rw[z]at g;exact aK g
  .intro z;rw[z,ND]at g2;exact aK g2
  .exact N9 (by cases z:(decide (a<0)==decide (b<0));rw[z]at g2;exact df g2;rfl)
  .exact N9 (by cases z:(a.fmod b==0);rw[z]at g;exact df g;rfl)
 have h:¬(s=[47]\/s=[37]):=fun z=>by rcases z with rfl|rfl<;>exact df h
 rw[Na h]at q;refine fF (b:=[60,60]==s||([62,62]==s||false)) (fun h=>?_) fun h=>?_
 .have h:s=[60,60]\/s=[62,62]:=by
   rcases Bool.or_eq_true_iff.mp h with h|h
   .exact .inl (N9 h).symm
   .rw[Rm]at h;exact .inr (N9 h).symm
  rw[Nd h]at q;refine iT (p:=b<0) (fun g=>?_) fun g1=>iT (p:=63<b) (fun g=>?_) fun g2=>?_
  .rw[Nd (.inl g)]at q;exact ag q
  .rw[Nd (.inr g)]at q;exact ag q
  rw[Na (fun z=>z.elim g1 g2)]at q;have h0:0<=b:=Int.not_lt.mp g1;have h64:b<=64:=O4 (Int.not_lt.mp g2) (by decide);have hk:small (2^b.toNat):=hp _ (by have:=Int.not_lt.mp g2;lia);refine eV (fun g=>⟨rfl,h0,h64,ha,hk,?_⟩) fun g=>⟨rfl,h0,h64,?_,hk,?_⟩
  .rw[Nd g]at q;exact ag q
  .exact fun z=>absurd z (TP (Int.pow_pos (by decide)))
  .rw[Na g]at q;exact ag q
 have h:¬(s=[60,60]\/s=[62,62]):=fun z=>by rcases z with rfl|rfl<;>exact df h
 rw[Na h]at q;refine eV (fun g=>?_) fun g=>?_
 .rw[Nd g]at q;exact⟨ha,hb,ag q⟩
 rw[Na g]at q;refine eV (fun g=>?_) fun g=>?_
 .rw[Nd g]at q;exact ag q
 rw[Na g]at q;refine eV (fun g=>?_) fun g=>?_
 .rw[Nd g]at q;exact ag q
 rw[Na g]at q;exact⟨aF (x:=2) (n:=2) (by decide) (by decide),hand,ag q⟩
end
noncomputable def zD(a:Int)(c:Nat):Int:=a+(if([c]==[40])=true then 1 else 0)-(if([c]==[41])=true then 1 else 0)
noncomputable def dp:Int->List Nat->Prop
 |_,[]=>False
 |a,c::r=>(r=[]/\zD a c<=0)\/(0<zD a c/\dp (zD a c) r)
section
variable{d:Nat}{σ:aa}{Q:QV}{X:QX}
theorem wi(t:Tr)(n:Nat):sz t<=n->b' (tt t) n=true:=by
 induction n generalizing t with
 |zero=>exact fun h=>absurd (dn t) (Nat.not_lt.mpr h)
 |succ n ih=>cases t with
  |num _=>exact fun _=>rfl
  |name _=>exact fun _=>rfl
  |here=>exact fun _=>rfl
  |un s b=>intro h;show(true&&(true&&(b' (tt b) n&&true)))=true;rw[ih b (NO h)];rfl
  |bin s l r=>intro h;have h':sz l+sz r<=n:=NO h;show(true&&(true&&(b' (tt l) n&&(b' (tt r) n&&true))))=true;rw[ih l (M7 (Nn _ _) h'),ih r (M7 (Ny _ _) h')];rfl
theorem C4(a:sz t<=60)(b:sz u<=60):fK (tt t) (tt u) σ=some (fB (tt t) (tt u)):=by
 have s1:∀t,(tt t).seen σ=tt t:=fun t=>by cases t<;>rfl
 have b1:ja (tt t)=none:=by cases t<;>rfl
 unfold fK;rw[s1,s1,b1];show(if(b' (tt t) 60&&b' (tt u) 60)=true then _ else _)=_;rw[wi t 60 a,wi u 60 b];rfl
theorem lS(t:Tr):isNone (tv t)=false:=by cases t<;>rfl
theorem C5{x:List Nat}{g:Nat}{T:PV}(u:x.length<=1000000){K:QS}(m:List Nat):∀(r:List Nat)(f:Int)(e:Nat),(0<f\/e=g)->g<=e->x.drop e=m++r->dp f m->(∀f,K none [some (.str x),some (.int g),some T,some (.int f),some (.int ↑(e+m.length)),none,none,none] σ)->bE (fun i σ K'=>fQ d (cx tB 2) i σ K' X) (fun i σ K'=>ai d (ax tB 2) i σ K' X) (m.length+1) [some (.str x),some (.int g),some T,some (.int f),some (.int e),none,none,none] σ K:=by
 induction m with
 |nil=>exact fun r f e _ _ _ j _=>j.elim
 |cons c m w=>
  intro r f e h0 n y j k;have l:x.drop e=c::(m++r):=y;have t:=cb l;have body:ai d (ax tB 2) [some (.str x),some (.int g),some T,some (.int f),some (.int e),none,none,none] σ (fun o q s=>match o with|some v=>K (some v) q s|none=>bE (fun i σ K'=>fQ d (cx tB 2) i σ K' X) (fun i σ K'=>ai d (ax tB 2) i σ K' X) (m.length+1) q s K) X:=by
   refine ah (aT l u) (ak (b:=[c]==[40]) rfl (ah (aT l u) (ak (b:=[c]==[41]) rfl ?_)));rcases j with⟨rfl,j⟩|⟨A,j⟩
   .exact iT (p:=(0:Int)<zD f c) (fun z=>absurd z (Int.not_lt.mpr j)) fun _=>ec (a:=e+1) (b:=g) (fun z=>absurd n (Nat.not_le.mpr (z▸NX e))) fun _=>k _
   .exact w r (zD f c) (e+1) (.inl A) (OA n) t j fun f=>by have z:=k f;rw[Nz,Ol m.length,←Oc]at z;exact z
  refine iT (p:=(0:Int)<f) (fun _=>body) fun h=>?_;exact ec (a:=e) (b:=g) (fun _=>body) fun z=>absurd (h0.resolve_left h) z
theorem Ls{n:Nat}{x:List Nat}{a:Nat}{T:Tr}{m r:List Nat}{P:Option (List Tk)->Prop}(k:x.length<=2000)(e:x.drop a=m++r)(p:dp 0 m)(q:2<=m.length)(s:sz T<=60)(t:60<=n)(i:n<=1900)
  (L:ci (x.take a++(m.drop 1).dropLast++r) P) (v:P none->Q (.bool false) σ)
  (w:∀ks,P (some ks)->ks.length<=2000->∃o,eW n ks=some o/\match o with|none=>Q (.bool false) σ|some u=>sz u<=60/\Q (.bool (fB (tt u) (tt T))) σ):af (n+10) (.ref 919) [.str x,.int a,tt T] σ Q X:=by
 have j:x.length<=1000000:=M7 k (by decide);have l:m.length+r.length<=2000:=by have:=Nw RW e;rw[Oe,M9]at this;lia
 have f:a<=x.length:=by have:=Nw RW e;rw[Oe,M9]at this;lia
 have s1:∀c,fC (.str x) .none (.int a) c=some (.str (x.take a)):=fun c=>by show some (PV.str ((x.drop 0).take (O5 x.length a-0)))=_;rw[cJ,OL f];rfl
 have y:((a+m.length:Nat):Int)-1=((a+1+(m.length-2):Nat):Int):=by lia
 have s2:∀c,fC (.str x) (.int ((a:Int)+1)) (.int (((a+m.length:Nat):Int)-1)) c=some (.str ((m.drop 1).dropLast)):=fun c=>by rw[y];show fC (.str x) (.int ((a+1:Nat):Int)) _ c=_;rw[vO,←OU,e,TO,Oe,List.drop_append_of_le_length (Nr q),SH (by rw[Oe];lia)];rfl
 have s3:∀c,fC (.str x) (.int ((a+m.length:Nat):Int)) .none c=some (.str r):=fun c=>by rw[nL,←OU,e,PN]
 have F:(x.take a).length<=2000:=M7 (by rw[O1];exact Ru _ _) k;have H:((m.drop 1).dropLast).length+2=m.length:=by rw[TX,Oe];lia
 have z:(x.take a++(m.drop 1).dropLast++r).length<=2000:=by have:=Nw RW e;rw[Oe,M9]at this;rw[M9,M9,O1,OL f];lia
 refine Kd ⟨_,C5 (d:=n+9) (X:=ao X) j m r 0 a (.inr rfl) (Nj _) e p fun A=>?_⟩;refine ah (s1 _) (ah (s2 _) ⟨?_,ah (s3 _) ⟨?_,C3 (m:=n) z L (fun h=>?_) fun ks C D=>?_⟩⟩)
 .exact M7 (show _<=4000 by lia) (by decide)
 .rw[M9];exact M7 (show _<=6000 by lia) (by decide)
 .exact ak (b:=false) rfl ⟨false,rfl,ag (v h)⟩
 .obtain⟨o,E,g⟩:=w ks C D;refine⟨o,E,?_⟩;cases o with
  |none=>exact ak (b:=false) rfl ⟨false,rfl,ag g⟩
  |some u=>refine ak (b:= !(isNone (tv u))) rfl ?_;rw[lS];refine⟨true,rfl,tF (jL (n+8) u (M7 g.1 (M7 t (Nn _ _))) (M7 (NL i 8) (by decide)) (ak (C4 g.1 s) (ag g.2)))⟩
end
noncomputable abbrev cX:=List (List Nat×Int)
noncomputable def pp(p:List Nat×Int):PV:= .tup [.str p.1,.int p.2]
noncomputable def wp(w:Int)(a:cX):PV:= .tup [.int w,.tup (a.map pp)]
noncomputable def iv(kv:cX):List (List Nat×PV):=kv.map fun p=>(p.1,.int p.2)
noncomputable def q_(kv:cX)(n:List Nat):Option Int:=(kv.find? fun p=>p.1=n).map (·.2)
noncomputable def aG(kv:cX)(n:List Nat):Int:=(q_ kv n).getD 0
noncomputable def pS(kv:cX)(k:List Nat)(v:Int):cX:=if kv.any (fun p=>p.1=k)then kv.map (fun p=>if p.1=k then(p.1,v)else p)else kv++[(k,v)]
theorem wj(n:List Nat)(kv:cX):i' (iv kv) n=(q_ kv n).map .int:=by
 induction kv with
 |nil=>exact rfl
 |cons x E a=>
  have a:=a;unfold i' q_ at a⊢;show((Ue _ ((x.1,PV.int x.2)::iv E)).map _)=_;by_cases h:x.1=n
  .rw[Og (by simpa using h),Og (by simpa using h)];rfl
  .rw[N8 (by simpa using h),N8 (by simpa using h)];exact a
theorem C6(kv:cX)(k:List Nat)(v:Int):rP (iv kv) k (.int v)=iv (pS kv k v):=by
 unfold rP pS;have e:(iv kv).any (fun p=>decide (p.1=k))=kv.any (fun p=>decide (p.1=k)):=by unfold iv;rw[List.any_map];rfl
 rw[e];cases kv.any fun p=>decide (p.1=k)with
 |false=>show iv kv++[(k,.int v)]=iv (kv++[(k,v)]);unfold iv;rw[NG];rfl
 |true=>
  show(iv kv).map _=iv (kv.map _);unfold iv;rw[Ox,Ox];refine OX fun p a=>?_;show(if p.1=k then(p.1,PV.int v)else(p.1,PV.int p.2))=_;by_cases h:p.1=k
  .rw[Nd h];show _=((if p.1=k then(p.1,v)else p).1,PV.int (if p.1=k then(p.1,v)else p).2);rw[Nd h]
  .rw[Na h];show _=((if p.1=k then(p.1,v)else p).1,PV.int (if p.1=k then(p.1,v)else p).2);rw[Na h]
theorem gG{kv:cX}:n∉kv.map (·.1)->q_ kv n=none:=by
 induction kv with
 |nil=>exact fun _=>rfl
 |cons x E ih=>intro h;have a:x.1≠n:=fun e=>h (by rw[←e];exact Ng ..);unfold q_;rw[N8 (by simpa using a)];exact ih fun z=>h (Ni _ z)
theorem n9(kv:cX)(k:List Nat)(v:Int):(pS kv k v).map (·.1)=if k∈kv.map (·.1)then kv.map (·.1)else kv.map (·.1)++[k]:=by
 unfold pS;by_cases h:k∈kv.map (·.1)
 .rw[Nd h,Nd (by refine i_ h fun p a e=>?_;exact List.any_eq_true.mpr ⟨p,a,by simpa using e⟩),Ox];refine OX fun p a=>?_;show(if p.1=k then(p.1,v)else p).1=p.1;split<;>rfl
 .rw[Na h,Na (fun z=>by obtain⟨p,a,e⟩:=List.any_eq_true.mp z;exact h (List.mem_map.mpr ⟨p,a,by simpa using e⟩)),NG];rfl
theorem zF(kv:cX)(k:List Nat)(v:Int)(n:List Nat)(h:k∉kv.map (·.1)):aG (kv++[(k,v)]) n=if n=k then v else aG kv n:=by
 unfold aG q_;rw[List.find?_append];by_cases e:n=k
 .subst e;have:q_ kv n=none:=gG h;unfold q_ at this;rw[Option.map_eq_none_iff.mp this,Nd rfl];rw[Option.none_or,Og (by simp)];rfl
 .rw[Na e];have:[(k,v)].find? (fun p=>decide (p.1=n))=none:=by rw[N8 (by simpa using NZ e)];rfl
  rw[this,Option.or_none]
theorem zJ(k:List Nat)(v:Int)(n:List Nat)(kv:cX):(k∈kv.map (·.1))->aG (kv.map (fun p=>if p.1=k then(p.1,v)else p)) n=if n=k then v else aG kv n:=by
 induction kv with
 |nil=>exact fun h=>absurd h Nx
 |cons x E d=>
  intro h;unfold aG q_;rw[NU];by_cases b:x.1=k
  .rw[Nd b];by_cases a:n=k
   .rw[Nd a,Og (by simpa using b.trans a.symm)];rfl
   .have:¬x.1=n:=fun e=>a (e▸b);rw[Na a,N8 (by simpa using this),N8 (by simpa using this)];by_cases c:k∈E.map (·.1)
    .have z:=d c;rw[Na a]at z;exact z
    .have:E.map (fun p=>if p.1=k then(p.1,v)else p)=E:=by
      conv=>rhs;rw[←RU E]
      refine OX fun p f=>?_;rw[Na (fun e=>c (List.mem_map.mpr ⟨p,f,e⟩))];rfl
     rw[this]
  .rw[Na b];have c:k∈E.map (·.1):=by cases h with|head=>exact absurd rfl b|tail _ z=>exact z
   by_cases a:x.1=n
   .rw[Og (by simpa using a),Og (by simpa using a),Na (fun e=>b (a.trans e))]
   .rw[N8 (by simpa using a),N8 (by simpa using a)];exact d c
theorem zK(kv:cX)(k:List Nat)(v:Int)(n:List Nat):aG (pS kv k v) n=if n=k then v else aG kv n:=by
 unfold pS;by_cases h:k∈kv.map (·.1)
 .rw[Nd (by refine i_ h fun p a e=>?_;exact List.any_eq_true.mpr ⟨p,a,by simpa using e⟩)];exact zJ k v n kv h
 .rw[Na (fun z=>by obtain⟨p,a,e⟩:=List.any_eq_true.mp z;exact h (List.mem_map.mpr ⟨p,a,by simpa using e⟩))];exact zF kv k v n h
noncomputable def hJ(t:Int)(kv:cX)(p:List Nat×Int):cX:=pS kv p.1 (aG kv p.1+t*p.2)
theorem wk(t:Int)(n:List Nat)(ps:cX):∀(kv:cX),(ps.map (·.1)).Nodup->aG (ps.foldl (hJ t) kv) n=aG kv n+t*aG ps n:=by
 induction ps with
 |nil=>intro kv _;have:aG [] n=0:=rfl;rw[this,VD,RG];rfl
 |cons p ps b=>
  intro kv h;rw[NU,Pj]at h;rw[RF,b _ h.2];unfold hJ;rw[zK];by_cases e:n=p.1
  .rw[Nd e,←e];have c:aG ps n=0:=by unfold aG;rw[gG (e▸h.1)];rfl
   have a:aG (p::ps) n=p.2:=by unfold aG q_;rw[Og (by simpa using e.symm)];rfl
   rw[c,a,VD,RG]
  .rw[Na e];have a:aG (p::ps) n=aG ps n:=by unfold aG q_;rw[N8 (by simpa using NZ e)]
   rw[a]
theorem tH(t:Int)(ps:cX):∀(kv:cX),(kv.map (·.1)).Nodup->((ps.foldl (hJ t) kv).map (·.1)).Nodup/\(ps.foldl (hJ t) kv).length<=kv.length+ps.length:=by
 induction ps with
 |nil=>
  exact fun kv h=>⟨h,Nj _⟩
 |cons p ps f=>
  intro kv h;have c:=n9 kv p.1 (aG kv p.1+t*p.2);have i:((hJ t kv p).map (·.1)).Nodup:=by
   unfold hJ;rw[c];split
   .exact h
   .rename_i g;exact List.nodup_append.mpr ⟨h,Qb _ _,fun a j b d e=>g (by simp at d;rw[←d,←e];exact j)⟩
  have k:(hJ t kv p).length<=kv.length+1:=by
   have:=Nw RW c;rw[Nb]at this;unfold hJ;rw[this];split
   .rw[Nb];exact Oi _
   .rw[M9,Nb];exact Nj _
  obtain⟨a,b⟩:=f _ i;exact⟨a,M7 b (by rw[Nz];lia)⟩
noncomputable def n_(a:cX):Int:=((a.filter fun p=>decide (0<p.2)).map (·.2)).sum
noncomputable def oa(a:cX):Int:=((a.filter fun p=>decide (p.2<0)).map (·.2)).sum
structure dT(prs:cX)(f:List Nat->Int):Prop where
 nd:(prs.map (·.1)).Nodup
 st:(prs.map (·.1)).Pairwise fun a b=>¬b<a
 mem:∀n,n∈prs.map (·.1)↔f n≠0
 val:∀p∈prs,p.2=f p.1
noncomputable def zO(w:Int)(a:cX):PV:=if 1<n_ a\/oa a< -1 then .none else wp w a
theorem ip(a:List Int):cy (a.map .int)=some a:=by
 induction a with
 |nil=>rfl
 |cons i r b=>show(cy (r.map .int)).map _=_;rw[b];rfl
theorem C7(h:n<=1000):n<aV:=Nf h (by decide)
theorem wl{a b:Type}{acc:List a}{r:List b}{x:a}{n:Nat}(h:acc.length+(r.length+1)<=n):(acc++[x]).length+r.length<=n:=by rw[M9,Oc,Ol [x].length];exact h
section
variable{d a:Nat}{σ:aa}{Q:QV}{X:QX}
theorem M1(h:σ a=some (.dct kvs))(b:m=4):xj (.ref a) m σ:=by show(match σ a with|some (.lst _)=>m<4|some (.dct _)=>m=4|_=>False);rw[h];exact b
theorem wm(h:σ a=some (.dct kvs)):rQ σ (.ref a)=none:=by show(match σ a with|some (.lst kvs)=>some (a,kvs)|_=>none)=_;rw[h]
theorem M2(h:σ a=some (.dct (iv kv)))(k:Q (.int (aG kv n)) σ):xi (.ref a) 4 [.str n,.int 0] σ Q:=by
 unfold xi;rw[wm h,ef h];refine⟨rfl,?_⟩;show Q ((i' (iv kv) n).getD (.int 0)) σ;have:(i' (iv kv) n).getD (.int 0)= .int (aG kv n):=by rw[wj];unfold aG;cases q_ kv n<;>rfl
 rw[this];exact k
theorem F4{kvs:List (List Nat×PV)}(h:σ a=some (.dct kvs))(k:mE (kvs.map (·.1)) σ Q):dY (.ref a) σ Q:=by unfold dY;rw[kJ h];show dJ (fP σ (.ref a)) _;exact tT (ef h) k
theorem C8{kvs:List (List Nat×PV)}{s:List Nat}{v:PV}{K:aa->Prop}(h:σ a=some (.dct kvs))(b:kvs.length<aV)(k:K (σ.upd a (.dct (rP kvs s v)))):qi (.ref a) (.str s) v σ K:=by show(match σ a with|some (.dct kvs)=>_|_=>False);rw[h];exact⟨b,k⟩
theorem lT(kv:cX):(iv kv).map (·.1)=kv.map (·.1):=by unfold iv;rw[Ox];rfl
noncomputable abbrev F5(o w:PV)(t:Int)(a:Nat)(b c d:Option PV):ar:=[some o,some w,some (.int t),some (.ref a),b,c,d,none,none,none,none]
theorem wn(t:Int)(kv:cX)(p:List Nat×Int):(hJ t kv p).length<=kv.length+1:=by
 have h:=Nw RW (n9 kv p.1 (aG kv p.1+t*p.2));rw[Nb]at h;unfold hJ;rw[h];split
 .rw[Nb];exact Oi _
 .rw[M9,Nb];exact Nj _
theorem C9(f:small t){K:QS}(ps:cX):∀{kv:cX}{b c:Option PV},(∀p∈ps,small p.2)->kv.length+ps.length<=1000->
  (∀b c,K none (F5 o w t a b c none) (σ.upd a (.dct (iv (ps.foldl (hJ t) kv)))))->
  bu (fun g σ K'=>ai d (ax E3 1) g σ K' X) [4,5] (ps.map pp) (F5 o w t a b c none) (σ.upd a (.dct (iv kv))) K:=by
 induction ps with
 |nil=>exact fun _ _ k=>k _ _
 |cons p ps h=>intro kv b c hs e k;refine⟨_,rfl,M1 (aa.uS ..) rfl,M2 (aa.uS ..) ⟨f,hs p (Ng ..),C8 (aa.uS ..) (by unfold iv;rw[Nb];exact C7 (M7 (Nn _ _) e)) ?_⟩⟩;rw[aa.uU,C6];exact h (kv:=hJ t kv p) (fun q i=>hs q (Ni _ i)) (M7 (NL (wn t kv p) _) (by rw[Oc,Ol 1];exact e)) k
theorem C_{kv:cX}(h:σ a=some (.dct (iv kv))){s:List Nat}(hs:s∈kv.map (·.1)):bl (.ref a) (.str s) σ=some (.int (aG kv s)):=by
 apply bc;intro b;refine i_ hs fun q d e=>?_;apply b;refine wg h ?_;rw[wj];unfold aG;cases g:q_ kv s with
 |some c=>rfl
 |none=>exact absurd (NN e) (List.find?_eq_none.mp (Option.map_eq_none_iff.mp g) q d)
theorem zP{kv:cX}(h:σ a=some (.dct (iv kv))){P:List PV->aa->Prop}(ss:List (List Nat)):∀{acc:cX}{v:Option PV},(∀n∈ss,n∈kv.map (·.1))->acc.length+ss.length<=1000->
  P ((acc++(ss.filter fun n=>decide (aG kv n≠0)).map fun n=>(n,aG kv n)).map pp) σ->
  dK (fun i j K=>jc d [.cmp .NotEq (.idx (.loc 2) (.loc 1)) (.lit (.int 0))] i j (fun t c=>match t with
    |true=>cR d (.tup [.loc 1,.idx (.loc 2) (.loc 1)]) i c (fun v f=>K (some v) f) (fun _ _=>False)
    |false=>K none c) (fun _ _=>False)) [1] (ss.map .str) [none,v,some (.ref a)] (acc.map pp) σ P:=by
 induction ss with
 |nil=>intro acc v _ _ p;rw[QH,Rz,NB]at p;exact p
 |cons s r l=>
  intro acc v m k p;have o:=C_ h (m s (Ng ..));have q:=fun n u=>m n (Ni _ u);refine⟨_,rfl,by rw[Nb];exact C7 (M7 (Nn _ _) k),ah o (fF (b:= !(aG kv s==0)) (fun g=>?_) fun g=>?_)⟩
  .have g:decide (aG kv s≠0)=true:=NN fun e=>by rw[e]at g;exact aK g
   rw[Of (p:=fun n=>decide (aG kv n≠0)) g,NU,Uy]at p;refine ah o ?_;have z:=l (v:=some (.str s)) q (wl k) p;rw[NG]at z;exact z
  .have g:¬decide (aG kv s≠0)=true:=fun e=>N2 e (N9 (by cases z:aG kv s==0;rw[z]at g;exact df g;rfl));rw[Pq (p:=fun n=>decide (aG kv n≠0)) g]at p;exact l q (M7 (NM (Oi _) _) k) p
theorem wo{f:Int->Bool}(h:∀z,eJ k (.int z) (.int 0) σ=some (f z)){P:List PV->aa->Prop}(a:cX):∀{acc:List Int}{u v:Option PV},acc.length+a.length<=1000->P ((acc++(a.filter fun p=>f p.2).map (·.2)).map .int) σ->
  dK (fun e i K=>jc d [.cmp k (.loc 2) (.lit (.int 0))] e i (fun m b=>match m with
    |true=>cR d (.loc 2) e b (fun v c=>K (some v) c) (fun _ _=>False)
    |false=>K none b) (fun _ _=>False)) [1,2] (a.map pp) [none,u,v] (acc.map .int) σ P:=by
 induction a with
 |nil=>intro acc u v _ p;rw[QH,Rz,NB]at p;exact p
 |cons s r l=>
  intro acc u v j p;refine⟨_,rfl,by rw[Nb];exact C7 (M7 (Nn _ _) j),ak (h s.2) ?_⟩;cases g:f s.2 with
  |true=>rw[Of (p:=fun p:List Nat×Int=>f p.2) g,NU,Uy]at p;have z:=l (u:=some (.str s.1)) (v:=some (.int s.2)) (wl j) p;rw[NG]at z;exact z
  |false=>rw[Pq (p:=fun p:List Nat×Int=>f p.2) (by rw[g];exact aK)]at p;exact l (M7 (NM (Oi _) _) j) p
theorem F6{kv:cX}{f:List Nat->Int}{ss:List (List Nat)}(nd:(kv.map (·.1)).Nodup)(i:∀n,aG kv n=f n)(d:ss.Perm (kv.map (·.1)))(j:ss.Pairwise fun a b=>¬b<a):dT ((ss.filter fun n=>decide (aG kv n≠0)).map fun n=>(n,aG kv n)) f:=by
 have c:((ss.filter fun n=>decide (aG kv n≠0)).map fun n=>(n,aG kv n)).map (·.1)=ss.filter fun n=>decide (aG kv n≠0):=by rw[Ox];exact RU _
 refine⟨by rw[c];exact(d.nodup_iff.mpr nd).filter _,by rw[c];exact j.filter _,fun n=>?_,fun p d=>?_⟩
 .rw[c,UJ,←i n,OD];exact⟨fun h=>h.2,fun h=>⟨d.mem_iff.mpr (NS fun g=>h (by unfold aG;rw[gG g];rfl)),h⟩⟩
 .refine i_ d fun n _ e=>?_;rw[←e];exact i n
theorem F7{w1 o t:Int}{p1 e:cX}(u:small t)(y:small o)(hs:∀p∈e,small p.2)(r:p1.length+e.length<=60)(v:(p1.map (·.1)).Nodup)(A:(e.map (·.1)).Nodup)
  (q:∀b,dT b (fun n=>aG p1 n+t*aG e n)->Q (zO (w1+t*o) b) σ):af (d+1) (.ref 877) [wp w1 p1,wp o e,.int t] σ Q X:=by
 have c:=tH t e p1 v;refine J' (ah rfl ⟨iv p1,by unfold iv;rw[Ox];rfl,by rw[lT];exact v,fun a s=>⟨rfl,ah rfl ⟨_,rfl,C9 u e hs (M7 r (by decide)) fun D E=>?_⟩⟩⟩);generalize k:e.foldl (hJ t) p1=kv at c;have w:∀n,aG kv n=aG p1 n+t*aG e n:=fun n=>by rw[←k];exact wk t n e p1 A
 have x:(σ.upd a (.dct (iv kv))) a=some (.dct (iv kv)):=aa.uS ..;clear hs;rw[←lT]at c;refine F4 x ⟨by rw[Nb];unfold iv;rw[Nb];exact Nf (M7 c.2 r) (by decide),fun ss l m=>?_⟩;rw[lT]at l c;have j:ss.length<=60:=by rw[l.length_eq,Nb];exact M7 c.2 r
 refine⟨_,rfl,zP x ss (acc:=[]) (fun n C=>l.mem_iff.mp C) (by rw[Oa,N7];exact M7 j (by decide)) ?_⟩;have q:=q _ (F6 c.1 w l m);rw[O8];have i:((ss.filter fun n=>decide (aG kv n≠0)).map fun n=>(n,aG kv n)).length<=1000:=by rw[Nb];exact M7 (TM _ _) (M7 j (by decide))
 generalize((ss.filter fun n=>decide (aG kv n≠0)).map fun n=>(n,aG kv n))=b at q i⊢;clear l m j c w k;rw[←N7 b.length]at i;unfold zO at q;refine⟨_,rfl,wo (f:=fun z=>decide (0<z)) (fun _=>rfl) b (acc:=[]) i (tT (ip _) (iT (p:=1<n_ b) (fun g=>?_) fun g=>⟨_,rfl,wo (f:=fun z=>decide (z<0)) (fun _=>rfl) b (acc:=[]) i (tT (ip _) (iT (p:=oa b< -1) (fun g2=>?_) fun g2=>?_))⟩))⟩
 .rw[Nd (.inl g)]at q;exact .val (ed _ s) q
 .rw[Nd (.inr g2)]at q;exact .val (ed _ s) q
 .rw[Na (fun h=>h.elim g g2)]at q;exact ah rfl (ah rfl ⟨u,y,.val (ed _ s) q⟩)
end
noncomputable abbrev Wt:=Int×cX
noncomputable abbrev KV:=List (List Nat×Wt)
noncomputable def DX(K:KV):List (List Nat×PV):=K.map fun x=>(x.1,wp x.2.1 x.2.2)
noncomputable def DY(K:KV)(n:List Nat):Option Wt:=(K.find? fun x=>x.1=n).map (·.2)
theorem rf(n:List Nat)(K:KV):i' (DX K) n=(DY K n).map fun x=>wp x.1 x.2:=by
 induction K with
 |nil=>rfl
 |cons x E a=>
  unfold i' DY at a⊢;show((Ue _ ((x.1,wp x.2.1 x.2.2)::DX E)).map _)=_;by_cases h:x.1=n
  .rw[Og (by simpa using h),Og (by simpa using h)];rfl
  .rw[N8 (by simpa using h),N8 (by simpa using h)];exact a
noncomputable def zQ(a b:Wt)(t:Int)(r:Option Wt):Prop:=∃c,dT c (fun n=>aG a.2 n+t*aG b.2 n)/\r=if 1<n_ c\/oa c< -1 then none else some (a.1+t*b.1,c)
noncomputable def Lu(s:List Nat)(o r:Option Wt):Prop:=match o with
 |none=>r=none
 |some x=>if s=[45] then zQ (0,[]) x (-1) r else if x.2≠[] then r=none else r=some (if s=[126] then -x.1-1 else if x.1=0 then 1 else 0,[])
noncomputable def C'(s:List Nat)(a b r:Option Wt):Prop:=match a,b with
 |some x,some y=>if s=[43]\/s=[45] then zQ x y (if s=[43] then 1 else -1) r else if x.2≠[]\/y.2≠[] then r=none else r=(pR s x.1 y.1).map fun i=>(i,[])
 |_,_=>r=none
noncomputable def WR(K:KV)(here:List Nat):Tr->Option Wt->Prop
 |.num n,r=>r=some (n,[])
 |.name s,r=>r=some ((DY K s).getD (0,[(s,1)]))
 |.here,r=>r=if here=[] then none else some (0,[(here,1)])
 |.un s b,r=>∃o,WR K here b o/\Lu s o r
 |.bin s l r',r=>∃a b,WR K here l a/\WR K here r' b/\C' s a b r
noncomputable def pT(p:Tr->Prop):Tr->Prop
 |.un s b=>p (.un s b)/\pT p b
 |.bin s l r=>p (.bin s l r)/\pT p l/\pT p r
 |t=>p t
theorem pT.top{p:Tr->Prop}:∀{t:Tr},pT p t->p t
 |.num _,h|.name _,h|.here,h=>h
 |.un _ _,h=>h.1
 |.bin _ _ _,h=>h.1
structure PS(p:cX):Prop where
 nd:(p.map (·.1)).Nodup
 l:p.length<=30
 s:∀q∈p,small q.2
noncomputable def Mj(r:Option Wt):PV:=match r with
 |none=> .none
 |some x=>wp x.1 x.2
structure Mk(a b:Int):Prop where
 sa:small a
 sb:small b
 q:small (a.fdiv b)
 q1:small (a.fdiv b+1)
 n:small (OH a b)
section
variable{σ:aa}{e:Nat}{K:KV}{here:List Nat}
theorem wq:zO w a=Mj (if 1<n_ a\/oa a< -1 then none else some (w,a)):=by unfold zO;split<;>rfl
theorem pU{p:cX}{a:aa}(h:p.length<=30):fK (.tup (p.map pp)) (.tup []) a=some p.isEmpty:=by
 have:∀p:cX,bd (p.map pp) 59=true:=fun p=>by induction p with|nil=>rfl|cons x r b=>exact b
 show(if(bd (p.map pp) 59&&true)=true then some (dX (p.map pp) [])else _)=_;rw[this p];cases p<;>rfl
theorem pV{p:cX}{a:aa}(h:p.length<=30):eJ .NotEq (.tup (p.map pp)) (.tup []) a=some (!p.isEmpty):=by show(fK _ _ _).map _=_;rw[pU h];rfl
theorem wt:small 1:=aF (n:=1) (by decide) (by decide)
theorem rg:small (-1):=aF (n:=1) (by decide) (by decide)
noncomputable abbrev Lw(K:KV)(here:List Nat)(u:Tr):Prop:=(∀w p,WR K here u (some (w,p))->small w/\PS p)/\(∀s l r,u= .bin s l r->∀x y,WR K here l (some x)->WR K here r (some y)->Mk x.1 y.1)
theorem F8(Y:σ e=some (.dct (DX K)))(M:∀k:Nat,k<=63->small (2^k))(n:Nat):∀(t:Tr),sz t<=n->n<=2000->pT (Lw K here) t->∀{Q:QV}{X:QX},(∀r,WR K here t r->Q (Mj r) σ)->af (n+2) (.ref 891) [tt t,.ref e,.str here] σ Q X:=by
 induction n with
 |zero=>exact fun t h _ _ _ _ _=>absurd (dn t) (Nat.not_lt.mpr h)
 |succ n O=>
 intro t;cases t with
 |num k=>intro h j a Q X q;exact vL (ah rfl (ak (b:=true) rfl (ah rfl (ag (q _ rfl)))))
 |name s=>
  intro h j a Q X q;refine vL (ah rfl (ak (b:=false) rfl (ah rfl (ak (b:=true) rfl (ah rfl (ak (FZ Y) ?_))))));have q:=q _ rfl;rw[rf];cases g:DY K s with
  |none=>rw[g]at q;exact ah rfl (ag q)
  |some x=>rw[g]at q;exact ah rfl (ah (wg Y (by rw[rf,g];rfl)) (ag q))
 |here=>
  intro h j a Q X q;refine vL (ah rfl (ak (b:=false) rfl (ah rfl (ak (b:=false) rfl (ah rfl (ak (b:=true) rfl (iF (fun g=>?_) fun g=>?_)))))))
  .have q:=q none (by show none=_;rw[Nd g]);exact ag q
  .have q:=q (some (0,[(here,1)])) (by show _=_;rw[Na g]);exact ag q
 |un s b=>
  intro h j a Q X q;refine vL (ah rfl (ak (b:=false) rfl (ah rfl (ak (b:=false) rfl (ah rfl (ak (b:=false) rfl (ah rfl (ak (b:=true) rfl (ah rfl (O b (NO h) (Nr j) a.2 fun o Z=>?_))))))))));have q:=fun r (hr:Lu s o r)=>q r ⟨o,Z,hr⟩;cases o with
  |none=>exact ak (b:=true) rfl (ag (q none rfl))
  |some y=>
   obtain⟨w,p⟩:=y;obtain⟨sw,E⟩:=a.2.top.1 w p Z;refine ak (b:=false) rfl (ah rfl (eV (fun g=>?_) fun g=>?_))
   .refine F7 (p1:=[]) (w1:=0) (t:= -1) rg sw E.s (by rw[Oa,N7];exact M7 E.l (by decide)) Q6 E.nd fun m c=>ag ?_;rw[wq];exact q _ (by show(if s=[45] then _ else _);rw[Nd g];exact⟨m,c,rfl⟩)
   .refine ah rfl (ak (pV E.l) ?_);cases f:p with
    |cons x y=>subst f;exact ag (q none (by show(if s=[45] then _ else if _ then _ else _);rw[Na g,Nd (NV _ _)]))
    |nil=>
     subst f;have q:=q _ (by show(if s=[45] then _ else if _ then _ else _);rw[Na g,Na (fun z=>z rfl)]);refine ah rfl (eV (fun g2=>?_) fun g2=>ah rfl (Cj (fun g3=>?_) fun g3=>?_))
     .rw[Nd g2]at q;exact ah rfl (ag q)
     .rw[Na g2,Nd g3]at q;exact ag q
     .rw[Na g2,Na g3]at q;exact ag q
 |bin s l r=>
  intro h j a Q X q;have h':sz l+sz r<=n:=NO h;refine vL (ah rfl (ak (b:=false) rfl (ah rfl (ak (b:=false) rfl (ah rfl (ak (b:=false) rfl (ah rfl (ak (b:=false) rfl (ah rfl (O l (M7 (Nn _ _) h') (Nr j) a.2.1 fun o1 u=>
   ah rfl (O r (M7 (Ny _ _) h') (Nr j) a.2.2 fun F A=>?_)))))))))))
  have q:=fun z (H:C' s o1 F z)=>q z ⟨o1,F,u,A,H⟩;cases o1 with
  |none=>exact ak (b:=true) rfl (ag (q none (by cases F<;>rfl)))
  |some y1=>
  obtain⟨w1,p1⟩:=y1;cases F with
  |none=>exact ak (b:=false) rfl (ak (b:=true) rfl (ag (q none rfl)))
  |some y2=>
   obtain⟨L,P⟩:=y2;obtain⟨a5,C⟩:=a.2.1.top.1 w1 p1 u;obtain⟨V,d⟩:=a.2.2.top.1 L P A;have D:Mk w1 L:=a.1.2 s l r rfl _ _ u A;refine ak (b:=false) rfl (ak (b:=false) rfl (ah rfl (fF (b:=[43]==s||([45]==s||false)) (fun g=>?_) fun g=>?_)))
   .have g:s=[43]\/s=[45]:=by
     rcases Bool.or_eq_true_iff.mp g with h|h
     .exact .inl (N9 h).symm
     .rw[Rm]at h;exact .inr (N9 h).symm
    have go:∀t,(if s=[43] then 1 else -1)=t->small t->af (n+2) (.ref 877) [wp w1 p1,wp L P,.int t] σ (fun v W=>a_ Q v W) (ao X):=fun t et st=>
     F7 st V d.s (M7 (Od C.l d.l) (by decide)) C.nd d.nd fun m c=>ag (by
      rw[wq];exact q _ (by show(if s=[43]\/s=[45] then _ else _);rw[Nd g,et];exact⟨m,c,rfl⟩))
    exact ah rfl (eV (fun g2=>go 1 (Nd g2) wt) fun g2=>go (-1) (Na g2) rg)
   have g:¬(s=[43]\/s=[45]):=fun z=>by rcases z with rfl|rfl<;>exact df g
   refine ah rfl (ak (pV C.l) ?_);cases f:p1 with
   |cons x y=>subst f;exact ag (q none (by show(if s=[43]\/s=[45] then _ else if _ then _ else _);rw[Na g,Nd (.inl (NV _ _))]))
   |nil=>
    subst f;refine ah rfl (ak (pV d.l) ?_);cases f:P with
    |cons x y=>subst f;exact ag (q none (by show(if s=[43]\/s=[45] then _ else if _ then _ else _);rw[Na g,Nd (.inr (NV _ _))]))
    |nil=>
     subst f;have q:=q _ (by show(if s=[43]\/s=[45] then _ else if _ then _ else _);rw[Na g,Na (fun z=>z.elim (fun z=>z rfl) fun z=>z rfl)]);refine ah rfl (ah rfl (ah rfl (Lr D.sa D.sb D.q D.q1 D.n M ?_)));cases H:pR s w1 L with
     |none=>rw[H]at q;exact ak (b:=true) rfl (ag q)
     |some i=>rw[H]at q;exact ak (b:=false) rfl (ag q)
end
inductive Lv:Nat->Nat->List Tk->Tr->Prop
 |num {n dep:Nat} {k:Int} (h:dep<=10):Lv n dep [.num k] (.num k)
 |name {n dep:Nat} {s:List Nat} (h:dep<=10):Lv n dep [.name s] (if s=[46] then .here else .name s)
 |un {n dep:Nat} {s:List Nat} {r:List Tk} {t:Tr} (h:dep<=10) (hs:s=[45]\/s=[126]\/s=[33]) (hr:Lv 4 (dep+1) r t):Lv n dep (.sign s::r) (.un s t)
 |par {n dep:Nat} {r:List Tk} {t:Tr} (h:dep<=10) (hr:Lv 1 (dep+1) r t):Lv n dep (.sign [40]::(r++[.sign [41]])) t
 |bin {n dep:Nat} {s:List Nat} {l r:List Tk} {a b:Tr} (h1:1<=ae s) (hn:n<=ae s) (hl:Lv (ae s) dep l a) (hr:Lv (ae s+1) dep r b):Lv n dep (l++ .sign s::r) (.bin s a b)
theorem Lv.pos{n dep:Nat}{r:List Tk}{t:Tr}(h:Lv n dep r t):1<=r.length:=by
 cases h with
 |num=>exact Nj _
 |name=>exact Nj _
 |un=>exact NE (NP _)
 |par=>exact NE (NP _)
 |bin=>rw[M9,Nz];exact Ny ..
noncomputable def wu:List Tk->Nat
 |k::_=>oA k
 |[]=>0
noncomputable def M6(m a:Nat)(r:List Tk)(t:Tr):Prop:=∀rest,(Pz m).1 a (r++rest)=some (some (t,rest))
theorem hK{l:Nat->Nat->List Tk->Rs}(h:rest≠[])(c:wu rest<a):ck l a b k t rest=some (some (t,rest)):=by
 match rest,h,c with
 |x::r,_,c=>have:¬a<=oA x:=Nat.not_le.mpr c;cases k<;>exact Na this
theorem kf{m a b:Nat}{ks:List Tk}{t:Tr}{r:List Tk}(h:(Pz m).1 b ks=some (some (t,r))):(Pz (m+1)).2 a b ks=ck (Pz m).2 a b r.length t r:=by show lK (Pz m).1 (Pz m).2 a b ks=_;unfold lK;rw[h]
theorem wv(h:a<=10):(Pz (m+1)).1 a (.num k::rest)=some (some (.num k,rest)):=Na (Nat.not_lt.mpr h)
theorem tI(h:a<=10):(Pz (m+1)).1 a (.name s::rest)=some (some (if s=[46] then .here else .name s,rest)):=Na (Nat.not_lt.mpr h)
theorem zR(h:a<=10)(hs:s=[45]\/s=[126]\/s=[33])(b:(Pz m).1 (a+1) ks=some (some (t,rest))):(Pz (m+1)).1 a (.sign s::ks)=some (some (.un s t,rest)):=by refine(Na (Nat.not_lt.mpr h)).trans ((Nd hs).trans ?_);rw[b]
theorem ww(h:a<=10)(b:(Pz m).2 1 (a+1) ks=some (some (t,.sign [41]::rest))):(Pz (m+1)).1 a (.sign [40]::ks)=some (some (t,rest)):=by refine(Na (Nat.not_lt.mpr h)).trans ((Na (by decide)).trans ((Nd rfl).trans ?_));rw[b];exact Nd rfl
theorem wx(L:Lv n dep row t):
  (4<=n->∀m,2*row.length<=m->∀rest,rest≠[]->(Pz m).1 dep (row++rest)=some (some (t,rest)))/\
  (∀m,2*row.length<=m->∀Z5,1<=Z5->Z5<=n->n<=4->∀rest,rest≠[]->wu rest<=n->∃k,rest.length<=k/\(Pz (m+1)).2 Z5 dep (row++rest)=ck (Pz m).2 Z5 dep k t rest):=by
 have both:∀{n dep:Nat}{row:List Tk}{t:Tr},(∀m,2*row.length<=m->∀rest,rest≠[]->(Pz m).1 dep (row++rest)=some (some (t,rest)))->
  (4<=n->∀m,2*row.length<=m->∀rest,rest≠[]->(Pz m).1 dep (row++rest)=some (some (t,rest)))/\
  (∀m,2*row.length<=m->∀Z5,1<=Z5->Z5<=n->n<=4->∀rest,rest≠[]->wu rest<=n->∃k,rest.length<=k/\(Pz (m+1)).2 Z5 dep (row++rest)=ck (Pz m).2 Z5 dep k t rest):=
  fun h=>⟨fun _=>h,fun m hm Z5 _ _ _ rest hr _=>⟨rest.length,Nj _,kf (h m hm rest hr)⟩⟩
 induction L with
 |num h=>
  refine both fun m hm rest hr=>?_
  match m,hm with
  |m+1,_=>exact wv h
 |name h=>
  refine both fun m hm rest hr=>?_
  match m,hm with
  |m+1,_=>exact tI h
 |@un n dep s r t h hs hr ih=>
  refine both fun m hm rest hr'=>?_
  match m,hm with
  |m+1,hm=>exact zR h hs (ih.1 (Nj 4) m (by rw[Nz]at hm;lia) rest hr')
 |@par n dep r t h hr ih=>
  refine both fun m hm rest hr'=>?_;rw[Nz,M9]at hm
  match m,hm with
  |m+2,hm=>apply bc;intro qK;obtain⟨k,_,e⟩:=ih.2 m (by simp at hm;lia) 1 (Nj 1) (Nj 1) (by decide) (.sign [41]::rest) (NV _ _) (by show ae [41]<=1;decide);apply qK;refine ww h ?_;show(Pz (m+1)).2 1 (dep+1) ((r++[.sign [41]])++rest)=_;rw[Nk];exact e.trans (hK (NV _ _) (by show ae [41]<1;decide))
 |@bin n dep s l r a b h1 hn hl hr ZU ZW=>
  have h3:=au s;refine⟨fun h=>absurd (M7 h hn) (by lia),fun m hm Z5 h1' h2 h4 rest hr' hh=>?_⟩;rw[M9,Nz]at hm;obtain⟨k,hk,e⟩:=ZU.2 m (by lia) Z5 h1' (M7 h2 hn) (by lia) (.sign s::(r++rest)) (NV _ _) (Nj _);rw[Nz,M9]at hk
  match k,hk,m,hm,e with
  |k+1,hk,m+1,hm,e=>apply bc;intro qK;obtain⟨k2,_,e2⟩:=ZW.2 m (by lia) (ae s+1) (Ny 1 _) (Nj _) (by lia) rest hr' (M7 hh (OA hn));apply qK;have e3:=e2.trans (hK hr' (Oz (M7 hh hn)));refine⟨k,by lia,?_⟩;rw[Nk];refine e.trans ((Nd (show Z5<=oA (.sign s)from M7 h2 hn)).trans ?_);show(match(Pz (m+1)).2 (ae s+1) dep (r++rest)with|some (some (u,r'))=>ck (Pz (m+1)).2 Z5 dep k (.bin s a u) r'|x=>x)=_;rw[e3]
theorem Lv.weak(h:Lv n dep r t)(hn:n'<=n):Lv n' dep r t:=by
 cases h with
 |num h=>exact .num h
 |name h=>exact .name h
 |un h hs hr=>exact .un h hs hr
 |par h hr=>exact .par h hr
 |bin h1 h2 hl hr=>exact .bin h1 (M7 hn h2) hl hr
structure Ly(m:Nat):Prop where
 p:∀{dep ks t rest},(Pz m).1 dep ks=some (some (t,rest))->∃row,ks=row++rest/\∀n,Lv n dep row t
 l:∀{Z5 dep ks t rest},1<=Z5->Z5<=4->(Pz m).2 Z5 dep ks=some (some (t,rest))->rest≠[]/\wu rest<Z5/\∃row,ks=row++rest/\Lv Z5 dep row t
theorem Da{F:Tr->List Tk->Rs}(h:(match o with|some (some (u,r'))=>F u r'|x=>x)=some (some z)){P:Prop}(k:∀{u r'},o=some (some (u,r'))->F u r'=some (some z)->P):P:=
 GX h (fun _ e=>bb e) k
theorem Lz{o:Rs}{t:Tr}{rest:List Tk}(h:(match o with|some (some (t,.sign u::r'))=>if u=[41] then some (some (t,r'))else some none|some (some (t,_::_))=>some none|some (some (t,[]))=>none|x=>x)=some (some (t,rest))):o=some (some (t,.sign [41]::rest)):=by
 cases o with
 |none=>exact aj h
 |some o=>cases o with
  |none=>exact aj (Nh h)
  |some p=>
   obtain⟨u,ks⟩:=p;cases ks with
   |nil=>exact aj h
   |cons k r=>cases k with
    |sign v=>
     by_cases g:v=[41]
     .cases cf g h;rw[g]
     .exact aj (Nh (bV g h))
    |_=>exact aj (Nh h)
def Rd(a d:Nat)(c ks:List Tk)(t:Tr)(rest:List Tk):Prop:=rest≠[]/\wu rest<a/\∃b,ks=b++rest/\Lv a d (c++b) t
theorem Rd.stop{a c:Nat}{b:List Tk}{t:Tr}{x:Tk}{r:List Tk}{z:Tr×List Tk}(L:Lv a c b t)(g:¬a<=oA x)(h:some (some (t,x::r))=some (some z)):Rd a c b (x::r) z.1 z.2:=by rw[←Nh (Nh h)];exact⟨NV _ _,Nat.not_le.mp g,[],rfl,by rw[NB];exact L⟩
theorem pW(S:Ly m)(n:1<=a)(k:Nat):∀{c:Nat}{t:Tr}{b ks:List Tk}{z:Tr×List Tk},Lv c d b t->a<=c->wu ks<=c->ck (Pz m).2 a d k t ks=some (some z)->Rd a d b ks z.1 z.2:=by
 induction k with
 |zero=>
  intro c t b ks z L j hh h;cases ks with
  |nil=>exact aj h
  |cons x r=>
   by_cases g:a<=oA x
   .exact aj (cf g h)
   .exact .stop (L.weak j) g (bV g h)
 |succ k q=>
  intro c t b ks z L j hh h;cases ks with
  |nil=>exact aj h
  |cons x r=>
   by_cases g:a<=oA x
   .refine Da (F:=fun u r'=>ck (Pz m).2 a d k (.bin (DU x) t u) r') (cf g h) fun{u r'} e g2=>?_;clear h;have o:=jK (M7 n g);generalize DU x=s at o g2;subst o;apply bc;intro v;obtain⟨_,w,f,y,A⟩:=S.l (Ny 1 _) (NE (au s)) e;obtain⟨b1,b2,i,C,p⟩:=q (.bin (M7 n g) (Nj _) (L.weak hh) A) g (Pl w) g2;apply v;rw[Nk]at p;exact⟨b1,b2,.sign s::f++i,by rw[y,C,Pr,Pr,Nk],p⟩
   .exact .stop (L.weak j) g (bV g h)
theorem oc{m:Nat}(S:Ly m){a:Nat}{ks rest:List Tk}{t:Tr}(h:qQ (Pz m).1 (Pz m).2 a ks=some (some (t,rest))):∃row,ks=row++rest/\∀n,Lv n a row t:=by
 cases ks with
 |nil=>exact aj h
 |cons k r=>
  by_cases g:10<a
  .exact aj (Nh (cf g h))
  replace h:=bV g h;replace g:=Nat.not_lt.mp g;cases k with
  |num k=>cases h;exact⟨[.num k],rfl,fun n=> .num g⟩
  |name s=>cases h;exact⟨[.name s],rfl,fun n=> .name g⟩
  |other=>exact aj (Nh h)
  |fin=>exact aj (Nh h)
  |sign s=>
   by_cases g1:s=[45]\/s=[126]\/s=[33]
   .refine Da (F:=fun t r'=>some (some (.un s t,r'))) (cf g1 h) fun{u r'} e h=>?_;obtain⟨row,b,L⟩:=S.p e;cases h;exact⟨.sign s::row,by rw[b];rfl,fun n=> .un g g1 (L 4)⟩
   .replace h:=bV g1 h;by_cases g2:s=[40]
    .apply bc;intro c;obtain⟨_,_,row,b,L⟩:=S.l (Nj 1) (by decide) (Lz (cf g2 h));apply c;exact⟨.sign [40]::(row++[.sign [41]]),by rw[b,g2,Pr,Nk];rfl,fun n=> .par g L⟩
    .exact aj (Nh (bV g2 h))
theorem Db(r:List Tk):wu r<=4:=by
 cases r with
 |nil=>exact NP _
 |cons x r=>
  cases x with
  |sign s=>exact M7 (au s) (by decide)
  |_=>exact NP _
theorem lU(m:Nat):Ly m:=by
 induction m with
 |zero=>exact⟨fun h=>aj h,fun _ _ h=>aj h⟩
 |succ m S=>refine⟨fun h=>oc S h,fun{c d ks t rest} g i h=>?_⟩;refine Da (F:=fun t r=>ck (Pz m).2 c d r.length t r) (o:=(Pz m).1 d ks) h fun{u r'} e h=>?_;apply bc;intro j;obtain⟨row,k,L⟩:=S.p e;obtain⟨a,b,f,l,n⟩:=pW S g r'.length (L 4) i (Db r') h;apply j;exact⟨a,b,row++f,by rw[k,l,Nk],n⟩
noncomputable def Fn(ks:List Tk):Prop:=∃bv,ks=bv++[.fin]
theorem Lv.noFin(h:Lv n dep r t):Tk.fin∉r:=by
 have c:∀{k:Tk}{r},k≠.fin->Tk.fin∉r->Tk.fin∉k::r:=fun h h2 z=>(List.mem_cons.mp z).elim (fun e=>h e.symm) h2;have a:∀{l r},Tk.fin∉l->Tk.fin∉r->Tk.fin∉l++r:=fun h h2 z=>(List.mem_append.mp z).elim h h2;induction h with
 |num=>exact c (fun z=>Tk.noConfusion z) Nx
 |name=>exact c (fun z=>Tk.noConfusion z) Nx
 |un _ _ _ ih=>exact c (fun z=>Tk.noConfusion z) ih
 |par _ _ ih=>exact c (fun z=>Tk.noConfusion z) (a ih (c (fun z=>Tk.noConfusion z) Nx))
 |bin _ _ _ _ ZU ZW=>exact a ZU (c (fun z=>Tk.noConfusion z) ZW)
theorem Fn.rest{row rest:List Tk}(h:Fn (row++rest))(a:Tk.fin∉row):Fn rest:=by
 obtain⟨bv,e⟩:=h;rcases bT rest with z|⟨W,x,z⟩
 .rw[z,NB]at e;exact absurd (by rw[e];exact On _ (Ng ..)) a
 .rw[z,←Nk]at e;have:=(SC e rfl).2;cases this;exact⟨W,z⟩
theorem Fn.ne(h:Fn ks):ks≠[]:=by obtain⟨bv,e⟩:=h;rw[e];exact fun z=>kT (List.append_eq_nil_iff.mp z).2
theorem Fn.tail(h:Fn (k::r))(a:k≠.fin):Fn r:=by
 refine Fn.rest (row:=[k]) h fun z=>?_;cases z with
 |head=>exact a rfl
 |tail _ z=>cases z
structure LA(m:Nat):Prop where
 p:∀dep ks,Fn ks->2*ks.length<=m->(Pz m).1 dep ks≠none
 l:∀Z5 dep ks,1<=Z5->Z5<=4->Fn ks->2*ks.length+1<=m->(Pz m).2 Z5 dep ks≠none
theorem wy{F:Tr->List Tk->Rs}(a:o≠none)(k:∀{u r'},o=some (some (u,r'))->F u r'≠none):(match o with|some (some (u,r'))=>F u r'|x=>x)≠none:=by
 cases o with
 |none=>exact absurd rfl a
 |some o=>cases o with
  |none=>exact fun z=>bb z
  |some p=>exact k rfl
theorem F9{o:Rs}(b:o≠none)(k:∀{t},o≠some (some (t,[]))):(match o with|some (some (t,.sign u::r'))=>if u=[41] then some (some (t,r'))else some none|some (some (t,_::_))=>some none|some (some (t,[]))=>none|x=>x)≠none:=by
 cases o with
 |none=>exact absurd rfl b
 |some o=>cases o with
  |none=>exact fun z=>bb z
  |some p=>
   obtain⟨u,ks⟩:=p;cases ks with
   |nil=>exact absurd rfl k
   |cons a r=>cases a with
    |sign v=>
     by_cases g:v=[41]
     .exact fun z=>bb (cf g z)
     .exact fun z=>bb (bV g z)
    |_=>exact fun z=>bb z
theorem pX(h:2*(a+1)<=m+1)(c:b<=a):2*b+1<=m:=
 M7 (NE (Op 2 c)) (NO h)
theorem wz(T:LA m)(o:1<=a)(k:Nat):∀{t:Tr}{ks:List Tk},Fn ks->ks.length<=k->2*ks.length<=m+1->ck (Pz m).2 a b k t ks≠none:=by
 induction k with
 |zero=>intro t ks d e _;exact absurd (List.length_eq_zero_iff.mp (Nat.le_zero.mp e)) d.ne
 |succ k p=>
  intro t ks d e f;cases ks with
  |nil=>exact absurd rfl d.ne
  |cons x r=>
   by_cases g:a<=oA x
   .have h:=jK (M7 o g);have i:Fn r:=d.tail (by rw[h];exact fun z=>Tk.noConfusion z);have j:oA x+1<=4:=by rw[h];exact NE (au _)
    refine fun z=>wy (F:=fun u r'=>ck (Pz m).2 a b k (.bin (DU x) t u) r') (T.l _ _ _ (Ny 1 _) j i (pX f (Nj _))) (fun{u r'} q=>?_) (cf g z);apply bc;intro s;obtain⟨_,_,row,n,L⟩:=(lU m).l (Ny 1 _) j q;apply s;have c:r'.length<=r.length:=by rw[n,M9];exact Ny _ _
    exact p (Fn.rest (n▸i) L.noFin) (M7 c (NO e)) (OA (Nr (pX f c)))
   .exact fun z=>bb (bV g z)
theorem wA{m:Nat}(T:LA m){a:Nat}{ks:List Tk}(c:Fn ks)(b:2*ks.length<=m+1):qQ (Pz m).1 (Pz m).2 a ks≠none:=by
 cases ks with
 |nil=>exact absurd rfl c.ne
 |cons k r=>
  by_cases g:10<a
  .exact fun z=>bb (cf g z)
  refine fun z=>?_;replace z:=bV g z;cases k with
  |sign s=>
   have d:Fn r:=c.tail fun z=>Tk.noConfusion z;have b:=pX b (Nj _);by_cases g1:s=[45]\/s=[126]\/s=[33]
   .exact wy (F:=fun t r'=>some (some (.un s t,r'))) (T.p _ _ d (Nr b)) (fun _ z=>bb z) (cf g1 z)
   .replace z:=bV g1 z;by_cases g2:s=[40]
    .exact F9 (T.l _ _ _ (Nj 1) (by decide) d b) (fun{t} e=>((lU m).l (Nj 1) (by decide) e).1 rfl) (cf g2 z)
    .exact bb (bV g2 z)
  |_=>exact bb z
theorem zT(m:Nat):LA m:=by
 induction m with
 |zero=>exact⟨fun a ks c b=>absurd (List.length_eq_zero_iff.mp (Nat.le_zero.mp (M7 (TJ _ (by decide)) b))) c.ne,fun _ _ ks _ _ c b=>absurd b (QC _)⟩
 |succ m T=>
  refine⟨fun a ks c b=>wA T c b,fun d a ks g i c b=>?_⟩;refine wy (F:=fun t r=>ck (Pz m).2 d a r.length t r) (o:=(Pz m).1 a ks) (T.p _ _ c (NO b)) fun{t r} e=>?_;obtain⟨row,f,L⟩:=(lU m).p e;have h:r.length<=ks.length:=by rw[f,M9];exact Ny _ _
  exact wz T g r.length (Fn.rest (f▸c) (L 1).noFin) (Nj _) (M7 (Op 2 h) (Nr b))
theorem lV{ks:List Tk}{t:Tr}{m:Nat}(L:Lv 1 0 ks t)(a:2*ks.length+1<=m):eW m ks=some (some t):=by
 cases m with
 |zero=>exact absurd a (QC _)
 |succ m=>obtain⟨k,_,e⟩:=(wx L).2 m (NO a) 1 (Nj 1) (Nj 1) (by decide) [.fin] (NV _ _) (NP _);unfold eW;rw[e.trans (hK (NV _ _) (by show 0<1;decide))]
theorem wB(a:Tk.fin∉ks)(e:ks++[.fin]=row++ .fin::r):ks=row:=by
 rcases bT r with z|⟨W,x,z⟩
 .rw[z]at e;exact(SC e rfl).1
 .rw[z,←Pr,←Nk]at e;exact absurd (by rw[(SC e rfl).1];exact On _ (Ng ..)) a
theorem rh{ks:List Tk}{m:Nat}(a:2*ks.length+3<=m)(b:Tk.fin∉ks):(∃t,eW m ks=some (some t)/\Lv 1 0 ks t)\/eW m ks=some none:=by
 have T:=(zT m).l 1 0 _ (Nj 1) (by decide) ⟨ks,rfl⟩ (by rw[M9];exact a);have S:=@(lU m).l 1 0 (ks++[.fin]);unfold eW;revert T S;cases(Pz m).2 1 0 (ks++[.fin])with
 |none=>exact fun T=>absurd rfl T
 |some o=>
  cases o with
  |none=>exact fun _ _=> .inr rfl
  |some p=>
   obtain⟨t,r⟩:=p;refine fun _ S=>?_;obtain⟨h,_,row,c,L⟩:=S (Nj 1) (by decide) rfl;clear S;cases r with
   |nil=>exact absurd rfl h
   |cons k r=>cases k with
    |fin=>exact .inl ⟨t,rfl,by rw[wB b c];exact L⟩
    |_=>exact .inr rfl
noncomputable def aZ:Lt->Tk
 |.sg s=> .sign s
 |.num n=> .num n
 |.sym s=> .name s
 |.here=> .name [46]
noncomputable def gH:List Nat:=[42,47,37,124,38,94,43,45,126,33,40,41]
theorem og(h:bN (.sg s)):(∃c∈gH,s=[c])\/s=[60,60]\/s=[62,62]:=by
 have a:∀s∈eD,(∃c∈gH,s=[c])\/s=[60,60]\/s=[62,62]:=by decide
 have b:∀s∈gP,(∃c∈gH,s=[c])\/s=[60,60]\/s=[62,62]:=by decide
 rcases h with h|h|h|h
 .exact a s h
 .exact b s h
 .exact .inl ⟨40,by decide,h⟩
 .exact .inl ⟨41,by decide,h⟩
theorem ej:∀c∈gH,dG c=false/\¬aD c<10/\c≠39/\c≠34/\qO.contains c=true/\c≠60/\c≠62/\ws c=false/\([c]==[35])=false/\am c=false/\cM c=false:=by decide
noncomputable def ri(p:Nat->Bool):List Nat->Bool
 |c::_=>p c
 |[]=>false
theorem kP(w:List Nat):∀(x:List Nat),(∀c∈w,am c=true)->ri am x=false->bD (w++x)=w.length:=by
 induction w with
 |nil=>
  intro t0;cases t0 with
  |nil=>exact fun _ _=>rfl
  |cons c x=>exact fun _ h=>Na (by rw[show am c=false from h];decide)
 |cons c w a=>intro x h b;show(if am c=true then bD (w++x)+1 else 0)=_;rw[Nd (h c (Ng ..)),a x (fun z d=>h z (Ni _ d)) b];rfl
theorem oh{w x:List Nat}:(w++x).take w.length=w:=by rw[SH (Nj _),Rq]
theorem jS(h0:dG c=true)(h:∀y∈c::w,am y=true)(a:ri am x=false):LX (c::w++x) (.tok (.name (c::w)) (c::w).length):=by
 have e:lI c (w++x)= .tok (.name (c::w)) (c::w).length:=by unfold lI;rw[Nd h0];have:=kP (c::w) x h a;show Lx.tok (.name ((c::w++x).take (bD (c::w++x)))) (bD (c::w++x))=_;rw[this,oh]
 exact e▸LX.f
theorem hM(h:iD 48 57 c=true):dG c=false/\aD c<10/\ws c=false/\([c]==[35])=false:=by
 have z:∀k:Fin 10,dG (48+k)=false/\aD (48+k)<10/\ws (48+k)=false/\([48+k.1]==[35])=false:=by decide
 have hh:=bQ.mp h;have:=z ⟨c-48,O0 hh.1 (Oz hh.2)⟩;rw[show 48+((⟨c-48,O0 hh.1 (Oz hh.2)⟩:Fin 10):Nat)=c from by show 48+(c-48)=c;exact R7 hh.1]at this;exact this
theorem zV{c n:Nat}{w x:List Nat}(h0:iD 48 57 c=true)(h:∀y∈c::w,am y=true)(a:iE (c::w)=n)(d:n<2^64)(b:ri am x=false):LX (c::w++x) (.tok (.num n) (c::w).length):=by
 have f:=hM h0;have e:lI c (w++x)= .tok (.num n) (c::w).length:=by unfold lI;rw[Na (by rw[f.1];decide),Nd f.2.1];have:=kP (c::w) x h b;unfold lG;show(if 18446744073709551615<iE ((c::w++x).take (bD (c::w++x)))then _ else if 0<=iE ((c::w++x).take (bD (c::w++x)))then Lx.tok (.num (iE ((c::w++x).take (bD (c::w++x))))) (bD (c::w++x))else _)=_;rw[this,oh,a,Na (by omega),Nd (NK _)]
 exact e▸LX.f
theorem pY(a:c∈gH)(b:c=37->ri cM x=false):LX (c::x) (.tok (.sign [c]) 1):=by
 obtain⟨d,g,i,j,k,l,m,_⟩:=ej c a;have e:lI c x= .tok (.sign [c]) 1:=by
  unfold lI;rw[Na (by rw[d];decide),Na g,Na i,Na j,Na (fun z=>by
   have h:=b z.1;have:fY x=ri cM x:=by cases x<;>rfl
   rw[this,h]at z;exact N5 z.2)]
  unfold iU;rw[Nd k,Na];intro z;cases x with
  |nil=>
   rcases Bool.or_eq_true_iff.mp z with z|z
   .have z:[c]=[60,60]:=N9 z;injection z with _ z;exact Bb z
   .have z:[c]=[62,62]:=N9 z;injection z with _ z;exact Bb z
  |cons y x=>
   rcases Bool.or_eq_true_iff.mp z with z|z
   .have z:[c,y]=[60,60]:=N9 z;injection z with z _;exact l z
   .have z:[c,y]=[62,62]:=N9 z;injection z with z _;exact m z
 exact e▸LX.f
theorem rj(a:c=60\/c=62):LX (c::c::x) (.tok (.sign [c,c]) 2):=by
 have e:lI c (c::x)= .tok (.sign [c,c]) 2:=by rcases a with rfl|rfl<;>rfl
 exact e▸LX.f
theorem wC(h:ws c=false)(d:([c]==[35])=false)(g:Nat):dz (NF g 32++(c::y))=g/\dS (NF g 32++(c::y))=false:=by
 induction g with
 |zero=>exact⟨Na (by rw[h];decide),(Na (by rw[h];decide)).trans d⟩
 |succ g ih=>obtain⟨a,b⟩:=ih;exact⟨(Nd (by decide)).trans (Nw (·+1) a),(Nd (by decide)).trans b⟩
theorem F_(S:Sp (some t) r x)(d:∀t∈r,bN t):(bA t=true->ri am x=false)/\(cK t=true->ri cM x=false):=by
 cases S with
 |nil=>exact⟨fun _=>rfl,fun _=>rfl⟩
 |@cons _ f r g w x e i h=>
  cases g with
  |succ g=>exact⟨fun _=>by show am 32=false;decide,fun _=>by show cM 32=false;decide⟩
  |zero=>
   obtain⟨a,b⟩:=i rfl t rfl;refine⟨fun j=>?_,fun k=>by rw[k]at b;exact df b⟩;rw[j,U7]at a;cases f with
   |sg s=>
    have e:w=s:=e;subst e;rcases og (d _ (Ng ..))with⟨c,l,rfl⟩|rfl|rfl
    .exact(ej c l).2.2.2.2.2.2.2.2.2.1
    .exact(by decide:am 60=false)
    .exact(by decide:am 62=false)
   |_=>exact df a
theorem iq:∀s∈bk,∃c w,s=c::w/\dG c=true/\ws c=false/\([c]==[35])=false/\∀y∈c::w,am y=true:=by
 intro s h;have:∀s∈bk,s≠[]/\dG (s.headD 0)=true/\ws (s.headD 0)=false/\([s.headD 0]==[35])=false/\∀y∈s,am y=true:=by decide
 obtain⟨a,b,c,d,e⟩:=this s h
 match s,a,b,c,d,e with
 |x::w,_,b,c,d,e=>exact⟨x,w,rfl,b,c,d,e⟩
theorem oj{t:Lt}{w x:List Nat}(ht:bN t)(hw:nU t w)(h1:bA t=true->ri am x=false)(h2:cK t=true->ri cM x=false):∃c y,w=c::y/\ws c=false/\([c]==[35])=false/\LX (w++x) (.tok (aZ t) w.length):=by
 cases t with
 |sg s=>
  have hw:w=s:=hw;subst hw;rcases og ht with⟨c,hc,rfl⟩|rfl|rfl
  .have f:=ej c hc;exact⟨c,[],rfl,f.2.2.2.2.2.2.2.1,f.2.2.2.2.2.2.2.2.1,pY hc fun e=>h2 (by rw[e];rfl)⟩
  .exact⟨60,[60],rfl,by decide,by decide,rj (.inl rfl)⟩
  .exact⟨62,[62],rfl,by decide,by decide,rj (.inr rfl)⟩
 |sym s=>have hw:w=s:=hw;subst hw;apply bc;intro qK;obtain⟨c,y,rfl,b,f1,f2,f3⟩:=iq w ht;apply qK;exact⟨c,y,rfl,f1,f2,jS b f3 (h1 rfl)⟩
 |here=>have hw:w=[46]:=hw;subst hw;exact⟨46,[],rfl,by decide,by decide,jS (by decide) (by decide) (h1 rfl)⟩
 |num n=>
  have hw:cz n w:=hw;cases hw with
  |@dig c s h0 hs hv hl=>exact⟨c,s,rfl,(hM h0).2.2.1,(hM h0).2.2.2,zV h0 hs hv ht (h1 rfl)⟩
  |@chr s h hl=>exact⟨39,s,rfl,by decide,by decide,LX.c (h x)⟩
theorem lW{p:Option Lt}{row:List Lt}{x:List Nat}(S:Sp p row x):(∀t∈row,bN t)->∀{P:Option (List Tk)->Prop},P (some (row.map aZ))->ci x P:=by
 induction S with
 |nil=>exact fun _ P p=> .done rfl p
 |@cons p t r g w x i s h j=>
  intro d P p;have f:∀t∈r,bN t:=fun t l=>d t (Ni _ l);apply bc;intro m;obtain⟨a,b⟩:=F_ h f;obtain⟨c,y,rfl,o,q,L⟩:=oj (d t (Ng ..)) i a b;apply m;have e:NF g 32++(c::y)++x=NF g 32++(c::(y++x)):=by rw[Nk];rfl
  obtain⟨g1,g2⟩:=wC (y:=y++x) o q g;rw[e];have d1:(NF g 32++(c::(y++x))).drop g=c::(y++x):=by
   have:=PN (l₁:=NF g 32) (l₂:=c::(y++x))
   rwa [Pg]at this
  refine .tok (k:=aZ t) (n:=(c::y).length) g2 (by rw[g1,d1];exact L) (Oh _) ?_;rw[g1,←OU,d1];have d2:(c::(y++x)).drop (c::y).length=x:=PN (l₁:=c::y) (l₂:=x);rw[d2];exact j f p
inductive Gr:Nat->List Lt->Tr->Prop
 |leaf {n:Nat} {t:Lt} (h:bA t=true):Gr n [t] (kM t)
 |un {n:Nat} {s:List Nat} {r:List Lt} {b:Tr} (hs:s∈gP) (hr:Gr 4 r b):Gr n (.sg s::r) (.un s b)
 |par {n:Nat} {r:List Lt} {t:Tr} (hr:Gr 1 r t):Gr n (.sg [40]::(r++[.sg [41]])) t
 |bin {n:Nat} {s:List Nat} {l r:List Lt} {a b:Tr} (h1:1<=ae s) (hn:n<=ae s) (hl:Gr (ae s) l a) (hr:Gr (ae s+1) r b):Gr n (l++ .sg s::r) (.bin s a b)
theorem Gr.weak(h:Gr n r t)(hn:n'<=n):Gr n' r t:=by
 cases h with
 |leaf h=>exact .leaf h
 |un hs hr=>exact .un hs hr
 |par hr=>exact .par hr
 |bin h1 h2 hl hr=>exact .bin h1 (M7 hn h2) hl hr
theorem Gr.ne(h:Gr n r t):r≠[]:=by
 cases h with
 |leaf=>exact NV _ _
 |un=>exact NV _ _
 |par=>exact NV _ _
 |bin=>exact fun e=>kT (List.append_eq_nil_iff.mp e).2
theorem rm(h:bA t=true):az h0 (t::r) i a en best lev=az h0 r (i+1) a true best lev:=Nd h
theorem wD:az h0 (.sg [40]::r) i a en best lev=az h0 r (i+1) (a+1) false best lev:=rfl
theorem wE(h:¬(a-1<0\/(a-1=0/\best=none/\cn h0=true/\gD r=true))):az h0 (.sg [41]::r) i a en best lev=az h0 r (i+1) (a-1) true best lev:=
 (Na (show ¬bA (.sg [41])=true by decide)).trans ((Na (show ¬cn (.sg [41])=true by decide)).trans ((Nd (show gQ (.sg [41])=true by decide)).trans (Na h)))
theorem gJ(h:1<=ae s\/s∈gP):cn (.sg s)=false/\gQ (.sg s)=false:=by
 have z:∀k:List Nat,ae k=0->k∉gP->s≠k:=fun k a b e=>by
  subst e;rcases h with h|h
  .rw[a]at h;exact absurd h (by decide)
  .exact b h
 exact⟨R6 (z [40] (by decide) (by decide)),R6 (z [41] (by decide) (by decide))⟩
theorem fx(h:1<=ae s\/s∈gP):az h0 (.sg s::r) i a en best lev=if en=true/\a=0/\1<=ae s/\ae s<=lev then az h0 r (i+1) a false (some i) (ae s)else az h0 r (i+1) a false best lev:=
 (Na (show ¬bA (.sg s)=true from N5)).trans ((Na (by rw[(gJ h).1];decide)).trans (Na (by rw[(gJ h).2];decide)))
theorem zW{h0:Lt}{n:Nat}{row:List Lt}{t:Tr}(G:Gr n row t):∀(rest:List Lt)(i:Nat)(dep:Int)(best:Option Nat)(lev:Nat),1<=dep->az h0 (row++rest) i dep false best lev=az h0 rest (i+row.length) dep true best lev:=by
 induction G with
 |leaf h=>exact fun rest i dep best lev hd=>rm h
 |un hs hr ih=>intro rest i dep best lev hd;refine(fx (.inr hs)).trans ((Na (fun z=>aK z.1)).trans ((ih rest (i+1) dep best lev hd).trans ?_));rw[Nz,Oc,Ol 1]
 |par hr ih=>
  intro rest i dep best lev hd;refine wD.trans ?_;show az h0 ((_++[Lt.sg [41]])++rest) _ _ _ _ _=_;rw[Nk,ih _ (i+1) (dep+1) best lev (by lia)];refine(wE (by lia)).trans ?_;rw[Nz,M9,show dep+1-1=dep by lia]
  congr 1
  show i+1+_+1=i+(_+1+1);lia
 |@bin n s l r a b h1 hn hl hr ZU ZW=>
  intro rest i dep best lev hd;rw[Nk,ZU _ i dep best lev hd];refine(fx (.inl h1)).trans ((Na (fun z=>by lia)).trans ((ZW rest _ dep best lev hd).trans ?_));rw[M9,Nz]
  congr 1
  lia
theorem el(h:1<=ae s):jR (.sg s)=true:=by
 apply NS;intro g;have z:∀k∈eD,s≠k:=fun k a e=>g (NN (e▸a));have:ae s=0:=by unfold ae;rw[Na (fun h=>h.elim (z _ (by decide)) (z _ (by decide))),Na (fun h=>h.elim (z _ (by decide)) fun h=>h.elim (z _ (by decide)) (z _ (by decide))),Na (fun h=>h.elim (z _ (by decide)) fun h=>h.elim (z _ (by decide)) fun h=>h.elim (z _ (by decide)) fun h=>h.elim (z _ (by decide)) (z _ (by decide)))]
 lia
def Sc(h0:Lt)(row:List Lt)(k lv:Nat):Prop:=∀rest i best lev,lev<=3->gD rest=false->
 az h0 (row++rest) i 0 false best lev=az h0 rest (i+row.length) 0 true (if lv<=lev then some (i+k)else best) (if lv<=lev then lv else lev)
def LB(h0:Lt)(n:Nat)(row:List Lt)(t:Tr):Prop:=∀P:Prop,(∀{s l r a b},row=l++ .sg s::r->t= .bin s a b->1<=ae s->n<=ae s->Gr (ae s) l a->Gr (ae s+1) r b->Sc h0 row l.length (ae s)->P)->
 ((∀m,Gr m row t)->Sc h0 row 0 4->P)->P
section
variable{h0:Lt}{row l r:List Lt}{k lv k' lv':Nat}{s:List Nat}
theorem Sc.out(f:Sc h0 row k lv)(b:4<=lv)(a:lev<=3)(c:gD rest=false):az h0 (row++rest) i 0 false best lev=az h0 rest (i+row.length) 0 true best lev:=by have g:¬lv<=lev:=fun z=>absurd (M7 b (M7 z a)) (by decide);exact(f rest i best lev a c).trans (by rw[Na g,Na g])
theorem Sc.one(f:∀rest i best lev,lev<=3->gD rest=false->az h0 (row++rest) i 0 false best lev=az h0 rest (i+row.length) 0 true best lev):Sc h0 row 0 4:=fun rest i best lev a b=>by have g:¬4<=lev:=Nat.not_le.mpr (Oz a);rw[Na g,Na g];exact f rest i best lev a b
theorem Sc.bin(d:1<=ae s)(m:ae s<=lv)(e:Sc h0 l k lv)(f:ae s+1<=lv')(fr:Sc h0 r k' lv'):Sc h0 (l++ .sg s::r) l.length (ae s):=fun rest i best lev h j=>by
 have c:gD (.sg s::(r++rest))=false:=by show(!(jR (.sg s)))=false;rw[el d];rfl
 have a:∀{b lev},lev<=3->lev<=ae s->az h0 (r++rest) (i+l.length+1) 0 false b lev=az h0 rest (i+(l++ .sg s::r).length) 0 true b lev:=fun{b lev} n z=>by have g:¬lv'<=lev:=Nat.not_le.mpr (Nf z f);refine(fr rest _ b lev n j).trans ?_;rw[Na g,Na g,M9,Nz,Oc,Oc,Ol 1]
 clear fr f j;rw[Nk];refine(e _ i best lev h c).trans ((fx (.inl d)).trans ?_);clear e c;by_cases g:ae s<=lev
 .have z:ae s<=if lv<=lev then lv else lev:=by split<;>assumption
  rw[Nd ⟨rfl,rfl,d,z⟩,Nd g,Nd g];exact a (au s) (Nj _)
 .have g2:¬lv<=lev:=fun z=>g (M7 m z);rw[Na g2,Na g2,Na (fun z=>g z.2.2.2),Na g,Na g];exact a h (Qy g)
theorem LB.sc(T:LB h0 n row t)(a:n<=4){P:Prop}(h:∀k lv,n<=lv->Sc h0 row k lv->P):P:=
 T P (fun _ _ _ z _ _ f=>h _ _ z f) fun _ f=>h _ _ a f
theorem gM(G:Gr n row t):LB h0 n row t:=by
 induction G with
 |leaf h=>exact fun _ _ k=>k (fun m=> .leaf h) (Sc.one fun rest i best lev _ _=>rm h)
 |un hs hr ih=>refine fun _ _ k=>k (fun m=> .un hs hr) (Sc.one fun rest i best lev h3 hx=>ih.sc (Nj 4) fun _ _ h4 f=>(fx (.inr hs)).trans ((Na (fun z=>aK z.1)).trans ((f.out h4 h3 hx).trans ?_)));rw[Nz,Oc,Ol 1]
 |@par n r t hr ih=>refine fun _ _ k=>k (fun m=> .par hr) (Sc.one fun rest i best lev h3 hx=>wD.trans ?_);show az h0 ((r++[Lt.sg [41]])++rest) _ _ _ _ _=_;rw[Nk,zW hr _ (i+1) (0+1) best lev (by decide)];refine(wE (fun z=>z.elim (by decide) fun z=>aK (hx.symm.trans z.2.2.2))).trans ?_;rw[Nz,M9,Oc i,Oc i,Ol 1,Oc r.length];rfl
 |bin h1 hn hl hr ZU ZW=>exact fun _ k _=>k rfl rfl h1 hn hl hr (ZU.sc (OA (au _)) fun _ _ z f=>ZW.sc (NE (au _)) fun _ _ z' f'=>Sc.bin h1 z f z' f')
end
theorem jT(f:List Lt->Option Tr)(h:Lt)(a:List Lt):gF f h a none=if bA h=true then(if a=[] then some (kM h)else none)else if cn h=true then(if gQ ((h::a).getLastD .here)=true then f a.dropLast else none)else if nZ h=true then(f a).map (.un (oB h))else none:=rfl
theorem wF{F:List Lt->Option Tr}{x:Lt}{c l r:List Lt}{s:List Nat}{a b:Tr}(e:x::c=l++ .sg s::r)(f:Sc x (x::c) l.length (ae s))(d:F l=some a)(g:F r=some b):n8 F x c (az x (x::c) 0 0 false none 3)=some (.bin s a b):=by
 have f:=f [] 0 none 3 (Nj 3) rfl;rw[NB,Nd (au s),Nd (au s)]at f;rw[f];show(if(0:Int)≠0 then none else gF F x c (some (0+l.length)))=_;rw[Na (fun z=>z rfl),N7];show((F ((x::c).take l.length)).bind fun h=>(F ((x::c).drop (l.length+1))).map fun r=>Tr.bin (oB ((x::c).getD l.length .here)) h r)=_;have t1:(l++Lt.sg s::r).take l.length=l:=List.take_left;have i:(l++Lt.sg s::r).drop (l.length+1)=r:=by rw[←OU,PN];rfl
 have j:(l++Lt.sg s::r).getD l.length .here= .sg s:=by rw[OE,Q7 (Nj _),Su];rfl
 rw[e,t1,i,j,d,g];rfl
theorem tJ{F:List Lt->Option Tr}{x:Lt}{tl row:List Lt}{t:Tr}(G:Gr 4 row t)(e:x::tl=row)(ih:∀{r t},Gr 1 r t->r.length<=tl.length->F r=some t):gF F x tl none=some t:=by
 rw[jT];cases G with
 |leaf ht=>injection e with z0 z1;subst z0 z1;rw[Nd ht,Nd rfl]
 |@un _ s r b hs hr=>
  injection e with z0 z1;subst z0 z1
  rw[Na (show ¬bA (.sg s)=true from N5),Na (by rw[(gJ (.inr hs)).1];decide),Nd (show nZ (.sg s)=true from NN hs),ih (hr.weak (by decide)) (Nj _)];rfl
 |@par _ r t hr=>
  injection e with z0 z1;subst z0 z1
  have e1:(Lt.sg [40]::(r++[Lt.sg [41]])).getLastD .here= .sg [41]:=by rw[←Pr,RX]
  rw[Na (show ¬bA (.sg [40])=true from N5),Nd (show cn (.sg [40])=true from rfl),e1,Nd (show gQ (.sg [41])=true from rfl),R0];exact ih hr (by rw[M9];exact Oi _)
 |bin h1 hn hl hr=>exact absurd (M7 hn (au _)) (by decide)
theorem lX(n:Nat):∀{row:List Lt}{t:Tr},Gr 1 row t->row.length<=n->ba n row=some t:=by
 induction n with
 |zero=>exact fun G h=>absurd (List.length_eq_zero_iff.mp (Nat.le_zero.mp h)) G.ne
 |succ n d=>
  intro row t G h;cases row with
  |nil=>exact absurd rfl G.ne
  |cons x j=>
   show n8 (ba n) x j (az x (x::j) 0 0 false none 3)=some t;refine gM (h0:=x) G _ (fun{s l r a b} e k m _ o p f=>?_) fun g f=>?_
   .have c:l.length+(r.length+1)<=n+1:=by rw[e,M9,Nz]at h;exact h
    rw[k];exact wF e f (d (o.weak m) (NO (M7 (NM (Ny 1 _) _) c))) (d (p.weak (Ny 1 _)) (NO (M7 (Ny _ _) c)))
   .have f:=f.out (rest:=[]) (i:=0) (best:=none) (lev:=3) (Nj 4) (Nj 3) rfl;rw[NB]at f;rw[f];show(if(0:Int)≠0 then none else gF (ba n) x j none)=_;rw[Na (fun z=>z rfl)];exact tJ (g 4) rfl fun G z=>d G (M7 z (NO h))
theorem zX{h0:Lt}{l rest:List Lt}{a:Tr}(d:Gr 1 l a)(c:gD rest=false){P:Prop}(k:∀b1 b,b<=3->(∀n,n<=b->Gr n l a)->b1≠some l.length->az h0 (l++rest) 0 0 false none 3=az h0 rest l.length 0 true b1 b->P):P:=by
 refine gM (h0:=h0) d P (fun{s o r' p r} e h g1 g2 j m f=>?_) fun g f=>?_
 .have f:=f rest 0 none 3 (Nj 3) c;rw[Nd (au s),Nd (au s),N7,N7]at f;refine k _ _ (au s) (fun n z=>by rw[e,h];exact .bin g1 z j m) (fun q=>?_) f;rw[e,M9]at q;exact absurd (Nh q) (N4 (Qh (Oh _)))
 .have f:=f.out (rest:=rest) (i:=0) (best:=none) (Nj 4) (Nj 3) c;rw[N7]at f;exact k none 3 (Nj 3) (fun n _=>g n) (fun q=>aj q) f
theorem rn(c:Gr 1 r b)(a:lev<=3)(z:az h0 r (i+1) 0 false best lev=some (d,some i)):best=some i/\Gr (lev+1) r b:=by
 refine gM (h0:=h0) c _ (fun{s l r' m n} e h g1 g2 j k f=>?_) fun g f=>?_
 .have f:=f [] (i+1) best lev a rfl;rw[NB,z]at f;have f:=(Sk (Nh f)).2;by_cases q:ae s<=lev
  .rw[Nd q]at f;exact absurd (Nh f) (N4 (Nn (i+1) _))
  .rw[Na q]at f;exact⟨f.symm,by rw[e,h];exact .bin g1 (Rw q) j k⟩
 .have f:=f.out (rest:=[]) (i:=i+1) (best:=best) (Nj 4) a rfl;rw[NB,z]at f;exact⟨(Sk (Nh f)).2.symm,g _⟩
theorem wG{h0:Lt}{row l r:List Lt}{s:List Nat}{a b:Tr}{d:Int}(e:row=l++ .sg s::r)(c:1<=ae s)(i:Gr 1 l a)(g:Gr 1 r b)(h:az h0 row 0 0 false none 3=some (d,some l.length)):Gr 1 row (.bin s a b):=by
 have f:gD (.sg s::r)=false:=by show(!(jR (.sg s)))=false;rw[el c];rfl
 rw[e]at h⊢;refine zX (h0:=h0) i f fun b1 j k m n o=>?_;have h:=(fx (.inl c)).symm.trans (o.symm.trans h);by_cases q:ae s<=j
 .exact .bin c c (m _ q) (rn g (au s) ((Nd ⟨rfl,rfl,c,q⟩).symm.trans h)).2
 .exact absurd (rn g k ((Na (fun z=>q z.2.2.2)).symm.trans h)).1 n
theorem zY{F:List Lt->Option Tr}(i:∀{r t},F r=some t->Gr 1 r t)(hs:az x (x::c) 0 0 false none 3=some (d,none))(h:gF F x c none=some t):Gr 1 (x::c) t:=by
 rw[jT]at h;by_cases g1:bA x=true
 .replace h:=cf g1 h;by_cases g2:c=[]
  .have i0:=cf g2 h;injection i0 with z0;subst z0;rw[g2];exact .leaf g1
  .exact aj (bV g2 h)
 replace h:=bV g1 h;have k:∃s,x= .sg s:=by
  cases x with
  |sg s=>exact⟨s,rfl⟩
  |_=>exact absurd rfl g1
 obtain⟨s,rfl⟩:=k;by_cases g3:cn (.sg s)=true
 .replace h:=cf g3 h;by_cases g4:gQ ((Lt.sg s::c).getLastD .here)=true
  .replace h:=cf g4 h;have e:s=[40]:=N9 g3;rw[e]at g4⊢;rcases bT c with z|⟨W,y,z⟩
   .rw[z]at g4;exact aK g4
   .rw[z]at h g4⊢;rw[←Pr,RX]at g4;rw[R0]at h;have g4:y= .sg [41]:=by
     cases y with
     |sg u=>exact Nw _ (N9 g4)
     |_=>exact aK g4
    rw[g4];exact .par (i h)
  .exact aj (bV g4 h)
 replace h:=bV g3 h;by_cases g5:nZ (.sg s)=true
 .refine cq (cf g5 h) fun b m e=>?_;rw[←e];have j:s∈gP:=N2 g5;have hs:=(fx (.inr j)).symm.trans hs;replace hs:=bV (fun z=>aK z.1) hs;refine .un j (gM (h0:= .sg s) (i m) _ (fun{s' l r a n} _ _ _ _ _ _ f=>?_) fun g _=>g 4);have f:=f [] 1 none 3 (Nj 3) rfl;rw[NB,Nd (au s'),Nd (au s')]at f;have z:az (.sg s) [] (1+c.length) 0 true (some (1+l.length)) (ae s')=some (d,none):=f.symm.trans hs;exact bb (Sk (Nh z)).2
 .exact aj (bV g5 h)
theorem zZ{F:List Lt->Option Tr}{row:List Lt}{x:Lt}{t:Tr}(l:∀{r t},F r=some t->Gr 1 r t){f:Int}{i:Nat}(hs:az x row 0 0 false none 3=some (f,some i))
  (h:((F (row.take i)).bind fun n=>(F (row.drop (i+1))).map fun r=>Tr.bin (oB (row.getD i .here)) n r)=some t):Gr 1 row t:=by
 refine bF h fun a o h=>?_;refine cq h fun b p e=>?_;rw[←e];rcases kN _ _ _ _ _ _ _ _ hs with z|⟨j,e,m,s,c,d⟩
 .exact aj z
 .rw[N7]at e;rw[←e]at m c;have q:(row.take i).length=i:=by rw[O1];exact OL (NW m)
  obtain⟨g,u⟩:=List.getElem?_eq_some_iff.mp c;rw[show row.getD i .here= .sg s by rw[OE,c];rfl];have k:row.drop i= .sg s::row.drop (i+1):=by rw[OZ g,u]
  exact wG (h0:=x) ((TK i row).symm.trans (Nw (List.take i row++·) k)) d (l o) (l p) (by rw[q];exact hs)
theorem iX(n:Nat):∀{row:List Lt}{t:Tr},ba n row=some t->Gr 1 row t:=by
 induction n with
 |zero=>intro row t h;cases row<;>exact aj h
 |succ n c=>
  intro row t h;cases row with
  |nil=>exact aj h
  |cons x b=>
   have h:n8 (ba n) x b (az x (x::b) 0 0 false none 3)=some t:=h;cases hs:az x (x::b) 0 0 false none 3 with
   |none=>rw[hs]at h;exact aj h
   |some p=>
    obtain⟨a,best⟩:=p;rw[hs]at h;have h:(if a≠0 then none else gF (ba n) x b best)=some t:=h;by_cases d:a≠0
    .exact aj (cf d h)
    .replace h:=bV d h;cases best with
     |some i=>exact zZ c hs h
     |none=>exact zY c hs h
theorem Lv.dep(h:Lv n d r t):d<=10:=by
 induction h with
 |num h=>exact h
 |name h=>exact h
 |un h=>exact h
 |par h=>exact h
 |bin _ _ _ _ ih _=>exact ih
theorem tK:∀st,cN (cN st)=cN st
 |[]=>rfl
 |x::r=>by
  by_cases h:cn x=true
  .have e:cN (x::r)=x::r:=Nd h;rw[e,e]
  .have e:cN (x::r)=cN r:=Na h;rw[e,tK r]
theorem lY{st:List Lt}{en:Bool}{t:Lt}{r:List Lt}(h:(bA t||gQ t)=true):aR st en (t::r)=if 10<st.length then true else aR (cN (if(gQ t&&st.any cn)=true then eZ st else st)) true r:=Nd h
theorem fy{st:List Lt}{t:Lt}{r:List Lt}(h:(bA t||gQ t)=false):aR st false (t::r)=aR (t::st) false r:=
 (Na (by rw[h];decide)).trans (Nd (Tv _))
theorem ro{st:List Lt}{t:Lt}{r:List Lt}(h:(bA t||gQ t)=false)(a:cn t=false):aR st true (t::r)=aR st false r:=
 (Na (by rw[h];decide)).trans (Na (by rw[a];decide))
theorem iY(h:aZ t= .sign s):t= .sg s:=by cases t<;>cases h;rfl
theorem wH(h:s∈gP):s=[45]\/s=[126]\/s=[33]:=by
 have:∀s∈gP,s=[45]\/s=[126]\/s=[33]:=by decide
 exact this s h
theorem Dc(h:s=[45]\/s=[126]\/s=[33]):s∈gP:=by rcases h with rfl|rfl|rfl<;>decide
theorem iZ:∀s∈bk,s≠[46]:=by decide
def Dp(n d:Nat)(row:List Lt)(T:Tr):Prop:=Gr n row T/\∀(st rest:List Lt),st.length=d->(cN st=st\/4<=n)->aR st false (row++rest)=aR (cN st) true rest
section
variable{n d:Nat}{s:List Nat}{l r:List Lt}{a b T:Tr}
theorem Dp.leaf{t:Lt}(h:bA t=true)(a:d<=10)(e:T=kM t):Dp n d [t] T:=
 e▸⟨.leaf h,fun st rest hs _=>by
  have b:gQ t=false:=by cases t with|sg s=>exact aK h|_=>rfl
  refine(lY (st:=st) (en:=false) (r:=rest) (by rw[h];rfl)).trans ?_;rw[b,Na (by rw[hs];exact Nat.not_lt.mpr a)];rfl⟩
theorem Dp.un(hs:s∈gP)(D:Dp 4 (d+1) r b):Dp n d (.sg s::r) (.un s b):=
 ⟨.un hs D.1,fun st rest a _=>by
  have o:=gJ (.inr hs);refine(fy (t:= .sg s) (r:=r++rest) o.2).trans ((D.2 (.sg s::st) rest (Nw (·+1) a) (.inr (Nj 4))).trans ?_);rw[show cN (.sg s::st)=cN st from Na (by rw[o.1];decide)]⟩
theorem Dp.par(c:d+1<=10)(D:Dp 1 (d+1) r b):Dp n d (.sg [40]::(r++[.sg [41]])) b:=
 ⟨.par D.1,fun st rest a _=>by
  rw[Pr,Nk];refine(fy rfl).trans ((D.2 (.sg [40]::st) (.sg [41]::rest) (Nw (·+1) a) (.inl rfl)).trans ?_);show aR (.sg [40]::st) true (.sg [41]::rest)=_;exact(lY rfl).trans ((Na (by rw[Nz,a];exact Nat.not_lt.mpr c)).trans rfl)⟩
theorem Dp.bin(f:1<=ae s)(g:n<=ae s)(L:Dp (ae s) d l a)(R:Dp (ae s+1) d r b):Dp n d (l++ .sg s::r) (.bin s a b):=
 ⟨.bin f g L.1 R.1,fun st rest h e=>by
  have c:cN st=st:=e.resolve_right fun z=>absurd (M7 z (M7 g (au s))) (by decide);have o:=gJ (.inl f);have z:=R.2 st rest h (.inl c);rw[Nk];refine(L.2 st _ h (.inl c)).trans ?_;rw[c]at z⊢;exact(ro (t:= .sg s) (r:=r++rest) o.2 o.1).trans z⟩
end
theorem AP{n d:Nat}{ks:List Tk}{T:Tr}(L:Lv n d ks T):∀row,ks=row.map aZ->(∀t∈row,bN t)->Dp n d row T:=by
 induction L with
 |num h=>intro row e Z0;obtain⟨t,rfl,e⟩:=List.map_eq_singleton_iff.mp e.symm;cases t<;>cases e;exact .leaf rfl h rfl
 |@name n d s h=>
  intro row e Z0;obtain⟨t,rfl,e⟩:=List.map_eq_singleton_iff.mp e.symm;cases t with
  |sg s=>cases e
  |num k=>cases e
  |here=>cases e;exact .leaf rfl h rfl
  |sym s=>cases e;exact .leaf rfl h (Na (iZ s (Z0 _ (Ng ..))))
 |@un n d s r t h hs hr ih=>
  intro row e Z0;cases row with
  |nil=>exact kT e
  |cons x r'=>obtain⟨e1,e2⟩:=O9 e;have:=iY e1.symm;subst this;exact .un (Dc hs) (ih r' e2 fun t ht=>Z0 t (Ni _ ht))
 |@par n d r t h hr ih=>
  intro row e Z0;cases row with
  |nil=>exact kT e
  |cons x r1=>obtain⟨e1,e2⟩:=O9 e;have:=iY e1.symm;subst this;obtain⟨r',y,rfl,h1,h2⟩:=List.map_eq_append_iff.mp e2.symm;obtain⟨z,rfl,h3⟩:=List.map_eq_singleton_iff.mp h2;have:=iY h3;subst this;exact .par hr.dep (ih r' h1.symm fun t ht=>Z0 t (Ni _ (Os _ ht)))
 |@bin n d s l r a b h1 hn hl hr ZU ZW=>
  intro row e Z0;obtain⟨l',y,rfl,e1,e2⟩:=List.map_eq_append_iff.mp e.symm;cases y with
  |nil=>exact Bb e2
  |cons x r'=>obtain⟨e3,e4⟩:=O9 e2;have:=iY e3;subst this;exact .bin h1 hn (ZU l' e1.symm fun t ht=>Z0 t (Os _ ht)) (ZW r' e4.symm fun t ht=>Z0 t (On _ (Ni _ ht)))
theorem AR{n:Nat}{row:List Lt}{T:Tr}(G:Gr n row T):(∀t∈row,bN t)->∀(st rest:List Lt),(cN st=st\/4<=n)->Lv n st.length (row.map aZ) T\/aR st false (row++rest)=true:=by
 induction G with
 |@leaf n t h=>
  intro Z0 st rest _;have hc:(bA t||gQ t)=true:=by rw[h];rfl
  by_cases g:st.length<=10
  .left
   cases t with
   |sg s=>exact aK h
   |num k=>exact .num g
   |here=>exact .name (s:=[46]) g
   |sym s=>have z:Lv n st.length [.name s] (if s=[46] then .here else .name s):= .name g;rw[Na (iZ s (Z0 _ (Ng ..)))]at z;exact z
  .right
   exact(lY hc).trans (Nd (Nat.not_le.mp g))
 |@un n s r b hs hr ih=>intro Z0 st rest _;have o:=gJ (.inr hs);have e:aR st false (.sg s::(r++rest))=aR (.sg s::st) false (r++rest):=fy o.2;exact(ih (fun t ht=>Z0 t (Ni _ ht)) (.sg s::st) rest (.inr (Nj 4))).imp (fun L=> .un (Nr L.dep) (wH hs) L) e.trans
 |@par n r t hr ih=>
  intro Z0 st rest _;have e:aR st false (.sg [40]::(r++ .sg [41]::rest))=aR (.sg [40]::st) false (r++ .sg [41]::rest):=fy rfl;have e0:(Lt.sg [40]::(r++[Lt.sg [41]]))++rest= .sg [40]::(r++ .sg [41]::rest):=by simp
  have em:(Lt.sg [40]::(r++[Lt.sg [41]])).map aZ= .sign [40]::(r.map aZ++[.sign [41]]):=by rw[NU,NG];rfl
  rw[em,e0];exact(ih (fun t ht=>Z0 t (Ni _ (Os _ ht))) (.sg [40]::st) (.sg [41]::rest) (.inl rfl)).imp (fun L=> .par (Nr L.dep) L) e.trans
 |@bin n s l r a b h1 hn hl hr ZU ZW=>
  intro Z0 st rest hst;have h3:=au s;have hsk:cN st=st:=hst.resolve_right (Nat.not_le.mpr (Nf (M7 hn h3) (by decide)));have o:=gJ (.inl h1);have em:(l++Lt.sg s::r).map aZ=l.map aZ++ .sign s::r.map aZ:=by rw[NG,NU];rfl
  have hokl:∀t∈l,bN t:=fun t ht=>Z0 t (Os _ ht);rw[em,Nk];rcases ZU hokl st (.sg s::r++rest) (.inl hsk)with L|f
  .have f:=(AP L l rfl hokl).2 st (.sg s::r++rest) rfl (.inl hsk);rw[hsk]at f;have f:aR st false (l++(.sg s::r++rest))=aR st false (r++rest):=f.trans (ro (t:= .sg s) (r:=r++rest) o.2 o.1);exact(ZW (fun t ht=>Z0 t (On _ (Ni _ ht))) st rest (.inl hsk)).imp (fun R=> .bin h1 hn L R) f.trans
  .exact .inr f
noncomputable def cC(row:List Lt):Option Tr:=if aR [] false row=true then none else ba row.length row
theorem wI{row:List Lt}(a:∀t∈row,bN t){m:Nat}(c:2*row.length+3<=m):eW m (row.map aZ)=some (cC row):=by
 have d:Tk.fin∉row.map aZ:=fun z=>by refine i_ z fun t _ e=>?_;cases t<;>cases e
 have b:2*(row.map aZ).length+3<=m:=by rw[Nb];exact c
 rcases rh (m:=m) b d with⟨t,e,L⟩|e
 .obtain⟨G,f⟩:=AP L row rfl a;have f:=f [] [] rfl (.inl rfl);rw[NB]at f;have f:aR [] false row=false:=f;unfold cC;rw[f,Na (by decide),lX row.length G (Nj _)];exact e
 .rw[e];unfold cC;by_cases g:aR [] false row=true
  .rw[Nd g]
  .rw[Na g];cases h:ba row.length row with
   |none=>rfl
   |some t=>
    rcases AR (iX _ h) a [] [] (.inl rfl)with L|f
    .have:=lV L (m:=m) (by rw[Nb];exact Nf (Nn ..) c);rw[e]at this;cases this
    .rw[NB]at f;exact absurd f g
theorem wJ(b:Int)(w:List Nat):∀(v:List Nat)(a:Int),(∀c∈w,aD c<b)->dQ b (w++v) a=dQ b v (dQ b w a):=by
 induction w with
 |nil=>exact fun v a _=>rfl
 |cons c w e=>intro v a h;have d:¬b<=aD c:=Int.not_le.mpr (h c (Ng ..));show(if b<=aD c then -1 else dQ b (w++v) (a*b+aD c))=dQ b v (if b<=aD c then -1 else dQ b w (a*b+aD c));rw[Na d,Na d];exact e v _ fun c d=>h c (Ni _ d)
theorem Ml:∀k:Fin 10,(P7 k).toNat=48+k/\aD (48+k)=(k:Nat)/\lP (48+k)=true:=by decide
theorem Dd:∀(k m:Nat),m<10^(k+1)->Dg 10 m (k+1) ((OW 10 m).map O_)/\(m≠0->((OW 10 m).map O_).head? ≠some 48):=by
 intro k;have d:∀(k m:Nat),m<10->Dg 10 m (k+1) ((OW 10 m).map O_)/\(m≠0->((OW 10 m).map O_).head? ≠some 48):=fun k m h=>by
  rw[Tp h];apply bc;intro i;obtain⟨a,b,q⟩:=Ml ⟨m,h⟩;apply i;have a:(P7 m).toNat=48+m:=a;have b:aD (48+m)=(m:Int):=b;show Dg 10 m (k+1) [(P7 m).toNat]/\_;rw[a];have o:¬(10:Int)<=aD (48+m):=by rw[b];lia
  refine⟨⟨NV _ _,?_,fun c j=>?_,?_,Ny 1 k⟩,fun f=>?_⟩
  .show(if(10:Int)<=aD (48+m)then -1 else(0*10+aD (48+m)))=_;rw[Na o,b];exact Q5 _
  .cases j with
   |head=>exact⟨q,Int.not_le.mp o⟩
   |tail _ z=>cases z
  .by_cases f:m=0
   .left;rw[f]
   .right
    show some (48+m)≠some 48;intro e;injection e with e;lia
  .show some (P7 m).toNat≠some 48;rw[a];intro e;injection e with e;lia
 induction k with
 |zero=>intro m h;exact d 0 m (by simpa using h)
 |succ k s=>
  intro m h;by_cases g:m<10
  .exact d (k+1) m g
  .have f:m % 10<10:=Sg m (by decide);have t:OW 10 (m / 10)++OW 10 (m % 10)=OW 10 (10*(m / 10)+m % 10):=Nat.toDigits_append_toDigits (by decide) (by lia) f;rw[S2]at t;apply bc;intro i;obtain⟨D,n⟩:=s (m / 10) (by rw[TI]at h;lia);have n:=n (by lia);obtain⟨E,_⟩:=d 0 (m % 10) f;apply i;rw[←t,NG];have hh:∀y:List Nat,((OW 10 (m / 10)).map O_++y).head? ≠some 48:=fun y=>by
    cases e:(OW 10 (m / 10)).map O_ with
    |nil=>exact absurd e D.ne
    |cons c r=>rw[e]at n;exact n
   refine⟨⟨fun e=>D.ne (List.append_eq_nil_iff.mp e).1,?_,fun c j=>?_,.inr (hh _),?_⟩,fun _=>hh _⟩
   .have p:=wJ 10 ((OW 10 (m / 10)).map O_) ((OW 10 (m % 10)).map O_) 0 fun c j=>(D.c c j).2;have dv:dQ 10 ((OW 10 (m / 10)).map O_) 0=((m / 10:Nat):Int):=D.v;rw[dv]at p;refine p.trans ?_;rw[Tp f];apply bc;intro i;obtain⟨a,b,_⟩:=Ml ⟨m % 10,f⟩;apply i;have a:(P7 (m % 10)).toNat=48+m % 10:=a;have b:aD (48+m % 10)=((m % 10:Nat):Int):=b;show(if(10:Int)<=aD (P7 (m % 10)).toNat then -1 else(((m / 10:Nat):Int)*10+aD (P7 (m % 10)).toNat))=_;rw[a,b,Na (by lia)];lia
   .rcases List.mem_append.mp j with z|z
    .exact D.c c z
    .exact E.c c z
   .rw[M9];exact Od D.l E.l
theorem rp(m:Nat):aE (m:Int)=(OW 10 m).map O_:=by unfold aE;rw[TG];show((toString ((m:Nat):Int)).toList.map O_).toArray.toList=_;rw[T4];show(Wv m).toList.map O_=_;rw[UQ]
theorem rq(m:Nat):aE (-((m:Int)+1))=45::aE ((m:Int)+1):=by have e: -((m:Int)+1)=T8 m:=rfl;have a:((m:Int)+1)=((m+1:Nat):Int):=rfl;rw[e,a,rp];unfold aE;rw[TG];show((toString (T8 m)).toList.map O_).toArray.toList=_;rw[T4];show("-"++Wv (m+1)).toList.map O_=_;rw[String.toList_append,NG,UQ];rfl
theorem M3:(2:Nat)^64<10^(19+1):=by decide
theorem e5(h:m<2^64):Dg 10 m 20 (aE (m:Int)):=by rw[rp];exact(Dd 19 m (Pe h M3)).1
theorem wK(h:m<2^64):cz m (aE (m:Int)):=FV (e5 h)
noncomputable def bZ:Tr->Prop
 |.num n=>0<=n/\n<2^64
 |.name s=>s∈bk
 |.here=>True
 |.un s b=>s∈gP/\bZ b
 |.bin s l r=>1<=ae s/\bZ l/\bZ r
theorem Ga{n:Nat}{row:List Lt}{T:Tr}(G:Gr n row T):(∀t∈row,bN t)->bZ T/\sz T<=row.length:=by
 induction G with
 |@leaf n t h=>
  intro Z0;have:=Z0 t (Ng ..);cases t with
  |sg s=>exact aK h
  |num k=>exact⟨⟨NK k,by have:k<2^64:=this;show(k:Int)<_;exact Int.ofNat_lt.mpr this⟩,Nj _⟩
  |sym s=>exact⟨this,Nj _⟩
  |here=>exact⟨trivial,Nj _⟩
 |un hs hr ih=>intro Z0;obtain⟨a,b⟩:=ih fun t ht=>Z0 t (Ni _ ht);exact⟨⟨hs,a⟩,NE b⟩
 |par hr ih=>intro Z0;obtain⟨a,b⟩:=ih fun t ht=>Z0 t (Ni _ (Os _ ht));refine⟨a,M7 b ?_⟩;rw[Nz,M9];exact M7 (Nn ..) (Oi _)
 |bin h1 hn hl hr ZU ZW=>intro Z0;apply bc;intro qK;obtain⟨a,b⟩:=ZU fun t ht=>Z0 t (Os _ ht);obtain⟨c,d⟩:=ZW fun t ht=>Z0 t (On _ (Ni _ ht));apply qK;refine⟨⟨h1,a,c⟩,?_⟩;rw[M9,Nz];show sz _+sz _+1<=_;exact NE (Od b d)
noncomputable def cY(b:Bool)(r:List Lt):List Lt:=if b=true then .sg [40]::(r++[.sg [41]])else r
noncomputable def hO:Tr->List Lt
 |.num n=>[.num n.toNat]
 |.name s=>[.sym s]
 |.here=>[.here]
 |.un s b=> .sg s::cY (decide (aN b<4)) (hO b)
 |.bin s l r=>cY (decide (aN l<ae s)) (hO l)++ .sg s::cY (decide (aN r<ae s+1)) (hO r)
theorem pZ(h:∀t∈r,bN t):∀t∈cY b r,bN t:=by
 cases b with
 |false=>exact h
 |true=>
  intro t a;cases a with
  |head=>exact .inr (.inr (.inl rfl))
  |tail _ z=>
   rcases List.mem_append.mp z with z|z
   .exact h t z
   .cases z with
    |head=>exact .inr (.inr (.inr rfl))
    |tail _ z=>cases z
theorem hU(h:1<=ae s):s∈eD:=N2 (el h)
theorem AS{T:Tr}:bZ T->∀t∈hO T,bN t:=by
 induction T with
 |num n=>
  intro h t a;cases a with
  |head=>have c:=h.1;have d:=h.2;show n.toNat<2^64;lia
  |tail _ z=>cases z
 |name s=>
  intro h t a;cases a with
  |head=>exact h
  |tail _ z=>cases z
 |here=>
  intro h t a;cases a with
  |head=>trivial
  |tail _ z=>cases z
 |un s b ih=>
  intro h t a;cases a with
  |head=>exact .inr (.inl h.1)
  |tail _ z=>exact pZ (ih h.2) t z
 |bin s l r ZU ZW=>
  intro h t a;rcases List.mem_append.mp a with z|z
  .exact pZ (ZU h.2.1) t z
  .cases z with
   |head=>exact .inl (hU h.1)
   |tail _ z=>exact pZ (ZW h.2.2) t z
noncomputable def Fg(p:Option Lt)(g:Nat):Prop:=g=0->∀x,p=some x->bA x=false/\cK x=false
noncomputable def oC(r:List Lt)(x:List Nat):Prop:=∀(p:Option Lt)(g:Nat)(rest:List Lt)(y:List Nat),Fg p g->(∀z,cK z=false->Sp (some z) rest y)->Sp p (r++rest) (NF g 32++(x++y))
theorem Fg.gap(h:Fg p g):we p t g:=fun e x a=>⟨by rw[(h e x a).1,S9],(h e x a).2⟩
theorem z4(a:nU t w)(b:cK t=false):oC [t] w:=fun p g rest y c k=>by have z:=Sp.cons a c.gap (k t b);rw[Nk]at z;exact z
theorem rr(h:oC r x)(h':∀z,cK z=false->∀rest y,(∀z,cK z=false->Sp (some z) rest y)->Sp (some z) (r'++rest) (a++y)):oC (r++r') (x++a):=fun p g rest y b k=>by have z:=h p g (r'++rest) (a++y) b fun z c=>h' z c rest y k;rw[Nk,Nk];exact z
theorem jU(hs:cK (.sg s)=false)(h:oC r x):oC (.sg s::r) (s++x):=fun p g rest y a k=>by have z:=Sp.cons (t:= .sg s) (w:=s) rfl a.gap (h (some (.sg s)) 0 rest y (fun _ x b=>by injection b with z0;subst z0;exact⟨rfl,hs⟩) k);rw[Nk]at z;rw[Nk];exact z
theorem ru(h:oC r x):oC (cY b r) (bx b x):=by
 cases b with
 |false=>exact h
 |true=>
  have z:oC (.sg [40]::(r++[.sg [41]])) ([40]++(x++[41])):=jU rfl (rr h fun z a rest y k=>by
   have w:=Sp.cons (t:= .sg [41]) (w:=[41]) (g:=0) (p:=some z) rfl (fun _ x c=>by injection c with z0;subst z0;exact⟨rfl,a⟩) (k (.sg [41]) rfl);exact w)
  rw[←Nk]at z;exact z
theorem lZ(a:oC l x)(b:oC r y):oC (l++ .sg s::r) (x++([32]++(s++([32]++y)))):=
 rr a fun z c rest w k=>by
  have z:=Sp.cons (t:= .sg s) (w:=s) (g:=1) (p:=some z) rfl (fun e=>aK (beq_iff_eq.mpr e)) (b (some (.sg s)) 1 rest w (fun e=>aK (beq_iff_eq.mpr e)) k);have e:([32]++(s++([32]++y)))++w=NF 1 32++s++(NF 1 32++(y++w)):=by simp[Nk]
  rw[e];exact z
theorem rx(s:List Nat)(l r:Tr):cQ (.bin s l r)=bx (decide (aN l<ae s)) (cQ l)++([32]++(s++([32]++bx (decide (aN r<ae s+1)) (cQ r)))):=by show bx (decide (aN l<ae s)) (cQ l)++[32]++s++[32]++bx (decide (aN r<ae s+1)) (cQ r)=_;simp only[Nk]
theorem De(h:s∈gP):cK (.sg s)=false:=by
 have:∀s∈gP,cK (.sg s)=false:=by decide
 exact this s h
theorem om{n:Int}(h:0<=n/\n<2^64):nU (.num n.toNat) (aE n):=by have e:((n.toNat:Nat):Int)=n:=Ow h.1;have w:cz n.toNat (aE (n.toNat:Int)):=wK (by have:=h.2;lia);rw[e]at w;exact w
noncomputable def rz:Tr->Nat->Prop
 |.un _ b,d=>d<=10/\(if aN b<4 then d+1<=10/\rz b (d+2)else rz b (d+1))
 |.bin s l r,d=>(if aN l<ae s then d<=10/\rz l (d+1)else rz l d)/\(if aN r<ae s+1 then d<=10/\rz r (d+1)else rz r d)
 |_,d=>d<=10
noncomputable def z5(k d:Nat)(T:Tr):Prop:=if aN T<k then d<=10/\rz T (d+1)else rz T d
theorem wL{T:Tr}:∀{d:Nat},rz T (d+1)->rz T d:=by
 induction T with
 |num _=>exact Nr
 |name _=>exact Nr
 |here=>exact Nr
 |un s b ih=>
  intro d h;refine⟨Nr h.1,?_⟩;have a:=h.2;by_cases g:aN b<4
  .rw[Nd g]at a⊢;exact⟨Nr a.1,ih a.2⟩
  .rw[Na g]at a⊢;exact ih a
 |bin s l r ZU ZW=>
  intro d h;obtain⟨c,a⟩:=h;refine⟨?_,?_⟩
  .by_cases g:aN l<ae s
   .rw[Nd g]at c⊢;exact⟨Nr c.1,ZU c.2⟩
   .rw[Na g]at c⊢;exact ZU c
  .by_cases g:aN r<ae s+1
   .rw[Nd g]at a⊢;exact⟨Nr a.1,ZW a.2⟩
   .rw[Na g]at a⊢;exact ZW a
theorem rA:∀{T:Tr},bZ T->1<=aN T
 |.num _,_|.name _,_|.here,_|.un _ _,_=>(by decide:1<=4)
 |.bin _ _ _,h=>h.1
theorem z6{b:Bool}{r:List Lt}:(cY b r).map aZ=if b=true then .sign [40]::(r.map aZ++[.sign [41]])else r.map aZ:=by
 cases b with
 |false=>rfl
 |true=>show(Lt.sg [40]::(r++[Lt.sg [41]])).map aZ=_;rw[NU,NG];rfl
theorem p5{k d:Nat}{T:Tr}(a:bZ T)(H:∀d,rz T d->Lv (aN T) d ((hO T).map aZ) T)(h:z5 k d T):Lv k d ((cY (decide (aN T<k)) (hO T)).map aZ) T:=by
 unfold z5 at h;rw[z6];by_cases g:aN T<k
 .rw[Nd g]at h;rw[NN g,Nd rfl];exact .par h.1 ((H _ h.2).weak (rA a))
 .rw[Na g]at h;rw[NQ g,Na (by decide)];exact(H _ h).weak (Nat.not_lt.mp g)
theorem Gb{T:Tr}:bZ T->∀d,rz T d->Lv (aN T) d ((hO T).map aZ) T:=by
 induction T with
 |num n=>intro h d a;have e:((n.toNat:Nat):Int)=n:=Ow h.1;show Lv 4 d [.num ((n.toNat:Nat):Int)] _;rw[e];exact .num a
 |name s=>intro h d a;have z:Lv 4 d [.name s] (if s=[46] then .here else .name s):= .name a;rw[Na (iZ s h)]at z;exact z
 |here=>exact fun h d a=> .name (s:=[46]) a
 |un s b ih=>exact fun h d a=> .un a.1 (wH h.1) (p5 (k:=4) (d:=d+1) h.2 (ih h.2) a.2)
 |bin s l r ZU ZW=>
  intro h d a;have z:Lv (ae s) d ((cY (decide (aN l<ae s)) (hO l)).map aZ++ .sign s::(cY (decide (aN r<ae s+1)) (hO r)).map aZ) (.bin s l r):=
   .bin h.1 (Nj _) (p5 (k:=ae s) (d:=d) h.2.1 (ZU h.2.1) a.1) (p5 (k:=ae s+1) (d:=d) h.2.2 (ZW h.2.2) a.2)
  have e:(hO (.bin s l r)).map aZ=(cY (decide (aN l<ae s)) (hO l)).map aZ++ .sign s::(cY (decide (aN r<ae s+1)) (hO r)).map aZ:=by show(cY (decide (aN l<ae s)) (hO l)++Lt.sg s::cY (decide (aN r<ae s+1)) (hO r)).map aZ=_;rw[NG,NU];rfl
  rw[e];exact z
theorem p_{n d:Nat}{ks:List Tk}{T:Tr}(L:Lv n d ks T):1<=aN T:=by
 induction L with
 |num=>exact(by decide:1<=4)
 |name=>split<;>exact(by decide:1<=4)
 |un=>exact(by decide:1<=4)
 |par _ _ ih=>exact ih
 |bin h1=>exact h1
noncomputable def tU:Tr->Nat
 |.un _ b=>tU b+(if aN b<4 then 1 else 0)
 |.bin s l r=>tU l+(if aN l<ae s then 1 else 0)+(tU r+(if aN r<ae s+1 then 1 else 0))
 |_=>0
theorem l4{n d:Nat}{T:Tr}(h:n<=aN T)(k:rz T d):z5 n d T:=by unfold z5;rw[Na (Nat.not_lt.mpr h)];exact k
theorem i3{n c:Nat}{T:Tr}(h:n<=aN T)(k:tU T<=c):tU T+(if aN T<n then 1 else 0)<=c:=by rw[Na (Nat.not_lt.mpr h)];exact k
theorem Df{n d:Nat}{ks:List Tk}{T:Tr}(L:Lv n d ks T):n<=4->z5 n d T:=by
 induction L with
 |num h=>exact fun hn=>l4 (T:= .num _) hn h
 |name h=>
  intro hn;split
  .exact l4 (T:= .here) hn h
  .exact l4 (T:= .name _) hn h
 |un h hs hr ih=>exact fun hn=>l4 (T:= .un _ _) hn ⟨h,ih (Nj 4)⟩
 |@par n d r t h hr ih=>
  intro hn;have z:=ih (by decide);unfold z5 at z;rw[Na (Nat.not_lt.mpr (p_ hr))]at z;unfold z5;by_cases g:aN t<n
  .rw[Nd g];exact⟨h,z⟩
  .rw[Na g];exact wL z
 |@bin n d s l r a b h1 hn' hl hr ZU ZW=>intro hn;have h3:=au s;have e:z5 n d (.bin s a b)=rz (.bin s a b) d:=Na (Nat.not_lt.mpr hn');rw[e];exact⟨ZU (M7 h3 (by decide)),ZW (Nf h3 (by decide))⟩
theorem on{ks:List Tk}{T:Tr}(a:bZ T)(L:Lv 1 0 ks T):Lv 1 0 ((hO T).map aZ) T:=by have z:=Df L (by decide);unfold z5 at z;rw[Na (Nat.not_lt.mpr (p_ L))]at z;exact(Gb a 0 z).weak (rA a)
noncomputable def tL:Tk->Bool
 |.sign s=>s==[40]
 |_=>false
theorem oo(k:Tk)(r:List Tk):r.countP tL<=(k::r).countP tL:=by rw[List.countP_cons];exact Nn _ _
theorem z7{n d:Nat}{ks:List Tk}{T:Tr}(L:Lv n d ks T):n<=4->tU T+(if aN T<n then 1 else 0)<=ks.countP tL:=by
 induction L with
 |num h=>exact fun hn=>i3 (T:= .num _) hn (NP _)
 |name h=>
  intro hn;split
  .exact i3 (T:= .here) hn (NP _)
  .exact i3 (T:= .name _) hn (NP _)
 |un h hs hr ih=>exact fun hn=>i3 (T:= .un _ _) hn (M7 (ih (Nj 4)) (oo _ _))
 |@par n d r t h hr ih=>
  intro hn;have z:=ih (by decide);rw[Na (Nat.not_lt.mpr (p_ hr))]at z;rw[Qc rfl,N_];have:(if aN t<n then 1 else 0)<=1:=by split<;>decide
  lia
 |@bin n d s l r a b h1 hn' hl hr ZU ZW=>intro hn;have h3:=au s;have e:(if aN (.bin s a b)<n then 1 else 0)=0:=Na (Nat.not_lt.mpr hn');rw[e,N_];have z1:=ZU (M7 h3 (by decide));have z2:=ZW (Nf h3 (by decide));have z3:r.countP tL<=(Tk.sign s::r).countP tL:=oo _ _;show tU a+_+(tU b+_)<=_;lia
noncomputable def DZ:Lt->Bool
 |.sg s=> !(s==[40]||s==[41])
 |_=>true
def D0(r:List Lt)(u z:List Nat):Prop:=∃ky v r',z=ky++41::v/\dp 0 (40::(ky++[41]))/\oC r' (u++(ky++v))/\r'.countP cn<r.countP cn/\r'.countP DZ=r.countP DZ/\r'.length<=r.length/\∀t∈r',t∈r
theorem D0.ctx{r A B R:List Lt}{u z p q:List Nat}(C:D0 r u z)(a:R=A++(r++B))(b:∀{r' y},oC r' y->oC (A++(r'++B)) (p++(y++q))):D0 R (p++u) (z++q):=by
 apply bc;intro c;obtain⟨ky,v,r',d,e,f,g,i,j,k⟩:=C;apply c;have z:=b f;rw[Nk,Nk,←Nk p]at z;refine⟨ky,v++q,A++(r'++B),by rw[d,Nk];rfl,e,z,?_,?_,?_,?_⟩<;>rw[a]
 .rw[N_,N_,N_,N_];exact QW (Nat.add_lt_add_right g _) _
 .rw[N_,N_,N_,N_,i]
 .rw[M9,M9,M9,M9];exact NM (NL j _) _
 .exact fun t l=>(List.mem_append.mp l).elim (fun h=>Os _ h) fun h=>On _ ((List.mem_append.mp h).elim (fun h=>Os _ (k t h)) fun h=>On _ h)
structure Dl(r:List Lt)(x:List Nat):Prop where
 sp:oC r x
 neu:∀(dep:Int)(rest:List Nat),1<=dep->rest≠[]->dp dep rest->dp dep (x++rest)
 del:∀u z,x=u++40::z->D0 r u z
theorem qa:(∀c∈w,c≠40/\c≠41)->∀(a:Int)(rest:List Nat),1<=a->rest≠[]->dp a rest->dp a (w++rest):=by
 induction w with
 |nil=>exact fun _ _ _ _ _ h=>h
 |cons c w g=>
  intro d a rest f i h;have b:=d c (Ng ..);have e:zD a c=a:=by unfold zD;rw[Na (by simpa using b.1),Na (by simpa using b.2),RG,PY]
  refine .inr ⟨by rw[e];exact f,?_⟩;rw[e];exact g (fun c b=>d c (Ni _ b)) a rest f i h
theorem Dh(a:∀c∈w,c≠40/\c≠41)(e:w=u++40::z):False:=
 (a 40 (by rw[e];exact On _ (Ng ..))).1 rfl
theorem qb(b:nU t w)(d:cK t=false)(a:∀c∈w,c≠40/\c≠41):Dl [t] w:=
 ⟨z4 b d,qa a,fun u z e=>(Dh a e).elim⟩
theorem i4(e:a++b=u++40::z):(∃c,u=a++c/\b=c++40::z)\/∃c,a=u++40::c/\z=c++b:=by
 rcases List.append_eq_append_iff.mp e with⟨c,d,f⟩|⟨c,d,f⟩
 .exact .inl ⟨c,d,f⟩
 .cases c with
  |nil=>exact .inl ⟨[],by rw[d];simp,by rw[←O8 b,←f];rfl⟩
  |cons y c=>obtain⟨g,h⟩:=O9 f;subst g;exact .inr ⟨c,d,h⟩
theorem z8{s:List Nat}{r:List Lt}{x:List Nat}(hs:cK (.sg s)=false)(f:∀c∈s,c≠40/\c≠41)(h:Dl r x):Dl (.sg s::r) (s++x):=by
 refine⟨jU hs h.sp,fun a rest b d g=>?_,fun u z e=>?_⟩
 .rw[Nk];exact qa f a _ b (fun z=>d (List.append_eq_nil_iff.mp z).2) (h.neu a rest b d g)
 .rcases i4 e with⟨c,i,d⟩|⟨c,b,_⟩
  .have C:=(h.del c z d).ctx (R:= .sg s::r) (A:=[.sg s]) (B:=[]) (p:=s) (q:=[]) (by rw[NB];rfl) fun k=>by rw[NB,NB];exact jU hs k
   rw[NB,←i]at C;exact C
  .exact(Dh f b).elim
theorem qc(b:∀(a:Int)(rest:List Nat),1<=a->rest≠[]->dp a rest->dp a (x++rest)):dp 0 (40::(x++[41])):=
 .inr ⟨by decide,b 1 [41] (by decide) (NV _ _) (.inl ⟨rfl,by decide⟩)⟩
theorem Gc(r:List Lt):(Lt.sg [40]::(r++[Lt.sg [41]])).countP cn=r.countP cn+1:=by rw[Qc (show cn (.sg [40])=true from rfl),N_];rfl
theorem LC(r:List Lt):(Lt.sg [40]::(r++[Lt.sg [41]])).countP DZ=r.countP DZ:=by rw[Qd (show ¬DZ (.sg [40])=true by decide),N_];rfl
theorem z9{r:List Lt}{x u z:List Nat}(h:Dl r x)(e:40::(x++[41])=u++40::z):D0 (cY true r) u z:=by
 cases u with
 |nil=>
  refine⟨x,[],r,(O9 e).2.symm,qc h.neu,by rw[O8,NB];exact h.sp,?_,(LC r).symm,?_,fun t d=>Ni _ (Os _ d)⟩
  .rw[show cY true r=Lt.sg [40]::(r++[Lt.sg [41]])from rfl,Gc];exact NX _
  .rw[show cY true r=Lt.sg [40]::(r++[Lt.sg [41]])from rfl,Nz,M9];exact Nn _ 2
 |cons c u=>
  obtain⟨f,g⟩:=O9 e;rw[←f];rcases i4 g with⟨c,_,a⟩|⟨c,i,j⟩
  .exfalso;cases c with
   |nil=>exact absurd (O9 a).1 (by decide)
   |cons y c=>have:=(O9 a).2;cases c<;>exact aK (beq_iff_eq.mpr this)
  .rw[j];exact(h.del u c i).ctx (A:=[.sg [40]]) (B:=[.sg [41]]) (p:=[40]) (q:=[41]) rfl fun k=>ru (b:=true) k
theorem qd(h:Dl r x):Dl (cY b r) (bx b x):=by
 cases b with
 |false=>exact h
 |true=>
  refine⟨ru (b:=true) h.sp,fun a rest c g f=>?_,fun u z e=>z9 h e⟩;have e:bx true x++rest=40::(x++(41::rest)):=by show 40::((x++[41])++rest)=_;rw[Nk];rfl
  have d0:zD a 40=a+1:=PY _;have d1:zD (a+1) 41=a:=by show a+1+0-1=a;rw[RG,Qe]
  have d:1<=a+1:=O4 c (PZ (Int.lt_succ a));rw[e];refine .inr ⟨by rw[d0];exact d,?_⟩;rw[d0];exact h.neu (a+1) _ d (NV _ _) (.inr ⟨by rw[d1];exact c,by rw[d1];exact f⟩)
theorem z_{s:List Nat}{l r:List Lt}{x y u z:List Nat}(h:∀c∈[32]++(s++[32]),c≠40/\c≠41)(d:Dl l x)(f:Dl r y)(e:x++(([32]++(s++[32]))++y)=u++40::z):D0 (l++ .sg s::r) u z:=by
 rcases i4 e with⟨c,i,j⟩|⟨c,m,n⟩
 .rcases i4 j with⟨g,a,b⟩|⟨g,b,_⟩
  .have C:=(f.del g z b).ctx (R:=l++ .sg s::r) (A:=l++[.sg s]) (B:=[]) (p:=x++([32]++(s++[32]))) (q:=[]) (by rw[NB,Nk];rfl) fun{r' y} k=>by have z:=lZ (s:=s) d.sp k;rw[NB,NB,Nk,Nk x,Nk [32],Nk s];exact z
   rw[NB,Nk,←a,←i]at C;exact C
  .exact(Dh h b).elim
 .rw[n];refine(d.del u c m).ctx (A:=[]) (B:= .sg s::r) (p:=[]) rfl fun k=>?_;have z:=lZ (s:=s) k f.sp;rw[Nk [32],Nk s];exact z
theorem Di(g:∀c∈[32]++(s++[32]),c≠40/\c≠41)(b:Dl l x)(d:Dl r y):Dl (l++ .sg s::r) (x++([32]++(s++([32]++y)))):=by
 have i:[32]++(s++([32]++y))=([32]++(s++[32]))++y:=by rw[Nk,Nk]
 refine⟨lZ b.sp d.sp,fun a rest f j h=>?_,fun u z e=>z_ g b d (i▸e)⟩;rw[i,Nk,Nk];have k:y++rest≠[]:=fun z=>j (List.append_eq_nil_iff.mp z).2;exact b.neu a _ f (fun z=>k (List.append_eq_nil_iff.mp z).2) (qa g a _ f k (d.neu a rest f j h))
theorem AT{T:Tr}:bZ T->Dl (hO T) (cQ T):=by
 induction T with
 |num n=>intro h;have e:((n.toNat:Nat):Int)=n:=Ow h.1;have D:=e5 (m:=n.toNat) (Int.ofNat_lt.mp (by rw[e];exact h.2));rw[e]at D;refine qb (t:= .num n.toNat) (om h) rfl fun c f=>?_;have:=(D.c c f).1;exact⟨fun e=>aK (by rw[e]at this;exact this),fun e=>aK (by rw[e]at this;exact this)⟩
 |name s=>exact fun h=>qb (t:= .sym s) rfl rfl ((show ∀s∈bk,∀c∈s,c≠40/\c≠41 by decide) s h)
 |here=>exact fun _=>qb (t:= .here) rfl rfl (by decide)
 |un s b g=>exact fun h=>z8 (De h.1) ((show ∀s∈gP,∀c∈s,c≠40/\c≠41 by decide) s h.1) (qd (g h.2))
 |bin s l r a d=>intro h;rw[rx];exact Di ((show ∀s∈eD,∀c∈[32]++(s++[32]),c≠40/\c≠41 by decide) s (hU h.1)) (qd (a h.2.1)) (qd (d h.2.2))
theorem wM(h:oC r x):Sp none r x:=by have z:=h none 0 [] [] (fun _ x a=>aj a) fun z _=> .nil;rw[NB,NB]at z;exact z
theorem l5(b:Bool)(r:List Lt):(cY b r).length<=r.length+2:=by
 cases b with
 |false=>exact Nn _ _
 |true=>show(Lt.sg [40]::(r++[Lt.sg [41]])).length<=_;rw[Nz,M9];exact Nj _
theorem AU(T:Tr):(hO T).length+2<=3*sz T:=by
 induction T with
 |un s b a=>exact M7 (NL (NE (l5 (decide (aN b<4)) (hO b))) 2) (NL a 3)
 |bin s l r c d=>show(cY _ (hO l)++Lt.sg s::cY _ (hO r)).length+2<=3*(sz l+sz r+1);rw[M9,Nz,Rj,Rj];exact NL (Od (M7 (l5 _ _) c) (NE (M7 (l5 _ _) d))) 2
 |_=>exact Nj _
theorem wN(b:Bool)(x:List Nat):(bx b x).length<=x.length+2:=by
 cases b with
 |false=>exact Nn _ _
 |true=>show([40]++x++[41]).length<=_;rw[M9,M9];show 1+x.length+1<=_;lia
theorem Dj(h:bZ (.num n)):(cQ (.num n)).length<=20:=by have e:((n.toNat:Nat):Int)=n:=Ow h.1;have D:=e5 (m:=n.toNat) (Int.ofNat_lt.mp (by rw[e];exact h.2));rw[e]at D;exact D.l
theorem wO{T:Tr}:bZ T->(cQ T).length+8<=28*sz T:=by
 induction T with
 |num n=>exact fun h=>NL (Dj h) 8
 |name s=>exact fun h=>NL ((show ∀s∈bk,s.length<=20 by decide) s h) 8
 |here=>exact fun _=>(by decide:1+8<=28)
 |un s b d=>intro h;show(s++bx (decide (aN b<4)) (cQ b)).length+8<=28*sz b+28;rw[M9];refine M7 (NL (Od ((show ∀s∈gP,s.length<=1 by decide) s h.1) (wN _ _)) 8) ?_;rw[Ol 1];exact M7 (NL (d h.2) 3) (NM (show 3<=28 by decide) _)
 |bin s l r a c=>intro h;have p:∀{b x k},x.length+8<=k->(bx b x).length<=k:=fun{b x _} z=>M7 (wN b x) (M7 (NM (by decide) _) z);rw[rx];show(bx _ (cQ l)++(32::(s++32::bx _ (cQ r)))).length+8<=28*(sz l+sz r+1);rw[M9,Nz,M9,Nz];refine M7 (NL (Od (p (a h.2.1)) (NE (Od ((show ∀s∈eD,s.length<=2 by decide) s (hU h.1)) (NE (p (c h.2.2)))))) 8) ?_;rw[Rj,Rj,Ol 2];exact NM (show 12<=28 by decide) _
noncomputable def D2:Tk->Bool
 |.sign s=> !(s==[40]||s==[41])
 |_=>true
theorem AV{n d:Nat}{ks:List Tk}{T:Tr}(L:Lv n d ks T):sz T=ks.countP D2:=by
 induction L with
 |num=>rfl
 |name=>split<;>rfl
 |@un n d s r t h hs hr ih=>
  have e:D2 (.sign s)=true:=by rcases hs with rfl|rfl|rfl<;>rfl
  rw[Qc e,←ih];rfl
 |@par n d r t h hr ih=>rw[Qd (show ¬D2 (.sign [40])=true by decide),N_,←ih];rfl
 |@bin n d s l r a b h1 hn hl hr ZU ZW=>
  have e:D2 (.sign s)=true:=by
   have:∀s∈eD,D2 (.sign s)=true:=by decide
   exact this s (hU h1)
  rw[N_,Qc e,←ZU,←ZW];rfl
theorem wP(r:List Lt):(r.map aZ).countP D2=r.countP DZ:=by rw[UL];refine Ur fun t _=>?_;cases t<;>rfl
theorem Dk(r:List Lt):(r.map aZ).countP tL=r.countP cn:=by rw[UL];refine Ur fun t _=>?_;cases t<;>rfl
theorem l6(b:Bool)(r:List Lt):(cY b r).countP cn=r.countP cn+(if b=true then 1 else 0):=by
 cases b with
 |false=>rfl
 |true=>exact Gc r
theorem Dm{T:Tr}:bZ T->(hO T).countP cn=tU T:=by
 induction T with
 |un s b d=>
  intro h;have e:¬cn (.sg s)=true:=by rw[(gJ (.inr h.1)).1];decide
  show(Lt.sg s::cY _ (hO b)).countP cn=tU b+_;rw[Qd e,l6,d h.2];simp only[OD]
 |bin s l r a c=>
  intro h;have e:¬cn (.sg s)=true:=by rw[(gJ (.inl h.1)).1];decide
  show(cY _ (hO l)++Lt.sg s::cY _ (hO r)).countP cn=tU l+_+(tU r+_);rw[N_,Qd e,l6,l6,a h.2.1,c h.2.2];simp only[OD]
 |_=>exact fun _=>rfl
theorem oq(h:dX (a::as) (b::c)=true):fB a b=true/\dX as c=true:=by have h:(fB a b&&dX as c)=true:=h;exact Bool.and_eq_true_iff.mp h
theorem i5(h:fB (.str s) (.str t)=true):s=t:=N9 (show(s==t)=true from h)
noncomputable def fZ:Tr->List Nat
 |.num _=>g9|.name _=>pI|.here=>ik|.un _ _=>Fu|.bin _ _ _=>Fv
noncomputable def wQ:Tr->List PV
 |.num n=>[.int n]|.name s=>[.str s]|.here=>[]|.un s b=>[.str s,tt b]|.bin s l r=>[.str s,tt l,tt r]
theorem AW(t:Tr):tt t= .tup (.str (fZ t)::wQ t):=by cases t<;>rfl
theorem jV(h:fB (tt u) (tt t)=true):fZ u=fZ t/\dX (wQ u) (wQ t)=true:=by rw[AW u,AW t]at h;have h:dX (.str (fZ u)::wQ u) (.str (fZ t)::wQ t)=true:=h;obtain⟨a,b⟩:=oq h;exact⟨i5 a,b⟩
theorem Dn:∀{t:Tr},fB (tt u) (tt t)=true->u=t:=by
 induction u with
 |num a=>
  intro t h;obtain⟨e,h⟩:=jV h;cases t with
  |num b=>rw[N9 (show(a==b)=true from(oq h).1)]
  |_=>exact aK (show(fZ _==fZ _)=true from beq_iff_eq.mpr e)
 |name a=>
  intro t h;obtain⟨e,h⟩:=jV h;cases t with
  |name b=>rw[i5 (oq h).1]
  |_=>exact aK (show(fZ _==fZ _)=true from beq_iff_eq.mpr e)
 |here=>
  intro t h;replace h:=(jV h).1;cases t with
  |here=>rfl
  |_=>exact aK (show(fZ _==fZ _)=true from beq_iff_eq.mpr h)
 |un s b g=>
  intro t h;obtain⟨e,h⟩:=jV h;cases t with
  |un s' j=>obtain⟨c,h⟩:=oq h;rw[i5 c,g (oq h).1]
  |_=>exact aK (show(fZ _==fZ _)=true from beq_iff_eq.mpr e)
 |bin s l r d f=>
  intro t h;obtain⟨e,h⟩:=jV h;cases t with
  |bin s' k r'=>obtain⟨c,h⟩:=oq h;obtain⟨i,h⟩:=oq h;rw[i5 c,d i,f (oq h).1]
  |_=>exact aK (show(fZ _==fZ _)=true from beq_iff_eq.mpr e)
theorem Gd(row:List Lt):Tk.fin∉row.map aZ:=fun z=>by refine i_ z fun t _ e=>?_;cases t<;>cases e
theorem Ge{n:Nat}{T:Tr}{ks0:List Tk}{at':Nat}{z:List Nat}(hT:bZ T)(L0:Lv 1 0 ks0 T)(hz:sz T<=45)(h:(cQ T).drop at'=40::z)(hn:300<=n)(hn2:n<=1900){σ:aa}{Q:QV}{X:QX}
  (q:Q (.bool false) σ):af (n+10) (.ref 919) [.str (cQ T),.int at',tt T] σ Q X:=by
 have tl:=wO hT;have rl:=AU T;have L:=on hT L0;apply bc;intro qK;obtain⟨ky,v,r',k1,k2,k3,k4,k5,k7,k6⟩:=(AT hT).del ((cQ T).take at') z (by rw[←h,TK]);apply qK;have ok':∀t∈r',bN t:=fun t ht=>AS hT t (k6 t ht);have e1:((40::(ky++[41])).drop 1).dropLast=ky:=R0;have ZT:(r'.map aZ).length=r'.length:=Nb ..;refine Ls (x:=cQ T) (m:=40::(ky++[41])) (r:=v) (P:=fun o=>o=some (r'.map aZ)) (by lia) (by rw[h,k1];simp) k2 (by rw[Nz,M9];exact NE (Ny _ _)) (by lia) (by lia) hn2 ?_ (fun e=>aj e) fun ks hk hl=>?_
 .rw[e1,Nk];exact lW (wM k3) ok' rfl
 .injection hk with z0;subst z0
  rcases rh (m:=n) (ks:=r'.map aZ) (by rw[ZT];lia) (Gd r')with⟨u,e,L'⟩|e
  .refine⟨_,e,?_⟩;have e2:sz u=sz T:=by rw[AV L',AV L,wP,wP,k5]
   refine⟨by rw[e2];lia,?_⟩;have e3:fB (tt u) (tt T)=false:=by
    cases e4:fB (tt u) (tt T)with
    |false=>rfl
    |true=>exfalso;have:=Dn e4;subst this;have c1:=z7 L' (by decide);rw[Dk]at c1;rw[Dm hT]at k4;lia
   rw[e3];exact q
  .exact⟨_,e,q⟩
theorem e6(a b:Int):gC a b=a.tdiv b:=by
 have n:∀k:Nat,decide (T8 k<0)=true:=fun k=>NN (Int.negSucc_lt_zero k);have p:∀k:Nat,decide (Wl k<0)=false:=fun k=>NQ (Int.not_lt.mpr (NK k));have fd:∀m n:Nat,(m:Int).fdiv (n:Int)=(m:Int).tdiv (n:Int):=fun m n=>Int.fdiv_eq_tdiv_of_nonneg (NK m) (NK n);unfold gC;rw[fd];cases a with
 |ofNat a=>
  cases b with
  |ofNat b=>rw[p,p,Na (by decide)];rfl
  |negSucc b=>rw[p,n,Nd (show(false==true)=false from rfl)];rfl
 |negSucc a=>
  cases b with
  |ofNat b=>rw[p,n,Nd (show(true==false)=false from rfl)];rfl
  |negSucc b=>rw[n,n,Na (by decide)];rfl
theorem rB(a:Int)(e:b≠0):gC a b=if a.fmod b≠0/\decide (a<0)≠decide (b<0)then a.fdiv b+1 else a.fdiv b:=by
 rw[e6,Int.fdiv_eq_tdiv];by_cases h:b∣a
 .have z:=Int.fmod_eq_zero_of_dvd h;rw[Nd h,Na (fun k=>k.1 z)];exact(PY _).symm
 .have z:a.fmod b≠0:=fun z=>h (Int.dvd_of_fmod_eq_zero z);rw[Na h];by_cases d:0<=a
  .have a0:decide (a<0)=false:=NQ (Int.not_lt.mpr d);rw[Nd d,a0];by_cases c:0<=b
   .have b0:decide (b<0)=false:=NQ (Int.not_lt.mpr c);rw[Nd c,b0,Na (fun k=>k.2 rfl)];exact(PY _).symm
   .have b0:decide (b<0)=true:=NN (Int.not_le.mp c);rw[Na c,b0,Nd ⟨z,by decide⟩];exact(Us ..).symm
  .have a0:decide (a<0)=true:=NN (Int.not_le.mp d);rw[Na d,a0];by_cases c:0<=b
   .have b0:decide (b<0)=false:=NQ (Int.not_lt.mpr c);rw[Nd c,b0,Nd ⟨z,by decide⟩,Int.sign_eq_one_of_pos (by omega)];exact(Us ..).symm
   .have b0:decide (b<0)=true:=NN (Int.not_le.mp c);rw[Na c,b0,Na (fun k=>k.2 rfl),Int.sign_eq_neg_one_of_neg (Int.not_le.mp c)];exact(PY _).symm
theorem rC(x y:Int):QR x y=x+y-2*OH x y:=by unfold QR;rw[Vw,VP,T7]
theorem wR(h:1<=ae s)(d:s≠[43])(e:s≠[45])(a b:Int):pM s a b=pR s a b:=by
 have:∀s∈eD,s=[42]\/s=[47]\/s=[37]\/s=[60,60]\/s=[62,62]\/s=[124]\/s=[38]\/s=[94]\/s=[43]\/s=[45]:=by decide
 rcases this s (hU h)with rfl|rfl|rfl|rfl|rfl|rfl|rfl|rfl|rfl|rfl
 .rfl
 .show(if b=0 then none else some (gC a b))=(if b=0 then none else some (if a.fmod b≠0/\decide (a<0)≠decide (b<0)then a.fdiv b+1 else a.fdiv b))
  by_cases c:b=0
  .rw[Nd c,Nd c]
  .rw[Na c,Na c,rB a c]
 .show(if b=0 then none else some (a-b*gC a b))=(if b=0 then none else some (a-b*(if a.fmod b≠0/\decide (a<0)≠decide (b<0)then a.fdiv b+1 else a.fdiv b)))
  by_cases c:b=0
  .rw[Nd c,Nd c]
  .rw[Na c,Na c,rB a c]
 .rfl
 .rfl
 .show some (S6 a b)=some (a+b-OH a b);rw[Vw]
 .rfl
 .show some (QR a b)=some (a+b-2*OH a b);rw[rC]
 .exact absurd rfl d
 .exact absurd rfl e
theorem wS{m j:Nat}(h:j<=m):((m:Int)-j).natAbs<=m:=by rw[←Int.ofNat_sub h];exact Q9 _ _
theorem wT{x:Int}(h:¬0<=x):(QT x).toNat+1=x.natAbs:=by
 cases x with
 |ofNat m=>exact absurd (NK m) h
 |negSucc m=>exact Nw (fun z:Int=>z.toNat+1) (Qe (m:Int) 1)
theorem Aa(j:Nat):(QT (j:Int)).natAbs=j+1:=by rw[show QT (j:Int)= -((j+1:Nat):Int)from(VS ..).symm,Ra];rfl
theorem rD{x y:Int}{k:Nat}(d:x.natAbs<2^k)(e:y.natAbs<2^k):(OH x y).natAbs<=2^k:=by
 have f:=M7 (Int.toNat_le.mpr (Vj (a:=x))) (NW d);have ty:=M7 (Int.toNat_le.mpr (Vj (a:=y))) (NW e);by_cases c:0<=x
 .by_cases b:0<=y
  .rw[bitAnd_pp c b];exact M7 S3 f
  .rw[bitAnd_pn c b];have:=wS (m:=x.toNat) (j:=x.toNat&&& (QT y).toNat) S3;rw[Ow c]at this;exact M7 this f
 .by_cases b:0<=y
  .rw[bitAnd_np c b];have:=wS (m:=y.toNat) (j:=y.toNat&&& (QT x).toNat) S3;rw[Ow b]at this;exact M7 this ty
  .rw[bitAnd_nn c b,Aa];exact Nat.or_lt_two_pow (M7 (NJ (wT c)) (NW d)) (M7 (NJ (wT b)) (NW e))
theorem iu(h:p<=q):(2:Nat)^p<=2^q:=QB (by decide) h
theorem wU(p q:Nat):(2:Nat)^(p+q)=2^p*2^q:=VN ..
theorem Gf(c:a<2^p)(d:b<2^q):a*b<2^(p+q):=by rw[wU];exact Nat.mul_lt_mul'' c d
noncomputable def Bd(M k:Nat)(x:Int):Prop:=x.natAbs<=k*M
theorem Bd.one{M:Nat}{x:Int}(h:x.natAbs<=M):Bd M 1 x:=M7 h (NJ (VO M).symm)
theorem Bd.add(h:Bd M i x)(h':Bd M j y):Bd M (i+j) (x+y):=M7 (PH x y) (M7 (Od h h') (NJ (Nat.add_mul i j M).symm))
theorem Bd.sub(h:Bd M i x)(h':Bd M j y):Bd M (i+j) (x-y):=Bd.add (y:= -y) h (M7 (NJ (Ra y)) h')
theorem Ab{s:List Nat}{a b c:Int}{p q:Nat}(g:a.natAbs<2^p)(j:b.natAbs<2^q)(h:pM s a b=some c):c.natAbs<2^(p+q+64):=by
 have i:(2:Nat)^p<=2^(p+q):=iu (Nn _ _);have n:(2:Nat)^q<=2^(p+q):=iu (Ny _ _);have o:(2:Nat)^(p+q+64)=2^(p+q)*2^64:=wU _ _;have d:∀{k:Nat}{x:Int},Nat.blt k 8=true->Bd (2^(p+q)) k x->x.natAbs<2^(p+q+64):=fun{k x} v w=>by rw[o,Sv];exact Nf w (S7 (Pe (No v) (by decide)) (QM _))
 have f:Bd (2^(p+q)) 1 (OH a b):= .one (rD (Nv g i) (Nv j n));have r:(gC a b).natAbs<=a.natAbs:=by rw[e6];exact Tj a b
 have l:Bd (2^(p+q)) 1 a:= .one (M7 (NW g) i);have t:Bd (2^(p+q)) 1 b:= .one (M7 (NW j) n);have u:=NW (Gf g j);unfold pM at h;by_cases e:s=[42]
 .have i0:=cf e h;injection i0 with z0;subst z0;exact d (k:=1) rfl (.one (by rw[Te];exact u))
 replace h:=bV e h;clear e;by_cases e:s=[47]
 .replace h:=cf e h;by_cases e:b=0
  .exact aj (cf e h)
  .have i0:=bV e h;injection i0 with z0;subst z0;exact d (k:=1) rfl (.one (M7 r (M7 (NW g) i)))
 replace h:=bV e h;clear e;by_cases e:s=[37]
 .replace h:=cf e h;by_cases e:b=0
  .exact aj (cf e h)
  .have i0:=bV e h;injection i0 with z0;subst z0
   exact d (k:=2) rfl (l.sub (.one (by rw[Te,Sv];exact M7 (Nat.mul_le_mul_right _ r) u)))
 replace h:=bV e h;clear e;by_cases e:s=[124]
 .have i0:=cf e h;injection i0 with z0;subst z0;exact Vw a b▸d (k:=3) rfl ((l.add t).sub f)
 replace h:=bV e h;clear e;by_cases e:s=[38]
 .have i0:=cf e h;injection i0 with z0;subst z0;exact d (k:=1) rfl f
 replace h:=bV e h;clear e;by_cases e:s=[94]
 .have i0:=cf e h;injection i0 with z0;subst z0
  rw[rC,VP];exact d (k:=4) rfl ((l.add t).sub (f.add f))
 replace h:=bV e h;clear e;by_cases e:b<0\/63<b
 .exact aj (cf e h)
 replace h:=bV e h;have m:b.toNat<=63:=Int.toNat_le.mpr (Int.not_lt.mp fun z=>e (.inr z));clear e;by_cases e:s=[60,60]
 .have i0:=cf e h;injection i0 with z0;subst z0
  rw[Te,show((2:Int)^b.toNat).natAbs=2^b.toNat by rw[U5];rfl,o];exact Nv (S7 g (QM _)) (U3 i (M7 (iu m) (by decide)))
 .have i0:=bV e h;injection i0 with z0;subst z0
  exact d (k:=1) rfl (.one (M7 (Tl a (2^b.toNat)) (M7 (NW g) i)))
noncomputable def nz(l:List (List Nat)):List (List Nat):=l.filter (·≠[])
noncomputable def cI(l:List (List Nat))(n:List Nat):Int:=(l.count n:Nat)
noncomputable def cL(A B:List (List Nat))(n:List Nat):Int:=cI A n-cI B n
noncomputable def cA(a:Af)(n:List Nat):Int:=cL (nz [a.p]) (nz [a.m]) n
noncomputable def xo(a:Af):Prop:=a.p=a.m->a.p=[]
structure Gg(r:List (List Nat)×List (List Nat)):Prop where
 dj:∀x∈r.1,x∉r.2
 na:[]∉r.1
 nb:[]∉r.2
theorem eo(x:List Nat)(l:List (List Nat))(n:List Nat):cI (x::l) n=cI l n+if x=n then 1 else 0:=by
 unfold cI;rw[List.count_cons];by_cases h:x=n
 .rw[Nd h,Nd (by simpa using h)];rfl
 .rw[Na h,Na (by simpa using h)];rfl
theorem l7(l k:List (List Nat))(n:List Nat):cI (l++k) n=cI l n+cI k n:=by unfold cI;rw[List.count_append];rfl
theorem dC(h:n∉l):cI l n=0:=by unfold cI;rw[List.count_eq_zero.mpr h];rfl
theorem e7(h:n∈l):0<cI l n:=Int.ofNat_lt.mpr (List.count_pos_iff.mpr h)
theorem Gh{l:List (List Nat)}{x:List Nat}(h:x∈l)(n:List Nat):cI (l.erase x) n=cI l n-if x=n then 1 else 0:=by have:=(List.perm_cons_erase h).count_eq n;have e:=eo x (l.erase x) n;unfold cI at e⊢;rw[this];lia
theorem wV(ms:List (List Nat)):∀(r:List (List Nat)×List (List Nat)),Gg r->Gg (ms.foldl dH r)/\∀n,cL (ms.foldl dH r).1 (ms.foldl dH r).2 n=cL r.1 r.2 n-cI (nz ms) n:=by
 induction ms with
 |nil=>
  exact fun r h=>⟨h,fun n=>by show cL r.1 r.2 n=cL r.1 r.2 n-0;exact(PY _).symm⟩
 |cons m ms b=>
  intro r h;have st:Gg (dH r m)/\∀n,cL (dH r m).1 (dH r m).2 n=cL r.1 r.2 n-cI (nz [m]) n:=by
   unfold dH;by_cases g0:m=[]
   .rw[Na (fun z=>z.1 g0),Na (fun z=>z g0)];refine⟨h,fun n=>?_⟩;rw[g0];show _=_-0;exact(PY _).symm
   .have e:nz [m]=[m]:=Of (by simpa using g0);rw[e];by_cases g1:m∈r.1
    .rw[Nd ⟨g0,g1⟩];refine⟨⟨fun x a=>h.dj x (TL a),fun z=>h.na (TL z),h.nb⟩,fun n=>?_⟩;show cI (r.1.erase m) n-cI r.2 n=cI r.1 n-cI r.2 n-cI [m] n;rw[Gh g1,eo,show cI [] n=0 from rfl];lia
    .rw[Na (fun z=>g1 z.2),Nd g0];refine⟨⟨fun x a z=>?_,h.na,fun z=>?_⟩,fun n=>?_⟩
     .rcases List.mem_append.mp z with z|z
      .exact h.dj x a z
      .cases z with
       |head=>exact g1 a
       |tail _ z=>cases z
     .rcases List.mem_append.mp z with z|z
      .exact h.nb z
      .cases z with
       |head=>exact g0 rfl
       |tail _ z=>cases z
     .show cI r.1 n-cI (r.2++[m]) n=cI r.1 n-cI r.2 n-cI [m] n;rw[l7];exact(T7 ..).symm
  obtain⟨c,d⟩:=b _ st.1;refine⟨c,fun n=>?_⟩;have e:cI (nz (m::ms)) n=cI (nz [m]) n+cI (nz ms) n:=by
   rw[←l7]
   congr 1
   exact Uf (l₁:=[m]) (l₂:=ms)
  rw[RF,d n,st.2 n,e];exact T7 ..
theorem Ac(ks:List (List Nat)):ks.Nodup->x∈ks->(ks.map fun k=>if x=k then(1:Int)else 0).sum=1:=by
 induction ks with
 |nil=>exact fun _ z=>absurd z Nx
 |cons k ks ih=>
  intro h b;rw[Pj]at h;rw[NU,PC];by_cases e:x=k
  .rw[Nd e];have:∀ks:List (List Nat),x∉ks->(ks.map fun k=>if x=k then(1:Int)else 0).sum=0:=fun ks=>by
    induction ks with
    |nil=>exact fun _=>rfl
    |cons y ks c=>intro a;rw[NU,PC,Na (fun z=>a (by rw[z];exact Ng ..)),c fun z=>a (Ni _ z)];rfl
   rw[this ks (e▸h.1)];rfl
  .rw[Na e,ih h.2 (by cases b with|head=>exact absurd rfl e|tail _ z=>exact z)];rfl
theorem Ad(f g:List Nat->Int)(ks:List (List Nat)):(ks.map fun k=>f k+g k).sum=(ks.map f).sum+(ks.map g).sum:=by
 induction ks with
 |nil=>exact rfl
 |cons k ks a=>rw[NU,PC,a,NU,PC,NU,PC];lia
theorem rE{ks:List (List Nat)}(b:ks.Nodup)(A:List (List Nat)):(∀x∈A,x∈ks)->(ks.map (cI A)).sum=(A.length:Int):=by
 induction A with
 |nil=>
  intro _;have:∀ks:List (List Nat),(ks.map (cI [])).sum=0:=fun ks=>by
   induction ks with
   |nil=>rfl
   |cons y ks a=>rw[NU,PC,a];rfl
  rw[this];rfl
 |cons x A a=>
  intro h;have e:ks.map (cI (x::A))=ks.map fun k=>cI A k+if x=k then 1 else 0:=OX fun k _=>eo x A k
  rw[e,Ad,a fun y c=>h y (Ni _ c),Ac ks b (h x (Ng ..)),Nz];rfl
theorem rF{a:cX}{f:List Nat->Int}(P:dT a f){A B:List (List Nat)}(b:∀n,f n=cL A B n)(d:∀x∈A,x∉B):n_ a=(A.length:Int):=by
 have sub:((a.filter fun p=>decide (0<p.2)).map (·.1)).Nodup:=(QY (fun p:List Nat×Int=>p.1) QQ).nodup P.nd;have e:(a.filter fun p=>decide (0<p.2)).map (·.2)=((a.filter fun p=>decide (0<p.2)).map (·.1)).map (cI A):=by
  rw[Ox];refine OX fun p c=>?_;obtain⟨c,h0⟩:=List.mem_filter.mp c;have h0:0<p.2:=N2 h0;have v:=P.val p c;have b:=b p.1;unfold cL at b;have h:p.1∈A:=by apply NS;intro z;have:=dC z;have:0<=cI B p.1:=NK _;lia
  have:=dC (d _ h);show p.2=cI A p.1;lia
 unfold n_;rw[e];refine rE sub A fun x g=>?_;have h0:=e7 g;have j:=dC (d x g);have b:=b x;unfold cL at b;refine i_ ((P.mem x).mpr (by lia)) fun p c i=>?_;subst i;exact List.mem_map.mpr ⟨p,List.mem_filter.mpr ⟨c,NN (by rw[P.val p c];lia)⟩,rfl⟩
theorem rG{a:cX}{f:List Nat->Int}(P:dT a f){A B:List (List Nat)}(b:∀n,f n=cL A B n)(d:∀x∈A,x∉B):oa a= -(B.length:Int):=by
 have sub:((a.filter fun p=>decide (p.2<0)).map (·.1)).Nodup:=(QY (fun p:List Nat×Int=>p.1) QQ).nodup P.nd;have e:(a.filter fun p=>decide (p.2<0)).map (·.2)=((a.filter fun p=>decide (p.2<0)).map (·.1)).map fun k=> -(cI B k):=by
  rw[Ox];refine OX fun p c=>?_;obtain⟨c,h0⟩:=List.mem_filter.mp c;have h0:p.2<0:=N2 h0;have v:=P.val p c;have b:=b p.1;unfold cL at b;have h:p.1∈B:=by apply NS;intro z;have:=dC z;have:0<=cI A p.1:=NK _;lia
  have:=dC (l:=A) (n:=p.1) (fun z=>d _ z h);show p.2= -(cI B p.1);lia
 have i:∀ks:List (List Nat),(ks.map fun k=> -(cI B k)).sum= -(ks.map (cI B)).sum:=fun ks=>by
  induction ks with
  |nil=>rfl
  |cons y ks j=>rw[NU,PC,NU,PC,j];exact(VS ..).symm
 unfold oa;rw[e,i]
 congr 1
 refine rE sub B fun x g=>?_;have h0:=e7 g;have o:=dC (l:=A) (n:=x) (fun z=>d x z g);have b:=b x;unfold cL at b;refine i_ ((P.mem x).mpr (by lia)) fun p c m=>?_;subst m;exact List.mem_map.mpr ⟨p,List.mem_filter.mpr ⟨c,NN (by rw[P.val p c];lia)⟩,rfl⟩
noncomputable def dU:Option Af->Option Wt->Prop
 |none,none=>True
 |some a,some x=>a.w=x.1/\xo a/\dT x.2 (cA a)
 |_,_=>False
theorem cO(h:x≠[]):nz [x]=[x]:=Of (by simpa using h)
theorem wW:∀n,cA (eu w p m) n=cL (nz [p]) (nz [m]) n:=by
 intro n;unfold eu;by_cases h:p=m
 .rw[Nd h,h];show cI (nz [[]]) n-cI (nz [[]]) n=cI (nz [m]) n-cI (nz [m]) n;lia
 .rw[Na h];rfl
theorem wX:xo (eu w p m):=by
 unfold eu xo;by_cases h:p=m
 .rw[Nd h];exact fun _=>rfl
 .rw[Na h];exact fun z=>absurd z h
theorem Ae:(eu w p m).w=w:=by unfold eu;split<;>rfl
theorem rH(a:Af):(gz a).w= -a.w:=Ae
theorem l8(a:Af)(n:List Nat):cA (gz a) n= -cA a n:=by unfold gz;rw[wW];show cI _ n-cI _ n= -(cI _ n-cI _ n);exact(Int.neg_sub ..).symm
theorem qe:x∈nz l↔x∈l/\x≠[]:=by unfold nz;rw[UJ];simp
theorem wY(l k:List (List Nat)):nz (l++k)=nz l++nz k:=Uf ..
theorem qf(a b:Af):∃r,eA a b=jM (a.w+b.w) r/\Gg r/\∀n,cL r.1 r.2 n=cA a n+cA b n:=by
 refine⟨_,rfl,?_⟩;have h0:Gg (nz [a.p,b.p],[]):=⟨fun x _ z=>(absurd z Nx),fun z=>(qe.mp z).2 rfl,fun z=>(absurd z Nx)⟩
 obtain⟨t,c⟩:=wV [a.m,b.m] _ h0;refine⟨t,fun n=>?_⟩;rw[show(Sa dH ([a.p,b.p].filter (·≠[]),[]) [a.m,b.m])=Sa dH (nz [a.p,b.p],[]) [a.m,b.m] from rfl,c n];have d:nz [a.p,b.p]=nz [a.p]++nz [b.p]:=wY [a.p] [b.p];have e:nz [a.m,b.m]=nz [a.m]++nz [b.m]:=wY [a.m] [b.m];show cI (nz [a.p,b.p]) n-cI [] n-cI (nz [a.m,b.m]) n=(cI _ n-cI _ n)+(cI _ n-cI _ n);rw[d,e,l7,l7,show cI [] n=0 from rfl];lia
theorem l9{A:List (List Nat)}(h:¬1<A.length)(a:[]∉A):A=nz [A.headD []]:=by
 match A,h,a with
 |[],_,_=>rfl
 |[x],_,a=>exact(cO fun e=>a (by rw[e];exact Ng ..)).symm
 |x::y::r,h,_=>exact absurd (Qx (Oh _)) h
theorem dT.cg{f g:List Nat->Int}(P:dT a f)(h:∀n,f n=g n):dT a g:=⟨P.nd,P.st,fun n=>by rw[P.mem n,h n],fun p b=>by rw[P.val p b,h]⟩
theorem kQ{a b:Af}{d:cX}{f:List Nat->Int}{w:Int}(P:dT d f)(i:∀n,f n=cA a n+cA b n)(j:a.w+b.w=w):dU (eA a b) (if 1<n_ d\/oa d< -1 then none else some (w,d)):=by
 apply bc;intro k;obtain⟨r,e,t,c⟩:=qf a b;apply k;have h:∀n,f n=cL r.1 r.2 n:=fun n=>by rw[i,c]
 rw[e,rF P h t.dj,rG P h t.dj];unfold jM;by_cases g:1<r.1.length\/1<r.2.length
 .rw[Nd g,Nd (by lia)];trivial
 .rw[Na g,Na (by lia)];have g1:¬1<r.1.length:=fun z=>g (.inl z);have g2:¬1<r.2.length:=fun z=>g (.inr z);refine⟨Ae.trans j,wX,P.cg fun n=>?_⟩;rw[wW,h,←l9 g1 t.na,←l9 g2 t.nb]
theorem jW{f:List Nat->Int}(P:dT a f)(n:List Nat):aG a n=f n:=by
 by_cases h:n∈a.map (·.1)
 .unfold aG q_;cases e:a.find? fun p=>decide (p.1=n)with
  |none=>refine i_ h fun p b c=>?_;exact absurd (NN c) (by have:=List.find?_eq_none.mp e p b;exact this)
  |some p=>
   have d:=Tb e;have g:p.1=n:=by have:=UK e;exact N2 this
   show p.2=f n;rw[P.val p d,g]
 .unfold aG;rw[gG h];have:=(P.mem n)
  show 0=f n;exact NS fun z=>h (this.mpr fun e=>z e.symm)
theorem e9{a:Af}(h:xo a):∀x∈nz [a.p],x∉nz [a.m]:=by
 intro x b c;obtain⟨b,h0⟩:=qe.mp b;obtain⟨c,_⟩:=qe.mp c;have d:x=a.p:=by cases b with|head=>rfl|tail _ z=>cases z
 have e:x=a.m:=by cases c with|head=>rfl|tail _ z=>cases z
 exact h0 (d.trans (h (d.symm.trans e)))
theorem wZ(x:List Nat):(nz [x]).length<=1:=TM _ _
theorem w0{a:Af}{b:cX}{w:Int}(P:dT b (cA a))(c:xo a)(d:a.w=w):dU (some a) (if 1<n_ b\/oa b< -1 then none else some (w,b)):=by have e:=wZ a.p;have f:=wZ a.m;rw[rF P (fun _=>rfl) (e9 c),rG P (fun _=>rfl) (e9 c),Na (by lia)];exact⟨d,c,P⟩
theorem cD(P:dT b (cA a))(f:xo a):aQ a=true↔b=[]:=by
 unfold aQ;rw[N1];refine⟨fun h=>?_,fun h=>?_⟩
 .have d:a.p=[]:=N9 h.1;have e:a.m=[]:=N9 h.2
  match b,P with
  |[],_=>rfl
  |p::r,P=>have:=(P.mem p.1).mp (Ng ..);exact absurd (by unfold cA;rw[d,e];rfl) this
 .subst h;have z:∀n,cA a n=0:=fun n=>NS fun g=>absurd ((P.mem n).mpr g) Nx;have d:a.p=[]:=NS fun g=>by
   have c:a.p∈nz [a.p]:=by rw[cO g];exact Ng ..
   have i:=dC (e9 f _ c);have j:=e7 c;have:=z a.p;unfold cA cL at this;lia
  have e:a.m=[]:=NS fun g=>by
   have c:a.m∈nz [a.m]:=by rw[cO g];exact Ng ..
   have i:=dC (l:=nz [a.p]) (n:=a.m) (fun k=>e9 f _ k c);have j:=e7 c;have:=z a.m;unfold cA cL at this;lia
  exact⟨by rw[d];rfl,by rw[e];rfl⟩
theorem l_(w:Int):dT [] (cA ⟨w,[],[]⟩):=⟨Q6,VC,fun n=>⟨fun h=>(absurd h Nx),fun h=>absurd (show cA ⟨w,[],[]⟩ n=0 from rfl) h⟩,fun p h=>(absurd h Nx)⟩
theorem w2(h:x≠[])(n:List Nat):cA ⟨w,x,[]⟩ n=if x=n then 1 else 0:=by show cI (nz [x]) n-cI [] n=_;rw[cO h,eo,show cI [] n=0 from rfl];lia
theorem hV(w:Int)(h:x≠[]):dT [(x,1)] (cA ⟨w,x,[]⟩):=by
 refine⟨Qb _ _,Qb _ _,fun n=>?_,fun p a=>?_⟩
 .rw[w2 h];refine⟨fun z=>?_,fun z=>?_⟩
  .cases z with
   |head=>rw[Nd rfl];decide
   |tail _ z=>cases z
  .by_cases e:x=n
   .rw[e];exact Ng ..
   .rw[Na e]at z;exact absurd rfl z
 .cases a with
  |head=>rw[w2 h,Nd rfl]
  |tail _ z=>cases z
theorem Gi(w:Int):dT [([97],1),([101],-1)] (cA ⟨w,[97],[101]⟩):=by
 have e:∀n,cA ⟨w,[97],[101]⟩ n=(if [97]=n then 1 else 0)-(if [101]=n then 1 else 0):=fun n=>by show cI (nz [[97]]) n-cI (nz [[101]]) n=_;rw[cO (by decide),cO (by decide),eo,eo,show cI [] n=0 from rfl];lia
 refine⟨by decide,by decide,fun n=>?_,fun p c=>?_⟩
 .rw[e];refine⟨fun z=>?_,fun z=>?_⟩
  .cases z with
   |head=>decide
   |tail _ z=>cases z with
    |head=>decide
    |tail _ z=>cases z
  .by_cases a:[97]=n
   .rw[←a];exact Ng ..
   .by_cases b:[101]=n
    .rw[←b];exact Ni _ (Ng ..)
    .rw[Na a,Na b]at z;exact absurd rfl z
 .cases c with
  |head=>rw[e];decide
  |tail _ z=>cases z with
   |head=>rw[e];decide
   |tail _ z=>cases z
noncomputable abbrev nN:List Nat:=[95,110,46,49,36]
noncomputable def E4(s0 s1 s2 s3:Int):xm:=[([99],⟨s1,[98],[]⟩),([98],⟨s0,[97],[]⟩),([100],⟨s2,[97],[101]⟩),(nN,⟨s3,[],[]⟩)]
noncomputable def Ag(s0 s1 s2 s3:Int):KV:=[([98],(s0,[([97],1)])),([99],(s0+s1,[([97],1)])),([100],(s2,[([97],1),([101],-1)])),(nN,(s3,[]))]
theorem f6(s0 s1 s2 s3:Int)(h:s∈bk):dU (fH (E4 s0 s1 s2 s3) 24 (eu 0 s [])) (some ((DY (Ag s0 s1 s2 s3) s).getD (0,[(s,1)]))):=by
 have:∀s∈bk,s=[97]\/s=[98]\/s=[99]\/s=[100]\/s=[101]\/s=nN:=by decide
 rcases this s h with rfl|rfl|rfl|rfl|rfl|rfl
 .exact⟨rfl,fun z=>aK (beq_iff_eq.mpr z),hV 0 (by decide)⟩
 .exact⟨Q5 s0,fun z=>aK (beq_iff_eq.mpr z),hV _ (by decide)⟩
 .exact⟨by show 0+s1+s0=s0+s1;omega,fun z=>aK (beq_iff_eq.mpr z),hV _ (by decide)⟩
 .exact⟨Q5 s2,fun z=>aK (beq_iff_eq.mpr z),Gi _⟩
 .exact⟨rfl,fun z=>aK (beq_iff_eq.mpr z),hV 0 (by decide)⟩
 .exact⟨Q5 s3,fun _=>rfl,l_ _⟩
theorem Ah(n:List Nat):aG [] n=0:=rfl
section
variable{s0 s1 s2 s3:Int}{here:List Nat}
theorem w3(h:dU (some a) (some x))(b:Lu s (some x) r):dU (ew s a) r:=by
 apply bc;intro c;obtain⟨d,f,P⟩:=h;apply c;have b:(if s=[45] then zQ (0,[]) x (-1) r else if x.2≠[] then r=none else r=some (if s=[126] then -x.1-1 else if x.1=0 then 1 else 0,[])):=b;unfold ew;by_cases g:s=[45]
 .rw[Nd g]at b;apply bc;intro c;obtain⟨i,j,e⟩:=b;apply c;rw[Nd g,e];refine w0 (j.cg fun n=>?_) wX ?_
  .show aG [] n+ -1*aG x.2 n=_;rw[Ah,jW P,l8];omega
  .rw[rH,d];show -x.1=0+ -1*x.1;omega
 .rw[Na g]at b;rw[Na g];by_cases g2:x.2=[]
  .rw[Na (fun z=>z g2)]at b;rw[Nd ((cD P f).mpr g2),b,d];refine⟨?_,fun _=>rfl,l_ _⟩;show(if s=[126] then -1-x.1 else if x.1=0 then 1 else 0)=(if s=[126] then -x.1-1 else if x.1=0 then 1 else 0)
   by_cases g3:s=[126]
   .rw[Nd g3,Nd g3];omega
   .rw[Na g3,Na g3]
  .rw[Nd g2]at b;rw[Na (fun z=>g2 ((cD P f).mp z)),b];trivial
theorem tM(hs:1<=ae s)(h:dU (some a) (some x))(h':dU (some b) (some y))(c:C' s (some x) (some y) r):dU (cP s a b) r:=by
 apply bc;intro d;obtain⟨m,q,P⟩:=h;obtain⟨f,j,l⟩:=h';apply d;have c:(if s=[43]\/s=[45] then zQ x y (if s=[43] then 1 else -1) r else if x.2≠[]\/y.2≠[] then r=none else r=(pR s x.1 y.1).map fun i=>(i,[])):=c;unfold cP;by_cases g:s=[43]
 .rw[Nd (.inl g),Nd g]at c;apply bc;intro d;obtain⟨o,p,e⟩:=c;apply d;rw[Nd g,e];refine kQ p (fun n=>?_) ?_
  .rw[jW P,jW l];omega
  .rw[m,f];show x.1+y.1=x.1+1*y.1;omega
 .rw[Na g];by_cases g1:s=[45]
  .rw[Nd (.inr g1),Na g]at c;apply bc;intro d;obtain⟨o,p,e⟩:=c;apply d;rw[Nd g1,e];refine kQ p (fun n=>?_) ?_
   .rw[jW P,jW l,l8];omega
   .rw[rH,m,f];show x.1+ -y.1=x.1+ -1*y.1;omega
  .rw[Na (fun z=>z.elim g g1)]at c;rw[Na g1];by_cases g2:x.2≠[]\/y.2≠[]
   .rw[Nd g2]at c;rw[Na (fun z=>by
     apply bc;intro d;obtain⟨t,u⟩:=Bool.and_eq_true_iff.mp z;apply d;exact g2.elim (fun k=>k ((cD P q).mp t)) fun k=>k ((cD l j).mp u)),c];trivial
   .rw[Na g2]at c;have v:x.2=[]:=NS fun z=>g2 (.inl z);have w:y.2=[]:=NS fun z=>g2 (.inr z);rw[Nd (by rw[(cD P q).mpr v,(cD l j).mpr w];rfl),c,wR hs g g1,m,f];cases pR s x.1 y.1 with
    |none=>trivial
    |some i=>exact⟨rfl,fun _=>rfl,l_ _⟩
theorem w4{T:Tr}:∀{r:Option Wt},bZ T->WR (Ag s0 s1 s2 s3) here T r->dU (bG (E4 s0 s1 s2 s3) here T) r:=by
 induction T with
 |num n=>intro r _ h;subst h;exact⟨rfl,fun _=>rfl,l_ n⟩
 |name s=>intro r e h;subst h;exact f6 s0 s1 s2 s3 e
 |here=>
  intro r _ h;show dU (if here=[] then none else some (eu 0 here [])) r;rw[show r=if here=[] then none else some (0,[(here,1)])from h];by_cases g:here=[]
  .rw[Nd g,Nd g];trivial
  .rw[Na g,Na g,show eu 0 here []=⟨0,here,[]⟩ from Na g];exact⟨rfl,fun z=>absurd z g,hV 0 g⟩
 |un s b c=>
  intro r e h;obtain⟨o,i,f⟩:=h;have c:=c e.2 i;show dU ((bG (E4 s0 s1 s2 s3) here b).bind (ew s)) r;generalize bG (E4 s0 s1 s2 s3) here b=q at c;cases q with
  |none=>cases o with
   |none=>obtain rfl:=(show r=none from f);trivial
   |some x=>exact c.elim
  |some a=>cases o with
   |none=>exact c.elim
   |some x=>exact w3 c f
 |bin s l r' c d=>
  intro r e h;obtain⟨o,o',i,j,f⟩:=h;have c:=c e.2.1 i;have d:=d e.2.2 j;show dU ((bG (E4 s0 s1 s2 s3) here l).bind fun a=>(bG (E4 s0 s1 s2 s3) here r').bind (cP s a)) r;generalize bG (E4 s0 s1 s2 s3) here l=q at c;generalize bG (E4 s0 s1 s2 s3) here r'=k at d;cases q with
  |none=>cases o with
   |none=>obtain rfl:=(show r=none by cases o'<;>exact f);trivial
   |some x=>exact c.elim
  |some a=>cases o with
   |none=>exact c.elim
   |some x=>cases k with
    |none=>cases o' with
     |none=>obtain rfl:=(show r=none from f);trivial
     |some x=>exact d.elim
    |some a=>cases o' with
     |none=>exact d.elim
     |some x=>exact tM e.1 c d f
theorem Do{x:Int}(h:x.natAbs<2^60):x.natAbs<2^66:=Nv h (iu (by decide))
theorem Dq(b0:s0.natAbs<2^60)(b1:s1.natAbs<2^60)(b2:s2.natAbs<2^60)(b3:s3.natAbs<2^60)(h:s∈bk):((DY (Ag s0 s1 s2 s3) s).getD (0,[(s,1)])).1.natAbs<2^66:=by
 have:∀s∈bk,s=[97]\/s=[98]\/s=[99]\/s=[100]\/s=[101]\/s=nN:=by decide
 rcases this s h with rfl|rfl|rfl|rfl|rfl|rfl
 .exact QM 66
 .exact Do b0
 .exact Nf (PH s0 s1) (Nv (U4 b0 b1) (by decide))
 .exact Do b2
 .exact QM 66
 .exact Do b3
theorem Dr{s:List Nat}{c a:Af}{M:Nat}(b:c.w.natAbs<M)(h:ew s c=some a):a.w.natAbs<=M:=by
 have i:=Nf (NP _) b;unfold ew at h;by_cases e:s=[45]
 .have i0:=cf e h;injection i0 with z0;subst z0;rw[rH,Ra];exact NW b
 replace h:=bV e h;by_cases d:aQ c=true
 .have i0:=cf d h;injection i0 with z0;subst z0
  show(if s=[126] then -1-c.w else if c.w=0 then 1 else 0:Int).natAbs<=M;by_cases f:s=[126]
  .rw[Nd f];exact M7 (PH (-1) (-c.w)) (show 1+(-c.w).natAbs<=M by rw[Ra,Ol];exact b)
  .rw[Na f];by_cases g:c.w=0
   .rw[Nd g];exact i
   .rw[Na g];exact NP _
 .exact aj (bV d h)
theorem AX{x y z:Af}(a:eA x y=some z):z.w=x.w+y.w:=by
 obtain⟨q,e,_⟩:=qf x y;rw[e]at a;unfold jM at a;split at a
 .exact aj a
 .rw[←Nh a];exact Ae
theorem Ai{s:List Nat}{c d a:Af}{p q:Nat}(g:c.w.natAbs<2^p)(b:d.w.natAbs<2^q)(h:cP s c d=some a):a.w.natAbs<2^(p+q+64):=by
 have f:∀{z:Int},z.natAbs<=c.w.natAbs+d.w.natAbs->z.natAbs<2^(p+q+64):=fun{z} i=>by have j:c.w.natAbs<2^(p+q):=Nv g (QB (by decide) (Nn p q));have k:d.w.natAbs<2^(p+q):=Nv b (QB (by decide) (Ny q p));refine Nv (Nf i (U4 j k)) ?_;rw[←Nat.mul_two];exact M7 (NJ (TI (n:=2) (m:=p+q)).symm) (QB (by decide) (NM (show 1<=64 by decide) (p+q)))
 unfold cP at h;by_cases e:s=[43]
 .rw[AX (cf e h)];exact f (PH _ _)
 replace h:=bV e h;by_cases e:s=[45]
 .rw[AX (cf e h),rH];exact f (M7 (PH _ _) (NJ (by rw[Ra])))
 replace h:=bV e h;by_cases e:(aQ c&&aQ d)=true
 .refine cq (cf e h) fun x l o=>?_;rw[←o];exact Ab g b l
 .exact aj (bV e h)
theorem Ds(b0:s0.natAbs<2^60)(b1:s1.natAbs<2^60)(b2:s2.natAbs<2^60)(b3:s3.natAbs<2^60){T:Tr}:∀{a:Af},bZ T->bG (E4 s0 s1 s2 s3) here T=some a->a.w.natAbs<2^(66*sz T):=by
 induction T with
 |num n=>intro a f h;rw[←Nh h];exact Int.ofNat_lt.mp (show((n.natAbs:Nat):Int)<((2^66:Nat):Int)by rw[QD f.1];exact TQ f.2 (by decide))
 |name s=>intro a f h;have g:=f6 s0 s1 s2 s3 f;rw[show fH (E4 s0 s1 s2 s3) 24 (eu 0 s [])=some a from h]at g;rw[g.1];exact Dq b0 b1 b2 b3 f
 |here=>
  intro a _ h;by_cases e:here=[]
  .exact aj (cf e h)
  .rw[←Nh (bV e h),Ae];exact QM 66
 |un s b i=>intro a f h;apply bc;intro j;refine bF h fun c e h=>?_;apply j;refine Nf (Dr (i f.2 e) h) ?_;exact T0 (by decide) (Qh (by decide))
 |bin s l r i k=>intro a f h;apply bc;intro j;refine bF h fun c e h=>?_;refine bF h fun d m h=>?_;apply j;refine Nv (Ai (i f.2.1 e) (k f.2.2 m) h) (iu ?_);show _<=66*(sz l+sz r+1);rw[Rj,Rj];exact NM (by decide) _
end
theorem gO{x:Int}{k:Nat}(h:x.natAbs<2^(66*k))(a:k<=60):small x:=aF h (M7 (Op 66 a) (by decide))
section
variable{s0 s1 s2 s3:Int}{here:List Nat}
structure B4(s0 s1 s2 s3:Int):Prop where
 b0:s0.natAbs<2^60
 b1:s1.natAbs<2^60
 b2:s2.natAbs<2^60
 b3:s3.natAbs<2^60
theorem mf(B:B4 s0 s1 s2 s3){T:Tr}{a:Af}(h:bZ T)(e:bG (E4 s0 s1 s2 s3) here T=some a):a.w.natAbs<2^(66*sz T):=Ds B.b0 B.b1 B.b2 B.b3 h e
theorem Gj(h:b+1<=60):b<=60:=Nr h
theorem D3(h:a+b+1<=60):a<=60:=M7 (Nn a b) (Nr h)
theorem G1(h:a+b+1<=60):b<=60:=M7 (Ny b a) (Nr h)
theorem Gk(B:B4 s0 s1 s2 s3){T:Tr}:bZ T->sz T<=60->nQ (bG (E4 s0 s1 s2 s3) here) T:=by
 induction T with
 |un s b g=>exact fun h c=>⟨g h.2 (Gj c),(show ∀s∈gP,s.length<=2 by decide) s h.1⟩
 |bin s l r d e=>
  refine fun h c=>⟨d h.2.1 (D3 c),e h.2.2 (G1 c),(show ∀s∈eD,s.length<=2 by decide) s (hU h.1),fun a b i j=>?_⟩
  have f:=mf B h.2.1 i;refine⟨gO f (D3 c),gO (mf B h.2.2 j) (G1 c),gO (k:=sz l) ?_ (D3 c)⟩;rw[e6];exact Nf (Tj _ _) f
 |_=>exact fun _ _=>trivial
theorem mh(x n:List Nat):cI (nz [x]) n=0\/(cI (nz [x]) n=1/\n=x):=by
 by_cases h:x=[]
 .subst h;exact .inl rfl
 .rw[cO h,eo,show cI [] n=0 from rfl];by_cases e:x=n
  .rw[Nd e];exact .inr ⟨rfl,e.symm⟩
  .rw[Na e];exact .inl rfl
theorem Gl{c:Type}{p m:c}(L:List c)(nd:L.Nodup)(d:∀x∈L,x=p\/x=m):L.length<=30:=by
 have f:∀{a b:c}{L:List c},(∀x∈L,x=a\/x=b)->a∉L->∀x∈L,x=b:=fun h g x l=>(h x l).resolve_left fun e=>g (e▸l);have i:∀{a:c}{L:List c},L.Nodup->(∀x∈L,x=a)->L.length<=1:=fun{a L} nd h=>by
  cases L with
  |nil=>exact NP _
  |cons x r=>cases r with
   |nil=>exact Nj _
   |cons y r=>exact absurd (by rw[h x (Ng ..),h y (Ni _ (Ng ..))];exact Ng ..) (List.nodup_cons.mp nd).1
 cases L with
 |nil=>exact NP _
 |cons x r=>
  have n:=List.nodup_cons.mp nd;have k:∀y∈r,y=p\/y=m:=fun y j=>d y (Ni _ j);refine M7 (NE ?_) (show 1+1<=30 by decide);rcases d x (Ng ..)with e|e
  .exact i n.2 (f k (e▸n.1))
  .exact i n.2 (f (fun y j=>(k y j).symm) (e▸n.1))
theorem AY{a:Af}{b:cX}(P:dT b (cA a)):PS b:=by
 refine⟨P.nd,?_,fun q c=>?_⟩
 .rw[←Nb (f:=(·.1))];refine Gl (p:=a.p) (m:=a.m) _ P.nd fun x d=>?_;have:=(P.mem x).mp d;unfold cA cL at this;rcases mh a.p x with h|⟨_,h⟩
  .rcases mh a.m x with h'|⟨_,h'⟩
   .rw[h,h']at this;exact absurd rfl this
   .exact .inr h'
  .exact .inl h
 .have v:=P.val q c;unfold cA cL at v;refine aF (n:=2) ?_ (by decide);rcases mh a.p q.1 with h|⟨h,_⟩<;>rcases mh a.m q.1 with h'|⟨h',_⟩<;>(rw[v,h,h'];decide)
theorem jX(B:B4 s0 s1 s2 s3){T:Tr}{w:Int}{p:cX}(h:bZ T)(c:WR (Ag s0 s1 s2 s3) here T (some (w,p))):w.natAbs<2^(66*sz T)/\PS p:=by
 have A:=w4 h c;cases e:bG (E4 s0 s1 s2 s3) here T with
 |none=>rw[e]at A;exact A.elim
 |some a=>rw[e]at A;obtain⟨b,_,P⟩:=A;have b:a.w=w:=b;rw[←b];exact⟨mf B h e,AY P⟩
theorem w5(B:B4 s0 s1 s2 s3){T:Tr}(h:bZ T)(c:sz T<=60):Lw (Ag s0 s1 s2 s3) here T:=by
 refine⟨fun w p d=>⟨gO (jX B h d).1 c,(jX B h d).2⟩,fun s l r e x y f g=>?_⟩;subst e;have c:sz l+sz r+1<=60:=c;have a:=(jX B (w:=x.1) (p:=x.2) h.2.1 f).1;have b:=(jX B (w:=y.1) (p:=y.2) h.2.2 g).1;have q:=Nf (Tl x.1 y.1) a;clear f g h;have up:∀{k:Nat},(2:Nat)^(66*k)<2^(66*(k+1)):=fun{k}=>T0 (by decide) (Qh (by decide));exact⟨gO a (D3 c),gO b (G1 c),gO q (D3 c),gO (k:=sz l+1) (Nf (PH _ 1) (Nf q up)) (M7 (NE (Nn _ _)) c),
  gO (k:=sz l+sz r+1) (Nf (rD (Nv a (iu (Op 66 (Nn _ _)))) (Nv b (iu (Op 66 (Ny _ _))))) up) c⟩
theorem Gm(B:B4 s0 s1 s2 s3){T:Tr}:bZ T->sz T<=60->pT (Lw (Ag s0 s1 s2 s3) here) T:=by
 induction T with
 |un s b e=>exact fun h a=>⟨w5 B h a,e h.2 (Gj a)⟩
 |bin s l r c d=>exact fun h a=>⟨w5 B h a,c h.2.1 (D3 a),d h.2.2 (G1 a)⟩
 |_=>exact fun h a=>w5 B h a
end
theorem ou(nd:L.Nodup)(h:∀x,x∈L↔x∈nz [y]):L=nz [y]:=by
 have a:∀{L:List (List Nat)},(∀x,x∉L)->L=[]:=fun{L} h=>by cases L with|nil=>rfl|cons x r=>exact absurd (Ng ..) (h x)
 by_cases g:y=[]
 .rw[show nz [y]=[] by rw[g];rfl]at h⊢;exact a fun x c=>absurd ((h x).mp c) Nx
 .rw[cO g]at h⊢;cases L with
  |nil=>exact absurd ((h y).mpr (Ng ..)) Nx
  |cons x r=>have e:=List.mem_singleton.mp ((h x).mp (Ng ..));rw[e]at h nd⊢;rw[a (L:=r) fun z b=>(List.nodup_cons.mp nd).1 (by rw[←List.mem_singleton.mp ((h z).mp (Ni _ b))];exact b)]
theorem Aj{a:Af}{c:cX}(P:dT c (cA a))(e:xo a):(c.filter fun p=>decide (0<p.2)).map (·.1)=nz [a.p]:=by
 refine ou ((QY (fun p:List Nat×Int=>p.1) QQ).nodup P.nd) fun x=>⟨fun h=>?_,fun h=>?_⟩
 .refine i_ h fun p b d=>?_;subst d;obtain⟨b,h0⟩:=List.mem_filter.mp b;have h0:0<p.2:=N2 h0;rw[P.val p b]at h0;unfold cA cL at h0;apply NS;intro z;have:=dC z;have:0<=cI (nz [a.m]) p.1:=NK _;omega
 .have f:=e7 h;have g:=dC (e9 e _ h);have i:0<cA a x:=by unfold cA cL;exact g.symm▸f
  refine i_ ((P.mem x).mpr (by omega)) fun p b d=>?_;subst d;exact List.mem_map.mpr ⟨p,List.mem_filter.mpr ⟨b,NN (by rw[P.val p b];exact i)⟩,rfl⟩
theorem w6{a:Af}{c:cX}(P:dT c (cA a))(e:xo a):(c.filter fun p=>decide (p.2<0)).map (·.1)=nz [a.m]:=by
 refine ou ((QY (fun p:List Nat×Int=>p.1) QQ).nodup P.nd) fun x=>⟨fun h=>?_,fun h=>?_⟩
 .refine i_ h fun p b d=>?_;subst d;obtain⟨b,h0⟩:=List.mem_filter.mp b;have h0:p.2<0:=N2 h0;rw[P.val p b]at h0;unfold cA cL at h0;apply NS;intro z;have:=dC z;have:0<=cI (nz [a.p]) p.1:=NK _;omega
 .have g:=e7 h;have i:=dC (l:=nz [a.p]) (n:=x) (fun z=>e9 e _ z h);have f:cA a x<0:=by unfold cA cL;omega
  refine i_ ((P.mem x).mpr (by omega)) fun p b d=>?_;subst d;exact List.mem_map.mpr ⟨p,List.mem_filter.mpr ⟨b,NN (by rw[P.val p b];exact f)⟩,rfl⟩
theorem ov{k:Tk}{w x:List Nat}{g:Nat}{P:Option (List Tk)->Prop}(a:∃c y,w=c::y/\ws c=false/\([c]==[35])=false/\LX (w++x) (.tok k w.length))(h:ci x fun o=>P (o.map (k::·))):ci (NF g 32++(w++x)) P:=by
 apply bc;intro b;obtain⟨c,y,rfl,d,f,L⟩:=a;have e:NF g 32++((c::y)++x)=NF g 32++(c::(y++x)):=rfl;obtain⟨g1,g2⟩:=wC (y:=y++x) d f g;apply b;rw[e];have d1:(NF g 32++(c::(y++x))).drop g=c::(y++x):=by
  have:=PN (l₁:=NF g 32) (l₂:=c::(y++x))
  rwa [Pg]at this
 refine .tok (k:=k) (n:=(c::y).length) g2 (by rw[g1,d1];exact L) (Oh _) ?_;rw[g1,←OU,d1];have d2:(c::(y++x)).drop (c::y).length=x:=PN (l₁:=c::y) (l₂:=x);rw[d2];exact h
noncomputable def e_(s:List Nat):Prop:=s≠[46]/\∃c w,s=c::w/\dG c=true/\ws c=false/\([c]==[35])=false/\∀y∈c::w,am y=true
theorem Dt{P:Option (List Tk)->Prop}(hs:e_ s)(a:ri am x=false)(h:ci x fun o=>P (o.map (Tk.name s::·))):ci (NF g 32++(s++x)) P:=by apply bc;intro b;obtain⟨_,c,w,rfl,d,e,f,i⟩:=hs;apply b;exact ov ⟨c,w,rfl,e,f,jS d i a⟩ h
theorem Ak{P:Option (List Tk)->Prop}(a:bN t)(b:nU t w)(c:bA t=true->ri am x=false)(d:cK t=true->ri cM x=false)(h:ci x fun o=>P (o.map (aZ t::·))):ci (NF g 32++(w++x)) P:=
 ov (oj a b c d) h
noncomputable def tV(m:List Nat):List Nat:=if m=[] then [] else [32,45,32]++m
noncomputable def w7(m:List Nat):List Tk:=if m=[] then [] else [.sign [45],.name m]
noncomputable def Al(a:Af):List Tk:=if a.p=[] then(if a.w<0 then [.sign [45],.num (-a.w)] else [.num a.w])else if 0<a.w then [.name a.p,.sign [43],.num a.w] else if a.w<0 then [.name a.p,.sign [45],.num (-a.w)] else [.name a.p]
noncomputable def w8(a:Af):Tr:=if a.p=[] then(if a.w<0 then .un [45] (.num (-a.w))else .num a.w)else if 0<a.w then .bin [43] (.name a.p) (.num a.w)else if a.w<0 then .bin [45] (.name a.p) (.num (-a.w))else .name a.p
noncomputable def Du(a:Af):Tr:=if a.m=[] then w8 a else .bin [45] (w8 a) (.name a.m)
theorem w9(a:m=[]\/e_ m){P:Option (List Tk)->Prop}(p:P (some (w7 m))):ci (tV m) P/\ri am (tV m)=false:=by
 unfold tV w7 at *;by_cases h:m=[]
 .rw[Nd h]at p⊢;exact⟨.done rfl p,rfl⟩
 .rw[Na h]at p⊢;refine⟨?_,(by decide:am 32=false)⟩;have z:=Ak (t:= .sg [45]) (w:=[45]) (g:=1) (P:=P) (.inl (by decide)) rfl (fun e=>aK e) (fun e=>aK e) (Dt (g:=1) (x:=[]) (P:=fun o=>P (o.map (aZ (.sg [45])::·))) (a.resolve_left h) rfl (.done rfl p));have e:NF 1 32++([45]++(NF 1 32++(m++[])))=[32,45,32]++m:=by simp
  rw[e]at z;exact z
theorem Gn(a:Af):qV a=(if a.p=[] then aE a.w else if 0<a.w then a.p++[32,43,32]++aE a.w else if a.w<0 then a.p++[32,45,32]++aE (-a.w)else a.p)++tV a.m:=by
 unfold qV tV;by_cases h:a.m=[]
 .rw[Nd h,Nd h,NB]
 .rw[Na h,Na h,Nk]
theorem mj{P:Option (List Tk)->Prop}(h0:0<=i)(a:i<2^64)(b:ri am x=false)(h:ci x fun o=>P (o.map (Tk.num i::·))):ci (NF g 32++(aE i++x)) P:=by
 have e:((i.toNat:Nat):Int)=i:=Ow h0;have z:=Ak (t:= .num i.toNat) (w:=aE i) (g:=g) (P:=P) (show i.toNat<2^64 by lia) (om ⟨h0,a⟩) (fun _=>b) (fun e=>aK e) (by
  show ci x fun o=>P (o.map (Tk.num ((i.toNat:Nat):Int)::·));rw[e];exact h)
 exact z
theorem Gp{a:Af}(j:a.p=[]\/e_ a.p)(q:a.m=[]\/e_ a.m)(r: -(2^64)<a.w)(u:a.w<2^64){P:Option (List Tk)->Prop}(p:P (some (Al a++w7 a.m))):ci (qV a) P:=by
 rw[Gn];unfold Al at p;have b:∀ks:List Tk,P (some (ks++w7 a.m))->ci (tV a.m) (fun o=>P (o.map (ks++·))):=fun ks h=>(w9 q (P:=fun o=>P (o.map (ks++·))) h).1;have l:=(w9 q (P:=fun _=>True) trivial).2;by_cases g:a.p=[]
 .rw[Nd g]at p⊢;by_cases g2:a.w<0
  .rw[Nd g2]at p;have e:aE a.w=45::aE (-a.w):=by
    have v:a.w= -(((-a.w-1).toNat:Int)+1):=by lia
    have y: -a.w=((-a.w-1).toNat:Int)+1:=by lia
    rw[y]
    conv=>lhs;rw[v]
    exact rq _
   rw[e];have z:=Ak (t:= .sg [45]) (w:=[45]) (g:=0) (P:=P) (.inl (by decide)) rfl (fun e=>aK e) (fun e=>aK e) (mj (g:=0) (P:=fun o=>P (o.map (aZ (.sg [45])::·))) (i:= -a.w) (P8 (PZ g2)) (OQ r) l (b [.num (-a.w)] |> fun f=>by
    have k:=b [.sign [45],.num (-a.w)] p;refine k.mono fun o h _=>?_;cases o<;>exact h))
   exact z
  .rw[Na g2]at p;have z:=mj (g:=0) (P:=P) (i:=a.w) (Int.not_lt.mp g2) u l (by
    have k:=b [.num a.w] p;refine k.mono fun o h _=>?_;cases o<;>exact h)
   exact z
 .rw[Na g]at p⊢;have j:=j.resolve_left g;have num:∀(c:Nat)(i:Int),c∈[43,45]->0<=i->i<2^64->P (some ([.name a.p,.sign [c],.num i]++w7 a.m))->ci ((a.p++[32,c,32]++aE i)++tV a.m) P:=fun c i n A C h=>by
   have d:bN (.sg [c])/\cK (.sg [c])=false:=by
    cases n with
    |head=>exact⟨.inl (by decide),rfl⟩
    |tail _ n=>cases n with
     |head=>exact⟨.inl (by decide),rfl⟩
     |tail _ z=>cases z
   have z:=Dt (g:=0) (P:=P) (s:=a.p) (x:=NF 1 32++([c]++(NF 1 32++(aE i++tV a.m)))) j (by show am 32=false;decide)
    (Ak (t:= .sg [c]) (w:=[c]) (g:=1) d.1 rfl (fun e=>aK e) (fun e=>by rw[d.2]at e;exact aK e) (mj (g:=1) A C l (by
     have k:=b [.name a.p,.sign [c],.num i] h;refine k.mono fun o h _=>?_;cases o<;>exact h)))
   have e:(a.p++[32,c,32]++aE i)++tV a.m=NF 0 32++(a.p++(NF 1 32++([c]++(NF 1 32++(aE i++tV a.m))))):=by simp
   rw[e];exact z
  by_cases g1:0<a.w
  .rw[Nd g1]at p⊢;exact num 43 a.w (by decide) (PZ g1) u p
  .rw[Na g1]at p⊢;by_cases g2:a.w<0
   .rw[Nd g2]at p⊢;exact num 45 (-a.w) (by decide) (P8 (PZ g2)) (OQ r) p
   .rw[Na g2]at p⊢;have z:=Dt (g:=0) (P:=P) (s:=a.p) j l (by
     have k:=b [.name a.p] p;refine k.mono fun o h _=>?_;cases o<;>exact h)
    exact z
theorem i6(h:s≠[46])(n:Nat):Lv n 0 [.name s] (.name s):=by have z:Lv n 0 [.name s] (if s=[46] then .here else .name s):= .name (NP _);rw[Na h]at z;exact z
theorem Gq{a:Af}(c:a.p=[]\/e_ a.p):Lv 1 0 (Al a) (w8 a):=by
 unfold Al w8;by_cases g:a.p=[]
 .rw[Nd g,Nd g];by_cases g2:a.w<0
  .rw[Nd g2,Nd g2];exact .un (NP _) (.inl rfl) (.num (by decide))
  .rw[Na g2,Na g2];exact .num (NP _)
 .have b:=(c.resolve_left g).1;rw[Na g,Na g];by_cases g1:0<a.w
  .rw[Nd g1,Nd g1];exact .bin (l:=[.name a.p]) (s:=[43]) (by decide) (by decide) (i6 b _) (.num (NP _))
  .rw[Na g1,Na g1];by_cases g2:a.w<0
   .rw[Nd g2,Nd g2];exact .bin (l:=[.name a.p]) (s:=[45]) (by decide) (by decide) (i6 b _) (.num (NP _))
   .rw[Na g2,Na g2];exact i6 b _
theorem LD{a:Af}(b:a.p=[]\/e_ a.p)(c:a.m=[]\/e_ a.m):Lv 1 0 (Al a++w7 a.m) (Du a):=by
 unfold w7 Du;by_cases g:a.m=[]
 .rw[Nd g,Nd g,NB];exact Gq b
 .rw[Na g,Na g];exact .bin (s:=[45]) (by decide) (by decide) (Gq b) (i6 (c.resolve_left g).1 _)
theorem dW(h:s≠[]):bG [] [] (.name s)=some ⟨0,s,[]⟩:=by have e:eu 0 s []=⟨0,s,[]⟩:=Na h;show fH [] 0 (eu 0 s [])=_;rw[e];rfl
theorem w_(a:p≠[]):eA ⟨x,p,[]⟩ ⟨y,[],[]⟩=some ⟨x+y,p,[]⟩:=by have e:([p,[]]:List (List Nat)).filter (·≠[])=[p]:=(Of (by simpa using a)).trans rfl;show jM (x+y) (Sa dH (([p,[]]:List (List Nat)).filter (·≠[]),[]) [[],[]])=_;rw[e];have b:eu (x+y) p []=⟨x+y,p,[]⟩:=Na a;show some (eu (x+y) p [])=_;rw[b]
theorem Gs(b:m≠[])(a:p≠m):eA ⟨x,p,[]⟩ ⟨y,[],m⟩=some ⟨x+y,p,m⟩:=by
 have c:eu (x+y) p m=⟨x+y,p,m⟩:=Na a;by_cases d:p=[]
 .subst d;have s2:dH ([],[]) m=([],[m]):=by unfold dH;rw[Na (fun z=>absurd z.2 Nx),Nd b];rfl
  show jM (x+y) (dH ([],[]) m)=_;rw[s2];show some (eu (x+y) [] m)=_;rw[c]
 .have e:([p,[]]:List (List Nat)).filter (·≠[])=[p]:=(Of (by simpa using d)).trans rfl;have s2:dH ([p],[]) m=([p],[m]):=by unfold dH;rw[Na (fun z=>by cases z.2 with|head=>exact a rfl|tail _ z=>cases z),Nd b];rfl
  show jM (x+y) (Sa dH (([p,[]]:List (List Nat)).filter (·≠[]),[]) [[],m])=_;rw[e];show jM (x+y) (dH ([p],[]) m)=_;rw[s2];show some (eu (x+y) p m)=_;rw[c]
theorem rI(x:Int):gz ⟨x,[],[]⟩=⟨-x,[],[]⟩:=rfl
theorem Dv(a:m≠[]):gz ⟨x,m,[]⟩=⟨-x,[],m⟩:=Na (fun e=>a e.symm)
theorem Gu(a: -(2^64)<x)(b:x<2^64):small x:=aF (n:=64) (Int.ofNat_lt.mp (by
 by_cases h:0<=x
 .rw[QD h];exact b
 .rw[Td (Int.le_of_not_le h)];exact OQ a)) (by decide)
theorem G2:small 0:=aF (n:=1) (by decide) (by decide)
theorem LE{a:Af}(b: -(2^64)<a.w)(c:a.w<2^64):bG [] [] (w8 a)=some ⟨a.w,a.p,[]⟩/\nQ (bG [] []) (w8 a):=by
 unfold w8;have d:∀{s:List Nat}{i:Int},s.length<=2->a.p≠[]-> -(2^64)<i->i<2^64->nQ (bG [] []) (.bin s (.name a.p) (.num i)):=fun{s i} hs g f h=>by
  refine⟨trivial,trivial,hs,fun x y e j=>?_⟩;rw[dW g]at e;injection e with z0;subst z0;injection j with z0;subst z0
  exact⟨G2,Gu f h,by rw[e6,Int.zero_tdiv];exact G2⟩
 by_cases g:a.p=[]
 .rw[Nd g];by_cases g2:a.w<0
  .rw[Nd g2,g];refine⟨?_,trivial,by decide⟩;show some (gz ⟨-a.w,[],[]⟩)=_;rw[rI,VQ]
  .rw[Na g2,g];exact⟨rfl,trivial⟩
 .rw[Na g];by_cases g1:0<a.w
  .rw[Nd g1];refine⟨?_,d (by decide) g b c⟩;show(bG [] [] (.name a.p)).bind (fun x=>(some ⟨a.w,[],[]⟩:Option Af).bind (cP [43] x))=_;rw[dW g];show eA ⟨0,a.p,[]⟩ ⟨a.w,[],[]⟩=_;rw[w_ g,Q5]
  .rw[Na g1];by_cases g2:a.w<0
   .rw[Nd g2];refine⟨?_,d (by decide) g (Q_ c) (OQ b)⟩;show(bG [] [] (.name a.p)).bind (fun x=>(some ⟨-a.w,[],[]⟩:Option Af).bind (cP [45] x))=_;rw[dW g];show eA ⟨0,a.p,[]⟩ (gz ⟨-a.w,[],[]⟩)=_;rw[rI,w_ g,Q5,VQ]
   .rw[Na g2];refine⟨?_,trivial⟩;rw[dW g,show a.w=0 from US (Int.not_lt.mp g1) (Int.not_lt.mp g2)]
theorem LF{a:Af}(i:xo a)(c: -(2^64)<a.w)(d:a.w<2^64):bG [] [] (Du a)=some a/\nQ (bG [] []) (Du a):=by
 obtain⟨e,s⟩:=LE c d;unfold Du;by_cases g:a.m=[]
 .rw[Nd g];refine⟨?_,s⟩;rw[e];cases a with
  |mk w p m=>subst g;rfl
 .rw[Na g];have b:a.p≠a.m:=fun z=>g (z▸i z);refine⟨?_,s,trivial,by decide,fun x y f h=>?_⟩
  .show(bG [] [] (w8 a)).bind (fun x=>(bG [] [] (.name a.m)).bind (cP [45] x))=_;rw[e,dW g];show eA ⟨a.w,a.p,[]⟩ (gz ⟨0,a.m,[]⟩)=_;rw[Dv g,Gs g b];show some (⟨a.w+0,a.p,a.m⟩:Af)=some a;rw[RG]
  .rw[e]at f;rw[dW g]at h;injection f with z0;subst z0;injection h with z0;subst z0
   exact⟨Gu c d,G2,by rw[e6,Int.tdiv_zero];exact G2⟩
section
variable{s0 s1 s2 s3:Int}{here:List Nat}
noncomputable def cZ:List (List Nat):=[72]::bk
theorem i7:∀{s:List Nat},s∈cZ->e_ s:=by
 intro s h;cases h with
 |head=>exact⟨by decide,72,[],rfl,by decide,by decide,by decide,by decide⟩
 |tail _ h=>obtain⟨c,w,e,a,b,f,d⟩:=iq s h;exact⟨iZ s h,c,w,e,a,b,f,d⟩
theorem AZ(b:eA x y=some a):cA a n=cA x n+cA y n:=by
 apply bc;intro d;obtain⟨q,e,t,c⟩:=qf x y;apply d;rw[e]at b;unfold jM at b;split at b
 .exact aj b
 .rename_i g;rw[←Nh b,wW,←l9 (fun z=>g (.inl z)) t.na,←l9 (fun z=>g (.inr z)) t.nb,c]
theorem Dw(h:ew s c=some a)(b:cA a n≠0):cA c n≠0:=by
 unfold ew at h;by_cases e:s=[45]
 .rw[←Nh (cf e h),l8]at b;exact fun z=>b (by rw[z];rfl)
 replace h:=bV e h;by_cases e:aQ c=true
 .rw[←Nh (cf e h)]at b;exact absurd rfl b
 .exact aj (bV e h)
theorem Dx(h:cP s c d=some a)(b:cA a n≠0):cA c n≠0\/cA d n≠0:=by
 have f:∀{x y:Int},x+y≠0->x≠0\/y≠0:=fun{x y} h=>by
  by_cases z:x=0
  .exact .inr fun i=>h (by rw[z,i];rfl)
  .exact .inl z
 unfold cP at h;by_cases e:s=[43]
 .rw[AZ (cf e h)]at b;exact f b
 replace h:=bV e h;by_cases e:s=[45]
 .rw[AZ (cf e h),l8]at b;exact(f b).imp id fun g z=>g (by rw[z];rfl)
 replace h:=bV e h;by_cases e:(aQ c&&aQ d)=true
 .refine cq (cf e h) fun x _ j=>?_;rw[←j]at b;exact absurd rfl b
 .exact aj (bV e h)
theorem Gv(c:s∈bk)(h:bG (E4 s0 s1 s2 s3) here (.name s)=some a)(d:cA a n≠0):n∈cZ:=by
 have g:=f6 s0 s1 s2 s3 c;rw[show fH (E4 s0 s1 s2 s3) 24 (eu 0 s [])=some a from h]at g;have b:=(g.2.2.mem n).mpr d;have sub:∀l:List (List Nat),(∀x∈l,x∈cZ)->n∈l->n∈cZ:=fun l e f=>e n f;clear h g d;rcases(show ∀s∈bk,s=[97]\/s=[98]\/s=[99]\/s=[100]\/s=[101]\/s=nN by decide) s c with rfl|rfl|rfl|rfl|rfl|rfl
 .exact sub [[97]] (by decide) b
 .exact sub [[97]] (by decide) b
 .exact sub [[97]] (by decide) b
 .exact sub [[97],[101]] (by decide) b
 .exact sub [[101]] (by decide) b
 .exact sub [] (fun _ z=>absurd z Nx) b
theorem Gw(hh:here=[]\/here=[72]){T:Tr}:∀{a:Af},bZ T->bG (E4 s0 s1 s2 s3) here T=some a->∀n,cA a n≠0->n∈cZ:=by
 induction T with
 |num k=>intro a _ h n f;rw[←Nh h]at f;exact absurd rfl f
 |name s=>exact fun g h n f=>Gv g h f
 |here=>
  intro a _ h n f;have h:(if here=[] then none else some (eu 0 here []))=some a:=h;rcases hh with e|e
  .exact aj (cf e h)
  .rw[e]at h;rw[←Nh h]at f;have m:=((hV 0 (x:=[72]) (by decide)).mem n).mpr f;rw[List.mem_singleton.mp m];exact Ng ..
 |un s b i=>intro a g h n f;refine bF h fun c e h=>?_;exact i g.2 e n (Dw h f)
 |bin s l r i j=>intro a g h n f;refine bF h fun c e h=>?_;refine bF h fun d o h=>?_;exact(Dx h f).elim (i g.2.1 e n) (j g.2.2 o n)
theorem Gx(hh:here=[]\/here=[72]){T:Tr}{a:Af}(f:bZ T)(e:xo a)(h:bG (E4 s0 s1 s2 s3) here T=some a):(a.p=[]\/a.p∈cZ)/\(a.m=[]\/a.m∈cZ):=by
 have k:=Gw hh f h;refine⟨?_,?_⟩
 .by_cases g:a.p=[]
  .exact .inl g
  .have b:a.p∈nz [a.p]:=by rw[cO g];exact Ng ..
   have c:=dC (e9 e _ b);have d:=e7 b;exact .inr (k a.p (by unfold cA cL;rw[c,PY];exact TP d))
 .by_cases g:a.m=[]
  .exact .inl g
  .have b:a.m∈nz [a.m]:=by rw[cO g];exact Ng ..
   have c:=dC (l:=nz [a.p]) (n:=a.m) (fun k=>e9 e _ k b);have d:=e7 b;exact .inr (k a.m (by unfold cA cL;rw[c,Int.zero_sub];exact fun z=>TP d (Int.neg_eq_zero.mp z)))
end
theorem af.up{σ:aa}{Q:QV}{X:QX}(w:af d f as σ Q X)(h:d<=a):af a f as σ Q X:=
 fun C A b fz s vals F=>w C A b fz s vals ⟨F.hand,F.frames,by have:=F.depth;omega,by have:=F.units;omega⟩
theorem tN{a:List (List Nat)}:∀{b:List (List Nat)},a.Pairwise (fun x y=>¬y<x)->b.Pairwise (fun x y=>¬y<x)->a.Nodup->b.Nodup->(∀x,x∈a↔x∈b)->a=b:=by
 induction a with
 |nil=>
  intro b _ _ _ _ h;cases b with
  |nil=>rfl
  |cons y b=>exact absurd ((h y).mpr (Ng ..)) Nx
 |cons x a ih=>
  intro b d f na i h;cases b with
  |nil=>exact absurd ((h x).mp (Ng ..)) Nx
  |cons y b=>
   rw[List.pairwise_cons]at d f;rw[Pj]at na i;have e:x=y:=by
    apply NS;intro g;have j:x∈b:=by
     cases(h x).mp (Ng ..)with
     |head=>exact absurd rfl g
     |tail _ z=>exact z
    have k:y∈a:=by
     cases(h y).mpr (Ng ..)with
     |head=>exact absurd rfl g
     |tail _ z=>exact z
    exact g (List.le_antisymm (d.1 y k) (f.1 x j))
   subst e;have t:∀z,z∈a↔z∈b:=fun z=>by
    refine⟨fun c=>?_,fun c=>?_⟩
    .cases(h z).mp (Ni _ c)with
     |head=>exact absurd c na.1
     |tail _ z=>exact z
    .cases(h z).mpr (Ni _ c)with
     |head=>exact absurd c i.1
     |tail _ z=>exact z
   rw[ih d.2 f.2 na.2 i.2 t]
theorem tO(ss:List (List Nat)):dX (ss.map PV.str) (ss.map PV.str)=true:=by
 induction ss with
 |nil=>exact rfl
 |cons s r a=>show(fB (.str s) (.str s)&&dX (r.map PV.str) (r.map PV.str))=true;rw[a];show((s==s)&&true)=true;rw[ND];rfl
theorem Dy(n:Nat)(ss:List (List Nat)):bd (ss.map PV.str) n=true:=by
 induction ss with
 |nil=>exact rfl
 |cons s r a=>exact a
theorem w'{σ:aa}(ss:List (List Nat)):fK (.lst (ss.map .str)) (.lst (ss.map .str)) σ=some true:=by show(if(bd (ss.map .str) 59&&bd (ss.map .str) 59)=true then some (dX (ss.map .str) (ss.map .str))else _)=_;rw[Dy,tO];rfl
noncomputable def ow:List Tr->List (List Nat)
 |[]=>[]
 |.name s::r=>s::ow r
 |_::r=>ow r
theorem mn:∀a b:List Tr,ow (a++b)=ow a++ow b
 |[],b=>rfl
 |.name s::r,b=>Nw (s::·) (mn r b)
 |.num _::r,b|.here::r,b|.un _ _::r,b|.bin _ _ _::r,b=>mn r b
theorem Am(t:Tr):ow (mz t)=jQ t:=by
 induction t with
 |num _=>exact rfl
 |here=>exact rfl
 |name _=>exact rfl
 |un _ b a=>exact a
 |bin _ l r a c=>exact(mn _ _).trans (by rw[a,c];rfl)
noncomputable def rJ:Tr->Prop
 |.un _ _=>False
 |.bin _ _ _=>False
 |_=>True
theorem hW(t:Tr):∀u∈mz t,rJ u:=by
 induction t with
 |num _=>
  intro u h;cases h with
  |head=>trivial
  |tail _ z=>cases z
 |here=>
  intro u h;cases h with
  |head=>trivial
  |tail _ z=>cases z
 |name _=>
  intro u h;cases h with
  |head=>trivial
  |tail _ z=>cases z
 |un _ b a=>exact fun u h=>a u h
 |bin _ l r a c=>exact fun u h=>(List.mem_append.mp h).elim (a u) (c u)
theorem An(t:Tr):(jQ t).length<=sz t:=by
 induction t with
 |num _=>exact NP _
 |here=>exact NP _
 |name _=>exact Nj _
 |un _ b a=>exact OA (a)
 |bin _ l r a c=>show(jQ l++jQ r).length<=sz l+sz r+1;rw[M9];exact OA (Od (a) (c))
section
variable{d:Nat}{σ:aa}
theorem Ao{P:List PV->aa->Prop}(f:List Tr):∀(acc:List (List Nat))(o v:Option PV),(∀u∈f,rJ u)->acc.length+f.length<=1000->P ((acc++ow f).map .str) σ->dK (fun g i K=>jc d [.cmp .Eq (.idx (.loc 1) (.lit (.int 0))) (.lit (.str pI))] g i (fun t a=>match t with|true=>cR d (.idx (.loc 1) (.lit (.int 1))) g a (fun v c=>K (some v) c) (fun _ _=>False)|false=>K none a) (fun _ _=>False)) [1] (f.map tt) [o,v] (acc.map .str) σ P:=by
 induction f with
 |nil=>intro acc o v _ _ p;rw[show ow []=[] from rfl,NB]at p;exact p
 |cons u r j=>
  intro acc o v m q p;have e:acc.length+r.length+1<=1000:=q;have h:=m u (Ng ..);have k:=fun u h=>m u (Ni _ h);have l:(acc.map PV.str).length<aV:=by rw[Nb];exact Nf (M7 (Nn _ _) q) (by decide)
  cases u with
  |num n=>exact⟨_,rfl,l,ah rfl (ak (b:=false) rfl (j acc o _ k (Nr e) p))⟩
  |here=>exact⟨_,rfl,l,ah rfl (ak (b:=false) rfl (j acc o _ k (Nr e) p))⟩
  |name s=>refine⟨_,rfl,l,ah rfl (ak (b:=true) rfl (ah rfl ?_))⟩;have z:=j (acc++[s]) o (some (tt (.name s))) k (by rw[M9];show acc.length+1+_<=_;exact O3 _ _▸e) (by rw[Nk];exact p);rw[NG]at z;exact z
  |un _ _=>exact h.elim
  |bin _ _ _=>exact h.elim
theorem Dz(a:List Tr):(∀u∈a,rJ u)->(a.map tt).any (fun v=>fB v (.tup [.str ik]))=a.any (fun u=>match u with|.here=>true|_=>false):=by
 induction a with
 |nil=>exact fun _=>rfl
 |cons u r c=>
  intro h;have b:=h u (Ng ..);rw[NU,Pf,Pf,c fun u b=>h u (Ni _ b)];cases u with
  |un _ _=>exact b.elim
  |bin _ _ _=>exact b.elim
  |_=>rfl
theorem DA(t:Tr):(mz t).any (fun u=>match u with|.here=>true|_=>false)=hh t:=by
 induction t with
 |num _=>exact rfl
 |name _=>exact rfl
 |here=>exact rfl
 |un _ b a=>exact a
 |bin _ l r a c=>
  show(mz l++mz r).any _=(hh l||hh r)
  rw[List.any_append,a,c]
theorem DB(b:List Tr):(∀u∈b,rJ u)->gT (b.map tt)=true:=by
 induction b with
 |nil=>exact fun _=>rfl
 |cons u r c=>
  intro h;have a:=h u (Ng ..);show(b' (tt u) 60&&gT (r.map tt))=true;rw[c fun u a=>h u (Ni _ a)];cases u with
  |un _ _=>exact a.elim
  |bin _ _ _=>exact a.elim
  |_=>rfl
theorem Gy(t:Tr):kU (.tup [.str ik]) (.lst ((mz t).map tt)) σ=some (hh t):=by show(if(xr (.tup [.str ik])&&gT ((mz t).map tt))=true then some (((mz t).map tt).any fun v=>fB v (.tup [.str ik]))else none)=_;rw[DB _ (hW t),Dz _ (hW t),DA];rfl
end
noncomputable abbrev EL(a0 a1 a a3 b c d a7 a8 a9 a10 a11 a12 a13 a14 a15 a16 a17 a18 a19 a20 a21 a22 a23 a24 a25 a26:Option PV):ar:=[a0,a1,a,a3,b,c,d,a7,a8,a9,a10,a11,a12,a13,a14,a15,a16,a17,a18,a19,a20,a21,a22,a23,a24,a25,a26,none,none,none,none,none,none,none,none,none,none,none,none,none,none,none,none,none,none,none,none,none,none,none,none,none,none,none]
noncomputable abbrev QL:QV:=fun v _=>v= .bool true
noncomputable abbrev KL:QS:=fun o _ a=>a_ QL (o.getD .none) a
noncomputable abbrev XL:QX:=ao (fun _ _=>False)
theorem A0{a:aa}:KL (some (.bool true)) [] a:= .val Le.rfl rfl
section
variable{d:Nat}{τ:aa}{a0 a1 a2 a3 a4 a5 a6 a7 a8 a9 a10 a11 a12 a13 a14 a15 a16 a17 a18 a19 a20 a21 a22 a23 a24 a25 a26:Option PV}
theorem LG(f:340<=d){T:Tr}(a:sz T<=45):ai d (cV.drop 32) (EL a0 a1 a2 a3 a4 a5 a6 a7 a8 a9 a10 a11 a12 (some (tt T)) (some (tv T)) a15 a16 a17 a18 a19 a20 a21 a22 a23 a24 a25 a26) τ KL XL:=by refine af.up (Lp 45 T a (by decide) ?_) (M7 (by decide) f);refine⟨_,rfl,Ao (mz T) [] none none (hW T) (by have:=fw T;rw[Oa];exact M7 (NJ (N7 _)) (M7 this (M7 a (by decide)))) ?_⟩;rw[O8,Am];have j:=An T;refine tT (eX (jQ T)) ⟨Nf j (Nf a (by decide)),fun ss k l hs=>?_⟩;refine af.up (Lb (d:=0) (M7 a (by decide)) fun c g h i=>?_) (M7 (by decide) f);have e:c=ss:=tN i hs g l fun x=>(h x).trans (k x).symm;subst e;refine ak (w' c) (ak (b:=true) rfl ?_);refine af.up (CG 45 (by decide) a ?_) (M7 (by decide) f);refine ak (Gy (σ:=τ) T) ⟨(hh T==hh T),rfl,?_⟩;rw[ND];exact A0
end
theorem xa(t:Tr):fB (tt t) (tt t)=true:=by
 induction t with
 |num n=>show(fB (.str g9) (.str g9)&&(fB (.int n) (.int n)&&true))=true;show((g9==g9)&&((n==n)&&true))=true;rw[ND,ND];rfl
 |name s=>show((pI==pI)&&((s==s)&&true))=true;rw[ND,ND];rfl
 |here=>exact rfl
 |un s b a=>show((Fu==Fu)&&((s==s)&&(fB (tt b) (tt b)&&true)))=true;rw[ND,ND,a];rfl
 |bin s l r a c=>show((Fv==Fv)&&((s==s)&&(fB (tt l) (tt l)&&(fB (tt r) (tt r)&&true))))=true;rw[ND,ND,a,c];rfl
theorem qg(h0:0<=n)(b:n<2^64):e' (aE n):=by
 have e:((n.toNat:Nat):Int)=n:=Ow h0;have D:=e5 (m:=n.toNat) (by lia);rw[e]at D;refine⟨M7 D.l (by decide),fun c a=>?_⟩;rcases Bool.or_eq_true_iff.mp (D.c c a).1 with h|h
 .exact Nf (bQ.mp h).2 (by decide)
 .exact Nf (bQ.mp h).2 (by decide)
theorem mq:∀{T:Tr},bZ T->iG T
 |.num n,h=>⟨by have:=h.1;lia,h.2,qg h.1 h.2⟩
 |.name _,_|.here,_=>trivial
 |.un _ b,h=>show iG b from mq h.2
 |.bin _ l r,h=>⟨mq h.2.1,mq h.2.2⟩
section
variable{d:Nat}{τ:aa}{a0 a1 a2 a3 a4 a5 a6 a7 a8 a9 a10 a11 a12 a13 a14 a15 a16 a17 a18 a19 a20 a21 a22 a23 a24 a25 a26:Option PV}
theorem Gz(m:340<=d){T:Tr}{ks:List Tk}(j:bZ T)(L:Lv 1 0 ks T)(p:sz T<=45)(q:∀a24,ai d (cV.drop 32) (EL a0 a1 a2 a3 a4 a5 a6 a7 a8 a9 a10 a11 a12 (some (tt T)) (some (tv T)) a15 a16 a17 a18 a19 a20 a21 (some (.str (cQ T))) a23 a24 a25 a26) τ KL XL)(k:Nat):∀(i:Nat)(a24:Option PV),i+k=(cQ T).length->bu (fun r σ K'=>ai d (ax cV 31) r σ K' XL) [24] ((Rf i k).map fun(i:Nat)=>PV.int i) (EL a0 a1 a2 a3 a4 a5 a6 a7 a8 a9 a10 a11 a12 (some (tt T)) (some (tv T)) a15 a16 a17 a18 a19 a20 a21 (some (.str (cQ T))) a23 a24 a25 a26) τ (fun o c f=>match o with|some v=>KL (some v) c f|none=>ai d (cV.drop 32) c f KL XL):=by
 induction k with
 |zero=>exact fun i a24 _=>q a24
 |succ k l=>
  intro i a24 h;have g:i<(cQ T).length:=by lia
  have t:=wO j;have s:(cQ T).length<=1000000:=by lia
  have a:(cQ T).drop i=(cQ T)[i]::(cQ T).drop (i+1):=OZ g;refine⟨_,rfl,ah (aT a s) (tS (fun e=>?_) fun e=>?_)⟩
  .rw[e]at a;exact af.up (Ge (n:=300) j L p a (by decide) (by decide) (ak (b:=false) rfl (l (i+1) (some (.int i)) (O3 _ _▸h)))) (M7 (by decide) m)
  .exact l (i+1) (some (.int i)) (O3 _ _▸h)
theorem DC(f:340<=d){T:Tr}{ks:List Tk}(a:bZ T)(L:Lv 1 0 ks T)(c:sz T<=45):ai d (cV.drop 28) (EL a0 a1 a2 a3 a4 a5 a6 a7 a8 a9 a10 a11 a12 (some (tt T)) (some (tv T)) a15 a16 a17 a18 a19 a20 a21 a22 a23 a24 a25 a26) τ KL XL:=by
 have k:=wO a;have rl:=AU T;have h:(cQ T).length<=2000:=by lia
 refine af.up (CF 45 T c (by decide) (mq a) (M7 h (by decide)) 0 ?_) (M7 (by decide) f);have g:((hO T).map aZ).length=(hO T).length:=Nb ..;refine af.up (C3 (m:=300) (P:=fun o=>o=some ((hO T).map aZ)) h (lW (wM (AT a).sp) (AS a) rfl) (fun e=>aj e) fun i j _=>?_) (M7 (by decide) f);injection j with z0;subst z0
 refine⟨_,lV (on a L) (by rw[g];lia),?_⟩;refine ak (b:=isNone (tv T)) rfl ?_;rw[lS];refine tF (jL 60 T (M7 c (by decide)) (by decide) ?_ |>.up (M7 (by decide) f));refine ak (b:=false) (by show(fK _ _ _).map _=_;rw[C4 (M7 c (by decide)) (M7 c (by decide)),xa];rfl) ?_;refine⟨_,lQ (M7 h (by decide)),?_⟩;rw[RT];exact Gz f a L c (fun a24=>LG f c) (cQ T).length 0 a24 (N7 _)
end
section
variable{d:Nat}{τ:aa}{a0 a1 a2 a3 a4 a5 a6 a7 a8 a9 a10 a11 a12 a13 a14 a15 a16 a17 a18 a19 a20 a21 a22 a23 a24 a25 a26:Option PV}{s0 s1 s2 s3:Int}{es ek:Nat}
theorem xb:∀k:Nat,k<=63->small (2^k):=fun k a=>aF (n:=64) (by
 have e:((2:Int)^k).natAbs=2^k:=by rw[U5];rfl
 rw[e];exact Nf (iu a) (by decide)) (by decide)
theorem DD{a:Af}{b:cX}(P:dT b (cA a)):b.length<=30:=(AY P).l
noncomputable def LH:Option Wt->Option Int
 |some (w,[])=>some w
 |_=>none
theorem mr:∀{q:Option Af}{r:Option Wt},dU q r->(q.bind fun a=>if aQ a=true then some a.w else none)=LH r
 |none,none,_=>rfl
 |some a,some (w,[]),⟨c,b,P⟩=>(Nd ((cD P b).mpr rfl)).trans (Nw some c)
 |some a,some (w,x::y),⟨c,b,P⟩=>Na fun z=>kT ((cD P b).mp z)
theorem Ap(i:Int):fK (.int i) (.int i) τ=some true:=by show some (i==i)=some true;rw[ND]
theorem GA(f:340<=d){T:Tr}{ks:List Tk}(a:bZ T)(L:Lv 1 0 ks T)(c:sz T<=45)(B:B4 s0 s1 s2 s3)(h:τ es=some (.dct (dv (E4 s0 s1 s2 s3))))(i:τ ek=some (.dct (DX (Ag s0 s1 s2 s3)))):
  ai d (cV.drop 26) (EL a0 a1 a2 a3 a4 a5 a6 a7 a8 a9 a10 a11 a12 (some (tt T)) (some (tv T)) (some (.obj 703 [.ref es])) (some (.ref ek)) a17 a18 a19 a20 a21 a22 a23 a24 a25 a26) τ KL XL:=by
 refine af.up (F8 i xb 45 T c (by decide) (Gm B a (M7 c (by decide))) fun r g=>?_) (M7 (by decide) f);have A:=w4 (s0:=s0) (s1:=s1) (s2:=s2) (s3:=s3) a g;refine af.up (Lq (n:=45) h (by show 4<=100;decide) c (by decide) (Gk B a (M7 c (by decide))) ?_) (M7 (by decide) f);rw[mr A];have ln:∀w p,r=some (w,p)->p.length<=30:=fun w p e=>by subst e;exact(jX B a g).2.l
 match r,ln with
 |none,_=>exact ak (b:=false) rfl (ak (b:=false) rfl (DC f a L c))
 |some (w,[]),_=>exact ak (b:=true) rfl (ah rfl (ak (b:=true) rfl (ah rfl (ak (b:=false) (by show(fK (.int w) (.int w) τ).map (!·)=some false;rw[Ap];rfl) (DC f a L c)))))
 |some (w,x::y),ln=>exact ak (b:=true) rfl (ah rfl (ak (pU (ln _ _ rfl)) (ak (b:=false) rfl (DC f a L c))))
end
theorem xc(h:i<0):aE i=45::aE (-i):=by
 have a:i= -(((-i-1).toNat:Int)+1):=by lia
 have b: -i=((-i-1).toNat:Int)+1:=by lia
 rw[b]
 conv=>lhs;rw[a]
 exact rq _
theorem A1(h0:0<=i)(a:i<2^64):(aE i).length<=20:=by have e:((i.toNat:Nat):Int)=i:=Ow h0;have D:=e5 (m:=i.toNat) (by lia);rw[e]at D;exact D.l
theorem i8(a: -(2^64)<i)(b:i<2^64):e' (aE i)/\(aE i).length<=21:=by
 by_cases h:i<0
 .rw[xc h];have k:=qg (n:= -i) (P8 (PZ h)) (OQ a);have l:=A1 (i:= -i) (P8 (PZ h)) (OQ a);have d:(45::aE (-i)).length<=21:=NE l;exact⟨⟨M7 d (by decide),fun c e=>by
   cases e with
   |head=>decide
   |tail _ z=>exact k.2 c z⟩,d⟩
 .exact⟨qg (Int.not_lt.mp h) b,OA (A1 (Int.not_lt.mp h) b)⟩
theorem xd{s:List Nat}(h:s=[]\/s∈cZ):s.length<=6:=by
 have:∀s∈cZ,s.length<=6:=by decide
 rcases h with rfl|h
 .exact NP _
 .exact this s h
theorem Aq{a:Af}(c:a.p.length<=6)(g:a.m.length<=6)(d: -(2^64)<a.w)(e:a.w<2^64):(qV a).length<=60:=by
 have f:=(i8 d e).2;have h:=(i8 (i:= -a.w) (Q_ e) (OQ d)).2;have j:(tV a.m).length<=9:=by
  unfold tV;split
  .exact NP _
  .rw[M9];show 3+_<=9;exact M7 (NM g _) (by decide)
 rw[Gn,M9];refine M7 (Od (b:=51) ?_ j) (by decide);split
 .exact M7 f (by decide)
 .split
  .rw[M9,M9];show _+3+_<=51;exact M7 (Od (NL c _) f) (by decide)
  .split
   .rw[M9,M9];show _+3+_<=51;exact M7 (Od (NL c _) h) (by decide)
   .exact M7 c (by decide)
theorem DE(a:Af):(Al a++w7 a.m).length<=5:=by
 rw[M9];have b:(Al a).length<=3:=by
  unfold Al;split
  .split<;>exact No rfl
  .split
   .exact No rfl
   .split<;>exact No rfl
 have c:(w7 a.m).length<=2:=by unfold w7;split<;>exact No rfl
 exact M7 (Od b c) (by decide)
theorem GB(a:Af):sz (Du a)<=5:=by
 have b:sz (w8 a)<=3:=by
  unfold w8;split
  .split<;>exact No rfl
  .split
   .exact No rfl
   .split<;>exact No rfl
 unfold Du;split
 .exact M7 b (by decide)
 .show sz (w8 a)+1+1<=5;exact M7 (NE (NE b)) (by decide)
section
variable{d:Nat}{τ:aa}{Q:QV}{X:QX}{ρ:ar}
theorem DF{P:List PV->aa->Prop}(a:cX):∀(acc:List (List Nat))(u v:Option PV),acc.length+a.length<=1000->P ((acc++(a.filter fun p=>decide (0<p.2)).map (·.1)).map .str) τ->dK (fun e h K=>jc d [.cmp .Gt (.loc 2) (.lit (.int 0))] e h (fun k b=>match k with|true=>cR d (.loc 1) e b (fun v c=>K (some v) c) (fun _ _=>False)|false=>K none b) (fun _ _=>False)) [1,2] (a.map pp) [none,u,v] (acc.map .str) τ P:=by
 induction a with
 |nil=>intro acc u v _ p;rw[QH,Rz,NB]at p;exact p
 |cons s r i=>
  intro acc u v j p;have f:acc.length+r.length+1<=1000:=j;refine⟨_,rfl,by rw[Nb];exact Nf (M7 (Nn _ _) j) (by decide),iT (p:=0<s.2) (fun g=>?_) fun g=>?_⟩
  .rw[Of (by simpa using g)]at p;have z:=i (acc++[s.1]) (some (.str s.1)) (some (.int s.2)) (by rw[M9];show acc.length+1+_<=_;exact O3 _ _▸f) (by rw[Nk];exact p);rw[NG]at z;exact z
  .rw[Pq (by simpa using g)]at p;exact i acc _ _ (Nr f) p
theorem DG{P:List PV->aa->Prop}(a:cX):∀(acc:List (List Nat))(u v:Option PV),acc.length+a.length<=1000->P ((acc++(a.filter fun p=>decide (p.2<0)).map (·.1)).map .str) τ->dK (fun e h K=>jc d [.cmp .Lt (.loc 2) (.lit (.int 0))] e h (fun k b=>match k with|true=>cR d (.loc 1) e b (fun v c=>K (some v) c) (fun _ _=>False)|false=>K none b) (fun _ _=>False)) [1,2] (a.map pp) [none,u,v] (acc.map .str) τ P:=by
 induction a with
 |nil=>intro acc u v _ p;rw[QH,Rz,NB]at p;exact p
 |cons s r i=>
  intro acc u v j p;have f:acc.length+r.length+1<=1000:=j;refine⟨_,rfl,by rw[Nb];exact Nf (M7 (Nn _ _) j) (by decide),iT (p:=s.2<0) (fun g=>?_) fun g=>?_⟩
  .rw[Of (by simpa using g)]at p;have z:=i (acc++[s.1]) (some (.str s.1)) (some (.int s.2)) (by rw[M9];show acc.length+1+_<=_;exact O3 _ _▸f) (by rw[Nk];exact p);rw[NG]at z;exact z
  .rw[Pq (by simpa using g)]at p;exact i acc _ _ (Nr f) p
theorem A2{Q:List PV->aa->Prop}(h:nE d e ρ X τ (uc (ud d es ρ X) Q)):ud d (e::es) ρ X τ Q:=h
theorem A3{R:aa->(List PV->aa->Prop)->Prop}{Q:List PV->aa->Prop}(h:R τ fun vs σ=>Q (v::vs) σ):uc R Q v τ:=h
theorem A4(h:ρ[j]? =some (some (.lst ((nz [p]).map .str)))) (q:Q (.str p) τ):cR d (.ite (.tru (.loc j)) (.idx (.loc j) (.lit (.int 0))) (.lit (.str []))) ρ τ Q X:=by
 have c:∀{F:QV},F (.lst ((nz [p]).map .str)) τ->cR d (.loc j) ρ τ F X:=fun{F} f=>by show(match ρ[j]? with|some (some v)=>F v τ|_=>False);rw[h];exact f
 show cR d (.loc j) ρ τ (fun v a=>∃b,eH v a=some b/\(match b with|true=>cR d (.idx (.loc j) (.lit (.int 0))) ρ a Q X|false=>Q (.str []) a)) X;apply c;by_cases g:p=[]
 .subst g;exact ak (b:=false) rfl q
 .rw[cO g]at c⊢;refine ak (b:=true) rfl ?_;show cR d (.loc j) ρ τ (fun v a=>∃w,bl v (.int 0) a=some w/\Q w a) X;exact c (ah rfl q)
theorem Mm:fK (.lst ((nz [p]).map .str)) (.lst []) τ=some (p==[]):=by
 by_cases g:p=[]
 .subst g;rfl
 .rw[cO g,R6 g];rfl
theorem LI{i j:Nat}{a:Af}(h:ρ[i]? =some (some (.lst ((nz [a.p]).map .str)))) (h':ρ[j]? =some (some (.lst ((nz [a.m]).map .str)))) (q:Q (.bool (pK a)) τ):
  cR d (.bop true [(.cmp .NotEq (.loc i) (.lst true [])),(.cmp .Eq (.loc j) (.lst true []))]) ρ τ Q X:=by
 have l:∀{F:QV},F (.lst ((nz [a.p]).map .str)) τ->cR d (.loc i) ρ τ F X:=fun{F} f=>by show(match ρ[i]? with|some (some v)=>F v τ|_=>False);rw[h];exact f
 have k:∀{F:QV},F (.lst ((nz [a.m]).map .str)) τ->cR d (.loc j) ρ τ F X:=fun{F} f=>by show(match ρ[j]? with|some (some v)=>F v τ|_=>False);rw[h'];exact f
 unfold pK at q;show cR d (.loc i) ρ τ (fun v e=>∃c,eJ .NotEq v (.lst []) e=some c/\∃b,eH (.bool c) e=some b/\if b=true then cR d (.cmp .Eq (.loc j) (.lst true [])) ρ e Q X else Q (.bool c) e) X;have n:eJ .NotEq (.lst ((nz [a.p]).map .str)) (.lst []) τ=some (!(a.p==[])):=by show(fK (.lst ((nz [a.p]).map .str)) (.lst []) τ).map (!·)=_;rw[Mm];rfl
 refine l (ak n ?_);cases g:a.p==[]with
 |true=>rw[g]at q;exact⟨false,rfl,q⟩
 |false=>rw[g]at q;refine⟨true,rfl,?_⟩;show cR d (.loc j) ρ τ (fun v e=>∃c,eJ .Eq v (.lst []) e=some c/\Q (.bool c) e) X;exact k (ak (b:=a.m==[]) Mm q)
theorem rK(w:Int)(p m:List Nat):eJ .NotEq (.tup [.int w,.str p,.str m]) (.tup [.int w,.str p,.str m]) τ=some false:=by show(some (fB (.tup [.int w,.str p,.str m]) (.tup [.int w,.str p,.str m]))).map (!·)=some false;show some (!((w==w)&&((p==p)&&((m==m)&&true))))=some false;rw[ND,ND,ND];rfl
theorem mu(b:Bool):eJ .NotEq (.bool b) (.bool b) τ=some false:=by show some (!(b==b))=some false;rw[ND];rfl
end
section
variable{d:Nat}{τ:aa}{a0 a1 a2 a3 a4 a5 a6 a7 a8 a9 a10 a11 a12 a13 a14 a15 a16 a17 a18 a19 a20 a21 a22 a23 a24 a25 a26:Option PV}{s0 s1 s2 s3:Int}{es ek:Nat}{here:List Nat}
theorem LJ(c:340<=d){T:Tr}{ks:List Tk}(n:bZ T)(L:Lv 1 0 ks T)(s:sz T<=45)(B:B4 s0 s1 s2 s3)(k:τ es=some (.dct (dv (E4 s0 s1 s2 s3))))(l:τ ek=some (.dct (DX (Ag s0 s1 s2 s3))))(hh:here=[]\/here=[72]):
  ai d (cV.drop 23) (EL a0 a1 a2 a3 a4 (some (.str here)) a6 a7 a8 a9 a10 a11 a12 (some (tt T)) (some (tv T)) (some (.obj 703 [.ref es])) (some (.ref ek)) a17 a18 a19 a20 a21 a22 a23 a24 a25 a26) τ KL XL:=by
 refine af.up (F8 (here:=here) l xb 45 T s (by decide) (Gm B n (M7 s (by decide))) fun r Q=>?_) (M7 (by decide) c);have A:=w4 (s0:=s0) (s1:=s1) (s2:=s2) (s3:=s3) n Q;refine af.up (vY (here:=here) k (by show 4<=100;decide) 45 T s (by decide) (Gk B n (M7 s (by decide))) ?_) (M7 (by decide) c);have C:=fun a j h=>Gx (s0:=s0) (s1:=s1) (s2:=s2) (s3:=s3) (a:=a) hh n j h;generalize bG (E4 s0 s1 s2 s3) here T=q at A C
 match q,r,A,C with
 |none,none,_,_=>exact⟨rfl,ak (b:=true) rfl (ak (b:=false) rfl (ak (b:=false) rfl (GA c n L s B k l)))⟩
 |some a,some x,⟨v,j,P⟩,C=>
  apply bc;intro D;obtain⟨F,H⟩:=C a j rfl;apply D;have pl:=DD P;refine ak (b:=false) rfl (ak (b:=false) rfl (ah rfl ⟨_,rfl,DF x.2 [] none none (by rw[Oa];exact M7 (NJ (N7 _)) (M7 pl (by decide))) ?_⟩));rw[O8,Aj P j];refine ah rfl ⟨_,rfl,DG x.2 [] none none (by rw[Oa];exact M7 (NJ (N7 _)) (M7 pl (by decide))) ?_⟩;rw[O8,w6 P j];refine⟨rfl,⟨_,rfl,af.up (Cy (d:=0) ?_) (M7 (by decide) c)⟩⟩;refine ah rfl (A3 (A2 (A4 rfl (A3 (A2 (A4 rfl (ak (by rw[←v];exact rK a.w a.p a.m) ?_)))))));refine⟨rfl,⟨_,rfl,af.up (KJ (d:=0) ?_) (M7 (by decide) c)⟩⟩;refine LI (a:=a) rfl rfl (ak (mu _) ?_);refine⟨rfl,⟨_,rfl,af.up (vW (d:=0) ?_) (M7 (by decide) c)⟩⟩;have V:aQ a=x.2.isEmpty:=by
   cases g:x.2 with
   |nil=>exact(cD P j).mpr g
   |cons y z=>
    cases g2:aQ a with
    |true=>have:=(cD P j).mp g2;rw[g]at this;exact kT this
    |false=>rfl
  rw[V];refine ah rfl (ak (pU pl) (ak (mu _) ?_));have fin:∀f:aa,f es=some (.dct (dv (E4 s0 s1 s2 s3)))->f ek=some (.dct (DX (Ag s0 s1 s2 s3)))->∀a18 a19 a20,ai d (cV.drop 26) (EL a0 a1 a2 a3 a4 (some (.str here)) a6 a7 a8 a9 a10 a11 a12 (some (tt T)) (some (tv T)) (some (.obj 703 [.ref es])) (some (.ref ek)) (some (wp x.1 x.2)) a18 a19 a20 a21 a22 a23 a24 a25 a26) f KL XL:=fun f k l a18 a19 a20=>GA c n L s B k l;refine ah rfl ⟨by decide,by decide,wt,iT (p:=(x.1.natAbs:Int)<1*2^64) (fun g=>?_) fun g=>fin τ k l _ _ _⟩;have t: -(2^64)<a.w:=by have v:a.w=x.1:=v;lia
  have u:a.w<2^64:=by have v:a.w=x.1:=v;lia
  apply bc;intro D;obtain⟨W,X⟩:=LF j t u;apply D;have M:=Aq (xd F) (xd H) t u;have Y:=DE a;refine af.up (Lc (d:=0) t u (i8 t u).1 (i8 (Q_ u) (OQ t)).1 (M7 M (by decide)) ?_) (M7 (by decide) c);refine af.up (FF (m:=60) (P:=fun o=>o=some (Al a++w7 a.m)) (M7 M (by decide)) (Gp (F.imp id i7) (H.imp id i7) t u rfl) (fun e=>aj e) fun Z K _=>?_) (M7 (by decide) c);injection K with z0;subst z0
  refine⟨_,lV (LD (F.imp id i7) (H.imp id i7)) (M7 (NE (Op 2 Y)) (by decide)),?_⟩;refine af.up (FK (d:=0) fun O i=>?_) (M7 (by decide) c);have k1:es≠O:=fun e=>by rw[←e,k]at i;exact bb i
  have k2:ek≠O:=fun e=>by rw[←e,l]at i;exact bb i
  refine af.up (vZ (E:=[]) (aa.uS ..) (NP _) (GB a) (by decide) X ?_) (M7 (by decide) c);rw[W];refine⟨rfl,⟨_,rfl,af.up (Cy (d:=0) ?_) (M7 (by decide) c)⟩⟩;refine⟨rfl,⟨_,rfl,af.up (Cy (d:=0) ?_) (M7 (by decide) c)⟩⟩;refine ak (rK a.w a.p a.m) ?_;exact fin _ (by rw[aa.uN _ _ k1];exact k) (by rw[aa.uN _ _ k2];exact l) _ _ _
end
section
variable{d:Nat}{τ:aa}{a0 a1 a2 a3 a4 a5 a6 a7 a8 a9 a10 a11 a12 a13 a14 a15 a16 a17 a18 a19 a20 a21 a22 a23 a24 a25 a26:Option PV}{s0 s1 s2 s3:Int}{here:List Nat}
theorem Ar{es:Nat}{n:List Nat}{v:PV}{kvs:List (List Nat×PV)}{Q:QV}{X:QX}(a:kvs.length<=100)(q:Q .none (τ.upd es (.dct (rP kvs n v)))):af (d+1) (.ref 686) [.obj 703 [.ref es],.str n,v] (τ.upd es (.dct kvs)) Q X:=
 KS (aa.uS ..) a (by rw[aa.uU];exact q)
theorem GC(c:340<=d){T:Tr}{ks:List Tk}(f:bZ T)(L:Lv 1 0 ks T)(g:sz T<=45)(B:B4 s0 s1 s2 s3)(hh:here=[]\/here=[72]){es:Nat}(b:τ es=some (.dct (dv (E4 s0 s1 s2 s3)))):
  ai d (cV.drop 20) (EL a0 a1 a2 a3 (some (.lst [.int s0,.int s1,.int s2,.int s3])) (some (.str here)) a6 a7 a8 a9 a10 a11 a12 (some (tt T)) (some (tv T)) (some (.obj 703 [.ref es])) a16 a17 a18 a19 a20 a21 a22 a23 a24 a25 a26) τ KL XL:=by
 refine ah rfl (ah rfl (ah rfl ⟨rfl,by decide,fun ek a=>?_⟩));have h:es≠ek:=fun e=>by rw[←e,b]at a;exact bb a
 refine ah rfl (C8 (aa.uS ..) (No rfl) ?_);refine ah rfl (C8 (aa.uS ..) (No rfl) ?_);rw[aa.uU,aa.uU];exact LJ (ek:=ek) c f L g B (by rw[aa.uN _ _ h];exact b) (aa.uS ..) hh
theorem LK(a:340<=d){T:Tr}{ks:List Tk}(b:bZ T)(L:Lv 1 0 ks T)(c:sz T<=45)(B:B4 s0 s1 s2 s3)(hh:here=[]\/here=[72]):
  ai d (cV.drop 15) (EL a0 a1 a2 a3 (some (.lst [.int s0,.int s1,.int s2,.int s3])) (some (.str here)) a6 a7 a8 a9 a10 a11 a12 (some (tt T)) (some (tv T)) a15 a16 a17 a18 a19 a20 a21 a22 a23 a24 a25 a26) τ KL XL:=by
 refine af.up (FK (d:=0) fun es e=>?_) (M7 (by decide) a);refine⟨rfl,ah rfl (af.up (jO (d:=0) ⟨_,rfl,af.up (Ar (d:=0) (by decide) ?_) (M7 (by decide) a)⟩) (M7 (by decide) a))⟩;refine⟨rfl,ah rfl (af.up (jO (d:=0) ⟨_,rfl,af.up (Ar (d:=0) (No rfl) ?_) (M7 (by decide) a)⟩) (M7 (by decide) a))⟩;refine⟨rfl,ah rfl (af.up (zh (d:=0) ⟨_,rfl,af.up (Ar (d:=0) (No rfl) ?_) (M7 (by decide) a)⟩) (M7 (by decide) a))⟩;refine⟨rfl,ah rfl (af.up (g_ (d:=0) ⟨_,rfl,af.up (Ar (d:=0) (No rfl) ?_) (M7 (by decide) a)⟩) (M7 (by decide) a))⟩;exact GC (es:=es) a b L c B hh (aa.uS ..)
end
noncomputable def bU:Lt->PV
 |.sg s=> .tup [.str bt,.str s]
 |.num n=> .tup [.str g9,.int n]
 |.sym s=> .tup [.str nO,.str s]
 |.here=> .tup [.str nO,.str [46]]
noncomputable def DH:Tk->PV
 |.num n=> .tup [.str g9,.int n]
 |.name s=> .tup [.str nO,.str s]
 |.sign s=> .tup [.str bt,.str s]
 |.other=> .none
 |.fin=> .tup [.str ds,.str []]
theorem As(row:List Lt):(row.map aZ++[Tk.fin]).map DH=row.map bU++[.tup [.str ds,.str []]]:=by
 rw[NG,Ox]
 congr 1
 refine OX fun t _=>?_;cases t<;>rfl
theorem At(row:List Lt):bd (row.map bU++[.tup [.str ds,.str []]]) 59=true:=by
 induction row with
 |nil=>exact rfl
 |cons t r a=>show(b' (bU t) 59&&bd (r.map bU++[.tup [.str ds,.str []]]) 59)=true;rw[a];cases t<;>rfl
theorem xe(row:List Lt):dX (row.map bU++[.tup [.str ds,.str []]]) (row.map bU++[.tup [.str ds,.str []]])=true:=by
 induction row with
 |nil=>exact rfl
 |cons t r b=>
  show(fB (bU t) (bU t)&&dX (r.map bU++[.tup [.str ds,.str []]]) (r.map bU++[.tup [.str ds,.str []]]))=true;rw[b];have a:∀(k s:List Nat),fB (.tup [.str k,.str s]) (.tup [.str k,.str s])=true:=fun k s=>by show((k==k)&&((s==s)&&true))=true;rw[ND,ND];rfl
  cases t with
  |sg s=>rw[show bU (.sg s)= .tup [.str bt,.str s] from rfl,a];rfl
  |num n=>show((g9==g9)&&(((n:Int)==n)&&true)&&true)=true;rw[ND,ND];rfl
  |sym s=>rw[show bU (.sym s)= .tup [.str nO,.str s] from rfl,a];rfl
  |here=>rfl
theorem D4{n:Nat}{row:List Lt}(h:row.length<=n):ba n row=ba row.length row:=by
 cases e:ba n row with
 |some t=>exact(lX row.length (iX n e) (Nj _)).symm
 |none=>
  cases a:ba row.length row with
  |none=>rfl
  |some t=>have:=lX n (iX _ a) h;rw[e]at this;exact aj this
section
variable{d:Nat}{τ:aa}{a0 a1 a2 a3 a4 a5 a6 a7 a8 a9 a10 a11 a12 a13 a14 a15 a16 a17 a18 a19 a20 a21 a22 a23 a24 a25 a26:Option PV}{s0 s1 s2 s3:Int}{here x:List Nat}{row:List Lt}
noncomputable abbrev GD(d:Nat)(c:ar)(e:aa)(K:Option PV->aa->Prop):Prop:=jc (d+1) [] c e (fun f a=>match f with
    |true=>cR (d+1) (.calM (.loc 1) 6 []) c a (fun v b=>K (some v) b) (fun _ _=>False)
    |false=>K none a) (fun _ _=>False)
theorem xf{P:List PV->aa->Prop}{vs:List PV}{ks:List Tk}(h:gv vs ks):∀(acc:List PV)(o v:Option PV),(Tk.other∉ks)->acc.length+vs.length<=3000->P (acc++ks.map DH) τ->dK (GD d) [1] vs [o,v] acc τ P:=by
 induction h with
 |nil=>intro acc o v _ _ p;rw[Rz,NB]at p;exact p
 |@cons w vs k ks h hs b=>
  intro acc o v i g p;have f:acc.length<aV:=Nf (M7 (Nn _ _) g) (by decide);have b:=fun a c j (e:DH k= .tup [a,c])=>b (acc++[.tup [a,c]]) o (some j) (fun z=>i (Ni _ z)) (by rw[M9,Oc,show [PV.tup [a,c]].length+vs.length=vs.length+1 from Ol 1 _];exact g) (by rw[Nk,←e];exact p);clear p g hs;cases h with
  |num=>exact⟨_,rfl,f,rfl,⟨_,rfl,y_ (b _ _ _ rfl)⟩⟩
  |name=>exact⟨_,rfl,f,rfl,⟨_,rfl,y_ (b _ _ _ rfl)⟩⟩
  |sign=>exact⟨_,rfl,f,rfl,⟨_,rfl,y_ (b _ _ _ rfl)⟩⟩
  |other=>exact absurd (Ng ..) i
  |fin=>exact⟨_,rfl,f,rfl,⟨_,rfl,y_ (b _ _ _ rfl)⟩⟩
theorem xg(row:List Lt):Tk.other∉row.map aZ++[Tk.fin]:=fun z=>by
 rcases List.mem_append.mp z with z|z
 .refine i_ z fun t _ e=>?_;cases t<;>cases e
 .cases z with|tail _ z=>cases z
theorem DI{K:QS}{X:QX}(c:List Lt):∀(bv:List Lt)(a12:Option PV),bv.length+c.length<=1000->(∀a12,K none (EL a0 a1 a2 a3 (some (.lst [.int s0,.int s1,.int s2,.int s3])) (some (.str here)) (some (.lst (row.map lv))) a7 a8 a9 (some (.str x)) (some (.ref a)) a12 a13 a14 a15 a16 a17 a18 a19 a20 a21 a22 a23 a24 a25 a26) (τ.upd a (.lst ((bv++c).map bU))))->
  bu (fun g σ K'=>ai d (ax cV 9) g σ K' X) [12] (c.map lv) (EL a0 a1 a2 a3 (some (.lst [.int s0,.int s1,.int s2,.int s3])) (some (.str here)) (some (.lst (row.map lv))) a7 a8 a9 (some (.str x)) (some (.ref a)) a12 a13 a14 a15 a16 a17 a18 a19 a20 a21 a22 a23 a24 a25 a26) (τ.upd a (.lst (bv.map bU))) K:=by
 induction c with
 |nil=>intro bv a12 _ k;rw[NB]at k;exact k _
 |cons t r ih=>
  intro bv a12 i k;have h:bv.length+r.length+1<=1000:=i;have e:(bv.map bU).length<aV:=by rw[Nb];exact Nf (M7 (Nn _ _) i) (by decide)
  have f:∀a12,bu (fun g σ K'=>ai d (ax cV 9) g σ K' X) [12] (r.map lv) (EL a0 a1 a2 a3 (some (.lst [.int s0,.int s1,.int s2,.int s3])) (some (.str here)) (some (.lst (row.map lv))) a7 a8 a9 (some (.str x)) (some (.ref a)) a12 a13 a14 a15 a16 a17 a18 a19 a20 a21 a22 a23 a24 a25 a26) ((τ.upd a (.lst (bv.map bU))).upd a (.lst (bv.map bU++[bU t]))) K:=fun a12=>by have z:=ih (bv++[t]) a12 (by rw[M9];show bv.length+1+_<=_;exact O3 _ _▸h) (by rw[Nk];exact k);rw[NG]at z;rw[aa.uU];exact z
  refine⟨_,rfl,?_⟩;cases t with
  |sg s=>exact⟨true,rfl,lJ (aa.uS ..) (by decide),cj (aa.uS ..) ⟨e,f _⟩⟩
  |num n=>exact⟨false,rfl,ah rfl (ak (b:=true) rfl ⟨lJ (aa.uS ..) (by decide),cj (aa.uS ..) ⟨e,f _⟩⟩)⟩
  |sym s=>exact⟨false,rfl,ah rfl (ak (b:=false) rfl ⟨lJ (aa.uS ..) (by decide),ah rfl (ak (b:=true) rfl (ah rfl (cj (aa.uS ..) ⟨e,f _⟩)))⟩)⟩
  |here=>exact⟨false,rfl,ah rfl (ak (b:=false) rfl ⟨lJ (aa.uS ..) (by decide),ah rfl (ak (b:=false) rfl (cj (aa.uS ..) ⟨e,f _⟩))⟩)⟩
theorem GE(j:340<=d)(c:∀t∈row,bN t)(i:row.length<=40)(p:Sp none row x)(q:x.length<=2000)(B:B4 s0 s1 s2 s3)(hh:here=[]\/here=[72]):
  ai d (cV.drop 11) (EL a0 a1 a2 a3 (some (.lst [.int s0,.int s1,.int s2,.int s3])) (some (.str here)) (some (.lst (row.map lv))) a7 a8 a9 (some (.str x)) a11 a12 a13 a14 a15 a16 a17 a18 a19 a20 a21 a22 a23 a24 a25 a26) τ KL XL:=by
 have r:eW 100 (row.map aZ)=some (cC row):=wI c (M7 (NL (Op 2 i) _) (by decide));have a:∀h,ai d (cV.drop 12) (EL a0 a1 a2 a3 (some (.lst [.int s0,.int s1,.int s2,.int s3])) (some (.str here)) (some (.lst (row.map lv))) a7 a8 a9 (some (.str x)) a11 a12 (some (tQ (cC row))) a14 a15 a16 a17 a18 a19 a20 a21 a22 a23 a24 a25 a26) h KL XL:=fun h=>by
  refine af.up (C3 (m:=100) (P:=fun o=>o=some (row.map aZ)) q (lW p c rfl) (fun e=>aj e) fun s l _=>?_) (M7 (by decide) j);injection l with z0;subst z0
  refine⟨_,r,?_⟩;cases e:cC row with
  |none=>exact ak (b:=true) rfl (ak (b:=true) rfl ⟨true,rfl,ak (b:=true) rfl A0⟩)
  |some T=>
   have n:aR [] false row=false:=by
    unfold cC at e;cases g:aR [] false row with
    |false=>rfl
    |true=>rw[g,Nd rfl]at e;exact aj e
   have u:ba row.length row=some T:=by unfold cC at e;rw[n,Na (by decide)]at e;exact e
   have G:=iX _ u;obtain⟨v,k⟩:=Ga G c;have L:Lv 1 0 (row.map aZ) T:=by
    rcases AR G c [] [] (.inl rfl)with L|f
    .exact L
    .rw[NB,n]at f;exact aK f
   refine ak (b:=isNone (tt T)) rfl ?_;rw[iW];refine ak (b:=isNone (tv T)) rfl ?_;rw[lS];refine tF (jL 60 T (M7 k (M7 i (by decide))) (by decide) ?_ |>.up (M7 (by decide) j));refine ak (b:=false) (by show(fK (tt T) (tt T) h).map (!·)=some false;rw[C4 (M7 k (M7 i (by decide))) (M7 k (M7 i (by decide))),xa];rfl) ?_;exact LK j v L (M7 k (M7 i (by decide))) B hh
 refine af.up (Lk (d:=0) (M7 i (by decide)) ?_) (M7 (by decide) j);cases g:aR [] false row with
 |true=>have e:cC row=none:=Nd g;rw[e]at a;exact⟨true,rfl,a _⟩
 |false=>refine⟨false,rfl,af.up (Lo row.length row τ τ (Nj _) (M7 i (by decide)) Le.rfl fun h _=>?_) (by lia)⟩;have e:cC row=ba row.length row:=Na (by rw[g];decide);rw[←e];exact a _
theorem LL(g:340<=d)(c:∀t∈row,bN t)(h:row.length<=40)(i:Sp none row x)(j:x.length<=2000)(B:B4 s0 s1 s2 s3)(hh:here=[]\/here=[72]):
  ai d (cV.drop 8) (EL a0 a1 a2 a3 (some (.lst [.int s0,.int s1,.int s2,.int s3])) (some (.str here)) (some (.lst (row.map lv))) a7 a8 a9 (some (.str x)) a11 a12 a13 a14 a15 a16 a17 a18 a19 a20 a21 a22 a23 a24 a25 a26) τ KL XL:=by
 match d,g with
 |d+1,g=>
 refine fun a m=>?_;refine⟨_,rfl,DI row [] a12 (by rw[Oa];exact M7 (NJ (N7 _)) (M7 h (by decide))) fun a12=>?_⟩;rw[O8];refine af.up (Ft (d:=0) (P:=fun o=>o=some (row.map aZ)) j (lW i c rfl) (fun e=>aj e) fun ks vs l k=>?_) (M7 (by decide) g);injection l with z0;subst z0
 have f:=k.len;rw[M9,Nb]at f;refine⟨_,rfl,xf k [] none none (xg row) (by rw[Oa,f];show 0+(row.length+1)<=3000;lia) ?_⟩;rw[O8,As];have hs:(PV.ref a).seen (τ.upd a (.lst (row.map bU)))= .lst (row.map bU):=bg (aa.uS ..);show dJ (ix ((PV.ref a).seen (τ.upd a (.lst (row.map bU))))) _;rw[hs];refine⟨by rw[Nb];show row.length+1<=aV;exact M7 (Nf h (by decide)) (show 1000<=aV by decide),?_⟩;refine ak (b:=false) ?_ (GE g c h i j B hh);show(fK (.lst (row.map bU++[.tup [.str ds,.str []]])) (.lst (row.map bU++[.tup [.str ds,.str []]])) (τ.upd a (.lst (row.map bU)))).map (!·)=some false;have e:fK (.lst (row.map bU++[.tup [.str ds,.str []]])) (.lst (row.map bU++[.tup [.str ds,.str []]])) (τ.upd a (.lst (row.map bU)))=some true:=by show(if(bd (row.map bU++[.tup [.str ds,.str []]]) 59&&bd (row.map bU++[.tup [.str ds,.str []]]) 59)=true then some (dX (row.map bU++[.tup [.str ds,.str []]]) (row.map bU++[.tup [.str ds,.str []]]))else _)=_;rw[At,xe];rfl
 rw[e];rfl
end
noncomputable def tP:List Lt:=[.sg [40],.sg [41],.sg [45],.sg [126],.sg [60,60],.sg [43],.sym [97]]
theorem DJ:∀t∈tP,bN t:=by
 intro t h;rcases h with _|⟨_,h⟩
 .exact .inr (.inr (.inl rfl))
 rcases h with _|⟨_,h⟩
 .exact .inr (.inr (.inr rfl))
 rcases h with _|⟨_,h⟩
 .exact .inl (by decide)
 rcases h with _|⟨_,h⟩
 .exact .inr (.inl (by decide))
 rcases h with _|⟨_,h⟩
 .exact .inl (by decide)
 rcases h with _|⟨_,h⟩
 .exact .inl (by decide)
 rcases h with _|⟨_,h⟩
 .exact(by decide:[97]∈bk)
 .cases h
noncomputable def ox:List (List Nat):=[[40],[45],[126],[33]]
theorem DK(h:s∈ox)(a:s≠[40]):s∈gP:=by
 have:∀s∈ox,s≠[40]->s∈gP:=by decide
 exact this s h a
theorem LM{vs:List PV}{i:Nat}{a:aa}(h:i<vs.length)(b:vs.length<=1000000):bl (.tup vs) (.int i) a=some vs[i]:=by show((kY (i:Int) vs.length).bind fun j=>vs[j]?)=_;rw[fW h b];show vs[i]? =_;rw[NA h]
section
variable{d n a:Nat}{σ:aa}{cl:PV}{cs:List Int}{a0 a1 a2 a3 a4 a5 a6 a7 a8 a9 a10 a11 a12 a13 a14 a15 a16 a17 a18 a19 a20 a21 a22 a23 a24 a25 a26:Option PV}{s0 s1 s2 s3:Int}{here:List Nat}{row:List Lt}
theorem A5(e:340<=d)(C:eY σ a cl cs)(i:n<=1000)(b:∀t∈row,bN t)(c:row.length<=40)(B:B4 s0 s1 s2 s3)(hh:here=[]\/here=[72]):
  ai d (cV.drop 7) (EL a0 a1 (some (.ref a)) a3 (some (.lst [.int s0,.int s1,.int s2,.int s3])) (some (.str here)) (some (.lst (row.map lv))) a7 a8 a9 a10 a11 a12 a13 a14 a15 a16 a17 a18 a19 a20 a21 a22 a23 a24 a25 a26) (σ.upd a (sr cl n)) KL XL:=by
 refine af.up (Lj (d:=0) C b (M7 c (by decide)) (by lia) fun x j f g h=>?_) (M7 (by decide) e);exact LL e b c g (M7 h (M7 (Op _ c) (by decide))) B hh
theorem A6(o:340<=d)(C:eY σ a cl cs)(x:n+10<=1000)(q:row≠[])(e:∀t∈row,bN t)(y:row.length<=39)(B:B4 s0 s1 s2 s3)(hh:here=[]\/here=[72]):
  ai d (cV.drop 6) (EL a0 a1 (some (.ref a)) a3 (some (.lst [.int s0,.int s1,.int s2,.int s3])) (some (.str here)) (some (.lst (row.map lv))) a7 a8 a9 a10 a11 a12 a13 a14 a15 a16 a17 a18 a19 a20 a21 a22 a23 a24 a25 a26) (σ.upd a (sr cl n)) KL XL:=by
 refine af.up (cW (d:=0) C (M7 (Nn ..) (M7 x (by decide))) (m:=4) (by decide) fun r H=>?_) (M7 (by decide) o);refine ec (a:=r) (b:=3) (fun _=>?_) fun _=>A5 o C (Nf (Nn ..) x) e (M7 y (by decide)) B hh;have l:(row.map lv).length=row.length:=Nb ..;have h0:0<row.length:=List.length_pos_iff.mpr q;refine af.up (cW (d:=0) C (by lia) (m:=(row.map lv).length) (l▸h0) fun c hs=>?_) (M7 (by decide) o);rw[l]at hs;refine af.up (cW (d:=0) C (by lia) (m:=3) (by decide) fun f K=>?_) (M7 (by decide) o);refine af.up (cW (d:=0) C (by lia) (m:=7) (by decide) fun u A=>?_) (M7 (by decide) o);have D:u<tP.length:=A;refine ah (LM (vs:=tP.map lv) (i:=u) (by rw[Nb];exact A) (by rw[Nb];decide)) ?_;rw[SA];have p:(row.map lv).length<=1000000:=M7 (NJ l) (M7 y (by decide));have hi:(row.map lv).drop c=lv row[c]::(row.drop (c+1)).map lv:=by rw[←R8,OZ hs];rfl
 have fin:∀ky:List Lt,(∀t∈ky,bN t)->ky.length<=2->oK (.lst ((row.take c).map lv)) (.lst (ky.map lv)) (σ.upd a (sr cl (n+1+1+1+1))) (fun v g=>∃w,fC (.lst (row.map lv)) (.int ((c:Int)+1)) .none g=some w/\oK v w g (fun v g=>ai d (cV.drop 7) (EL a0 a1 (some (.ref a)) a3 (some (.lst [.int s0,.int s1,.int s2,.int s3])) (some (.str here)) (some v) (some (lv tP[u])) (some (.int c)) (some (.int f)) a10 a11 a12 a13 a14 a15 a16 a17 a18 a19 a20 a21 a22 a23 a24 a25 a26) g KL XL)):=fun ky E F=>by
  refine⟨?_,ah (hH (row:=row) (i:=c+1) hs) ⟨?_,?_⟩⟩
  .rw[Nb,Nb,O1];exact M7 (show _<=1000 by lia) (by decide)
  .rw[M9,Nb,Nb,Nb,O1,Oe];exact M7 (show _<=1000 by lia) (by decide)
  .have z:=A5 (n:=n+1+1+1+1) (row:=row.take c++ky++row.drop (c+1)) (a0:=a0) (a1:=a1) (a3:=a3) (a7:=some (lv tP[u])) (a8:=some (.int c)) (a9:=some (.int f)) (a10:=a10) (a11:=a11) (a12:=a12) (a13:=a13) (a14:=a14) (a15:=a15) (a16:=a16) (a17:=a17) (a18:=a18) (a19:=a19) (a20:=a20) (a21:=a21) (a22:=a22) (a23:=a23) (a24:=a24) (a25:=a25) (a26:=a26) o C (by lia) (fun t j=>by
     rcases List.mem_append.mp j with j|j
     .rcases List.mem_append.mp j with j|j
      .exact e t (List.mem_of_mem_take j)
      .exact E t j
     .exact e t (List.mem_of_mem_drop j)) (by rw[M9,M9,O1,Oe];lia) B hh
   rw[NG,NG]at z;exact z
 refine ah (qY (row:=row) (i:=c) (NW hs)) ?_;refine ah (aU hi p) (ah (aU hi p) ?_);have s:f=0\/f=1\/f=2:=by lia
 rcases s with rfl|rfl|rfl
 .exact ah rfl (fin [] (fun t h=>(absurd h Nx)) (by decide))
 .exact ah rfl (fin [row[c],row[c]] (fun t h=>by
   have k:row[c]∈row:=OO _;cases h with
   |head=>exact e _ k
   |tail _ h=>cases h with
    |head=>exact e _ k
    |tail _ h=>cases h) (Nj _))
 .exact ah rfl (fin [tP[u]] (fun t h=>by
   cases h with
   |head=>exact DJ _ (OO _)
   |tail _ h=>cases h) (No rfl))
end
section
variable{d a:Nat}{σ:aa}{cl:PV}{cs:List Int}{a0 a1 a2 a3 a4 a5 a6 a7 a8 a9 a10 a11 a12 a13 a14 a15 a16 a17 a18 a19 a20 a21 a22 a23 a24 a25 a26:Option PV}{s0 s1 s2 s3:Int}{here:List Nat}
theorem Au(q:340<=d)(C:eY σ a cl cs)(B:B4 s0 s1 s2 s3)(hh:here=[]\/here=[72])(f:List PV):∀(row:List Lt)(n:Nat)(a3 a7:Option PV),n+f.length+20<=1000->row≠[]->(∀t∈row,bN t)->row.length+2*f.length<=39->bu (fun y σ K'=>ai d (iV (cV.drop 5) |> fun b=>ax b 0) y σ K' XL) [3] f (EL a0 a1 (some (.ref a)) a3 (some (.lst [.int s0,.int s1,.int s2,.int s3])) (some (.str here)) (some (.lst (row.map lv))) a7 a8 a9 a10 a11 a12 a13 a14 a15 a16 a17 a18 a19 a20 a21 a22 a23 a24 a25 a26) (σ.upd a (sr cl n)) (fun o h i=>match o with|some v=>KL (some v) h i|none=>ai d (cV.drop 6) h i KL XL):=by
 induction f with
 |nil=>exact fun row n a3 a7 j l g p=>A6 q C (by rw[Oa]at j;lia) l g (by rw[Oa]at p;exact p) B hh
 |cons v f w=>
  intro row n a3 a7 j l g p;rw[Nz]at j p;refine⟨_,rfl,af.up (cW (d:=0) C (by lia) (m:=4) (by decide) fun u x=>?_) (M7 (by decide) q)⟩;have A:u<ox.length:=x;refine ah (zn (ss:=ox) (r:=u) x (by decide)) ?_;refine eV (s:=ox[u]) (k:=[40]) (fun e=>?_) fun e=>?_
  .refine⟨?_,?_,?_⟩
   .rw[Nb];exact M7 (show _<=1000 by show 1+row.length<=1000;lia) (by decide)
   .rw[M9,Nb];exact M7 (show _<=1000 by show 1+row.length+1<=1000;lia) (by decide)
   .have z:=w (.sg [40]::(row++[.sg [41]])) (n+1) (some v) (some (.str ox[u])) (O3 _ _▸j) (NV _ _) (fun t c=>by
     cases c with
     |head=>exact .inr (.inr (.inl rfl))
     |tail _ c=>
      rcases List.mem_append.mp c with c|c
      .exact g t c
      .cases c with
       |head=>exact .inr (.inr (.inr rfl))
       |tail _ c=>cases c) (by rw[Nz,M9];show row.length+1+1+_<=39;lia)
    rw[NU,NG]at z;exact z
  .refine⟨?_,?_⟩
   .rw[Nb];exact M7 (show _<=1000 by show 1+row.length<=1000;lia) (by decide)
   .exact w (.sg ox[u]::row) (n+1) (some v) (some (.str ox[u])) (O3 _ _▸j) (NV _ _) (fun t c=>by
     cases c with
     |head=>exact .inr (.inl (DK (OO _) e))
     |tail _ c=>exact g t c) (by rw[Nz];lia)
theorem GF(f:340<=d)(C:eY σ a cl cs){n:Nat}{row:List Lt}(g:n+50<=1000)(c:row≠[])(e:∀t∈row,bN t)(h:row.length<=15)(B:B4 s0 s1 s2 s3)(hh:here=[]\/here=[72]):
  ai d (cV.drop 5) (EL a0 a1 (some (.ref a)) a3 (some (.lst [.int s0,.int s1,.int s2,.int s3])) (some (.str here)) (some (.lst (row.map lv))) a7 a8 a9 a10 a11 a12 a13 a14 a15 a16 a17 a18 a19 a20 a21 a22 a23 a24 a25 a26) (σ.upd a (sr cl n)) KL XL:=by
 refine af.up (cW (d:=0) C (M7 (Nn ..) (M7 g (by decide))) (m:=6) (by decide) fun r j=>?_) (M7 (by decide) f);refine ec (a:=r) (b:=5) (fun _=>?_) fun _=>A6 f C (by lia) c e (M7 h (by decide)) B hh;refine af.up (cW (d:=0) C (by lia) (m:=13) (by decide) fun k i=>?_) (M7 (by decide) f);refine⟨_,lQ (n:=k) (M7 (Nr i) (by decide)),?_⟩;exact Au f C B hh _ row _ a3 a7 (by rw[Nb,Ql];lia) c e (by rw[Nb,Ql];lia)
theorem A7(c:340<=d)(C:eY σ a cl cs):
  ai d (cV.drop 2) (EL a0 a1 (some (.ref a)) a3 a4 a5 a6 a7 a8 a9 a10 a11 a12 a13 a14 a15 a16 a17 a18 a19 a20 a21 a22 a23 a24 a25 a26) (σ.upd a (sr cl 0)) KL XL:=by
 refine⟨_,rfl,?_⟩;refine⟨_,rfl,by decide,af.up (cW (d:=0) C (by decide) (m:=2001) (by decide) fun g h0=>?_) (M7 (by decide) c)⟩;refine⟨_,rfl,No rfl,af.up (cW (d:=0) C (by decide) (m:=2001) (by decide) fun i p=>?_) (M7 (by decide) c)⟩;refine⟨_,rfl,No rfl,af.up (cW (d:=0) C (by decide) (m:=2001) (by decide) fun j q=>?_) (M7 (by decide) c)⟩;refine⟨_,rfl,No rfl,af.up (cW (d:=0) C (by decide) (m:=2001) (by decide) fun k s=>?_) (M7 (by decide) c)⟩;have f:∀r:Nat,r<2001->((r:Int)-1000).natAbs<2^60:=fun r h=>Nf (show _<=1001 by lia) (by decide);have B:B4 ((g:Int)-1000) ((i:Int)-1000) ((j:Int)-1000) ((k:Int)-1000):=⟨f g h0,f i p,f j q,f k s⟩
 have row:∀here,here=[]\/here=[72]->ai d (cV.drop 4) (EL a0 a1 (some (.ref a)) a3 (some (.lst [.int ((g:Int)-1000),.int ((i:Int)-1000),.int ((j:Int)-1000),.int ((k:Int)-1000)])) (some (.str here)) a6 a7 a8 a9 a10 a11 a12 a13 a14 a15 a16 a17 a18 a19 a20 a21 a22 a23 a24 a25 a26) (σ.upd a (sr cl 5)) KL XL:=fun here hh=>by refine af.up ((CP C 3 0 (by decide)).1 (n:=5) (by decide) fun r u l o=>?_) (M7 (by decide) c);have e:pO 3=38:=rfl;exact GF c C (M7 (NL l _) (by decide)) o.1 o.2.2 o.2.1 B hh
 refine af.up (cW (d:=0) C (by decide) (m:=3) (by decide) fun t v=>?_) (M7 (by decide) c);exact fX (a:=0) (b:=t) (fun _=>row [72] (.inr rfl)) fun _=>row [] (.inl rfl)
end
section
variable{d:Nat}{X:QX}
theorem Av{σ:aa}{P:List PV->aa->Prop}(e:List Int):∀(acc:List Int)(u v w:Option PV),acc.length+e.length<=1000->P ((acc++e).map .int) σ->dK (fun c f K=>jc d [] c f (fun j a=>match j with|true=>cR d (.calB .int [(.loc 1)]) c a (fun v b=>K (some v) b) (fun _ _=>False)|false=>K none a) (fun _ _=>False)) [1] (e.map .int) [u,v,w] (acc.map .int) σ P:=by
 induction e with
 |nil=>intro acc u v w _ p;rw[NB]at p;exact p
 |cons i r k=>intro acc u v w h p;have g:acc.length+r.length+1<=1000:=h;refine⟨_,rfl,by rw[Nb];exact Nf (M7 (Nn _ _) h) (by decide),?_⟩;have z:=k (acc++[i]) u (some (.int i)) w (by rw[M9];show acc.length+1+_<=_;exact O3 _ _▸g) (by rw[Nk];exact p);rw[NG]at z;exact z
theorem LN(i:340<=d){b:List Int}:af (d+1) (.ref 924) [.lst (b.map .int)] aa.nil QL (fun _ _=>False):=by
 apply Ke;have j:fC (.lst (b.map .int)) .none (.int 60) aa.nil=some (.lst ((b.take 60).map .int)):=by
  show some (PV.lst (((b.map .int).drop 0).take (O5 (b.map PV.int).length ((60:Nat):Int)-0)))=_;rw[cJ,RZ,Vy,Ti,Nb]
  congr 2
  by_cases h:60<=b.length
  .rw[OL h]
  .rw[Rv (Qy h),OT (by rw[Nb];exact Nj _),OT (by rw[Nb];exact Qy h)]
 have f:(b.take 60).length<=60:=by rw[O1];exact QN _ _
 refine ah j ⟨_,rfl,Av (b.take 60) [] none none none (by rw[Oa];exact M7 (NJ (N7 _)) (M7 f (by decide))) ?_⟩;rw[O8];generalize b.take 60=cs at f
 match cs,f with
 |[],_=>
  refine⟨false,rfl,fun a1 l a g=>⟨rfl,?_⟩⟩;have k:a≠a1:=fun e=>by rw[e,aa.uS]at g;exact bb g
  exact A7 (σ:=aa.nil.upd a1 (.lst [.int 0])) (cl:= .ref a1) (cs:=[0]) i ⟨by decide,by decide,fun m=>bg (by rw[aa.uN _ _ (NZ k),aa.uS];rfl)⟩
 |c::cs,f=>refine⟨true,rfl,fun a g=>⟨rfl,?_⟩⟩;exact A7 (σ:=aa.nil) (cl:= .lst ((c::cs).map .int)) (cs:=c::cs) i ⟨Oh _,M7 f (by decide),fun m=>rfl⟩
end
set_option tactic.hygienic true
theorem DL(P:Np):OB (gj P) "law"=some (.ref 924):=by kernel_rfl
theorem DM{h:Om}{m e:Str->Option M_}(x:h.Ns a m)(y:h.Ns a e)(n:Str):m n=e n:=by
 apply bc;intro f;obtain⟨o,es,p,g,i,_,j⟩:=x;obtain⟨o',k,l,b,c,_,d⟩:=y;apply f;rw[g]at b;injection b with z0;subst z0
 rw[i]at c;injection c with z0 z1;subst z0 z1
 rw[←j,←d]
theorem Aw{P:Np}{fz:Fz}{ws:List M_}{a:List Int}(h:IntsAre ws a):aL P fz (a.map .int) ws:=by
 induction h with
 |nil=>exact .nil
 |cons n t _ b=>exact .cons (.int n t) b
theorem DN:WalkX qw eE (fun _ _=>True) GH GI rl.row.toRowW b_.1 b_.2 fun f vs=>PySem.call f vs:=by
 intro w i s₁ mg mb G y O o pm cd Q dV kV V Y m Z n hg K vals as L j k p t u;have y1:i.heap=H1 w.params:=Nw Prod.fst y;have l:=L.keeps;have a2:=L.os;clear Y m Z V
 wrow_args j k p t u
 rename_i A q1 q2 q3 q4 q5 p4 p3 a ws p0 hL ra w1 r0 hI hr c1 c2;have D:=PySem.W.X.script_obj L hL
 let C:Cx:=⟨w,s₁.heap,fun b o h=>l b o (by rw[y1];exact h)⟩
 have M:aw C aa.nil (fun b=>s₁.heap.get? b) [] s₁.heap:=⟨fun _ _ h=>h,fun _ _ h=>h,fun _ h=>absurd h Nx,fun _ _ h=>aj h⟩
 have E:O=924:=by have e:=(DM G.T.g (xZ M) b_.1.name).symm.trans n;have e2:OB (gj C.P) b_.1.name=some (.ref 924):=DL C.P;rw[e2]at e;cases e;rfl
 subst E;have F:rM callerA [] 341:=⟨rfl,⟨[],rfl,rfl,fun _ h=>(absurd h Nx)⟩,by decide,by decide⟩
 have hl:fa (A.map PV.int):=by unfold fa;rw[Nb];exact M7 (show A.length<=63 by omega) (by decide)
 have hv:aL C.P (fun b=>s₁.heap.get? b) [.lst (A.map .int)] [.ref a]:= .cons (.lst D hl (Aw hI)) .nil;refine Nq (gu (C:=C) (s:=s₁) (vals:=[.ref a]) F M hv (LN (d:=340) (Nj _))) (fun v s' h=>?_) fun e s' h=>?_
 .obtain⟨b,H,fz',g,r,q⟩:=h;have q:b= .bool true:=q;subst q;cases r;refine⟨.inl ⟨_,.bool true,[],rfl,fun cls=>rfl,.bool true,?_,fun _=>⟨Q6,fun _ h=>(absurd h Nx)⟩⟩,OldK.of_keep fun b o h=>g.stp.keep b o h rfl fun z=>(absurd z Nx),g.stp.os,AllBare.of_eq (g.stp.gens.trans hg)⟩
  wrow_post
 .obtain⟨c,H,fz',g,x,q⟩:=h;exact q.elim
theorem done:rl.Holds:=xq DN
end Mine.Tactic
theorem PySem.Challenge.cw_nn0067_01_holds : PySem.Challenge.rw_nn0067_01.Holds :=
  Mine.Tactic.done
