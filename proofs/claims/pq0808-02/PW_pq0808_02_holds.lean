import PyProof.Rows.All
import Wide.All
import OpenK.AllK
import Wide.FinOn
import KE.KRevIter
import PyProof.ExcInit
import PyProof.ExcBaseAll.Exception
import KE.KIsAll
import KE.BytesMake
import KE.KDictOf
import KE.KBytesWalk
import PySem.Challenge.RW_pq0808_02
set_option Elab.async false
set_option genSizeOf false
set_option genSizeOfSpec false
set_option genInjectivity false
set_option bootstrap.genMatcherCode false
set_option tactic.hygienic false
set_option linter.unusedVariables false
set_option linter.unusedSimpArgs false
set_option maxRecDepth 100000
open And renaming intro→Rf
open Array renaming getElem?_eq_some_iff→BQ,find?_toList→QC,length_toList→aif
open Bool renaming and_eq_true_iff→e5,and_eq_true→e6,rec→nq,false_eq_true→vt,or_eq_true_iff→G4,or_eq_true→G7,not_eq_true'→He,false_ne_true→Qc,and_true→Qz,true_and→Rl,and_eq_false_iff→aiI
open False renaming elim→ey
open ForInStep renaming yield→G'
open HAdd renaming hAdd→P9
open Int renaming reduceOfNat→ca,reduceNegSucc→cb,lt_of_lt_of_le→fI,fmod→fJ,le_trans→hc,natCast_nonneg→jt,fdiv→kN,gcd→kQ,not_lt→ly,lt_of_le_of_lt→lz,zero_add→mj,ofNat_le→ml,le_antisymm→np,ofNat_lt→nr,fmod_eq_emod_of_nonneg→nv,fdiv_eq_ediv_of_nonneg→nx,mul_assoc→ot,natCast_mul→ou,le_of_lt→ov,mul_le_mul_of_nonneg_left→ow,one_mul→rh,ofNat→ri,sign_eq_one_of_pos→rz,mul_one→rB,add_zero→s6,mul_ne_zero→tr,eq_ofNat_of_zero_le→ts,emod_nonneg→tt,emod_lt_of_pos→tu,mul_comm→vl,le_of_eq→vm,le_of_lt_add_one→vo,zero_mul→xX,ediv_nonneg→x',natAbs_mul→ym,add_mul→Bx,mul_zero→By,le_refl→Bz,not_le→BB,sign_eq_neg_one_of_neg→B1,pow_pos→B2,min_eq_left→B4,min_eq_right→B5,mul_add→GB,natAbs_of_nonneg→GC,toNat→GD,ne_of_gt→GF,toNat_of_nonneg→GG,mul_ediv_cancel_left→Hl,fdiv_eq_ediv_of_dvd→Hm,sub_self→Hp,natCast_pow→Hr,le_max_right→Hs,dvd_of_emod_eq_zero→Hu,neg_one_mul→P',rec→Qb,lt_or_eq_of_le→Qd,toNat_le→Qs,natAbs_add_le→RD,pow_succ→RE,natCast_ediv→RF,neg_ediv_of_dvd→RG,ediv_le_self→RJ,max_eq_right→RM,max_eq_left→RN,toNat_lt→RS,sign_mul→RZ,add_assoc→agV,natCast_add→agW,neg_mul→agX,sub_nonneg→agY,mul_nonneg→agZ,negSucc_lt_zero→ag0,dvd_trans→ag1,add_emod_right→ag3,add_comm→ag6,ediv_lt_of_lt_mul→ahL,sub_eq_add_neg→aip,gcd_dvd_right→aiu,lt_trichotomy→aiv,natAbs_natCast→aix,gcd_comm→aiy,neg_dvd→aiz,ediv_neg→aiA,lt_iff_le_and_ne→aiB,pow_ne_zero→aiJ,ediv_ediv_of_nonneg→aiK,toNat_natCast→aiL,ediv_eq_zero_of_lt→aiN,zero_sub→aiX,le_min→ai4,min_le_right→ai5,le_total→ai6,le_max_left→aje,emod_eq_zero_of_dvd→ajg,dvd_neg→ajh,dvd_refl→aji,mul_ediv_mul_of_pos_left→ajj,ne_of_lt→ajm
open Int.ofNat renaming inj→Qg
open List renaming length_map→bV,replicate→d0,mem_cons→eR,length_append→fa,range→fK,append_nil→gj,getElem?_eq_getElem→gY,mem_append→hA,map_append→h8,zipWith→iw,size_toArray→i3,map_cons→i4,mem_map→i5,nil_append→i6,getElem?_eq_some_iff→j7,mem_of_getElem?→j8,all_eq_true→kL,length_cons→kP,getElem_mem→kR,getD_eq_getElem?_getD→lA,length_singleton→lE,map_map→lG,rec→mi,length→mu,mem_range→mw,append_assoc→oy,cons_append→oI,getElem?_map→p1,length_eq_zero_iff→p5,length_replicate→p6,getElem?_append_left→rx,getElem?_of_mem→s7,replicate_succ→s',nodup_cons→tb,lookup_cons→tm,getElem?_append_right→to,mem_map_of_mem→vw,not_mem_nil→vB,flatMap_cons→vJ,map→vK,mem_append_left→ye,length_range→yq,map_congr_left→BR,length_take→B6,map_replicate→B9,flatten_cons→GO,nodup_append→Ha,mem_append_right→Hb,drop_eq_getElem_cons→Hj,eq_of_mem_replicate→Ht,range'→Hw,range_eq_range'→Hx,length_range'→Hz,mem_singleton→Qa,forIn_nil→Q9,getElem?_cons_succ→Rd,getElem?_eq_none→Ri,map_nil→RO,range_succ_eq_map→RP,getElem?_zipWith→RY,mem_of_mem_take→R0,getElem_inj→ag9,foldl→ahb,flatten_replicate_nil→ahc,any_cons→ahg,drop_drop→ahK,of_mem_zip→ah1,pairwise_map→ah2,getElem?_zip_eq_some→ah4,map_fst_zip→ah5,mem_zipIdx→ah6,filterMap_cons_some→ah7,drop_of_length_le→ail,take_append_drop→aiT,getElem_map→aiU,take→ai9,append_inj'→ajb,mem_filter→ajf,map_take→ajk,length_drop→ajl
open List.Pairwise renaming imp_of_mem→ah3,map→alh
open List.cons renaming inj→vz
open Nat renaming le_trans→aP,beq→bE,le_add_left→ei,le_of_eq→gw,le_of_ble_eq_true→gX,ble→hB,sub_add_cancel→il,le_add_right→io,blt→iq,le_refl→i2,mul_le_mul_left→mm,lt_of_le_of_lt→mn,zero_le→mv,sub_le→ox,eq_of_beq_eq_true→oz,lt_or_ge→oF,le_of_succ_le_succ→pV,mul_le_mul→rn,succ_le_succ→tj,le_antisymm→vn,ne_of_lt→vy,lt_of_lt_of_le→vG,add_comm→vI,add_le_add_left→xY,lt_succ_self→yd,mul_succ→yn,add_le_add_right→BA,lt_of_succ_lt_succ→BC,not_lt→BP,le_succ→BY,rec→GA,ne_of_gt→GH,le_of_sub_eq_zero→GI,le_of_lt→GJ,lt_irrefl→GN,zero_add→Hk,sub_self→Hq,min_le_left→Hv,sub_eq_zero_of_le→Hy,sub_sub→Qe,sub_lt→Qh,sub_pos_of_lt→Qi,lt_succ_of_lt→Qj,lt_of_lt_of_eq→Qk,ble_eq_true_of_le→Qp,lt_trans→Qq,add_le_add→Qt,add→Rx,add_assoc→RU,one_le_pow→RV,le_of_add_le_add_right→ag2,one_pos→ag4,lt_succ_of_le→ag5,le_of_succ_le→ag7,succ_lt_succ→ag8,min_eq_left→ahY,succ_pos→aie,beq_eq→aih,add_right_comm→aim,pow_le_pow_right→ain,pow_succ→aio,log2_lt→aiq,mul_le_mul_right→ais,mul_comm→aiM,add_sub_cancel_left→ai2,add_lt_add→ai7,le_succ_of_le→ai8,reduceAdd→aja
open Nat.succ renaming inj→ahE
open Ne renaming symm→oG
open Option renaming none→dc,map_eq_some_iff→mq,isSome_iff_exists→tn,map_some→BJ,getD_some→Q',rec→aha,bind_eq_some_iff→ahJ
open Option.some renaming inj→bQ
open Prod renaming snd→vL
open Prod.mk renaming inj→Hg,injEq→aia
open PyProof.Rows renaming seen→kS,IntsAre→x0,tail_any→x8,IsTup→GQ,add_int→akX,floordiv_int→akY,mod_int'→akZ,pow_int→ak0,lshift_int_small→ak1,rshift_int→ak2,or_int→ak3,and_int→ak4
open PySem renaming Value→Λ,Expr→Υ,Addr→ε,Str→φ,Shared→ah,wpAny→aB,wpAny_bind→aI,Pos→bo,Env→bx,Heap→bK,wpAny_mono→bR,wpAny_pure→cy,Obj→cU,Params→dF,Sem→dP,Stmt→ed,NameKind→ez,valueAt→eS,World→e4,Scope→fX,Around→gh,rawInt→gi,Program→he,sizeLine_eq→hC,assign→hD,codeAny→ip,isTrue→iu,execs→iv,cLine→i1,CmpOp→ju,wpAny_of_eq→jx,recursionLimit→j6,Result→j9,compareOp→j',model→kM,mainGlobals→lC,sysModules→mo,wpAny_standAt→mr,Tok→nt,assignEach→nu,wpAny_holding→oB,starEach→oC,allTrue→oD,pyIter→oE,wpAny_field→pY,noteFrame→pZ,notedBy→p0,swapsWith→p2,callEnvC→p3,treeTable→p4,Model→rj,builtinsNs→rk,Operator→rm,Comprehension→rq,backTo→ru,letOwnedTupleGo→rv,foldedSetIterable→ry,OsState→s8,callWith→td,backToKw→te,keywordEach→tf,Flow→tp,bindArgs→tq,IntMulOk→vr,getMethod→vx,compTurn→vA,cellsFrom→vE,markedEach→x9,call→ya,IsPair→yb,compPost→yf,bindName→yg,FuncData→yh,BindsTo→yi,Arguments→yj,importedModules→yk,wpAny_execs_cons→yl,nsFind→BD,bootBuiltins→BE,wpAny_call→BF,binaryOp→BH,call_meets→BI,stored→BK,getMethod_builtin→BM,assignInOrder→BN,pyNext→BO,addrs→BS,bindL→BU,bindC→BV,codeAny_mono→GL,Keyword→GR,strKind_is→GS,findBy→GW,wpAny_release→GZ,strPairs→G6,Builtin→G8,leaving→G9,swappedStores→Hc,interactive→Hd,UniqKeys→Ql,intKind→Qm,sizeLine→Qr,getItem→QB,getAttr→QD,wpAny_loadPart→QE,wpAny_nsSet1→QF,wpAny_lookBehind→QG,pastItsLine_dict→QH,call_meetsIn→QL,importBound→QM,attributeBase→QO,wpAny_mkInt→QR,wpAny_newList→QS,testChain→QT,wpAny_bindName→QU,callWith_type→QW,IsRange→QX,codeAny_of_tree→QZ,plainId_quiet→Q1,wpAny_specialOf→Q3,wpAny_rule→Q5,wpAny_setField→Q6,setFlight→Q7,passOn→Q8,compEnvC→Ra,comprehension→Rb,newList→Rc,wpAny_tests_nil→Rg,foldedForSure→Rj,constantsAlone→Rk,wpAny_ite_split→Ry,wpAny_typeOf→Rz,ItemsOf→RA,bm_if_false→RB,slot_list_getitem→ahj,slot_dict_getitem→ahk,wpAny_getItem_of→ahl,slot_list_setitem→ahn,wpAny_call_entry→aho,wpAny_setItem_pairs→ahq,list_append→aht,methodCallForm→ahy,wpAny_loadName_local→ahB,arm_eval_UnaryOp→ahC,wpAny_Dict_empty→ahF,markedBehindIn→ahG,letTemporaryGo→ahI,wpAny_pyIter_zip→ahO,isSubtype_type→ahP,wpAny_newObj_type→ahQ,checkBuiltinCall→ahR,codeAny_builtin→ahT,wpAny_Expr_any→ah0,codeAny_call_builtin→aib,wpAny_loadPart_at→aid,callType_codes→aij,wpAny_Return_some→ajn
open PySem.Around renaming under_plainId→ahU
open PySem.AutoSeq1 renaming list_extend_list_list_0→ale
open PySem.BoolOp renaming And→ahH
open PySem.Builtin renaming iter→bN,bitAnd→xZ,bitOr→BG,bitNot→B3,divisionGoesByPylong→Qo
open PySem.Builtin.BaseException renaming bexcPut→alk
open PySem.Builtin.Int renaming intBits→s9
open PySem.Builtin.List renaming listExtendWith→Hi,listTooLong→ahe,listLengthHint→aii,listItems→aik,listFitsIndex→akW,listSubscript?→ald,listSameRef→alm,listUpdate→aln
open PySem.Builtin.Range renaming rangeFitsLong→ti,rangeSize→QV,small→ahM,rangeFields→alg
open PySem.Calls renaming spliced_cons→BL,spliced_nil→G1,Name_function_global→G5,loadGlobal_global→QP,loadGlobal_builtin→QQ
open PySem.Challenge renaming rw_pq0808_02→Hf,pw_pq0808_02→Rm
open PySem.Env renaming kindOf→ms
open PySem.EqNone renaming eq_none_none→ak5,eq_none_int→ak6,eq_int_none→ak7,ne_none_none→ak8,ne_none_int→ak9,ne_int_none→ala
open PySem.Expr renaming casesOn→ahi,Call→ali,Name→alj
open PySem.F renaming slot_dict_get→G3,excBase_Exception→Hh,slot_list_append→QK,plainAttrs_dict→QN,slot_range_reversed→QY,bm_called→RC,slot_int_rmul→ahd,entry_list_append→ahr,args_list_append_2→ahs,slot_list_extend→ahv,entry_dict_get→ahw,slot_dict_update→ahx,type_dict_get→ahz,plainAttrs_list→ahA,plain_reversed_new→ahS
open PySem.Flow renaming next→ahZ
open PySem.Heap renaming get?_push_of_some→hg,lt_size→jv,get?_push_size→kO,get?_update_self→tc,SameBut→vp,dictOf_iff→vu,get?_update_other→yc,size_push→QJ,get?_update_ne→ahu
open PySem.Heap.DictOf renaming new→alf
open PySem.Heap.SameBut renaming update→ahp
open PySem.IsRange renaming new→ahN
open PySem.NameKind renaming free→vC
open PySem.Obj renaming mapSeq→pX,isFreed_of_dict→Qn,mapFields→ahV,data_mapFields→ahW
open PySem.P renaming neg_int→ahD
open PySem.PyData renaming eqvAll→rp,eqv→x1,tuple→GP,canLayAll0→Qu,canLay0→Qw,depthAll→Qx,depth→Qy,keyHash→ah9
open PySem.ScopeKind renaming function→vD
open PySem.SeqAt renaming compareNe_shaped→QA,compareEq_shaped→ahh
open PySem.SeqAt.RcNeAt renaming lists_lengths→alb
open PySem.Str renaming ofString→G0,length_append→ahf
open PySem.Value renaming ref→th,none→tl,type→BX,builtin→Q4
open PySem.W renaming findIn→h7,cellAt→ka,instObj→lB,emptyDict→lD,fnOf→oH,keepIn→pW,typeIs_bytes→rt,Frag→vq,boot_heap→vF,codeIn→BW,kia_one→BZ,handedIn→GK,hasDictIn→GU,typeIn→GV,any_some→GX,looks_clsIn→GY,callWith_of→G2,looks_findIn→QI,codeRec_of→Rh,behindTheImports→Rn,topStub→Ro,staticsOk→Rq,namesBound→Rr,gensDone→Rs,laidKept→Rt,openSeen→Ru,openGood→Rv,topFrom→Rw
open PySem.W.FB renaming slot_bytes_getitem→alc
open PySem.W.Fast renaming te14364793385576792824→Rp
open PySem.W.Ground renaming X→ajo
open PySem.W.Looks renaming of_pure→aic
open PySem.Within renaming cons→ahm
open Rat renaming divInt→c8,divInt_eq_div→lF,not_lt→rA,one_mul→rC,divInt_ofNat→vH,zero_add→yo,num_divInt_den→yp,intCast_mul→yr,sub_eq_add_neg→B7,mul_assoc→B8,intCast_sub→Ca,div_def→Hn,intCast_add→HA,divInt_mul_divInt→RH,ext→RI,div_lt_iff→RK,divInt_mul_right→RL,add_zero→RQ,zero_mul→RR,intCast_eq_zero_iff→RT,pow_zero→RW,pow_succ→RX,num_divInt→ait,den_divInt→aiw,add_def'→aiC,sub_def'→aiD,mul_def'→aiE,num_eq_zero→aiF,lt_iff→aiG,sub_add_cancel→aiH,div_mul_cancel→aiO,intCast_lt_intCast→aiP,le_refl→aiQ,divInt_mul_left→aiR,den_pow→aiS,neg_num→aiV,neg_den→aiW,add_comm→aiY,le_iff_sub_nonneg→aiZ,mul_one→ai0,lt_div_iff→ai1,mul_comm→ai3,intCast_pos→ajc,intCast_pow→ajd
open _root_ renaming List→I,Int→J,Nat→Y,Option→ξ,Rat→ai,False→aK,Bool→aQ,if_neg→bL,if_pos→cz,congrArg→cE,beq_iff_eq→d5,Unit→gx,String→hh,UInt8→h5,Array→h6,decide_eq_true→jw,DecidableEq→oA,True→rl,decide_eq_false→ro,if_true→rr,if_false→ta,decide_eq_true_eq→vv,Decidable→B0,decide_eq_false_iff_not→Ho,bne_self_eq_false→ahX,beq_self_eq_true→ah8,of_decide_eq_true→air
open PySem PySem.W PySem.Calls PyProof.Rows
namespace Mine.Internal
theorem aa{G:Prop}{ο τ:Prop}(h:ο/\τ)(k:ο->τ->G):G:=k h.1 h.2
theorem a8.{ao}{ae:Sort ao}{G:Prop}{ο:ae->Prop}(h:∃Β,ο Β)(k:∀Β,ο Β->G):G:=h.elim λΒ h=>k Β h
theorem e7{G:Prop}{ο τ ap:Prop}(h:ο/\τ/\ap)(k:ο->τ->ap->G):G:=k h.1 h.2.1 h.2.2
theorem ψ.{ao}{ae:Sort ao}{G:Prop}{ο τ:ae->Prop}(h:∃Β,ο Β/\τ Β)(k:∀Β,ο Β->τ Β->G):G:=h.elim λΒ h=>k Β h.1 h.2
theorem ys.{ao,aJ}{ae:Sort ao}{ax:Sort aJ}{G:Prop}{ο:ae->ax->Prop}(h:∃Β,∃x2,ο Β x2)(k:∀Β x2,ο Β x2->G):G:=h.elim λΒ h=>h.elim λx2 h=>k Β x2 h
theorem lH{G:Prop}{ο τ ap aS:Prop}(h:ο/\τ/\ap/\aS)(k:ο->τ->ap->aS->G):G:=k h.1 h.2.1 h.2.2.1 h.2.2.2
theorem ix.{ao}{ae:Sort ao}{G:Prop}{ο τ ap:ae->Prop}(h:∃Β,ο Β/\τ Β/\ap Β)(k:∀Β,ο Β->τ Β->ap Β->G):G:=h.elim λΒ h=>k Β h.1 h.2.1 h.2.2
theorem gy.{ao,aJ}{ae:Sort ao}{ax:Sort aJ}{G:Prop}{ο τ:ae->ax->Prop}(h:∃Β,∃x2,ο Β x2/\τ Β x2)(k:∀Β x2,ο Β x2->τ Β x2->G):G:=h.elim λΒ h=>h.elim λx2 h=>k Β x2 h.1 h.2
theorem yt.{ao,aJ,bf}{ae:Sort ao}{ax:Sort aJ}{a7:Sort bf}{G:Prop}{ο:ae->ax->a7->Prop}(h:∃Β,∃x2,∃x3,ο Β x2 x3)(k:∀Β x2 x3,ο Β x2 x3->G):G:=h.elim λΒ h=>h.elim λx2 h=>h.elim λx3 h=>k Β x2 x3 h
theorem yu{G:Prop}{ο τ ap aS bw:Prop}(h:ο/\τ/\ap/\aS/\bw)(k:ο->τ->ap->aS->bw->G):G:=k h.1 h.2.1 h.2.2.1 h.2.2.2.1 h.2.2.2.2
theorem rD.{ao}{ae:Sort ao}{G:Prop}{ο τ ap aS:ae->Prop}(h:∃Β,ο Β/\τ Β/\ap Β/\aS Β)(k:∀Β,ο Β->τ Β->ap Β->aS Β->G):G:=h.elim λΒ h=>k Β h.1 h.2.1 h.2.2.1 h.2.2.2
theorem fb.{ao,aJ}{ae:Sort ao}{ax:Sort aJ}{G:Prop}{ο τ ap:ae->ax->Prop}(h:∃Β,∃x2,ο Β x2/\τ Β x2/\ap Β x2)(k:∀Β x2,ο Β x2->τ Β x2->ap Β x2->G):G:=h.elim λΒ h=>h.elim λx2 h=>k Β x2 h.1 h.2.1 h.2.2
theorem rE.{ao,aJ,bf}{ae:Sort ao}{ax:Sort aJ}{a7:Sort bf}{G:Prop}{ο τ:ae->ax->a7->Prop}(h:∃Β,∃x2,∃x3,ο Β x2 x3/\τ Β x2 x3)(k:∀Β x2 x3,ο Β x2 x3->τ Β x2 x3->G):G:=h.elim λΒ h=>h.elim λx2 h=>h.elim λx3 h=>k Β x2 x3 h.1 h.2
theorem ajp.{ao,aJ,bf,cm}{ae:Sort ao}{ax:Sort aJ}{a7:Sort bf}{bO:Sort cm}{G:Prop}{ο:ae->ax->a7->bO->Prop}(h:∃Β,∃x2,∃x3,∃x4,ο Β x2 x3 x4)(k:∀Β x2 x3 x4,ο Β x2 x3 x4->G):G:=h.elim λΒ h=>h.elim λx2 h=>h.elim λx3 h=>h.elim λx4 h=>k Β x2 x3 x4 h
theorem rF{G:Prop}{ο τ ap aS bw cD:Prop}(h:ο/\τ/\ap/\aS/\bw/\cD)(k:ο->τ->ap->aS->bw->cD->G):G:=k h.1 h.2.1 h.2.2.1 h.2.2.2.1 h.2.2.2.2.1 h.2.2.2.2.2
theorem ajq.{ao}{ae:Sort ao}{G:Prop}{ο τ ap aS bw:ae->Prop}(h:∃Β,ο Β/\τ Β/\ap Β/\aS Β/\bw Β)(k:∀Β,ο Β->τ Β->ap Β->aS Β->bw Β->G):G:=h.elim λΒ h=>k Β h.1 h.2.1 h.2.2.1 h.2.2.2.1 h.2.2.2.2
theorem oJ.{ao,aJ}{ae:Sort ao}{ax:Sort aJ}{G:Prop}{ο τ ap aS:ae->ax->Prop}(h:∃Β,∃x2,ο Β x2/\τ Β x2/\ap Β x2/\aS Β x2)(k:∀Β x2,ο Β x2->τ Β x2->ap Β x2->aS Β x2->G):G:=h.elim λΒ h=>h.elim λx2 h=>k Β x2 h.1 h.2.1 h.2.2.1 h.2.2.2
theorem gz.{ao,aJ,bf}{ae:Sort ao}{ax:Sort aJ}{a7:Sort bf}{G:Prop}{ο τ ap:ae->ax->a7->Prop}(h:∃Β,∃x2,∃x3,ο Β x2 x3/\τ Β x2 x3/\ap Β x2 x3)(k:∀Β x2 x3,ο Β x2 x3->τ Β x2 x3->ap Β x2 x3->G):G:=h.elim λΒ h=>h.elim λx2 h=>h.elim λx3 h=>k Β x2 x3 h.1 h.2.1 h.2.2
theorem ajr.{ao,aJ,bf,cm}{ae:Sort ao}{ax:Sort aJ}{a7:Sort bf}{bO:Sort cm}{G:Prop}{ο τ:ae->ax->a7->bO->Prop}(h:∃Β,∃x2,∃x3,∃x4,ο Β x2 x3 x4/\τ Β x2 x3 x4)(k:∀Β x2 x3 x4,ο Β x2 x3 x4->τ Β x2 x3 x4->G):G:=h.elim λΒ h=>h.elim λx2 h=>h.elim λx3 h=>h.elim λx4 h=>k Β x2 x3 x4 h.1 h.2
theorem vM.{ao,aJ,bf,cm,cF}{ae:Sort ao}{ax:Sort aJ}{a7:Sort bf}{bO:Sort cm}{c3:Sort cF}{G:Prop}{ο:ae->ax->a7->bO->c3->Prop}(h:∃Β,∃x2,∃x3,∃x4,∃x5,ο Β x2 x3 x4 x5)(k:∀Β x2 x3 x4 x5,ο Β x2 x3 x4 x5->G):G:=h.elim λΒ h=>h.elim λx2 h=>h.elim λx3 h=>h.elim λx4 h=>h.elim λx5 h=>k Β x2 x3 x4 x5 h
theorem R1{G:Prop}{ο τ ap aS bw cD ep:Prop}(h:ο/\τ/\ap/\aS/\bw/\cD/\ep)(k:ο->τ->ap->aS->bw->cD->ep->G):G:=k h.1 h.2.1 h.2.2.1 h.2.2.2.1 h.2.2.2.2.1 h.2.2.2.2.2.1 h.2.2.2.2.2.2
theorem HB.{ao}{ae:Sort ao}{G:Prop}{ο τ ap aS bw cD:ae->Prop}(h:∃Β,ο Β/\τ Β/\ap Β/\aS Β/\bw Β/\cD Β)(k:∀Β,ο Β->τ Β->ap Β->aS Β->bw Β->cD Β->G):G:=h.elim λΒ h=>k Β h.1 h.2.1 h.2.2.1 h.2.2.2.1 h.2.2.2.2.1 h.2.2.2.2.2
theorem oK.{ao,aJ}{ae:Sort ao}{ax:Sort aJ}{G:Prop}{ο τ ap aS bw:ae->ax->Prop}(h:∃Β,∃x2,ο Β x2/\τ Β x2/\ap Β x2/\aS Β x2/\bw Β x2)(k:∀Β x2,ο Β x2->τ Β x2->ap Β x2->aS Β x2->bw Β x2->G):G:=h.elim λΒ h=>h.elim λx2 h=>k Β x2 h.1 h.2.1 h.2.2.1 h.2.2.2.1 h.2.2.2.2
theorem yv.{ao,aJ,bf}{ae:Sort ao}{ax:Sort aJ}{a7:Sort bf}{G:Prop}{ο τ ap aS:ae->ax->a7->Prop}(h:∃Β,∃x2,∃x3,ο Β x2 x3/\τ Β x2 x3/\ap Β x2 x3/\aS Β x2 x3)(k:∀Β x2 x3,ο Β x2 x3->τ Β x2 x3->ap Β x2 x3->aS Β x2 x3->G):G:=h.elim λΒ h=>h.elim λx2 h=>h.elim λx3 h=>k Β x2 x3 h.1 h.2.1 h.2.2.1 h.2.2.2
theorem oL.{ao,aJ,bf,cm}{ae:Sort ao}{ax:Sort aJ}{a7:Sort bf}{bO:Sort cm}{G:Prop}{ο τ ap:ae->ax->a7->bO->Prop}(h:∃Β,∃x2,∃x3,∃x4,ο Β x2 x3 x4/\τ Β x2 x3 x4/\ap Β x2 x3 x4)(k:∀Β x2 x3 x4,ο Β x2 x3 x4->τ Β x2 x3 x4->ap Β x2 x3 x4->G):G:=h.elim λΒ h=>h.elim λx2 h=>h.elim λx3 h=>h.elim λx4 h=>k Β x2 x3 x4 h.1 h.2.1 h.2.2
theorem HC.{ao,aJ,bf,cm,cF}{ae:Sort ao}{ax:Sort aJ}{a7:Sort bf}{bO:Sort cm}{c3:Sort cF}{G:Prop}{ο τ:ae->ax->a7->bO->c3->Prop}(h:∃Β,∃x2,∃x3,∃x4,∃x5,ο Β x2 x3 x4 x5/\τ Β x2 x3 x4 x5)(k:∀Β x2 x3 x4 x5,ο Β x2 x3 x4 x5->τ Β x2 x3 x4 x5->G):G:=h.elim λΒ h=>h.elim λx2 h=>h.elim λx3 h=>h.elim λx4 h=>h.elim λx5 h=>k Β x2 x3 x4 x5 h.1 h.2
theorem ajs.{ao,aJ,bf,cm,cF,fc}{ae:Sort ao}{ax:Sort aJ}{a7:Sort bf}{bO:Sort cm}{c3:Sort cF}{eT:Sort fc}{G:Prop}{ο:ae->ax->a7->bO->c3->eT->Prop}(h:∃Β,∃x2,∃x3,∃x4,∃x5,∃x6,ο Β x2 x3 x4 x5 x6)(k:∀Β x2 x3 x4 x5 x6,ο Β x2 x3 x4 x5 x6->G):G:=h.elim λΒ h=>h.elim λx2 h=>h.elim λx3 h=>h.elim λx4 h=>h.elim λx5 h=>h.elim λx6 h=>k Β x2 x3 x4 x5 x6 h
theorem HD{G:Prop}{ο τ ap aS bw cD ep iy:Prop}(h:ο/\τ/\ap/\aS/\bw/\cD/\ep/\iy)(k:ο->τ->ap->aS->bw->cD->ep->iy->G):G:=k h.1 h.2.1 h.2.2.1 h.2.2.2.1 h.2.2.2.2.1 h.2.2.2.2.2.1 h.2.2.2.2.2.2.1 h.2.2.2.2.2.2.2
theorem HE.{ao}{ae:Sort ao}{G:Prop}{ο τ ap aS bw cD ep:ae->Prop}(h:∃Β,ο Β/\τ Β/\ap Β/\aS Β/\bw Β/\cD Β/\ep Β)(k:∀Β,ο Β->τ Β->ap Β->aS Β->bw Β->cD Β->ep Β->G):G:=h.elim λΒ h=>k Β h.1 h.2.1 h.2.2.1 h.2.2.2.1 h.2.2.2.2.1 h.2.2.2.2.2.1 h.2.2.2.2.2.2
theorem R2.{ao,aJ}{ae:Sort ao}{ax:Sort aJ}{G:Prop}{ο τ ap aS bw cD:ae->ax->Prop}(h:∃Β,∃x2,ο Β x2/\τ Β x2/\ap Β x2/\aS Β x2/\bw Β x2/\cD Β x2)(k:∀Β x2,ο Β x2->τ Β x2->ap Β x2->aS Β x2->bw Β x2->cD Β x2->G):G:=h.elim λΒ h=>h.elim λx2 h=>k Β x2 h.1 h.2.1 h.2.2.1 h.2.2.2.1 h.2.2.2.2.1 h.2.2.2.2.2
theorem lI.{ao,aJ,bf}{ae:Sort ao}{ax:Sort aJ}{a7:Sort bf}{G:Prop}{ο τ ap aS bw:ae->ax->a7->Prop}(h:∃Β,∃x2,∃x3,ο Β x2 x3/\τ Β x2 x3/\ap Β x2 x3/\aS Β x2 x3/\bw Β x2 x3)(k:∀Β x2 x3,ο Β x2 x3->τ Β x2 x3->ap Β x2 x3->aS Β x2 x3->bw Β x2 x3->G):G:=h.elim λΒ h=>h.elim λx2 h=>h.elim λx3 h=>k Β x2 x3 h.1 h.2.1 h.2.2.1 h.2.2.2.1 h.2.2.2.2
theorem R3.{ao,aJ,bf,cm}{ae:Sort ao}{ax:Sort aJ}{a7:Sort bf}{bO:Sort cm}{G:Prop}{ο τ ap aS:ae->ax->a7->bO->Prop}(h:∃Β,∃x2,∃x3,∃x4,ο Β x2 x3 x4/\τ Β x2 x3 x4/\ap Β x2 x3 x4/\aS Β x2 x3 x4)(k:∀Β x2 x3 x4,ο Β x2 x3 x4->τ Β x2 x3 x4->ap Β x2 x3 x4->aS Β x2 x3 x4->G):G:=h.elim λΒ h=>h.elim λx2 h=>h.elim λx3 h=>h.elim λx4 h=>k Β x2 x3 x4 h.1 h.2.1 h.2.2.1 h.2.2.2
theorem ajt.{ao,aJ,bf,cm,cF}{ae:Sort ao}{ax:Sort aJ}{a7:Sort bf}{bO:Sort cm}{c3:Sort cF}{G:Prop}{ο τ ap:ae->ax->a7->bO->c3->Prop}(h:∃Β,∃x2,∃x3,∃x4,∃x5,ο Β x2 x3 x4 x5/\τ Β x2 x3 x4 x5/\ap Β x2 x3 x4 x5)(k:∀Β x2 x3 x4 x5,ο Β x2 x3 x4 x5->τ Β x2 x3 x4 x5->ap Β x2 x3 x4 x5->G):G:=h.elim λΒ h=>h.elim λx2 h=>h.elim λx3 h=>h.elim λx4 h=>h.elim λx5 h=>k Β x2 x3 x4 x5 h.1 h.2.1 h.2.2
theorem HF.{ao,aJ,bf,cm,cF,fc}{ae:Sort ao}{ax:Sort aJ}{a7:Sort bf}{bO:Sort cm}{c3:Sort cF}{eT:Sort fc}{G:Prop}{ο τ:ae->ax->a7->bO->c3->eT->Prop}(h:∃Β,∃x2,∃x3,∃x4,∃x5,∃x6,ο Β x2 x3 x4 x5 x6/\τ Β x2 x3 x4 x5 x6)(k:∀Β x2 x3 x4 x5 x6,ο Β x2 x3 x4 x5 x6->τ Β x2 x3 x4 x5 x6->G):G:=h.elim λΒ h=>h.elim λx2 h=>h.elim λx3 h=>h.elim λx4 h=>h.elim λx5 h=>h.elim λx6 h=>k Β x2 x3 x4 x5 x6 h.1 h.2
theorem aju.{ao,aJ,bf,cm,cF,fc,gK}{ae:Sort ao}{ax:Sort aJ}{a7:Sort bf}{bO:Sort cm}{c3:Sort cF}{eT:Sort fc}{iz:Sort gK}{G:Prop}{ο:ae->ax->a7->bO->c3->eT->iz->Prop}(h:∃Β,∃x2,∃x3,∃x4,∃x5,∃x6,∃x7,ο Β x2 x3 x4 x5 x6 x7)(k:∀Β x2 x3 x4 x5 x6 x7,ο Β x2 x3 x4 x5 x6 x7->G):G:=h.elim λΒ h=>h.elim λx2 h=>h.elim λx3 h=>h.elim λx4 h=>h.elim λx5 h=>h.elim λx6 h=>h.elim λx7 h=>k Β x2 x3 x4 x5 x6 x7 h
theorem ny{G:Prop}{ο τ ap aS bw cD ep iy vN:Prop}(h:ο/\τ/\ap/\aS/\bw/\cD/\ep/\iy/\vN)(k:ο->τ->ap->aS->bw->cD->ep->iy->vN->G):G:=k h.1 h.2.1 h.2.2.1 h.2.2.2.1 h.2.2.2.2.1 h.2.2.2.2.2.1 h.2.2.2.2.2.2.1 h.2.2.2.2.2.2.2.1 h.2.2.2.2.2.2.2.2
theorem ajv.{ao}{ae:Sort ao}{G:Prop}{ο τ ap aS bw cD ep iy:ae->Prop}(h:∃Β,ο Β/\τ Β/\ap Β/\aS Β/\bw Β/\cD Β/\ep Β/\iy Β)(k:∀Β,ο Β->τ Β->ap Β->aS Β->bw Β->cD Β->ep Β->iy Β->G):G:=h.elim λΒ h=>k Β h.1 h.2.1 h.2.2.1 h.2.2.2.1 h.2.2.2.2.1 h.2.2.2.2.2.1 h.2.2.2.2.2.2.1 h.2.2.2.2.2.2.2
theorem R4.{ao,aJ}{ae:Sort ao}{ax:Sort aJ}{G:Prop}{ο τ ap aS bw cD ep:ae->ax->Prop}(h:∃Β,∃x2,ο Β x2/\τ Β x2/\ap Β x2/\aS Β x2/\bw Β x2/\cD Β x2/\ep Β x2)(k:∀Β x2,ο Β x2->τ Β x2->ap Β x2->aS Β x2->bw Β x2->cD Β x2->ep Β x2->G):G:=h.elim λΒ h=>h.elim λx2 h=>k Β x2 h.1 h.2.1 h.2.2.1 h.2.2.2.1 h.2.2.2.2.1 h.2.2.2.2.2.1 h.2.2.2.2.2.2
theorem Cb.{ao,aJ,bf}{ae:Sort ao}{ax:Sort aJ}{a7:Sort bf}{G:Prop}{ο τ ap aS bw cD:ae->ax->a7->Prop}(h:∃Β,∃x2,∃x3,ο Β x2 x3/\τ Β x2 x3/\ap Β x2 x3/\aS Β x2 x3/\bw Β x2 x3/\cD Β x2 x3)(k:∀Β x2 x3,ο Β x2 x3->τ Β x2 x3->ap Β x2 x3->aS Β x2 x3->bw Β x2 x3->cD Β x2 x3->G):G:=h.elim λΒ h=>h.elim λx2 h=>h.elim λx3 h=>k Β x2 x3 h.1 h.2.1 h.2.2.1 h.2.2.2.1 h.2.2.2.2.1 h.2.2.2.2.2
theorem rG.{ao,aJ,bf,cm}{ae:Sort ao}{ax:Sort aJ}{a7:Sort bf}{bO:Sort cm}{G:Prop}{ο τ ap aS bw:ae->ax->a7->bO->Prop}(h:∃Β,∃x2,∃x3,∃x4,ο Β x2 x3 x4/\τ Β x2 x3 x4/\ap Β x2 x3 x4/\aS Β x2 x3 x4/\bw Β x2 x3 x4)(k:∀Β x2 x3 x4,ο Β x2 x3 x4->τ Β x2 x3 x4->ap Β x2 x3 x4->aS Β x2 x3 x4->bw Β x2 x3 x4->G):G:=h.elim λΒ h=>h.elim λx2 h=>h.elim λx3 h=>h.elim λx4 h=>k Β x2 x3 x4 h.1 h.2.1 h.2.2.1 h.2.2.2.1 h.2.2.2.2
theorem vO.{ao,aJ,bf,cm,cF}{ae:Sort ao}{ax:Sort aJ}{a7:Sort bf}{bO:Sort cm}{c3:Sort cF}{G:Prop}{ο τ ap aS:ae->ax->a7->bO->c3->Prop}(h:∃Β,∃x2,∃x3,∃x4,∃x5,ο Β x2 x3 x4 x5/\τ Β x2 x3 x4 x5/\ap Β x2 x3 x4 x5/\aS Β x2 x3 x4 x5)(k:∀Β x2 x3 x4 x5,ο Β x2 x3 x4 x5->τ Β x2 x3 x4 x5->ap Β x2 x3 x4 x5->aS Β x2 x3 x4 x5->G):G:=h.elim λΒ h=>h.elim λx2 h=>h.elim λx3 h=>h.elim λx4 h=>h.elim λx5 h=>k Β x2 x3 x4 x5 h.1 h.2.1 h.2.2.1 h.2.2.2
theorem Cc.{ao,aJ,bf,cm,cF,fc}{ae:Sort ao}{ax:Sort aJ}{a7:Sort bf}{bO:Sort cm}{c3:Sort cF}{eT:Sort fc}{G:Prop}{ο τ ap:ae->ax->a7->bO->c3->eT->Prop}(h:∃Β,∃x2,∃x3,∃x4,∃x5,∃x6,ο Β x2 x3 x4 x5 x6/\τ Β x2 x3 x4 x5 x6/\ap Β x2 x3 x4 x5 x6)(k:∀Β x2 x3 x4 x5 x6,ο Β x2 x3 x4 x5 x6->τ Β x2 x3 x4 x5 x6->ap Β x2 x3 x4 x5 x6->G):G:=h.elim λΒ h=>h.elim λx2 h=>h.elim λx3 h=>h.elim λx4 h=>h.elim λx5 h=>h.elim λx6 h=>k Β x2 x3 x4 x5 x6 h.1 h.2.1 h.2.2
theorem vP.{ao,aJ,bf,cm,cF,fc,gK}{ae:Sort ao}{ax:Sort aJ}{a7:Sort bf}{bO:Sort cm}{c3:Sort cF}{eT:Sort fc}{iz:Sort gK}{G:Prop}{ο τ:ae->ax->a7->bO->c3->eT->iz->Prop}(h:∃Β,∃x2,∃x3,∃x4,∃x5,∃x6,∃x7,ο Β x2 x3 x4 x5 x6 x7/\τ Β x2 x3 x4 x5 x6 x7)(k:∀Β x2 x3 x4 x5 x6 x7,ο Β x2 x3 x4 x5 x6 x7->τ Β x2 x3 x4 x5 x6 x7->G):G:=h.elim λΒ h=>h.elim λx2 h=>h.elim λx3 h=>h.elim λx4 h=>h.elim λx5 h=>h.elim λx6 h=>h.elim λx7 h=>k Β x2 x3 x4 x5 x6 x7 h.1 h.2
theorem R5.{ao,aJ,bf,cm,cF,fc,gK,mx}{ae:Sort ao}{ax:Sort aJ}{a7:Sort bf}{bO:Sort cm}{c3:Sort cF}{eT:Sort fc}{iz:Sort gK}{yw:Sort mx}{G:Prop}{ο:ae->ax->a7->bO->c3->eT->iz->yw->Prop}(h:∃Β,∃x2,∃x3,∃x4,∃x5,∃x6,∃x7,∃dQ,ο Β x2 x3 x4 x5 x6 x7 dQ)(k:∀Β x2 x3 x4 x5 x6 x7 dQ,ο Β x2 x3 x4 x5 x6 x7 dQ->G):G:=h.elim λΒ h=>h.elim λx2 h=>h.elim λx3 h=>h.elim λx4 h=>h.elim λx5 h=>h.elim λx6 h=>h.elim λx7 h=>h.elim λdQ h=>k Β x2 x3 x4 x5 x6 x7 dQ h
theorem ft{ο τ ap:Prop}(Α:ο)(Δ:τ)(κ:ap):ο/\τ/\ap:=⟨Α,Δ,κ⟩
theorem as.{ao}{ae:Sort ao}{ο τ:ae->Prop}(Β:ae)(Α:ο Β)(Δ:τ Β):∃Β,ο Β/\τ Β:=⟨Β,Α,Δ⟩
theorem R6.{ao,aJ}{ae:Sort ao}{ax:Sort aJ}{ο:ae->ax->Prop}(Β:ae)(x2:ax)(Α:ο Β x2):∃Β,∃x2,ο Β x2:=⟨Β,x2,Α⟩
theorem p7{ο τ ap aS:Prop}(Α:ο)(Δ:τ)(κ:ap)(ay:aS):ο/\τ/\ap/\aS:=⟨Α,Δ,κ,ay⟩
theorem dj.{ao}{ae:Sort ao}{ο τ ap:ae->Prop}(Β:ae)(Α:ο Β)(Δ:τ Β)(κ:ap Β):∃Β,ο Β/\τ Β/\ap Β:=⟨Β,Α,Δ,κ⟩
theorem nz.{ao,aJ}{ae:Sort ao}{ax:Sort aJ}{ο τ:ae->ax->Prop}(Β:ae)(x2:ax)(Α:ο Β x2)(Δ:τ Β x2):∃Β,∃x2,ο Β x2/\τ Β x2:=⟨Β,x2,Α,Δ⟩
theorem Cd.{ao,aJ,bf}{ae:Sort ao}{ax:Sort aJ}{a7:Sort bf}{ο:ae->ax->a7->Prop}(Β:ae)(x2:ax)(x3:a7)(Α:ο Β x2 x3):∃Β,∃x2,∃x3,ο Β x2 x3:=⟨Β,x2,x3,Α⟩
theorem HG{ο τ ap aS bw:Prop}(Α:ο)(Δ:τ)(κ:ap)(ay:aS)(cc:bw):ο/\τ/\ap/\aS/\bw:=⟨Α,Δ,κ,ay,cc⟩
theorem Ce.{ao}{ae:Sort ao}{ο τ ap aS:ae->Prop}(Β:ae)(Α:ο Β)(Δ:τ Β)(κ:ap Β)(ay:aS Β):∃Β,ο Β/\τ Β/\ap Β/\aS Β:=⟨Β,Α,Δ,κ,ay⟩
theorem oM.{ao,aJ}{ae:Sort ao}{ax:Sort aJ}{ο τ ap:ae->ax->Prop}(Β:ae)(x2:ax)(Α:ο Β x2)(Δ:τ Β x2)(κ:ap Β x2):∃Β,∃x2,ο Β x2/\τ Β x2/\ap Β x2:=⟨Β,x2,Α,Δ,κ⟩
theorem tv.{ao,aJ,bf}{ae:Sort ao}{ax:Sort aJ}{a7:Sort bf}{ο τ:ae->ax->a7->Prop}(Β:ae)(x2:ax)(x3:a7)(Α:ο Β x2 x3)(Δ:τ Β x2 x3):∃Β,∃x2,∃x3,ο Β x2 x3/\τ Β x2 x3:=⟨Β,x2,x3,Α,Δ⟩
theorem ajw.{ao,aJ,bf,cm}{ae:Sort ao}{ax:Sort aJ}{a7:Sort bf}{bO:Sort cm}{ο:ae->ax->a7->bO->Prop}(Β:ae)(x2:ax)(x3:a7)(x4:bO)(Α:ο Β x2 x3 x4):∃Β,∃x2,∃x3,∃x4,ο Β x2 x3 x4:=⟨Β,x2,x3,x4,Α⟩
theorem R7{ο τ ap aS bw cD:Prop}(Α:ο)(Δ:τ)(κ:ap)(ay:aS)(cc:bw)(d':cD):ο/\τ/\ap/\aS/\bw/\cD:=⟨Α,Δ,κ,ay,cc,d'⟩
theorem ajx.{ao}{ae:Sort ao}{ο τ ap aS bw:ae->Prop}(Β:ae)(Α:ο Β)(Δ:τ Β)(κ:ap Β)(ay:aS Β)(cc:bw Β):∃Β,ο Β/\τ Β/\ap Β/\aS Β/\bw Β:=⟨Β,Α,Δ,κ,ay,cc⟩
theorem ajy.{ao,aJ}{ae:Sort ao}{ax:Sort aJ}{ο τ ap aS:ae->ax->Prop}(Β:ae)(x2:ax)(Α:ο Β x2)(Δ:τ Β x2)(κ:ap Β x2)(ay:aS Β x2):∃Β,∃x2,ο Β x2/\τ Β x2/\ap Β x2/\aS Β x2:=⟨Β,x2,Α,Δ,κ,ay⟩
theorem vQ.{ao,aJ,bf}{ae:Sort ao}{ax:Sort aJ}{a7:Sort bf}{ο τ ap:ae->ax->a7->Prop}(Β:ae)(x2:ax)(x3:a7)(Α:ο Β x2 x3)(Δ:τ Β x2 x3)(κ:ap Β x2 x3):∃Β,∃x2,∃x3,ο Β x2 x3/\τ Β x2 x3/\ap Β x2 x3:=⟨Β,x2,x3,Α,Δ,κ⟩
theorem ajz.{ao,aJ,bf,cm}{ae:Sort ao}{ax:Sort aJ}{a7:Sort bf}{bO:Sort cm}{ο τ:ae->ax->a7->bO->Prop}(Β:ae)(x2:ax)(x3:a7)(x4:bO)(Α:ο Β x2 x3 x4)(Δ:τ Β x2 x3 x4):∃Β,∃x2,∃x3,∃x4,ο Β x2 x3 x4/\τ Β x2 x3 x4:=⟨Β,x2,x3,x4,Α,Δ⟩
theorem R8.{ao,aJ,bf,cm,cF}{ae:Sort ao}{ax:Sort aJ}{a7:Sort bf}{bO:Sort cm}{c3:Sort cF}{ο:ae->ax->a7->bO->c3->Prop}(Β:ae)(x2:ax)(x3:a7)(x4:bO)(x5:c3)(Α:ο Β x2 x3 x4 x5):∃Β,∃x2,∃x3,∃x4,∃x5,ο Β x2 x3 x4 x5:=⟨Β,x2,x3,x4,x5,Α⟩
theorem ajA{ο τ ap aS bw cD ep:Prop}(Α:ο)(Δ:τ)(κ:ap)(ay:aS)(cc:bw)(d':cD)(kb:ep):ο/\τ/\ap/\aS/\bw/\cD/\ep:=⟨Α,Δ,κ,ay,cc,d',kb⟩
theorem R9.{ao}{ae:Sort ao}{ο τ ap aS bw cD:ae->Prop}(Β:ae)(Α:ο Β)(Δ:τ Β)(κ:ap Β)(ay:aS Β)(cc:bw Β)(d':cD Β):∃Β,ο Β/\τ Β/\ap Β/\aS Β/\bw Β/\cD Β:=⟨Β,Α,Δ,κ,ay,cc,d'⟩
theorem HH.{ao,aJ}{ae:Sort ao}{ax:Sort aJ}{ο τ ap aS bw:ae->ax->Prop}(Β:ae)(x2:ax)(Α:ο Β x2)(Δ:τ Β x2)(κ:ap Β x2)(ay:aS Β x2)(cc:bw Β x2):∃Β,∃x2,ο Β x2/\τ Β x2/\ap Β x2/\aS Β x2/\bw Β x2:=⟨Β,x2,Α,Δ,κ,ay,cc⟩
theorem Cf.{ao,aJ,bf}{ae:Sort ao}{ax:Sort aJ}{a7:Sort bf}{ο τ ap aS:ae->ax->a7->Prop}(Β:ae)(x2:ax)(x3:a7)(Α:ο Β x2 x3)(Δ:τ Β x2 x3)(κ:ap Β x2 x3)(ay:aS Β x2 x3):∃Β,∃x2,∃x3,ο Β x2 x3/\τ Β x2 x3/\ap Β x2 x3/\aS Β x2 x3:=⟨Β,x2,x3,Α,Δ,κ,ay⟩
theorem vR.{ao,aJ,bf,cm}{ae:Sort ao}{ax:Sort aJ}{a7:Sort bf}{bO:Sort cm}{ο τ ap:ae->ax->a7->bO->Prop}(Β:ae)(x2:ax)(x3:a7)(x4:bO)(Α:ο Β x2 x3 x4)(Δ:τ Β x2 x3 x4)(κ:ap Β x2 x3 x4):∃Β,∃x2,∃x3,∃x4,ο Β x2 x3 x4/\τ Β x2 x3 x4/\ap Β x2 x3 x4:=⟨Β,x2,x3,x4,Α,Δ,κ⟩
theorem ajB.{ao,aJ,bf,cm,cF}{ae:Sort ao}{ax:Sort aJ}{a7:Sort bf}{bO:Sort cm}{c3:Sort cF}{ο τ:ae->ax->a7->bO->c3->Prop}(Β:ae)(x2:ax)(x3:a7)(x4:bO)(x5:c3)(Α:ο Β x2 x3 x4 x5)(Δ:τ Β x2 x3 x4 x5):∃Β,∃x2,∃x3,∃x4,∃x5,ο Β x2 x3 x4 x5/\τ Β x2 x3 x4 x5:=⟨Β,x2,x3,x4,x5,Α,Δ⟩
theorem ajC.{ao,aJ,bf,cm,cF,fc}{ae:Sort ao}{ax:Sort aJ}{a7:Sort bf}{bO:Sort cm}{c3:Sort cF}{eT:Sort fc}{ο:ae->ax->a7->bO->c3->eT->Prop}(Β:ae)(x2:ax)(x3:a7)(x4:bO)(x5:c3)(x6:eT)(Α:ο Β x2 x3 x4 x5 x6):∃Β,∃x2,∃x3,∃x4,∃x5,∃x6,ο Β x2 x3 x4 x5 x6:=⟨Β,x2,x3,x4,x5,x6,Α⟩
theorem ajD{ο τ ap aS bw cD ep iy:Prop}(Α:ο)(Δ:τ)(κ:ap)(ay:aS)(cc:bw)(d':cD)(kb:ep)(nA:iy):ο/\τ/\ap/\aS/\bw/\cD/\ep/\iy:=⟨Α,Δ,κ,ay,cc,d',kb,nA⟩
theorem ajE.{ao}{ae:Sort ao}{ο τ ap aS bw cD ep:ae->Prop}(Β:ae)(Α:ο Β)(Δ:τ Β)(κ:ap Β)(ay:aS Β)(cc:bw Β)(d':cD Β)(kb:ep Β):∃Β,ο Β/\τ Β/\ap Β/\aS Β/\bw Β/\cD Β/\ep Β:=⟨Β,Α,Δ,κ,ay,cc,d',kb⟩
theorem ajF.{ao,aJ}{ae:Sort ao}{ax:Sort aJ}{ο τ ap aS bw cD:ae->ax->Prop}(Β:ae)(x2:ax)(Α:ο Β x2)(Δ:τ Β x2)(κ:ap Β x2)(ay:aS Β x2)(cc:bw Β x2)(d':cD Β x2):∃Β,∃x2,ο Β x2/\τ Β x2/\ap Β x2/\aS Β x2/\bw Β x2/\cD Β x2:=⟨Β,x2,Α,Δ,κ,ay,cc,d'⟩
theorem HI.{ao,aJ,bf}{ae:Sort ao}{ax:Sort aJ}{a7:Sort bf}{ο τ ap aS bw:ae->ax->a7->Prop}(Β:ae)(x2:ax)(x3:a7)(Α:ο Β x2 x3)(Δ:τ Β x2 x3)(κ:ap Β x2 x3)(ay:aS Β x2 x3)(cc:bw Β x2 x3):∃Β,∃x2,∃x3,ο Β x2 x3/\τ Β x2 x3/\ap Β x2 x3/\aS Β x2 x3/\bw Β x2 x3:=⟨Β,x2,x3,Α,Δ,κ,ay,cc⟩
theorem R'.{ao,aJ,bf,cm}{ae:Sort ao}{ax:Sort aJ}{a7:Sort bf}{bO:Sort cm}{ο τ ap aS:ae->ax->a7->bO->Prop}(Β:ae)(x2:ax)(x3:a7)(x4:bO)(Α:ο Β x2 x3 x4)(Δ:τ Β x2 x3 x4)(κ:ap Β x2 x3 x4)(ay:aS Β x2 x3 x4):∃Β,∃x2,∃x3,∃x4,ο Β x2 x3 x4/\τ Β x2 x3 x4/\ap Β x2 x3 x4/\aS Β x2 x3 x4:=⟨Β,x2,x3,x4,Α,Δ,κ,ay⟩
theorem ajG.{ao,aJ,bf,cm,cF}{ae:Sort ao}{ax:Sort aJ}{a7:Sort bf}{bO:Sort cm}{c3:Sort cF}{ο τ ap:ae->ax->a7->bO->c3->Prop}(Β:ae)(x2:ax)(x3:a7)(x4:bO)(x5:c3)(Α:ο Β x2 x3 x4 x5)(Δ:τ Β x2 x3 x4 x5)(κ:ap Β x2 x3 x4 x5):∃Β,∃x2,∃x3,∃x4,∃x5,ο Β x2 x3 x4 x5/\τ Β x2 x3 x4 x5/\ap Β x2 x3 x4 x5:=⟨Β,x2,x3,x4,x5,Α,Δ,κ⟩
theorem ajH.{ao,aJ,bf,cm,cF,fc}{ae:Sort ao}{ax:Sort aJ}{a7:Sort bf}{bO:Sort cm}{c3:Sort cF}{eT:Sort fc}{ο τ:ae->ax->a7->bO->c3->eT->Prop}(Β:ae)(x2:ax)(x3:a7)(x4:bO)(x5:c3)(x6:eT)(Α:ο Β x2 x3 x4 x5 x6)(Δ:τ Β x2 x3 x4 x5 x6):∃Β,∃x2,∃x3,∃x4,∃x5,∃x6,ο Β x2 x3 x4 x5 x6/\τ Β x2 x3 x4 x5 x6:=⟨Β,x2,x3,x4,x5,x6,Α,Δ⟩
theorem ajI.{ao,aJ,bf,cm,cF,fc,gK}{ae:Sort ao}{ax:Sort aJ}{a7:Sort bf}{bO:Sort cm}{c3:Sort cF}{eT:Sort fc}{iz:Sort gK}{ο:ae->ax->a7->bO->c3->eT->iz->Prop}(Β:ae)(x2:ax)(x3:a7)(x4:bO)(x5:c3)(x6:eT)(x7:iz)(Α:ο Β x2 x3 x4 x5 x6 x7):∃Β,∃x2,∃x3,∃x4,∃x5,∃x6,∃x7,ο Β x2 x3 x4 x5 x6 x7:=⟨Β,x2,x3,x4,x5,x6,x7,Α⟩
theorem ajJ{ο τ ap aS bw cD ep iy vN:Prop}(Α:ο)(Δ:τ)(κ:ap)(ay:aS)(cc:bw)(d':cD)(kb:ep)(nA:iy)(HJ:vN):ο/\τ/\ap/\aS/\bw/\cD/\ep/\iy/\vN:=⟨Α,Δ,κ,ay,cc,d',kb,nA,HJ⟩
theorem ajK.{ao}{ae:Sort ao}{ο τ ap aS bw cD ep iy:ae->Prop}(Β:ae)(Α:ο Β)(Δ:τ Β)(κ:ap Β)(ay:aS Β)(cc:bw Β)(d':cD Β)(kb:ep Β)(nA:iy Β):∃Β,ο Β/\τ Β/\ap Β/\aS Β/\bw Β/\cD Β/\ep Β/\iy Β:=⟨Β,Α,Δ,κ,ay,cc,d',kb,nA⟩
theorem ajL.{ao,aJ}{ae:Sort ao}{ax:Sort aJ}{ο τ ap aS bw cD ep:ae->ax->Prop}(Β:ae)(x2:ax)(Α:ο Β x2)(Δ:τ Β x2)(κ:ap Β x2)(ay:aS Β x2)(cc:bw Β x2)(d':cD Β x2)(kb:ep Β x2):∃Β,∃x2,ο Β x2/\τ Β x2/\ap Β x2/\aS Β x2/\bw Β x2/\cD Β x2/\ep Β x2:=⟨Β,x2,Α,Δ,κ,ay,cc,d',kb⟩
theorem Sa.{ao,aJ,bf}{ae:Sort ao}{ax:Sort aJ}{a7:Sort bf}{ο τ ap aS bw cD:ae->ax->a7->Prop}(Β:ae)(x2:ax)(x3:a7)(Α:ο Β x2 x3)(Δ:τ Β x2 x3)(κ:ap Β x2 x3)(ay:aS Β x2 x3)(cc:bw Β x2 x3)(d':cD Β x2 x3):∃Β,∃x2,∃x3,ο Β x2 x3/\τ Β x2 x3/\ap Β x2 x3/\aS Β x2 x3/\bw Β x2 x3/\cD Β x2 x3:=⟨Β,x2,x3,Α,Δ,κ,ay,cc,d'⟩
theorem yx.{ao,aJ,bf,cm}{ae:Sort ao}{ax:Sort aJ}{a7:Sort bf}{bO:Sort cm}{ο τ ap aS bw:ae->ax->a7->bO->Prop}(Β:ae)(x2:ax)(x3:a7)(x4:bO)(Α:ο Β x2 x3 x4)(Δ:τ Β x2 x3 x4)(κ:ap Β x2 x3 x4)(ay:aS Β x2 x3 x4)(cc:bw Β x2 x3 x4):∃Β,∃x2,∃x3,∃x4,ο Β x2 x3 x4/\τ Β x2 x3 x4/\ap Β x2 x3 x4/\aS Β x2 x3 x4/\bw Β x2 x3 x4:=⟨Β,x2,x3,x4,Α,Δ,κ,ay,cc⟩
theorem Sb.{ao,aJ,bf,cm,cF}{ae:Sort ao}{ax:Sort aJ}{a7:Sort bf}{bO:Sort cm}{c3:Sort cF}{ο τ ap aS:ae->ax->a7->bO->c3->Prop}(Β:ae)(x2:ax)(x3:a7)(x4:bO)(x5:c3)(Α:ο Β x2 x3 x4 x5)(Δ:τ Β x2 x3 x4 x5)(κ:ap Β x2 x3 x4 x5)(ay:aS Β x2 x3 x4 x5):∃Β,∃x2,∃x3,∃x4,∃x5,ο Β x2 x3 x4 x5/\τ Β x2 x3 x4 x5/\ap Β x2 x3 x4 x5/\aS Β x2 x3 x4 x5:=⟨Β,x2,x3,x4,x5,Α,Δ,κ,ay⟩
theorem Sc.{ao,aJ,bf,cm,cF,fc}{ae:Sort ao}{ax:Sort aJ}{a7:Sort bf}{bO:Sort cm}{c3:Sort cF}{eT:Sort fc}{ο τ ap:ae->ax->a7->bO->c3->eT->Prop}(Β:ae)(x2:ax)(x3:a7)(x4:bO)(x5:c3)(x6:eT)(Α:ο Β x2 x3 x4 x5 x6)(Δ:τ Β x2 x3 x4 x5 x6)(κ:ap Β x2 x3 x4 x5 x6):∃Β,∃x2,∃x3,∃x4,∃x5,∃x6,ο Β x2 x3 x4 x5 x6/\τ Β x2 x3 x4 x5 x6/\ap Β x2 x3 x4 x5 x6:=⟨Β,x2,x3,x4,x5,x6,Α,Δ,κ⟩
theorem nB.{ao,aJ,bf,cm,cF,fc,gK}{ae:Sort ao}{ax:Sort aJ}{a7:Sort bf}{bO:Sort cm}{c3:Sort cF}{eT:Sort fc}{iz:Sort gK}{ο τ:ae->ax->a7->bO->c3->eT->iz->Prop}(Β:ae)(x2:ax)(x3:a7)(x4:bO)(x5:c3)(x6:eT)(x7:iz)(Α:ο Β x2 x3 x4 x5 x6 x7)(Δ:τ Β x2 x3 x4 x5 x6 x7):∃Β,∃x2,∃x3,∃x4,∃x5,∃x6,∃x7,ο Β x2 x3 x4 x5 x6 x7/\τ Β x2 x3 x4 x5 x6 x7:=⟨Β,x2,x3,x4,x5,x6,x7,Α,Δ⟩
theorem ajM.{ao,aJ,bf,cm,cF,fc,gK,mx}{ae:Sort ao}{ax:Sort aJ}{a7:Sort bf}{bO:Sort cm}{c3:Sort cF}{eT:Sort fc}{iz:Sort gK}{yw:Sort mx}{ο:ae->ax->a7->bO->c3->eT->iz->yw->Prop}(Β:ae)(x2:ax)(x3:a7)(x4:bO)(x5:c3)(x6:eT)(x7:iz)(dQ:yw)(Α:ο Β x2 x3 x4 x5 x6 x7 dQ):∃Β,∃x2,∃x3,∃x4,∃x5,∃x6,∃x7,∃dQ,ο Β x2 x3 x4 x5 x6 x7 dQ:=⟨Β,x2,x3,x4,x5,x6,x7,dQ,Α⟩
theorem d6{α:Type}{x:α}{G:Prop}(h:none=some x):G:=nomatch h
theorem hE{G:Prop}(h:false=true):G:=nomatch h
theorem my.{ao}{α:Type ao}{l:I α}{x y:α}{P:α->Prop}(hm:y∈x::l)(Α:P x)(Δ:y∈l->P y):P y:=by
 rcases eR.mp hm with rfl|hm
 ·exact Α
 ·exact Δ hm
theorem dG.{ao,v}{ae:Sort ao}{β:Sort v}{x:β}{f:ae->β}{P:β->Prop}(h:∃Β,x=(f Β))(k:∀Β,P (f Β)):P x:=by
 obtain⟨Β,rfl⟩:=h;exact k Β
theorem mz.{ao,v}{ae:Sort ao}{β:Sort v}{x:β}{f:ae->β}{τ:ae->Prop}{P:β->Prop}(h:∃Β,x=(f Β)/\τ Β)(k:∀Β,τ Β->P (f Β)):P x:=by
 obtain⟨Β,rfl,iA⟩:=h;exact k Β iA
theorem Cg.{ao,aJ,v}{ae:Sort ao}{ax:Sort aJ}{β:Sort v}{x:β}{f:ae->ax->β}{P:β->Prop}(h:∃Β,∃x2,x=(f Β x2))(k:∀Β x2,P (f Β x2)):P x:=by
 obtain⟨Β,x2,rfl⟩:=h;exact k Β x2
theorem fe.{ao,aJ,v}{ae:Sort ao}{ax:Sort aJ}{β:Sort v}{x:β}{f:ae->ax->β}{τ:ae->ax->Prop}{P:β->Prop}(h:∃Β,∃x2,x=(f Β x2)/\τ Β x2)(k:∀Β x2,τ Β x2->P (f Β x2)):P x:=by
 obtain⟨Β,x2,rfl,iA⟩:=h;exact k Β x2 iA
theorem yy.{ao,aJ,v}{ae:Sort ao}{ax:Sort aJ}{β:Sort v}{x:β}{f:ae->ax->β}{τ ap:ae->ax->Prop}{P:β->Prop}(h:∃Β,∃x2,x=(f Β x2)/\τ Β x2/\ap Β x2)(k:∀Β x2,τ Β x2->ap Β x2->P (f Β x2)):P x:=by
 obtain⟨Β,x2,rfl,iA,rH⟩:=h;exact k Β x2 iA rH
theorem gk.{ao,aJ,bf,v}{ae:Sort ao}{ax:Sort aJ}{a7:Sort bf}{β:Sort v}{x:β}{f:ae->ax->a7->β}{τ ap:ae->ax->a7->Prop}{P:β->Prop}(h:∃Β,∃x2,∃x3,x=(f Β x2 x3)/\τ Β x2 x3/\ap Β x2 x3)(k:∀Β x2 x3,τ Β x2 x3->ap Β x2 x3->P (f Β x2 x3)):P x:=by
 obtain⟨Β,x2,x3,rfl,iA,rH⟩:=h;exact k Β x2 x3 iA rH
theorem vS.{ao,aJ,bf,v}{ae:Sort ao}{ax:Sort aJ}{a7:Sort bf}{β:Sort v}{x:β}{f:ae->ax->a7->β}{τ ap aS bw:ae->ax->a7->Prop}{P:β->Prop}(h:∃Β,∃x2,∃x3,x=(f Β x2 x3)/\τ Β x2 x3/\ap Β x2 x3/\aS Β x2 x3/\bw Β x2 x3)(k:∀Β x2 x3,τ Β x2 x3->ap Β x2 x3->aS Β x2 x3->bw Β x2 x3->P (f Β x2 x3)):P x:=by
 obtain⟨Β,x2,x3,rfl,iA,rH,Ci,Sd⟩:=h;exact k Β x2 x3 iA rH Ci Sd
theorem Cj.{ao,aJ,bf,cm,v}{ae:Sort ao}{ax:Sort aJ}{a7:Sort bf}{bO:Sort cm}{β:Sort v}{x:β}{f:ae->ax->a7->bO->β}{τ ap aS:ae->ax->a7->bO->Prop}{P:β->Prop}(h:∃Β,∃x2,∃x3,∃x4,x=(f Β x2 x3 x4)/\τ Β x2 x3 x4/\ap Β x2 x3 x4/\aS Β x2 x3 x4)(k:∀Β x2 x3 x4,τ Β x2 x3 x4->ap Β x2 x3 x4->aS Β x2 x3 x4->P (f Β x2 x3 x4)):P x:=by
 obtain⟨Β,x2,x3,x4,rfl,iA,rH,Ci⟩:=h;exact k Β x2 x3 x4 iA rH Ci
theorem vT.{ao,aJ,bf,cm,cF,fc,gK,v}{ae:Sort ao}{ax:Sort aJ}{a7:Sort bf}{bO:Sort cm}{c3:Sort cF}{eT:Sort fc}{iz:Sort gK}{β:Sort v}{x:β}{f:ae->ax->a7->bO->c3->eT->iz->β}{τ:ae->ax->a7->bO->c3->eT->iz->Prop}{P:β->Prop}(h:∃Β,∃x2,∃x3,∃x4,∃x5,∃x6,∃x7,x=(f Β x2 x3 x4 x5 x6 x7)/\τ Β x2 x3 x4 x5 x6 x7)(k:∀Β x2 x3 x4 x5 x6 x7,τ Β x2 x3 x4 x5 x6 x7->P (f Β x2 x3 x4 x5 x6 x7)):P x:=by
 obtain⟨Β,x2,x3,x4,x5,x6,x7,rfl,iA⟩:=h;exact k Β x2 x3 x4 x5 x6 x7 iA
theorem p8.{v}{β:Sort v}{x:β}{f:β}{τ:Prop}{P:β->Prop}(h:x=f/\τ)(k:τ->P f):P x:=by
 obtain⟨rfl,iA⟩:=h;exact k iA
theorem iB.{ao,v}{ae:Sort ao}{β:Sort v}{x:β}{f:ae->β}{ο:ae->Prop}{P:β->Prop}(h:∃Β,ο Β/\(f Β)=x)(k:∀Β,ο Β->P (f Β)):P x:=by
 obtain⟨Β,Ck,rfl⟩:=h;exact k Β Ck
theorem Se.{v}{β:Sort v}{x:β}{f:β}{τ:Prop}{P:β->Prop}(h:f=x/\τ)(k:τ->P f):P x:=by
 obtain⟨rfl,iA⟩:=h;exact k iA
section
set_option genSizeOf false in
set_option genInjectivity false in
set_option genCtorIdx false in
inductive gA where
 |v (i:Y)|c (n:Y)|a (x y:gA)|m (k:Y) (x:gA)|r (x:gA) (k:Y)
set_option genSizeOf false in
set_option genInjectivity false in
set_option genCtorIdx false in
inductive gB where
 |n (x:gA)|v (i:Y)|c (n:Y)|g (x:gB)|a (x y:gB)|s (x y:gB)|m (k:Y) (x:gB)|r (x:gB) (k:Y)
set_option genSizeOf false in
set_option genInjectivity false in
set_option genCtorIdx false in
inductive gC where
 |le (x y:gA)|eq (x y:gA)|ι (x y:gB)|ff (x y:gB)|cA (x:gB) (k:gA)|an (x y:gC)
noncomputable def hj{α:Type}(z:α)(l:I α):Y->α:=mi (λH=>z) (λx H Ξ i=>GA x (λi H=>Ξ i) i) l
noncomputable def gA.d(N:I Y)(e:gA):Y:=gA.rec (λi=>hj 0 N i) (λn=>n) (λH H x y=>x+y) (λk H x=>k*x) (λH k x=>x*k) e
noncomputable def gB.d(N:I Y)(U:I J)(e:gB):J:=
 gB.rec (λx=>(x.d N:J)) (λi=>hj 0 U i) (λn=>(n:J)) (λH x=>-x) (λH H x y=>x+y) (λH H x y=>x - y) (λk H x=>(k:J)*x) (λH k x=>x*(k:J)) e
noncomputable def gC.d(N:I Y)(U:I J)(e:gC):Prop:=
 gC.rec (λx y=>x.d N<=y.d N) (λx y=>x.d N=y.d N) (λx y=>x.d N U<=y.d N U) (λx y=>x.d N U=y.d N U) (λx k=>(x.d N U).natAbs<k.d N) (λH H a b=>a/\b) e
noncomputable def gC.im(N:I Y)(U:I J)(g:gC)(l:I gC):Prop:=mi (g.d N U) (λh H Ξ=>h.d N U->Ξ) l
noncomputable def fg(a:I J):I J->J:=mi (λH=>0) (λx H Ξ l=>mi 0 (λy l H=>x*y+Ξ l) l) a
noncomputable def tw(a:I J):I J->I J:=mi (λl=>l) (λx a Ξ l=>mi (x::a) (λy l H=>(x+y)::Ξ l) l) a
noncomputable def tx(k:J)(a:I J):I J:=mi [] (λx H Ξ=>k*x::Ξ) a
noncomputable def ty(i:Y):I J:=GA [1] (λH Ξ=>0::Ξ) i
theorem ajN(x y:J)(a l:I J):fg (x::a) (y::l)=x*y+fg a l:=rfl
theorem ajO(a:I J):fg a []=0:=by cases a<;>rfl
theorem HK(a:I J):∀b l,fg (tw a b) l=fg a l+fg b l:=by
 induction a with
 |nil=>intro b l;exact(mj _).symm
 |cons x a Ξ=>
  intro b l;cases b with
  |nil=>exact(s6 _).symm
  |cons y b=>
   cases l with
   |nil=>rfl
   |cons z l=>
    show(x+y)*z+fg (tw a b) l=x*z+fg a l+(y*z+fg b l);rw[Ξ,Bx,agV,agV,Int.add_left_comm (y*z)]
theorem HL(k:J)(a:I J):∀l,fg (tx k a) l=k*fg a l:=by
 induction a with
 |nil=>intro l;exact(By _).symm
 |cons x a Ξ=>
  intro l;cases l with
  |nil=>exact(By _).symm
  |cons z l=>
   show k*x*z+fg (tx k a) l=k*(x*z+fg a l);rw[Ξ,GB,ot]
theorem HM(i:Y):∀l,fg (ty i) l=hj 0 l i:=by
 induction i with
 |zero=>intro l;cases l with
  |nil=>rfl
  |cons z l=>show 1*z+fg [] l=z;rw[rh];exact s6 _
 |succ i Ξ=>intro l;cases l with
  |nil=>rfl
  |cons z l=>show 0*z+fg (ty i) l=hj 0 l i;rw[xX,mj,Ξ]
theorem Sf(N:I Y):∀i,hj (0:J) (N.map ri) i=((hj (0:Y) N i:Y):J):=by
 induction N with
 |nil=>intro i;rfl
 |cons z l Ξ=>intro i;cases i with
  |zero=>rfl
  |succ i=>exact Ξ i
set_option genSizeOf false in
set_option genInjectivity false in
set_option genCtorIdx false in
structure cB where
 c:J
 n:I J
 u:I J
noncomputable def cB.e(N:I Y)(U:I J)(f:cB):J:=f.c+(fg f.n (N.map ri)+fg f.u U)
noncomputable def cB.add(f g:cB):cB:=⟨f.c+g.c,tw f.n g.n,tw f.u g.u⟩
noncomputable def cB.sc(k:J)(f:cB):cB:=⟨k*f.c,tx k f.n,tx k f.u⟩
section
variable(N:I Y)(U:I J)
theorem cB.rI(f g:cB):(f.add g).e N U=f.e N U+g.e N U:=by
 show f.c+g.c+(fg (tw f.n g.n) _+fg (tw f.u g.u) U)=f.c+(_+_)+(g.c+(_+_));rw[HK,HK];ac_rfl
theorem cB.oN(k:J)(f:cB):(f.sc k).e N U=k*f.e N U:=by
 show k*f.c+(fg (tx k f.n) _+fg (tx k f.u) U)=k*(f.c+(_+_));rw[HL,HL,GB,GB]
noncomputable def gA.l(e:gA):cB:=gA.rec (λi=>⟨0,ty i,[]⟩) (λn=>⟨n,[],[]⟩) (λH H x y=>x.add y) (λk H x=>x.sc k) (λH k x=>x.sc k) e
theorem gA.i7(e:gA):e.l.e N U=(e.d N:J):=by
 induction e with
 |v i=>show 0+(fg (ty i) _+0)=_;rw[HM,Sf,mj,s6];rfl
 |c n=>exact s6 _
 |a x y Α Δ=>exact(cB.rI N U x.l y.l).trans ((congr (cE P9 Α) Δ).trans (agW _ _).symm)
 |m k x h=>exact(cB.oN N U k x.l).trans ((cE ((k:J)*·) h).trans (ou _ _).symm)
 |r x k h=>exact(cB.oN N U k x.l).trans ((cE ((k:J)*·) h).trans ((vl _ _).trans (ou _ _).symm))
noncomputable def gB.l(e:gB):cB:=gB.rec (λx=>x.l) (λi=>⟨0,[],ty i⟩) (λn=>⟨n,[],[]⟩) (λH x=>x.sc (-1)) (λH H x y=>x.add y) (λH H x y=>x.add (y.sc (-1))) (λk H x=>x.sc k) (λH k x=>x.sc k) e
theorem gB.i7(e:gB):e.l.e N U=e.d N U:=by
 induction e with
 |n x=>exact gA.i7 N U x
 |v i=>show 0+(0+fg (ty i) U)=_;rw[HM,mj,mj];rfl
 |c n=>exact s6 _
 |g x h=>exact(cB.oN N U (-1) x.l).trans ((cE (-1*·) h).trans (P' _))
 |a x y Α Δ=>exact(cB.rI N U x.l y.l).trans (congr (cE P9 Α) Δ)
 |s x y Α Δ=>exact(cB.rI N U x.l (y.l.sc (-1))).trans (congr (cE P9 Α) ((cB.oN N U (-1) y.l).trans ((cE (-1*·) Δ).trans (P' _))))
 |m k x h=>exact(cB.oN N U k x.l).trans (cE ((k:J)*·) h)
 |r x k h=>exact(cB.oN N U k x.l).trans ((cE ((k:J)*·) h).trans (vl _ _))
noncomputable def jy(y x:cB):cB:=y.add (x.sc (-1))
noncomputable def p9(x:cB):cB:=x.add ⟨-1,[],[]⟩
theorem HN(y x:cB):(jy y x).e N U=y.e N U - x.e N U:=by
 unfold jy;rw[cB.rI,cB.oN,agX,rh];rfl
theorem Cm(x:cB):(p9 x).e N U=x.e N U - 1:=by
 unfold p9;rw[cB.rI];rfl
noncomputable def gC.l(e:gC):I cB:=
 gC.rec (λx y=>[jy y.l x.l]) (λx y=>[jy y.l x.l,jy x.l y.l]) (λx y=>[jy y.l x.l]) (λx y=>[jy y.l x.l,jy x.l y.l])
  (λx k=>[p9 (jy k.l x.l),p9 (k.l.add x.l)]) (λH H a b=>a++b) e
theorem Cn{P:cB->Prop}{f:cB}(h:P f):∀g∈[f],P g:=λg aO=>Qa.mp aO▸h
theorem Co{P:cB->Prop}{f i8:cB}(h:P f)(h':P i8):∀g∈[f,i8],P g:=λg aO=>(eR.mp aO).elim (λe=>e▸h) (Cn h' g)
theorem gC.HO(x k:cB)(v:J)(n:Y)(Ν:x.e N U=v)(Η:k.e N U=n):v.natAbs<n↔0<=(p9 (jy k x)).e N U/\0<=(p9 (k.add x)).e N U:=by
 rw[Cm,HN,Cm,cB.rI,Ν,Η];omega
theorem yz(y x:cB):0<=(jy y x).e N U↔x.e N U<=y.e N U:=by rw[HN];exact agY
theorem gC.Sg(e:gC):e.d N U->∀f∈e.l,0<=f.e N U:=by
 have ej (x y:gA) (h:x.d N<=y.d N):0<=(jy y.l x.l).e N U:=(yz N U _ _).mpr (by rw[gA.i7,gA.i7];exact ml.mpr h);have rJ (x y:gB) (h:x.d N U<=y.d N U):0<=(jy y.l x.l).e N U:=(yz N U _ _).mpr (by rw[gB.i7,gB.i7];exact h)
 induction e with
 |le x y=>exact λh=>Cn (ej x y h)
 |eq x y=>exact λh=>Co (ej x y (gw h)) (ej y x (gw h.symm))
 |ι x y=>exact λh=>Cn (rJ x y h)
 |ff x y=>exact λh=>Co (rJ x y (vm h)) (rJ y x (vm h.symm))
 |cA x k=>exact λh=>have:=(gC.HO N U x.l k.l _ _ (gB.i7 N U x) (gA.i7 N U k)).mp h;Co this.1 this.2
 |an x y Α Δ=>exact λh f hf=>(hA.mp hf).elim (Α h.1 f) (Δ h.2 f)
theorem gC.i7(e:gC):(∀f∈e.l,0<=f.e N U)->e.d N U:=by
 have ej (x y:gA) (h:0<=(jy y.l x.l).e N U):x.d N<=y.d N:=by
  have:=(yz N U _ _).mp h;rw[gA.i7,gA.i7] at this;exact ml.mp this
 have rJ (x y:gB) (h:0<=(jy y.l x.l).e N U):x.d N U<=y.d N U:=by
  have:=(yz N U _ _).mp h;rw[gB.i7,gB.i7] at this;exact this
 induction e with
 |le x y=>exact λh=>ej x y (h _ (.head _))
 |eq x y=>exact λh=>vn (ej x y (h _ (.head _))) (ej y x (h _ (.tail _ (.head _))))
 |ι x y=>exact λh=>rJ x y (h _ (.head _))
 |ff x y=>exact λh=>np (rJ x y (h _ (.head _))) (rJ y x (h _ (.tail _ (.head _))))
 |cA x k=>exact λh=>(gC.HO N U x.l k.l _ _ (gB.i7 N U x) (gA.i7 N U k)).mpr ⟨h _ (.head _),h _ (.tail _ (.head _))⟩
 |an x y Α Δ=>exact λh=>⟨Α λf hf=>h f (hA.mpr (.inl hf)),Δ λf hf=>h f (hA.mpr (.inr hf))⟩
noncomputable def Cp(l:I cB):I Y->cB:=mi (λH=>⟨0,[],[]⟩) (λf H Ξ bc=>mi ⟨0,[],[]⟩ (λk bc H=>(f.sc k).add (Ξ bc)) bc) l
theorem ajP:(⟨0,[],[]⟩:cB).e N U=0:=rfl
theorem Sh(l:I cB):(∀f∈l,0<=f.e N U)->∀bc,0<=(Cp l bc).e N U:=by
 induction l with
 |nil=>intro _ bc;exact vm rfl
 |cons f l Ξ=>
  intro h bc;cases bc with
  |nil=>exact vm rfl
  |cons k bc=>
   show 0<=((f.sc k).add (Cp l bc)).e N U;rw[cB.rI,cB.oN];exact Int.add_nonneg (agZ (jt k) (h f (.head _))) (Ξ (λg aO=>h g (.tail _ aO)) bc)
noncomputable def HP(x:J):aQ:=Qb (λH=>false) (λH=>true) x
noncomputable def p'(x:J):aQ:=Qb (λn=>GA true (λH H=>false) n) (λH=>true) x
noncomputable def tz(x:J):aQ:=Qb (λn=>GA true (λH H=>false) n) (λH=>false) x
noncomputable def allB(p:J->aQ)(l:I J):aQ:=mi true (λx H Ξ=>nq false Ξ (p x)) l
noncomputable def cB.bad(f:cB):aQ:=nq false (nq false (allB tz f.u) (allB p' f.n)) (HP f.c)
theorem Si(a:I J):allB p' a=true->∀N:I Y,fg a (N.map ri)<=0:=by
 induction a with
 |nil=>intro _ N;exact vm rfl
 |cons x a Ξ=>
  intro h N;cases N with
  |nil=>exact vm rfl
  |cons n N=>
   change nq false (allB p' a) (p' x)=true at h;show x*(n:J)+fg a (N.map ri)<=0;have Ν:x<=0/\allB p' a=true:=by
    cases x with
    |ofNat k=>cases k with
     |zero=>exact⟨Bz _,h⟩
     |succ k=>exact absurd h Qc
    |negSucc k=>exact⟨ov (ag0 k),h⟩
   have:=Ξ Ν.2 N;have:=Int.mul_le_mul_of_nonneg_right Ν.1 (jt n);rw[xX] at this;omega
theorem Sj(a:I J):allB tz a=true->∀U:I J,fg a U=0:=by
 induction a with
 |nil=>intro _ N;rfl
 |cons x a Ξ=>
  intro h N;cases N with
  |nil=>rfl
  |cons n N=>
   change nq false (allB tz a) (tz x)=true at h;cases x with
   |ofNat k=>cases k with
    |zero=>show 0*n+fg a N=0;rw[Ξ h,xX];rfl
    |succ k=>cases h
   |negSucc k=>cases h
theorem cB.Sk(f:cB)(h:f.bad=true):f.e N U<0:=by
 obtain⟨c,n,u⟩:=f;change nq false (nq false (allB tz u) (allB p' n)) (HP c)=true at h;show c+(fg n _+fg u U)<0;cases c with
 |ofNat k=>cases h
 |negSucc k=>
  change nq false (allB tz u) (allB p' n)=true at h;cases Ζ:allB p' n with
  |false=>rw[Ζ] at h;cases h
  |true=>
   rw[Ζ] at h;have:=Si n Ζ N;have:=Sj u h U;have:=ag0 k;omega
noncomputable def yA(σ:I cB)(f:cB)(bc:I Y):aQ:=(Cp (p9 (f.sc (-1))::σ) bc).bad
noncomputable def Cq(σ:I cB)(bW:I cB):I (I Y)->aQ:=mi (λH=>true) (λf H Ξ bc=>mi false (λk bc H=>nq false (Ξ bc) (yA σ f k)) bc) bW
theorem Sl{σ:I cB}{f:cB}{bc:I Y}(h:yA σ f bc=true)(Ε:∀g∈σ,0<=g.e N U):0<=f.e N U:=by
 refine ly.mp λΖ=>?_;have:=cB.Sk N U _ h;have:=Sh N U (p9 (f.sc (-1))::σ) (λg aO=>by
  rcases eR.mp aO with rfl|aO
  ·rw[Cm,cB.oN];omega
  ·exact Ε g aO) bc
 omega
theorem Sm{σ:I cB}(Ε:∀g∈σ,0<=g.e N U)(bW:I cB):∀{bc},Cq σ bW bc=true->∀f∈bW,0<=f.e N U:=by
 induction bW with
 |nil=>intro bc _ f hf;cases hf
 |cons f bW Ξ=>
  intro bc h;cases bc with
  |nil=>cases h
  |cons k bc=>
   change nq false (Cq σ bW bc) (yA σ f k)=true at h;cases Η:yA σ f k with
   |false=>rw[Η] at h;cases h
   |true=>
    rw[Η] at h;intro g aO;rcases eR.mp aO with rfl|aO
    ·exact Sl N U Η Ε
    ·exact Ξ h g aO
noncomputable def HQ(l:I gC):I cB:=mi [] (λh H Ξ=>h.l++Ξ) l
theorem Sn(g:gC)(l:I gC):((∀f∈HQ l,0<=f.e N U)->g.d N U)->g.im N U l:=by
 induction l with
 |nil=>intro h;exact h (λf hf=>by cases hf)
 |cons c l Ξ=>
  intro h Θ;exact Ξ λΕ=>h λf hf=>(hA.mp hf).elim (gC.Sg N U c Θ f) (Ε f)
theorem θ(g:gC)(l:I gC)(bc:I (I Y))(h:Cq (HQ l) g.l bc=true):g.im N U l:=
 Sn N U g l λΕ=>gC.i7 N U g (Sm N U Ε _ h)
end
theorem ej{x:J}{k:Y}(p:-(k:J)<x)(q:x<(k:J)):x.natAbs<k:=by omega
theorem fL{u a:J}(h:a<=u):u=a∨a+1<=u:=(Qd h).symm.imp Eq.symm id
theorem Cr{u a:Y}(h:a<=u):u=a∨a+1<=u:=(Nat.lt_or_eq_of_le h).symm.imp Eq.symm id
theorem HR{x y:J}(h:0<=x)(h':x<=y):x.natAbs<=y.natAbs:=ml.mp ((GC h).symm▸(GC (hc h h')).symm▸h')
theorem Cs(u:J):(4:J)∣100*u:=ag1 (by decide) (Int.dvd_mul_right 100 u)
theorem HS{a b:Y}:((a:J)-(1:J)+-1*(b:J)).toNat=a-1-b:=by
 rw[P'];exact(cE GD (θ [a,b] [] (.ff (.a (.s (.n (.v 0)) (.c 1)) (.g (.n (.v 1)))) (.s (.n (.v 0)) (.n (.a (.c 1) (.v 1))))) [] [[1],[1]] rfl)).trans ((Int.toNat_sub a (1+b)).trans (Qe a 1 b).symm)
theorem aR{a K M:Y}(h:a<=K)(e:hB K M=true):a<=M:=aP h (gX e)
theorem gL{a K i M:Y}(h:a<=K)(e:hB (K+i) M=true):a+i<=M:=aP (BA h i) (gX e)
theorem qa{a K i M:Y}(h:a<=K)(e:hB (i*K) M=true):i*a<=M:=aP (mm i h) (gX e)
theorem b8{a K M:Y}(h:K<=a)(e:hB M K=true):M<=a:=aP (gX e) h
theorem hF{a K i M:Y}(h:K<=a+i)(e:hB (M+i) K=true):M<=a:=ag2 (aP (gX e) h)
theorem oO{a b i M:Y}(h:b+i<=a)(e:hB M i=true):M<=a:=aP (aP (gX e) (ei i b)) h
theorem cJ{a b K M:Y}(h:a=b)(h':b<=K)(e:hB K M=true):a<=M:=aP (gw h) (aR h' e)
theorem mA{a b K i M:Y}(h:a<=b+i)(h':b<=K)(e:hB (K+i) M=true):a<=M:=aP h (gL h' e)
variable{a b c d e f g h i j k l m n:Y}{u v w x y z o p q r s t:J}
theorem HT:2+8000<=100000000:=ei _ _
theorem HU(Α:-1000<=u)(Δ:u<=1000):(100*u).natAbs<100001:=ej (fI (by decide) (ow Α (by decide))) (lz (ow Δ (by decide)) (by decide))
theorem yB(Α:-1000<=u)(Δ:u<=1000):u.natAbs<1001:=ej (fI (by decide) Α) (lz Δ (by decide))
theorem rK(Α:-2000<=u)(Δ:u<=2000):(100*u).natAbs<200001:=ej (fI (by decide) (ow Α (by decide))) (lz (ow Δ (by decide)) (by decide))
theorem HV(Α:-2000<=u)(Δ:u<=2000):-3000<=u/\u<=3000:=⟨hc (by decide) Α,hc Δ (by decide)⟩
theorem yC(Α:-2000<=u)(Δ:u<=2000):u.natAbs<2001:=ej (fI (by decide) Α) (lz Δ (by decide))
theorem yD(Α:-600<=u):-1900<=u:=hc (by decide) Α
theorem Ct(Α:-600<=u):-2000<=u:=hc (by decide) Α
theorem Cu(Α:-8<=u)(Δ:u<=(8:J)):(25*u).natAbs<201:=ej (fI (by decide) (ow Α (by decide))) (lz (ow Δ (by decide)) (by decide))
theorem Cv(Α:-8<=u)(Δ:u<=(8:J)):u.natAbs<9:=ej (fI (by decide) Α) (lz Δ (by decide))
theorem So(Α:(0:J)<u)(Δ:u<1000):u.natAbs<1073741824:=ej (fI (by decide) Α) (fI Δ (by decide))
theorem tA(Α:(0:J)<u):(0:J)<=u:=ov Α
theorem yE(Α:(0:J)<u):(u.natAbs:J)=u:=GC (ov Α)
theorem tB(Α:(0:J)<u):¬u=(0:J):=GF Α
theorem Cw(Α:(0:J)<=u)(Δ:u<1200):-600<=u-600/\u-600<600:=θ [] [u] (.an (.ι (.g (.c 600)) (.s (.v 0) (.c 600))) (.ι (.a (.s (.v 0) (.c 600)) (.c 1)) (.c 600))) [(.ι (.c 0) (.v 0)),(.ι (.a (.v 0) (.c 1)) (.c 1200))] [[1,1],[1,0,1]] rfl Α Δ
theorem Cx(Α:(0:J)<=u)(Δ:u<(4:J)):u=(0:J)∨u=(1:J)∨u=(2:J)∨u=(3:J):=(fL Α).imp_right λh=>(fL h).imp_right λh=>(fL h).imp_right λh=>np (vo Δ) h
theorem Sp(Α:(0:J)<=u):(0:J)<=u+(1:J):=θ [] [u] (.ι (.c 0) (.a (.v 0) (.c 1))) [(.ι (.c 0) (.v 0))] [[1,1]] rfl Α
theorem HW(Α:(0:J)<=u):u=(u.toNat:J):=(GG Α).symm
theorem HX(Α:(1:J)<=u):(0:J)<u:=Α
theorem Sq(Α:10^18<=(u.natAbs:J)):((u.natAbs:J)-10^18).natAbs<=u.natAbs:=HR (y:=(u.natAbs:J)) (agY.mpr Α) (Int.sub_le_self _ (by decide:(0:J)<=10^18))
theorem Sr(Α:10^18<=(u.natAbs:J)):(0:J)<=(u.natAbs:J)-10^18:=Int.sub_nonneg_of_le Α
theorem Ss(_:u%10000=(0:J)):u=10000*(u/10000):=by lia
theorem yF(Α:u<1400):u<=1900:=θ [] [u] (.ι (.v 0) (.c 1900)) [(.ι (.a (.v 0) (.c 1)) (.c 1400))] [[1,1]] rfl Α
theorem Cy(Α:u<1400):u<=2000:=θ [] [u] (.ι (.v 0) (.c 2000)) [(.ι (.a (.v 0) (.c 1)) (.c 1400))] [[1,1]] rfl Α
theorem HY(Α:u=(0:J)∨u=(1:J)):(0:J)<=u/\u<256:=Α.elim (λe=>by subst e;decide) (λe=>by subst e;decide)
theorem Cz:(0:J)<=(2:J)*(u.natAbs:J):=jt _
theorem HZ:(0:J)<=(u.natAbs:J):=jt _
theorem Su(Α:((2:J)*(u.natAbs:J)+(v.natAbs:J))/((2:J)*(v.natAbs:J))<=(2:J)*(u.natAbs:J)+(v.natAbs:J))(_:(0:J)<=((2:J)*(u.natAbs:J)+(v.natAbs:J))/((2:J)*(v.natAbs:J))):(((2:J)*(u.natAbs:J)+(v.natAbs:J))/((2:J)*(v.natAbs:J))).natAbs<=((2:J)*(u.natAbs:J)+(v.natAbs:J)).natAbs:=ml.1 Α
theorem H0(Α:-2000<=u)(Δ:-2000<=v)(κ:u<=2000)(ay:v<=2000):(u-v).natAbs<4001:=θ [] [u,v] (.cA (.s (.v 0) (.v 1)) (.c 4001)) [(.ι (.g (.c 2000)) (.v 0)),(.ι (.g (.c 2000)) (.v 1)),(.ι (.v 0) (.c 2000)),(.ι (.v 1) (.c 2000))] [[1,0,1,1],[1,1,0,0,1]] rfl Α Δ κ ay
theorem H1(Α:-2000<=u)(Δ:v<=2000)(κ:u<=v):(100*u).natAbs<200001:=θ [] [u,v] (.cA (.m 100 (.v 0)) (.c 200001)) [(.ι (.g (.c 2000)) (.v 0)),(.ι (.v 1) (.c 2000)),(.ι (.v 0) (.v 1))] [[1,0,100,100],[1,100]] rfl Α Δ κ
theorem tC(Α:-2000<=u)(Δ:v<=2000)(κ:u<=v):-2000<=u/\u<=2000:=⟨Α,hc κ Δ⟩
theorem rL(Α:-2000<=u)(Δ:v<=2000)(κ:u<=v):u.natAbs<2001:=ej (fI (by decide) Α) (lz κ (lz Δ (by decide)))
theorem H2(Α:-2000<=v)(Δ:u<=2000)(κ:v<=u):(100*u).natAbs<200001:=θ [] [v,u] (.cA (.m 100 (.v 1)) (.c 200001)) [(.ι (.g (.c 2000)) (.v 0)),(.ι (.v 1) (.c 2000)),(.ι (.v 0) (.v 1))] [[1,0,100],[1,100,0,100]] rfl Α Δ κ
theorem vU(Α:-2000<=v)(Δ:u<=2000)(κ:v<=u):-2000<=u/\u<=2000:=⟨hc Α κ,Δ⟩
theorem vV(Α:-2000<=v)(Δ:u<=2000)(κ:v<=u):u.natAbs<2001:=ej (fI (by decide) (hc Α κ)) (lz Δ (by decide))
theorem H3(Α:(0:J)-50*v.fmod (4:J)=u)(Δ:v.fmod (4:J)<(4:J)):-1900<=u:=θ [] [((v.fmod (4:J)):J),u] (.ι (.g (.c 1900)) (.v 1)) [(.ff (.s (.c 0) (.m 50 (.v 0))) (.v 1)),(.ι (.a (.v 0) (.c 1)) (.c 4))] [[1,1,0,50]] rfl Α Δ
theorem Sv(Α:(0:J)-50*v.fmod (4:J)=u)(Δ:v.fmod (4:J)<(4:J)):-2000<=u:=θ [] [((v.fmod (4:J)):J),u] (.ι (.g (.c 2000)) (.v 1)) [(.ff (.s (.c 0) (.m 50 (.v 0))) (.v 1)),(.ι (.a (.v 0) (.c 1)) (.c 4))] [[1,1,0,50]] rfl Α Δ
theorem Sw(Α:(0:J)<=(u+v-20).fmod (6:J))(Δ:(u+v-20).fmod (6:J)<(6:J)):-2000<=50*(u+v-20).fmod (6:J)-150/\50*(u+v-20).fmod (6:J)-150<=2000:=θ [] [(((((u+v)-20)).fmod (6:J)):J)] (.an (.ι (.g (.c 2000)) (.s (.m 50 (.v 0)) (.c 150))) (.ι (.s (.m 50 (.v 0)) (.c 150)) (.c 2000))) [(.ι (.c 0) (.v 0)),(.ι (.a (.v 0) (.c 1)) (.c 6))] [[1,50],[1,0,50]] rfl Α Δ
theorem CA(Α:(0:J)<=v)(Δ:u<1200)(κ:v<800):u-600<=u-600+v/\u-600+v<1400:=θ [] [v,u] (.an (.ι (.s (.v 1) (.c 600)) (.a (.s (.v 1) (.c 600)) (.v 0))) (.ι (.a (.a (.s (.v 1) (.c 600)) (.v 0)) (.c 1)) (.c 1400))) [(.ι (.c 0) (.v 0)),(.ι (.a (.v 1) (.c 1)) (.c 1200)),(.ι (.a (.v 0) (.c 1)) (.c 800))] [[1,1],[1,0,1,1]] rfl Α Δ κ
theorem yG(Α:(0:J)<=v):u<=u+v:=θ [] [v,u] (.ι (.v 1) (.a (.v 1) (.v 0))) [(.ι (.c 0) (.v 0))] [[1,1]] rfl Α
theorem CB(Α:(4:J)∣u):(4:J)∣u-100*v:=Int.dvd_sub Α (Cs v)
theorem H4(Α:50*v.fmod (3:J)=u)(Δ:v.fmod (3:J)<(3:J)):u<=1900:=θ [] [((v.fmod (3:J)):J),u] (.ι (.v 1) (.c 1900)) [(.ff (.m 50 (.v 0)) (.v 1)),(.ι (.a (.v 0) (.c 1)) (.c 3))] [[1,0,1,50]] rfl Α Δ
theorem Sx(Α:50*v.fmod (3:J)=u)(Δ:v.fmod (3:J)<(3:J)):u<=2000:=θ [] [((v.fmod (3:J)):J),u] (.ι (.v 1) (.c 2000)) [(.ff (.m 50 (.v 0)) (.v 1)),(.ι (.a (.v 0) (.c 1)) (.c 3))] [[1,0,1,50]] rfl Α Δ
theorem H5(Α:u<v):u<=v:=ov Α
theorem vW(Α:u<=v):100*u<=100*v:=ow Α (by decide)
theorem CC(Α:u<=v):u<=v:=θ [] [u,v] (.ι (.v 0) (.v 1)) [(.ι (.v 0) (.v 1))] [[1,1]] rfl Α
theorem Sy(Α:v%(7:J)=(6:J))(Δ:u=v+(7:J))(κ:1000<=v):1000<u/\u<=v+(7:J)/\u%(7:J)=(6:J):=⟨Δ▸lz κ (Int.lt_add_of_pos_right v (by decide)),vm Δ,Δ▸(ag3 v 7).trans Α⟩
theorem H6(Α:¬v<u):u<=v:=ly.1 Α
theorem H7(Α:¬v<=100*u):100*u<=v:=θ [] [v,u] (.ι (.m 100 (.v 1)) (.v 0)) [(.ι (.a (.m 100 (.v 1)) (.c 1)) (.v 0))] [[1,1]] rfl (BB.mp Α)
theorem Sz(Α:¬v<=u):¬u>v:=λh=>Α (ov h)
theorem H8:(0:J)<=(2:J)*(u.natAbs:J)+(v.natAbs:J):=jt _
theorem tD(Α:-2000<=v)(Δ:w<=2000)(κ:u<=w)(ay:v<=u):-2000<=u/\u<=2000:=θ [] [v,w,u] (.an (.ι (.g (.c 2000)) (.v 2)) (.ι (.v 2) (.c 2000))) [(.ι (.g (.c 2000)) (.v 0)),(.ι (.v 1) (.c 2000)),(.ι (.v 2) (.v 1)),(.ι (.v 0) (.v 2))] [[1,1,0,0,1],[1,0,1,1]] rfl Α Δ κ ay
theorem H9(Α:100*v<=u)(Δ:-2000<=v)(κ:u<=100*w)(ay:w<=2000):u.natAbs<200001:=θ [] [v,u,w] (.cA (.v 1) (.c 200001)) [(.ι (.m 100 (.v 0)) (.v 1)),(.ι (.g (.c 2000)) (.v 0)),(.ι (.v 1) (.m 100 (.v 2))),(.ι (.v 2) (.c 2000))] [[1,0,0,1,100],[1,1,100]] rfl Α Δ κ ay
theorem SA(_:100*v<=w)(_:w<=100*u)(_:¬v=u):(1:J)<=100*(u-v):=by lia
theorem CD(Α:50*w.fmod (3:J)=v)(Δ:(0:J)-50*w.fmod (4:J)=u)(κ:(0:J)<=w.fmod (3:J))(ay:(0:J)<=w.fmod (4:J)):u<=v:=θ [] [((w.fmod (3:J)):J),v,((w.fmod (4:J)):J),u] (.ι (.v 3) (.v 1)) [(.ff (.m 50 (.v 0)) (.v 1)),(.ff (.s (.c 0) (.m 50 (.v 2))) (.v 3)),(.ι (.c 0) (.v 0)),(.ι (.c 0) (.v 2))] [[1,1,0,0,1,50,50]] rfl Α Δ κ ay
theorem H'(Α:100*v<=u)(Δ:-2000<=w)(κ:u<=100*x)(ay:y<=2000)(cc:x<=y)(d':w<=v):(0:J)<=u-100*v/\u-100*v<=400000:=θ [] [v,u,w,x,y] (.an (.ι (.c 0) (.s (.v 1) (.m 100 (.v 0)))) (.ι (.s (.v 1) (.m 100 (.v 0))) (.c 400000))) [(.ι (.m 100 (.v 0)) (.v 1)),(.ι (.g (.c 2000)) (.v 2)),(.ι (.v 1) (.m 100 (.v 3))),(.ι (.v 4) (.c 2000)),(.ι (.v 3) (.v 4)),(.ι (.v 2) (.v 0))] [[1,1],[1,0,100,1,100,100,100]] rfl Α Δ κ ay cc d'
theorem SD(Α:(0:J)<=u.fmod 2305843009213693951)(Δ:(0:J)<=v)(κ:v<=(a:J))(ay:a<=1000000)(cc:u.fmod 2305843009213693951<2305843009213693951):(u.fmod 2305843009213693951+60013*(v+(1:J))).natAbs<2305843009213693951+60013*1000002:=θ [a] [((u.fmod 2305843009213693951):J),v] (.cA (.a (.v 0) (.m 60013 (.a (.v 1) (.c 1)))) (.a (.c 2305843009213693951) (.m 60013 (.c 1000002)))) [(.ι (.c 0) (.v 0)),(.ι (.c 0) (.v 1)),(.ι (.v 1) (.n (.v 0))),(.le (.v 0) (.c 1000000)),(.ι (.a (.v 0) (.c 1)) (.c 2305843009213693951))] [[1,0,0,60013,60013,1],[1,1,60013]] rfl Α Δ κ ay cc
theorem CE(Α:u+(a:J)<=(8:J)):u<=(8:J):=θ [a] [u] (.ι (.v 0) (.c 8)) [(.ι (.a (.v 0) (.n (.v 0))) (.c 8))] [[1,1]] rfl Α
theorem SE(Α:u<=(a:J)):u+(1:J)<=(a:J)+(1:J):=θ [a] [u] (.ι (.a (.v 0) (.c 1)) (.a (.n (.v 0)) (.c 1))) [(.ι (.v 0) (.n (.v 0)))] [[1,1]] rfl Α
theorem Ia(Α:(b:J)=u+(a:J)):(u+(a:J)).toNat=b:=(cE GD Α).symm
theorem SF(Α:¬a=b):¬u+(a:J)+(1:J)=u+(b:J)+(1:J):=λe=>Α (Qg ((Int.add_right_inj u).mp ((Int.add_left_inj 1).mp e)))
theorem Ib(Α:(0:J)<256^a):(0:J)<=256^a:=ov Α
theorem Ic(Α:(0:J)<(a:J)):a-1+1=a:=il (nr.mp Α)
theorem Ie(Α:(0:J)<(a:J)):a-1<a:=Qh (nr.mp Α) ag4
theorem yH(Α:0<a):¬(a:J)=(0:J):=λe=>absurd (Qg e) (GH Α)
theorem Ig(Α:0=30-a)(Δ:a<=30):a=30:=vn Δ (GI Α.symm)
theorem SG(Α:1<=a)(Δ:a<=30):30-(a-1)=30-a+1:=match a,Α,Δ with|0,h,_=>absurd h (Nat.not_succ_le_zero 0)|k+1,_,Δ=>(il (Qi Δ)).symm
theorem Ih(Α:1<=a)(Δ:a<=4):a=1∨a=2∨a=3∨a=4:=(Cr Α).imp_right λh=>(Cr h).imp_right λh=>(Cr h).imp_right λh=>vn Δ h
theorem SH(Α:1<=a):(1:J)<=((8*a):J):=θ [a] [] (.ι (.c 1) (.m 8 (.n (.v 0)))) [(.le (.c 1) (.v 0))] [[1,8]] rfl Α
theorem CF(Α:1<=a):a=a-1+1:=(il Α).symm
theorem Ii(Α:20*a<=20*64):20*a<=100000000:=aP Α (ei _ _)
theorem Ij(Α:6<=a):2<=a+1:=θ [a] [] (.le (.c 2) (.a (.v 0) (.c 1))) [(.le (.c 6) (.v 0))] [[1,1]] rfl Α
theorem CG(Α:6<=a):a=a-1+1:=(il (aP (by decide) Α)).symm
theorem CH(Α:7<=a+1):5<=a+1:=aP (ei _ _) Α
theorem Ik(Α:7<=a):a=a-1+1:=(il (aP (by decide) Α)).symm
theorem Il(Α:(a:J)<(2:J)):a+1<=2:=ml.1 Α
theorem Im(Α:(a:J)<(2:J)):a<=1:=θ [a] [] (.le (.v 0) (.c 1)) [(.ι (.a (.n (.v 0)) (.c 1)) (.c 2))] [[1,1]] rfl Α
theorem Io(Α:a+64<i1):a<i1:=θ [a,i1] [] (.le (.a (.v 0) (.c 1)) (.v 1)) [(.le (.a (.a (.v 0) (.c 64)) (.c 1)) (.v 1))] [[1,1]] rfl Α
theorem Ip(_:a<30):30-a=29-a+1:=by decide+revert
theorem Iq(Α:a<30):a+1<=30:=Α
theorem Ir(Α:a=2):a<=10000:=by subst Α;decide
theorem It(Α:a=2):a<=400:=by subst Α;decide
theorem Iu(_:a<=1):30+80*a<=110:=by decide+revert
theorem SI(_:a<=1):7-a+a<=7:=by decide+revert
theorem SJ(_:a<=1):a+1+(8-a)=9:=by decide+revert
theorem yI(_:a<=1):a=0∨a=1:=by decide+revert
theorem SK(_:a<=10):4*a+1<=41:=by decide+revert
theorem SM(_:a<=10):a+1+1<=1000000:=by decide+revert
theorem SN(_:a<=10):min (a-1) a+1<=10000:=by decide+revert
theorem SO(_:a<=100):7000+(4*a+1)<=100000000:=by decide+revert
theorem SP(_:a<=100):7000+(4*a+1)<=8000:=by decide+revert
theorem Iv(_:a<=100):(a:J)-(0:J)<=20000:=by decide+revert
theorem Iw(_:a<=100):(a:J)<(2:J)^60:=by decide+revert
theorem CI(Α:a<=100):(a:J).natAbs<101:=ag5 Α
theorem Ix(Α:a<=1000):a+1<=16777216+1:=mn Α (by decide)
theorem SQ(_:a<=2):(0:J)+(1:J)+(a:J)<=(8:J):=by decide+revert
theorem SR(_:a<=2):(0:J)<=(a:J)/\(a:J)<256:=by decide+revert
theorem Iy(_:a<=2):2*a+12<=39:=by decide+revert
theorem SS(_:a<=2):2*a+8<=37:=by decide+revert
theorem Iz(_:a<=2):(a:J)<=1000:=by decide+revert
theorem IA(Α:a<=3):1+a<=10000:=aP (xY Α _) (by decide)
theorem SU(_:a<=3):max 1 a<=3:=by decide+revert
theorem SV(_:a<=30):30-(a-1)+(a-1)=30:=by decide+revert
theorem SW(_:a<=4):((8:J)*(a:J)).natAbs<33:=by decide+revert
theorem SX(_:a<=4):(0:J)<=(a:J)/\(a:J)<1000:=by decide+revert
theorem SY(_:a<=4):2*((8:J)*(a:J)).toNat<=100000000:=by decide+revert
theorem S0(_:a<=4):2*(8*a)<=100000000:=by decide+revert
theorem S1(_:a<=4):((8*a):J)<=32:=by decide+revert
theorem IB(_:a<=4):a=0∨a=1∨a=2∨a=3∨a=4:=by decide+revert
theorem S2(_:a<=40):(13*(a:J)+(5:J)).natAbs<1000:=by decide+revert
theorem S3(_:a<=50):((a:J)*(2:J)).natAbs<101:=by decide+revert
theorem S4(_:a<=50):(0:J)<=(a:J)/\(a:J)<256:=by decide+revert
theorem S5(_:a<=50):(a:J)<=1000:=by decide+revert
theorem S6(_:a<=7):(0:J)+(1:J)+(a:J)<=(8:J):=by decide+revert
theorem IC(Α:a<=9000):a+a<=100000000:=θ [a] [] (.le (.a (.v 0) (.v 0)) (.c 100000000)) [(.le (.v 0) (.c 9000))] [[1,2]] rfl Α
theorem ID(_:¬(a:J)=(0:J)):¬-(a:J)=(0:J):=by lia
theorem IE:(0:J)<=(8:J)*(a:J):=jt _
theorem oP:(0:J)<=(a:J):=jt _
theorem IF:(0:J)<=(a:J)+(1:J):=jt _
theorem IG:(1:J)+(1:J)*(a:J)-(1:J)=(a:J):=by simp+arith
theorem IH:(1:J)+(1:J)*(a:J)=((a+1):J):=by simp+arith
theorem CJ:(1:J)+(a:J)=((a+1):J):=ag6 _ _
theorem tE:1<=a+1:=ei _ _
theorem II:30-(a+1)=29-a:=by simp+arith
theorem rM:-(2:J)^60<(a:J):=jt _
theorem CK:a+12+20<=a+32:=i2 _
theorem IJ:a+3+1+4+5<=a+20:=by simp
theorem IK:a+4<=a+12:=by simp
theorem S7(_:(a:J)*(u.toNat:J)<=10000):¬a*u.toNat>(2^63-1)/8:=by lia
theorem S8(Α:2*a+12<=b+2):2*a+8<=b:=θ [a,b] [] (.le (.a (.m 2 (.v 0)) (.c 8)) (.v 1)) [(.le (.a (.m 2 (.v 0)) (.c 12)) (.a (.v 1) (.c 2)))] [[1,1]] rfl Α
theorem CL(Α:2*a+12<=b):a+12<=b:=θ [a,b] [] (.le (.a (.v 0) (.c 12)) (.v 1)) [(.le (.a (.m 2 (.v 0)) (.c 12)) (.v 1))] [[2,2]] rfl Α
theorem tF(Α:2*b+8<=a):1<=a:=aP (ei _ _) Α
theorem yJ(Α:2*b+8<=a):5<=a:=aP (ei _ _) Α
theorem IL(Α:4*a+3*b<=8000):a+a<=9000:=θ [a,b] [] (.le (.a (.v 0) (.v 0)) (.c 9000)) [(.le (.a (.m 4 (.v 0)) (.m 3 (.v 1))) (.c 8000))] [[2,1]] rfl Α
theorem IM(Α:5+b<=a):2<=a:=aP (by decide) (aP (io _ _) Α)
theorem IN(Α:5+b<=a):3<=a:=aP (by decide) (aP (io _ _) Α)
theorem vX(Α:6+2*b<=a+1):1<=a:=θ [b,a] [] (.le (.c 1) (.v 1)) [(.le (.a (.c 6) (.m 2 (.v 0))) (.a (.v 1) (.c 1)))] [[1,1]] rfl Α
theorem IP(Α:6+a<=b+1):5+a<=b:=θ [a,b] [] (.le (.a (.c 5) (.v 0)) (.v 1)) [(.le (.a (.c 6) (.v 0)) (.a (.v 1) (.c 1)))] [[1,1]] rfl Α
theorem IQ(Α:(a:J)<(b:J)):a<b:=nr.1 Α
theorem CM(Α:(a:J)=(b:J)):a=b:=θ [a,b] [] (.eq (.v 0) (.v 1)) [(.ff (.n (.v 0)) (.n (.v 1)))] [[1,1],[1,0,1]] rfl Α
theorem CN(Α:a+0=b):a=b:=θ [a,b] [] (.eq (.v 0) (.v 1)) [(.eq (.a (.v 0) (.c 0)) (.v 1))] [[1,1],[1,0,1]] rfl Α
theorem IR(Α:a+1=b)(Δ:b<=10):a<=50:=θ [a,b] [] (.le (.v 0) (.c 50)) [(.eq (.a (.v 0) (.c 1)) (.v 1)),(.le (.v 1) (.c 10))] [[1,1,0,1]] rfl Α Δ
theorem IS(Α:a+2<=b):a+1<=b:=ag7 Α
theorem IT(Α:a+20*(b+1)+90<i1):a+3+20*b+100<i1:=θ [a,b,i1] [] (.le (.a (.a (.a (.a (.v 0) (.c 3)) (.m 20 (.v 1))) (.c 100)) (.c 1)) (.v 2)) [(.le (.a (.a (.a (.v 0) (.m 20 (.a (.v 1) (.c 1)))) (.c 90)) (.c 1)) (.v 2))] [[1,1]] rfl Α
theorem IU(Α:a+4*(b+1)+4<j6):a+1+4*b+6<j6:=θ [a,b,j6] [] (.le (.a (.a (.a (.a (.v 0) (.c 1)) (.m 4 (.v 1))) (.c 6)) (.c 1)) (.v 2)) [(.le (.a (.a (.a (.v 0) (.m 4 (.a (.v 1) (.c 1)))) (.c 4)) (.c 1)) (.v 2))] [[1,1]] rfl Α
theorem IV(Α:a+4*(b+1)+4<j6):a<j6:=θ [a,b,j6] [] (.le (.a (.v 0) (.c 1)) (.v 2)) [(.le (.a (.a (.a (.v 0) (.m 4 (.a (.v 1) (.c 1)))) (.c 4)) (.c 1)) (.v 2))] [[1,1]] rfl Α
theorem IW(Α:a+(b+1)<=1000):a+1+b<=1000:=θ [a,b] [] (.le (.a (.a (.v 0) (.c 1)) (.v 1)) (.c 1000)) [(.le (.a (.v 0) (.a (.v 1) (.c 1))) (.c 1000))] [[1,1]] rfl Α
theorem IX(Α:a+(b+1)<=1000):a<=10000:=θ [a,b] [] (.le (.v 0) (.c 10000)) [(.le (.a (.v 0) (.a (.v 1) (.c 1))) (.c 1000))] [[1,1]] rfl Α
theorem IY(Α:a+(b+1)<=20000):a+b<=20000:=GJ Α
theorem IZ(Α:a+(b+1)<=20000):a<=30000:=θ [a,b] [] (.le (.v 0) (.c 30000)) [(.le (.a (.v 0) (.a (.v 1) (.c 1))) (.c 20000))] [[1,1]] rfl Α
theorem qb(Α:a+b<=9000):a+b<=100000000:=aP Α (ei _ _)
theorem I0(Α:a-b=0)(Δ:b<=a):a=b:=vn (GI Α) Δ
theorem S9(Α:a<b+1)(Δ:¬a=b):a<b:=Nat.lt_of_le_of_ne (pV Α) Δ
theorem I1(Α:a<b):a+1<=b:=Α
theorem I2(Α:a<b):a<b+1:=Qj Α
theorem I3(Α:a=2*b)(Δ:2*b<=10000):a<=10000:=aP (gw Α) Δ
theorem I4(Α:a=2*b):a+2=2*(b+1):=by subst Α;rfl
theorem yK(Α:a=b+1):a=b+1:=θ [a,b] [] (.eq (.v 0) (.a (.v 1) (.c 1))) [(.eq (.v 0) (.a (.v 1) (.c 1)))] [[1,1],[1,0,1]] rfl Α
theorem I5(Α:a=b+2)(Δ:b<=50):(a:J)-(1:J)<=20000:=θ [a,b] [] (.ι (.s (.n (.v 0)) (.c 1)) (.c 20000)) [(.eq (.v 0) (.a (.v 1) (.c 2))),(.le (.v 1) (.c 50))] [[1,1,0,1]] rfl Α Δ
theorem I6(_:a=b+2)(_:b<=50):(a:J)<(2:J)^60:=by lia
theorem I7(Α:a=b+2)(Δ:b<=50):a<=100000:=aP (gw Α) (aP (BA Δ _) (by decide))
theorem I8(Α:a=b+2):1<=a:=θ [a,b] [] (.le (.c 1) (.v 0)) [(.eq (.v 0) (.a (.v 1) (.c 2)))] [[1,0,1]] rfl Α
theorem I9(Α:a=b)(Δ:b<=4):1<=a+1/\a+1<=8:=θ [a,b] [] (.an (.le (.c 1) (.a (.v 0) (.c 1))) (.le (.a (.v 0) (.c 1)) (.c 8))) [(.eq (.v 0) (.v 1)),(.le (.v 1) (.c 4))] [[1],[1,1,0,1]] rfl Α Δ
theorem I'(Α:a=b)(Δ:b<=4):(a:J)+(1:J)<=1000:=nr.2 (mn (gw Α) (mn Δ (by decide)))
theorem Ja(Α:a=b)(Δ:b<=4):a-1<=8:=aP (ox _ _) (aP (gw Α) (aP Δ (by decide)))
theorem Jb(Α:a=b)(Δ:b<=50):1+a<=10000:=θ [a,b] [] (.le (.a (.c 1) (.v 0)) (.c 10000)) [(.eq (.v 0) (.v 1)),(.le (.v 1) (.c 50))] [[1,1,0,1]] rfl Α Δ
theorem Jc(Α:a=b):a=b:=θ [a,b] [] (.eq (.v 0) (.v 1)) [(.eq (.v 0) (.v 1))] [[1,1],[1,0,1]] rfl Α
theorem Jd(Α:a<=b):a<b+1:=ag5 Α
theorem Je(Α:b+a<=9000):a+b<=100000000:=θ [b,a] [] (.le (.a (.v 1) (.v 0)) (.c 100000000)) [(.le (.a (.v 0) (.v 1)) (.c 9000))] [[1,1]] rfl Α
theorem Jf(_:b<a):(0:J)<=(a:J)-(1:J)+-1*(b:J):=by lia
theorem CO(Α:b=a):a<=b:=θ [b,a] [] (.le (.v 1) (.v 0)) [(.eq (.v 0) (.v 1))] [[1,0,1]] rfl Α
theorem Jg(Α:b<=2):a+b+b<=a+4:=θ [b,a] [] (.le (.a (.a (.v 1) (.v 0)) (.v 0)) (.a (.v 1) (.c 4))) [(.le (.v 0) (.c 2))] [[1,2]] rfl Α
theorem Jh(Α:b<=800000)(Δ:a<b+3+1+4):a<=1000000:=θ [b,a] [] (.le (.v 1) (.c 1000000)) [(.le (.v 0) (.c 800000)),(.le (.a (.v 1) (.c 1)) (.a (.a (.a (.v 0) (.c 3)) (.c 1)) (.c 4)))] [[1,1,1]] rfl Α Δ
theorem yL(Α:a+(b+1)=c):a+1+b=c:=θ [a,b,c] [] (.eq (.a (.a (.v 0) (.c 1)) (.v 1)) (.v 2)) [(.eq (.a (.v 0) (.a (.v 1) (.c 1))) (.v 2))] [[1,1],[1,0,1]] rfl Α
theorem CP(Α:a=b)(Δ:b=c)(κ:c<=1000):a<=16777216:=aP (gw Α) (aP (gw Δ) (aP κ (by decide)))
theorem Ji(Α:a=c+1)(Δ:c+(b+1)<=20000):a+b<=20000:=θ [a,c,b] [] (.le (.a (.v 0) (.v 2)) (.c 20000)) [(.eq (.v 0) (.a (.v 1) (.c 1))),(.le (.a (.v 1) (.a (.v 2) (.c 1))) (.c 20000))] [[1,1,0,1]] rfl Α Δ
theorem Jj(Α:a=c)(Δ:c<=b):a<=b:=aP (gw Α) Δ
theorem Jk(Α:a<=b+1)(Δ:b<=c+1)(κ:c<=12):a<=10000:=θ [a,b,c] [] (.le (.v 0) (.c 10000)) [(.le (.v 0) (.a (.v 1) (.c 1))),(.le (.v 1) (.a (.v 2) (.c 1))),(.le (.v 2) (.c 12))] [[1,1,1,1]] rfl Α Δ κ
theorem Jl(Α:a<=b+1)(Δ:b<=c+1)(κ:c<=3):a<=10000:=θ [a,b,c] [] (.le (.v 0) (.c 10000)) [(.le (.v 0) (.a (.v 1) (.c 1))),(.le (.v 1) (.a (.v 2) (.c 1))),(.le (.v 2) (.c 3))] [[1,1,1,1]] rfl Α Δ κ
theorem S'(_:b+10000*c<=300000)(_:(a:J)<(1:J)+((c+1):J)):(1:J)+(a:J)-(1:J)<(2:J)^60:=by lia
theorem Ta(_:b+10000*c<=300000)(_:(a:J)<(1:J)+((c+1):J)):(1:J)+(a:J)<(2:J)^60:=by lia
theorem Jm(Α:b=2*c)(Δ:a=b)(κ:c<=400):(a:J)-(0:J)<=20000:=θ [b,c,a] [] (.ι (.s (.n (.v 2)) (.c 0)) (.c 20000)) [(.eq (.v 0) (.m 2 (.v 1))),(.eq (.v 2) (.v 0)),(.le (.v 1) (.c 400))] [[1,1,0,1,0,2]] rfl Α Δ κ
theorem Jn(_:b=2*c)(_:a=b)(_:c<=400):(a:J)<(2:J)^60:=by lia
theorem Jo(Α:b=2*c)(Δ:a=b)(κ:c<=400):a<=1000:=aP (gw Δ) (aP (gw Α) (aP (mm _ κ) (by decide)))
theorem yM(Α:b=2*c)(Δ:a=b)(κ:c<=400):a<=100000:=aP (gw Δ) (aP (gw Α) (aP (mm _ κ) (by decide)))
theorem Jp(Α:b=c+1)(Δ:a=b)(κ:b<=4):1<=a/\a<=10:=θ [b,c,a] [] (.an (.le (.c 1) (.v 2)) (.le (.v 2) (.c 10))) [(.eq (.v 0) (.a (.v 1) (.c 1))),(.eq (.v 2) (.v 0)),(.le (.v 0) (.c 4))] [[1,0,1,0,1],[1,0,0,1,0,1]] rfl Α Δ κ
theorem Jq(Α:b=c+1)(Δ:a=b):1<=a:=θ [b,c,a] [] (.le (.c 1) (.v 2)) [(.eq (.v 0) (.a (.v 1) (.c 1))),(.eq (.v 2) (.v 0))] [[1,0,1,0,1]] rfl Α Δ
theorem tG(Α:b=c)(Δ:a<c):a<b:=Qk Δ Α.symm
theorem CQ(Α:b=c)(Δ:a=c):a+b=2*c:=θ [b,c,a] [] (.eq (.a (.v 2) (.v 0)) (.m 2 (.v 1))) [(.eq (.v 0) (.v 1)),(.eq (.v 2) (.v 1))] [[1,1,0,1],[1,0,1,0,1]] rfl Α Δ
theorem Jr(Α:b<=1)(Δ:(c:J)<(1:J)+((b+1):J))(κ:a<c+1):a<=10:=θ [b,c,a] [] (.le (.v 2) (.c 10)) [(.le (.v 0) (.c 1)),(.ι (.a (.n (.v 1)) (.c 1)) (.a (.c 1) (.a (.n (.v 0)) (.c 1)))),(.le (.a (.v 2) (.c 1)) (.a (.v 1) (.c 1)))] [[1,1,1,1]] rfl Α Δ κ
theorem Tb(_:¬((c+1):J)>(1:J)):¬(a=b/\0<c):=by lia
theorem Tc(Α:¬(a:J)=(b:J)):¬(a=b/\0<c):=λe=>Α (cE ri e.1)
theorem Js(Α:a+b=d)(Δ:d<=c):a+b<=c:=aP (gw Α) Δ
theorem Jt(Α:a+b=d):a+(b+c)=d+c:=θ [a,b,d,c] [] (.eq (.a (.v 0) (.a (.v 1) (.v 3))) (.a (.v 2) (.v 3))) [(.eq (.a (.v 0) (.v 1)) (.v 2))] [[1,1],[1,0,1]] rfl Α
theorem Td(_:a=b+(c+d)):¬(0:J)+(8:J)*((a:J)-(b:J))<(8:J)*(c:J):=by lia
theorem Ju(Α:a<=b+1)(Δ:c<=d+1)(κ:b<=c+1)(ay:d<=3):a<=30:=θ [a,b,c,d] [] (.le (.v 0) (.c 30)) [(.le (.v 0) (.a (.v 1) (.c 1))),(.le (.v 2) (.a (.v 3) (.c 1))),(.le (.v 1) (.a (.v 2) (.c 1))),(.le (.v 3) (.c 3))] [[1,1,1,1,1]] rfl Α Δ κ ay
theorem Jv(Α:b+c=d)(Δ:a<d):a<b+c:=Qk Δ Α.symm
theorem Jw(Α:b=c+2)(Δ:d=c+2)(κ:a<d-1):a+1<b:=by subst Α Δ;exact ag8 κ
theorem Jx(Α:b=c+2)(Δ:d=c+2)(κ:a<d-1):a<b:=by subst Α Δ;exact Qj κ
theorem Jy(Α:b=c)(Δ:a=d)(κ:d+c<=10000):a+b<=16777216:=θ [b,c,a,d] [] (.le (.a (.v 2) (.v 0)) (.c 16777216)) [(.eq (.v 0) (.v 1)),(.eq (.v 2) (.v 3)),(.le (.a (.v 3) (.v 1)) (.c 10000))] [[1,1,0,1,0,1]] rfl Α Δ κ
theorem Jz(Α:c=d+1)(Δ:a=d)(κ:b=c):a+1+1=b+1:=θ [c,d,a,b] [] (.eq (.a (.a (.v 2) (.c 1)) (.c 1)) (.a (.v 3) (.c 1))) [(.eq (.v 0) (.a (.v 1) (.c 1))),(.eq (.v 2) (.v 1)),(.eq (.v 3) (.v 0))] [[1,0,1,1,0,0,1],[1,1,0,0,1,1]] rfl Α Δ κ
theorem Te(Α:c=d+2)(Δ:b=d+2)(κ:a+1<c):a<b-1:=by subst Δ Α;exact BC κ
theorem JA(Α:d+e=c)(Δ:b=e)(κ:a=d):a+b=c:=θ [d,e,c,b,a] [] (.eq (.a (.v 4) (.v 3)) (.v 2)) [(.eq (.a (.v 0) (.v 1)) (.v 2)),(.eq (.v 3) (.v 1)),(.eq (.v 4) (.v 0))] [[1,1,0,1,0,1],[1,0,1,0,1,0,1]] rfl Α Δ κ
end
noncomputable def dB:I φ:=([" goes down"," has a wrong count"," is no array of numbers"," is no row of pairs"," is no such number","-",".","0","Bits","BitsPerSample","Bounds","Bounds goes down","Bounds has a wrong count","C0","C0 and C1 have unlike counts","C1","Decode","Domain","Encode","Encode is missing","FunctionType","Functions","Functions is no array","N","Program"]:I φ)++
 (["Range","Range has a wrong count","Samples","Size","Size is no row of sizes","__init__","a calculator leaves a wrong count","a function without its spans","a number divided by 0","a power takes one number","a stitched function takes one number","a wrong count of numbers","append","array","at","bits","bounds","count","count_in","count_out","data","dict","domain","every","extend"]:I φ)++
 (["fetch","functions nested too deep","functions that do not go together","generation","get","head","held","high","int","is_hex","kind","left","levels","limits","low","name","next","no function","no function of this type","no object","no such samples","null","number","numbers","octets"]:I φ)++
 (["out_range","parts","places","power","program","put","real","ref","rows","samples are lacking","seen","shelf","stream","string","table","take","text","the data end too early","this is no number","told","top","trailer","truth","update","what"]:I φ)
noncomputable def b6(k:Y):φ:=dB.getD k Str.empty
theorem Tf:dB.Nodup:=by decide+kernel
theorem Tg:dB.all (λx=>decide (0<x.length)&&decide (x.length<=60))=true:=by decide+kernel
theorem CR{k:Y}(h:k<dB.length):dB[k]?=some (b6 k):=by
 unfold b6;rw[lA,gY h];rfl
theorem vY{i j:Y}(hi:i<dB.length)(cQ:j<dB.length)(e:b6 i=b6 j):i=j:=by
 have Δ:=CR cQ;rw[<-e] at Δ;refine a8 (j7.mp (CR hi)) λcY bd=>?_;refine a8 (j7.mp Δ) λfM bk=>?_;exact(ag9 Tf).mp (bd.trans bk.symm)
theorem JB{k:Y}(h:k<dB.length):0<(b6 k).length/\(b6 k).length<=60:=by
 have:=kL.mp Tg _ (j8 (CR h));simpa using this
inductive O where
 |none
 |bool (b:aQ)
 |int (i:J)
 |sym (k:Y)
 |text
 |bytes (b:I h5)
 |val (v:Λ)
 |tup (l:I O)
 |lst (l:I O)
 |Ω (l:I (Y×O))
 |obj (C:ε) (l:I (Y×O))
 |loc (a:ε)
 |ins (C d:ε)
 deriving Inhabited
noncomputable abbrev a2:=ε->ξ cU
noncomputable abbrev vZ(vs:h6 Λ)(n:Y):cU:={cls:=.type "tuple",data:=.seq vs n}
noncomputable def mB(o:cU)(kvs:I (φ×Λ)):Prop:=
 ∃es dR,o.data= .dict es dR/\StrKeys es/\Ql es/\(∀name,BD es name=eS kvs name)
section
variable(prog:he)(w:e4)
mutual
inductive au(F:a2):O->Λ->Prop
 |none:au F .none .none
 |bool (b):au F (.bool b) (.bool b)
 |int (i t):au F (.int i) (.int i t)
 |sym (k t):k<dB.length->au F (.sym k) (.str (b6 k) t)
 |text (x t):x.length<=200->au F .text (.str x t)
 |bytes (b t):au F (.bytes b) (.bytes b.toArray t)
 |val (v):GK v=true->au F (.val v) v
 |tup {l vs a n}:F a=some (vZ vs.toArray n)->bA F l vs->au F (.tup l) (.ref a)
 |lst {l vs a n}:F a=some (listOf vs.toArray n)->bA F l vs->au F (.lst l) (.ref a)
 |Ω {l kvs a o}:(a==mo)=false->F a=some o->o.IsDictOf (strKind prog w) kvs->RelK F l kvs->au F (.Ω l) (.ref a)
 |obj {C l kvs a d o}:F a=some (lB C d)->F d=some o->mB o kvs->RelK F l kvs->au F (.obj C l) (.ref a)
 |loc (a):au F (.loc a) (.ref a)
 |ins {C d a}:F a=some (lB C d)->au F (.ins C d) (.ref a)
inductive bA(F:a2):I O->I Λ->Prop
 |nil:bA F [] []
 |cons {x v l vs}:au F x v->bA F l vs->bA F (x::l) (v::vs)
inductive RelK(F:a2):I (Y×O)->I (φ×Λ)->Prop
 |nil:RelK F [] []
 |cons {k x v l kvs}:k<dB.length->au F x v->RelK F l kvs->RelK F ((k,x)::l) ((b6 k,v)::kvs)
end
end
noncomputable def cr(F ω:a2):Prop:=∀a o,F a=some o->ω a=some o
theorem cr.refl(F:a2):cr F F:=λH H h=>h
theorem cr.trans{F ω v0:a2}(h:cr F ω)(h':cr ω v0):cr F v0:=λa o e=>h' a o (h a o e)
section
variable{prog:he}{w:e4}{F ω:a2}
theorem CS(dH:cr F ω):(∀{x v},au prog w F x v->au prog w ω x v)/\(∀{x v},bA prog w F x v->bA prog w ω x v)/\(∀{x v},RelK prog w F x v->RelK prog w ω x v):=by
 refine ft ?_ ?_ ?_<;>intro x v h<;>
  refine h.rec (motive_1:=λx v H=>au prog w ω x v) (motive_2:=λx v H=>bA prog w ω x v) (motive_3:=λx v H=>RelK prog w ω x v)
   .none .bool .int .sym .text .bytes .val (λh H r=>.tup (dH _ _ h) r) (λh H r=>.lst (dH _ _ h) r) (λn h d H r=>.Ω n (dH _ _ h) d r)
   (λh h' d H r=>.obj (dH _ _ h) (dH _ _ h') d r) .loc (λh=>.ins (dH _ _ h)) .nil (λH H h r=>.cons h r) .nil (λk H H h r=>.cons k h r)
theorem au.mono(dH:cr F ω){x v}(h:au prog w F x v):au prog w ω x v:=(CS dH).1 h
theorem bA.mono(dH:cr F ω){x v}(h:bA prog w F x v):bA prog w ω x v:=(CS dH).2.1 h
theorem RelK.mono(dH:cr F ω){x v}(h:RelK prog w F x v):RelK prog w ω x v:=(CS dH).2.2 h
end
inductive fY where
 |lst (l:I O)
 |Ω (l:I (Y×O))
 |tab (l:I (J×O))
 |cV (l:I (Y×O))
 deriving Inhabited
noncomputable abbrev Ι:=ε->ξ fY
noncomputable abbrev Ο:=I (ξ O)
noncomputable def hN:Ο->Y->ξ O
 |[],_=>none
 |x::_,0=>x
 |_::l,i+1=>hN l i
noncomputable def eU:Ο->Y->ξ O->Ο
 |[],_,_=>[]
 |_::l,0,v=>v::l
 |x::l,i+1,v=>x::eU l i v
theorem CT:∀(ρ:Ο) i v,(eU ρ i v).length=ρ.length
 |[],_,_=>rfl
 |_::_,0,_=>rfl
 |_::l,i+1,v=>cE (·+1) (CT l i v)
theorem CU:∀(ρ:Ο) i v,i<ρ.length->hN (eU ρ i v) i=v
 |[],i,_,h=>absurd h (Nat.not_lt_zero i)
 |_::_,0,_,_=>rfl
 |_::l,i+1,v,h=>CU l i v (BC h)
theorem CV:∀(ρ:Ο) i j v,j≠i->hN (eU ρ i v) j=hN ρ j
 |[],_,_,_,_=>rfl
 |_::_,0,0,_,h=>absurd rfl h
 |_::_,0,_+1,_,_=>rfl
 |_::_,_+1,0,_,_=>rfl
 |_::l,i+1,j+1,v,h=>CV l i j v λe=>h (by rw[e])
noncomputable def upd(c:Ι)(a:ε)(k:ξ fY):Ι:=λb=>if b=a then k else c b
theorem aj(c:Ι)(a:ε)(k:ξ fY):upd c a k a=k:=by simp[upd]
theorem a3(c:Ι){a b:ε}(k:ξ fY)(h:b≠a):upd c a k b=c b:=by simp[upd,h]
noncomputable def gZ(o:cU):Prop:=∀vs,o.data≠.fields vs
section
variable(prog:he)(w:e4)
mutual
inductive jz(F:a2):I (J×O)->I (J×Λ)->Prop
 |nil:jz F [] []
 |cons {k x v l kvs}:au prog w F x v->jz F l kvs->jz F ((k,x)::l) ((k,v)::kvs)
end
inductive hO(F:a2):fY->cU->Prop
 |lst {l vs n}:bA prog w F l vs->hO F (.lst l) (listOf vs.toArray n)
 |Ω {l kvs o}:o.IsDictOf (strKind prog w) kvs->RelK prog w F l kvs->hO F (.Ω l) o
 |tab {l kvs o}:o.IsDictOf (Qm prog w) kvs->jz prog w F l kvs->hO F (.tab l) o
 |cV {l kvs o}:mB o kvs->RelK prog w F l kvs->hO F (.cV l) o
structure a0(B:bK)(F:a2)(c:Ι)(h:bK):Prop where
 base:∀a o,B.get? a=some o->F a=some o
 frozen:∀a o,F a=some o->h.get? a=some o
 cells:∀a k,c a=some k->F a=none/\∃o,h.get? a=some o/\hO prog w F k o
 nm:∀a k,c a=some k->(a==mo)=false
structure cf(W:ε->Prop)(F:a2)(c:Ι)(h:bK)(ω:a2)(c':Ι)(h':bK):Prop where
 le:cr F ω
 keep:∀b o,h.get? b=some o->c b=none->¬W b->h'.get? b=some o
 c4:∀b o,h.get? b=some o->∃aU,h'.get? b=some aU/\(gZ o->gZ aU)
 i9:∀b,(c' b).isSome->h.get? b=none∨(c b).isSome
 kT:∀b,(ω b).isSome->(F b).isSome∨h.get? b=none∨(c b).isSome
inductive Place where
 |loc (L:ε) (x:φ)
 |cell (a:ε)
noncomputable def Place.addr:Place->ε
 | .loc L _=>L
 | .cell a=>a
noncomputable def jA(F:a2)(h:bK):Place->ξ O->Prop
 | .loc L _,.none=>∃m,h.Ns L m
 | .loc L x,.some ek=>∃m v,h.Ns L m/\m x=some v/\au prog w F ek v
 | .cell a,.none=>∃v,h.IsCell a v
 | .cell a,.some ek=>∃v,h.IsCell a (some v)/\au prog w F ek v
structure bI(B:bK)(Γ:I Place)(l:I bx)(F:a2)(c:Ι)(ρ:Ο)(h:bK):Prop where
 len:ρ.length=Γ.length
 places:∀i p,Γ[i]?=some p->jA prog w F h p (hN ρ i)
 nodup:Γ.Nodup
 hP:∀p∈Γ,F p.addr=none/\c p.addr=none
 frames:h.FunFrames B l
end
theorem cf.refl(W:ε->Prop)(F c h):cf W F c h F c h:=
 ⟨.refl _,λH H e H H=>e,λH o e=>⟨o,e,id⟩,λH e=>.inr e,λH e=>.inl e⟩
theorem cf.trans{W:ε->Prop}{F c h ω c' h' v0 bz oQ}(x:cf W F c h ω c' h')(y:cf W ω c' h' v0 bz oQ):cf W F c h v0 bz oQ:=by
 have Th:∀b o,h.get? b=some o->c b=none->c' b=none:=λb o e Θ=>by
  rcases q:c' b with _|k
  ·rfl
  ·rcases x.i9 b (by rw[q];rfl) with r|r
   ·rw[e] at r;contradiction
   ·rw[Θ] at r;contradiction
 have kc:∀b,h'.get? b=none->h.get? b=none:=λb e=>by
  rcases q:h.get? b with _|o
  ·rfl
  ·(refine ψ (x.c4 b o q) λaU aT H=>?_);rw[e] at aT;contradiction
 refine⟨x.le.trans y.le,λb o e Θ bC=>y.keep b o (x.keep b o e Θ bC) (Th b o e Θ) bC,λb o e=>?_,λb e=>?_,λb e=>?_⟩
 ·refine ψ (x.c4 b o e) λaU aT dy=>?_;refine ψ (y.c4 b aU aT) λCW CX CY=>?_;exact as CW CX (λz=>CY (dy z))
 ·rcases y.i9 b e with r|r
  ·exact .inl (kc b r)
  ·exact x.i9 b r
 ·rcases y.kT b e with r|r|r
  ·exact x.kT b r
  ·exact .inr (.inl (kc b r))
  ·exact .inr (x.i9 b r)
theorem cf.weaken{W fN:ε->Prop}{F c h ω c' h'}(x:cf W F c h ω c' h')(bC:∀b,W b->fN b):cf fN F c h ω c' h':=
 ⟨x.le,λb o e Θ Ζ=>x.keep b o e Θ λz=>Ζ (bC b z),x.c4,x.i9,x.kT⟩
theorem FunFrames.ext{B h h':bK}(k:∀b o,h.get? b=some o->∃aU,h'.get? b=some aU/\(gZ o->gZ aU)){l:I bx}(Ε:h.FunFrames B l):h'.FunFrames B l:=by
 induction l with
 |nil=>trivial
 |cons env r Ξ=>
  refine e7 Ε λΗ κ Χ=>oJ κ λL o hf Ζ ab hd=>ψ (k L o ab) λaU fZ fu=>?_;exact⟨Η,⟨L,aU,hf,Ζ,fZ,fu hd⟩,Ξ Χ⟩
section
variable{prog:he}{w:e4}{B:bK}{Γ:I Place}{l:I bx}{F ω:a2}{c c':Ι}{ρ:Ο}{h h':bK}
theorem jA.mono(dH:cr F ω){p:Place}{o:cU}(ab:h.get? p.addr=some o)(fZ:h'.get? p.addr=some o):∀{x:ξ O},jA prog w F h p x->jA prog w ω h' p x:=by
 intro x Ε;have ns:∀{L m},h.get? L=some o->h'.get? L=some o->h.Ns L m->h'.Ns L m:=λe aT ⟨Ti,es,dR,q,r⟩=>by
  rw[e] at q;obtain rfl:=bQ q;exact tv o es dR aT r
 have v1:∀{a v},h.get? a=some o->h'.get? a=some o->h.IsCell a v->h'.IsCell a v:=λe aT ⟨Ti,q,r⟩=>by
  rw[e] at q;obtain rfl:=bQ q;exact as o aT r
 rcases p with ⟨L,y⟩|a
 ·rcases x with _|ek
  ·(refine a8 Ε λm Ε=>?_);exact⟨m,ns ab fZ Ε⟩
  ·(refine fb Ε λm v Ε e r=>?_);exact oM m v (ns ab fZ Ε) e (r.mono dH)
 ·rcases x with _|ek
  ·(refine a8 Ε λv Ε=>?_);exact⟨v,v1 ab fZ Ε⟩
  ·(refine ψ Ε λv Ε r=>?_);exact as v (v1 ab fZ Ε) (r.mono dH)
theorem jA.there{p:Place}:∀{x:ξ O},jA prog w F h p x->∃o,h.get? p.addr=some o/\gZ o:=by
 intro x Ε;rcases p with ⟨L,y⟩|a
 ·have:∀{m},h.Ns L m->∃o,h.get? L=some o/\gZ o:=(λbe=>by(refine gz be λo es dR e d H=>?_;try clear be);exact as o e (λvs q=>by rw[d] at q;contradiction));rcases x with _|ek
  ·(refine a8 Ε λm Ε=>?_);exact this Ε
  ·(refine gy Ε λm v Ε H=>?_);exact this Ε
 ·have:∀{v},h.IsCell a v->∃o,h.get? a=some o/\gZ o:=(λfv=>by(refine ψ fv λo e d=>?_;try clear fv);exact as o e (λvs q=>by rw[d] at q;contradiction));rcases x with _|ek
  ·(refine a8 Ε λv Ε=>?_);exact this Ε
  ·(refine ψ Ε λv Ε H=>?_);exact this Ε
theorem bI.ext(P:bI prog w B Γ l F c ρ h)(X:cf (λH=>aK) F c h ω c' h'):bI prog w B Γ l ω c' ρ h':=by
 have at_:∀p∈Γ,∃o,h.get? p.addr=some o:=λp ζ=>by
  refine a8 (s7 ζ) λi hi=>?_;refine ψ ((P.places i p hi).there) λo e H=>?_;exact⟨o,e⟩
 refine⟨P.len,λi p hi=>?_,P.nodup,λp ζ=>?_,FunFrames.ext X.c4 P.frames⟩
 ·have ζ:=j8 hi;refine a8 (at_ p ζ) λo e=>?_;exact(P.places i p hi).mono X.le e (X.keep _ _ e (P.hP p ζ).2 id)
 ·refine a8 (at_ p ζ) λo e=>?_;refine aa (P.hP p ζ) λkd bq=>?_;constructor
  ·rcases q:ω p.addr with _|_
   ·rfl
   ·rcases X.kT p.addr (by rw[q];rfl) with r|r|r
    ·rw[kd] at r;contradiction
    ·rw[e] at r;contradiction
    ·rw[bq] at r;contradiction
  ·rcases q:c' p.addr with _|_
   ·rfl
   ·rcases X.i9 p.addr (by rw[q];rfl) with r|r
    ·rw[e] at r;contradiction
    ·rw[bq] at r;contradiction
end
noncomputable def g0(F:a2)(a:ε)(o:cU):a2:=λb=>if b=a then some o else F b
theorem hQ(F:a2)(a:ε)(o:cU):g0 F a o a=some o:=by simp[g0]
theorem ke(F:a2){a b:ε}(o:cU)(h:b≠a):g0 F a o b=F b:=by simp[g0,h]
theorem cr.upd{F:a2}{a:ε}{o:cU}(h:F a=none):cr F (g0 F a o):=λb aU e=>by
 by_cases q:b=a
 ·subst q;rw[h] at e;contradiction
 ·rw[ke F o q];exact e
section
variable{prog:he}{w:e4}{B:bK}{F ω:a2}{c c':Ι}{h h':bK}{W:ε->Prop}
theorem jz.mono(dH:cr F ω){x v}(h:jz prog w F x v):jz prog w ω x v:=h.rec .nil λh H r=>.cons (h.mono dH) r
theorem hO.mono(dH:cr F ω){k:fY}{o:cU}(h:hO prog w F k o):hO prog w ω k o:=by
 rcases h with r|⟨d,r⟩|⟨d,r⟩|⟨d,r⟩
 ·exact .lst (r.mono dH)
 ·exact .Ω d (r.mono dH)
 ·exact .tab d (r.mono dH)
 ·exact .cV d (r.mono dH)
theorem hO.iC{k:fY}{o:cU}(h:hO prog w F k o):gZ o:=by
 intro vs q;rcases h with r|⟨d,r⟩|⟨d,r⟩|⟨d,r⟩
 ·contradiction
 ·(refine fb d λes dR H e H=>?_;try clear d);rw[e] at q;contradiction
 ·(refine fb d λes dR H e H=>?_;try clear d);rw[e] at q;contradiction
 ·(refine gy d λes dR e H=>?_;try clear d);rw[e] at q;contradiction
theorem hO.free{k:fY}{o:cU}(h:hO prog w F k o):o.isFreed=false:=by
 rcases h with r|⟨d,r⟩|⟨d,r⟩|⟨d,r⟩
 ·rfl
 ·(refine fb d λes dR H e H=>?_;try clear d);exact Qn e
 ·(refine fb d λes dR H e H=>?_;try clear d);exact Qn e
 ·(refine gy d λes dR e H=>?_;try clear d);exact Qn e
theorem a0.none_of(S:a0 prog w B F c h){a:ε}(e:h.get? a=none):F a=none/\c a=none:=by
 constructor
 ·rcases q:F a with _|o
  ·rfl
  ·rw[S.frozen a o q] at e;contradiction
 ·rcases q:c a with _|k
  ·rfl
  ·(refine aa (S.cells a k q) λH aV=>?_;refine ψ aV λo aT H=>?_;try clear aV);rw[aT] at e;contradiction
theorem a0.grow(S:a0 prog w B F c h)(k:∀b o,h.get? b=some o->h'.get? b=some o):a0 prog w B F c h':=
 ⟨S.base,λa o e=>k a o (S.frozen a o e),λa x e=>let ⟨f,o,ab,r⟩:=S.cells a x e;⟨f,o,k a o ab,r⟩,S.nm⟩
theorem cf.grow(k:∀b o,h.get? b=some o->h'.get? b=some o):cf W F c h F c h':=
 ⟨.refl _,λb o e H H=>k b o e,λb o e=>⟨o,k b o e,id⟩,λH e=>.inr e,λH e=>.inl e⟩
theorem a0.yN(S:a0 prog w B F c h){a:ε}{o:cU}{x:fY}(k:∀b o,h.get? b=some o->h'.get? b=some o)(Ρ:(a==mo)=false)(Ζ:h.get? a=none)(γ:h'.get? a=some o)(r:hO prog w F x o):
 a0 prog w B F (upd c a (some x)) h'/\cf W F c h F (upd c a (some x)) h':=by
 have cn:=S.grow k;refine⟨⟨S.base,cn.frozen,λb y e=>?_,λb y e=>?_⟩,⟨.refl _,λb o e H H=>k b o e,λb o e=>⟨o,k b o e,id⟩,λb e=>?_,λH e=>.inl e⟩⟩
 ·by_cases q:b=a
  ·subst q;rw[aj] at e;obtain rfl:=bQ e;exact⟨(S.none_of Ζ).1,o,γ,r⟩
  ·rw[a3 c _ q] at e;exact cn.cells b y e
 ·by_cases q:b=a
  ·subst q;exact Ρ
  ·rw[a3 c _ q] at e;exact S.nm b y e
 ·by_cases q:b=a
  ·subst q;exact .inl Ζ
  ·rw[a3 c _ q] at e;exact .inr e
theorem a0.v2(S:a0 prog w B F c h){a:ε}{o:cU}(k:∀b o,h.get? b=some o->h'.get? b=some o)(Ζ:h.get? a=none)(γ:h'.get? a=some o):
 a0 prog w B (g0 F a o) c h'/\cf W F c h (g0 F a o) c h':=by
 have cn:=S.grow k;have le:cr F (g0 F a o):=.upd ((S.none_of Ζ).1);refine⟨⟨λb aU e=>le _ _ (S.base b aU e),λb aU e=>?_,λb y e=>?_,S.nm⟩,⟨le,λb o e H H=>k b o e,λb o e=>⟨o,k b o e,id⟩,λH e=>.inr e,λb e=>?_⟩⟩
 ·by_cases q:b=a
  ·subst q;rw[hQ] at e;obtain rfl:=bQ e;exact γ
  ·rw[ke F o q] at e;exact cn.frozen b aU e
 ·refine aa (cn.cells b y e) λf aW=>?_;refine ψ aW λaU ab r=>?_;try clear aW
  exact⟨by rw[ke F o (λq=>by subst q;rw[(S.none_of Ζ).2] at e;contradiction)];exact f,aU,ab,r.mono le⟩
 ·by_cases q:b=a
  ·subst q;exact .inr (.inl Ζ)
  ·rw[ke F o q] at e;exact .inl e
theorem a0.setC(S:a0 prog w B F c h){a:ε}{o:cU}{tH x:fY}(h0:c a=some tH)(k:∀b,b≠a->∀o,h.get? b=some o->h'.get? b=some o)(γ:h'.get? a=some o)(r:hO prog w F x o):
 a0 prog w B F (upd c a (some x)) h'/\cf W F c h F (upd c a (some x)) h':=by
 refine aa (S.cells a tH h0) λkd bM=>?_;refine ψ bM λajQ ajR ajS=>?_;try clear bM
 refine⟨⟨S.base,λb aU e=>k b (λq=>by subst q;rw[kd] at e;contradiction) aU (S.frozen b aU e),λb y e=>?_,λb y e=>?_⟩,⟨.refl _,λb aU e Θ H=>k b (λq=>by subst q;rw[h0] at Θ;contradiction) aU e,λb aU e=>?_,λb e=>?_,λH e=>.inl e⟩⟩
 ·by_cases q:b=a
  ·subst q;rw[aj] at e;obtain rfl:=bQ e;exact⟨kd,o,γ,r⟩
  ·rw[a3 c _ q] at e;refine aa (S.cells b y e) λf cN=>?_;refine ψ cN λaU ab r=>?_;try clear cN
   exact⟨f,aU,k b q aU ab,r⟩
 ·by_cases q:b=a
  ·subst q;exact S.nm _ _ h0
  ·rw[a3 c _ q] at e;exact S.nm b y e
 ·by_cases q:b=a
  ·subst q;exact as o γ (λH=>r.iC)
  ·exact as aU (k b q aU e) id
 ·by_cases q:b=a
  ·subst q;exact .inr (by rw[h0];rfl)
  ·rw[a3 c _ q] at e;exact .inr e
theorem a0.freeze(S:a0 prog w B F c h){a:ε}{tH:fY}(h0:c a=some tH):
 ∃o,h.get? a=some o/\hO prog w F tH o/\a0 prog w B (g0 F a o) (upd c a none) h/\cf W F c h (g0 F a o) (upd c a none) h:=by
 refine aa (S.cells a tH h0) λkd dk=>?_;refine ψ dk λo ab r=>?_;try clear dk
 have le:cr F (g0 F a o):=.upd kd;refine Ce o ab r ⟨λb aU e=>le _ _ (S.base b aU e),λb aU e=>?_,λb y e=>?_,λb y e=>?_⟩ (⟨le,λH H e H H=>e,λH o e=>⟨o,e,id⟩,λb e=>?_,λb e=>?_⟩)
 ·by_cases q:b=a
  ·subst q;rw[hQ] at e;obtain rfl:=bQ e;exact ab
  ·rw[ke F o q] at e;exact S.frozen b aU e
 ·by_cases q:b=a
  ·subst q;rw[aj] at e;contradiction
  ·rw[a3 c _ q] at e;refine aa (S.cells b y e) λf dg=>?_;refine ψ dg λaU ab r=>?_;try clear dg
   exact⟨by rw[ke F o q];exact f,aU,ab,r.mono le⟩
 ·by_cases q:b=a
  ·subst q;rw[aj] at e;contradiction
  ·rw[a3 c _ q] at e;exact S.nm b y e
 ·by_cases q:b=a
  ·subst q;rw[aj] at e;contradiction
  ·rw[a3 c _ q] at e;exact .inr e
 ·by_cases q:b=a
  ·subst q;exact .inr (.inr (by rw[h0];rfl))
  ·rw[ke F o q] at e;exact .inl e
theorem a0.drop(S:a0 prog w B F c h)(Θ:∀a k,c' a=some k->c a=some k):a0 prog w B F c' h:=
 ⟨S.base,S.frozen,λa k e=>S.cells a k (Θ a k e),λa k e=>S.nm a k (Θ a k e)⟩
theorem cf.drop{F c h ω c' h'}(X:cf W F c h ω c' h'){bz}(Θ:∀a k,bz a=some k->c' a=some k):cf W F c h ω bz h':=
 ⟨X.le,X.keep,X.c4,λb e=>by
  rcases q:bz b with _|k
  ·rw[q] at e;contradiction
  ·exact X.i9 b (by rw[Θ b k q];rfl),X.kT⟩
end
section
variable{prog:he}{w:e4}{B:bK}{Γ:I Place}{l:I bx}{F ω:a2}{c c':Ι}{ρ:Ο}{h h':bK}
noncomputable def ee(Γ:I Place)(b:ε):Prop:=∃p∈Γ,p.addr=b
theorem bI.ext'(P:bI prog w B Γ l F c ρ h){W:ε->Prop}(X:cf W F c h ω c' h')(bC:∀b,¬W b):bI prog w B Γ l ω c' ρ h':=
 P.ext (X.weaken λb z=>bC b z)
theorem Place.Tj{F:a2}{h:bK}{p q:Place}{x y:ξ O}(ζ:jA prog w F h p x)(av:jA prog w F h q y)(e:p.addr=q.addr)(bF:p≠q):∃L a b,p= .loc L a/\q= .loc L b/\a≠b:=by
 have ns:∀{L x z},jA prog w F h (.loc L z) x->∃o es dR,h.get? L=some o/\o.data= .dict es dR:=by
  intro L x z Ε;rcases x with _|ek
  ·(refine oL Ε λm o es dR e d H=>?_;try clear Ε);exact tv o es dR e d
  ·(refine gy Ε λm v eV H=>?_;try clear Ε;refine gz eV λo es dR e d H=>?_;try clear eV);exact tv o es dR e d
 have v1:∀{a x},jA prog w F h (.cell a) x->∃o v,h.get? a=some o/\o.data= .cell v:=by
  intro a x Ε;rcases x with _|ek
  ·(refine gy Ε λv o e d=>?_;try clear Ε);exact nz o v e d
  ·(refine ψ Ε λv fh H=>?_;try clear Ε;refine ψ fh λo e d=>?_;try clear fh);exact nz o _ e d
 rcases p with ⟨L,a⟩|a
 ·rcases q with ⟨mC,b⟩|b
  ·simp only[Place.addr] at e;subst e;exact vQ L a b rfl rfl (λz=>bF (by rw[z]))
  ·simp only[Place.addr] at e;subst e;refine rE (ns ζ) λo es dR bd v3=>?_;refine gy (v1 av) λaU v bk nC=>?_;rw[bd] at bk;rcases bk with ⟨⟩;rw[v3] at nC;rcases nC with ⟨⟩
 ·rcases q with ⟨L,b⟩|b
  ·simp only[Place.addr] at e;subst e;refine rE (ns av) λo es dR bd v3=>?_;refine gy (v1 ζ) λaU v bk nC=>?_;rw[bd] at bk;rcases bk with ⟨⟩;rw[v3] at nC;rcases nC with ⟨⟩
  ·simp only[Place.addr] at e;subst e;exact absurd rfl bF
theorem bI.store(S:a0 prog w B F c h)(P:bI prog w B Γ l F c ρ h){i:Y}{p:Place}(hi:Γ[i]?=some p){x:O}{v:Λ}(r:au prog w F x v)(σ:vp p.addr h h')(bC:match p with
 | .loc L y=>∃m,h.Ns L m/\h'.Ns L (λz=>if z=y then some v else m z)
 | .cell a=>h'.IsCell a (some v)):
 a0 prog w B F c h'/\cf (ee Γ) F c h F c h'/\bI prog w B Γ l F c (eU ρ i (some x)) h':=by
 have ζ:=j8 hi;have keep:∀b,b≠p.addr->∀o,h.get? b=some o->h'.get? b=some o:=λb Κ o e=>(σ.2 b Κ).trans e;have new:jA prog w F h' p (some x):=by
  rcases p with ⟨L,y⟩|a
  ·(refine ψ bC λm H hm=>?_;try clear bC);exact oM _ v hm (by simp) r
  ·exact as v bC r
 have c4:∀b o,h.get? b=some o->∃aU,h'.get? b=some aU/\(gZ o->gZ aU):=λb o e=>by
  by_cases q:b=p.addr
  ·subst q;(refine ψ new.there λaU aT n=>?_);exact as aU aT (λH=>n)
  ·exact as o (keep b q o e) id
 refine ft ⟨S.base,λb o e=>keep b (λq=>by subst q;rw[((P.hP p ζ)).1] at e;contradiction) o (S.frozen b o e),λb k e=>?_,S.nm⟩ (⟨.refl _,λb o e H Ζ=>keep b (λq=>Ζ ⟨p,ζ,q.symm⟩) o e,c4,λH e=>.inr e,λH e=>.inl e⟩) ⟨by rw[CT];exact P.len,λj q cQ=>?_,P.nodup,P.hP,FunFrames.ext c4 P.frames⟩
 ·refine aa (S.cells b k e) λf f0=>?_;refine ψ f0 λo ab r=>?_;try clear f0
  exact⟨f,o,keep b (λq=>by subst q;rw[((P.hP p ζ)).2] at e;contradiction) o ab,r⟩
 ·by_cases e:j=i
  ·subst e;rw[hi] at cQ;obtain rfl:=bQ cQ;rw[CU _ _ _ (by rw[P.len];exact((j7.mp hi).1))];exact new
  ·rw[CV _ _ _ _ e];have bF:q≠p:=λz=>by
    subst z;refine a8 (j7.mp hi) λcY bd=>?_;refine a8 (j7.mp cQ) λfM bk=>?_;exact e ((ag9 P.nodup).mp (bk.trans bd.symm))
   have old:=P.places j q cQ;by_cases lJ:q.addr=p.addr
   ·refine gz (Place.Tj old (P.places i p hi) lJ bF) λL a b kf nD g1=>?_;rcases kf with rfl;rcases nD with rfl
    refine ψ bC λm JC hm=>?_;try clear bC
    have Tk:∀{cR},h.Ns L cR->cR=m:=λ{cR} Ε=>by
     refine yv Ε λo es dR bd v3 H gD=>?_;try clear Ε
     refine yv JC λaU rN CZ bk nC H f'=>?_;try clear JC
     rw[bd] at bk;(injection bk with bk;subst bk);rw[v3] at nC;(injection nC with nC;subst nC);funext z;rw[<-gD z,<-f' z]
    rcases aO:hN ρ j with _|ek
    ·exact⟨_,hm⟩
    ·rw[aO] at old;refine fb old λcR iD Ε aT kg=>?_;try clear old
     rw[Tk Ε] at aT;exact oM _ iD hm (by simp[g1,aT]) kg
   ·refine ψ old.there λo bd H=>?_;exact old.mono (.refl _) bd (keep _ lJ o bd)
end
theorem au.handed{prog:he}{w:e4}{F:a2}{x:O}{v:Λ}(h:au prog w F x v):GK v=true:=by
 rcases h with ⟨⟩<;>first|rfl|assumption
structure bP where
 prog:he
 w:e4
 B:bK
 K:vq
 mD:φ->ξ Λ
 qc:φ->ξ Λ
 os:s8
 exc:ε
noncomputable abbrev bP.M(p:bP):rj:=kM p.prog p.w
structure bP.Ok(p:bP):Prop where
 X:p.K.In p.B
 g:p.B.Ns lC p.mD
 b:p.B.Ns rk p.qc
 nolimit:p.B.NoLimit
 big:∃b o,p.B.get? b=some o/\mo<b
 bi:∀x:φ,x≠"__name__"->p.qc x=BE x
structure fw(A:gh)(l:I bx)(n:Y):Prop where
 handled:A.handled=none
 frames:A.frames=some l
 depth:A.depth+4*n+6<j6
 units:A.units+20*n+100<i1
noncomputable def Tl(h:bK)(e:ε)(cls eA:Λ):Prop:=∃jB vs,h.get? e=some jB/\jB.cls=cls/\jB.data= .fields vs/\vs[0]?=some eA/\vs[1]?=some .none
inductive rO(p:bP)(l:I bx)(e:Λ)(h:bK):Prop
 |mk (a eA) (fx:e= .ref a) (st:p.B.StaysIn h) (n:p.B.get? a=none) (ajT:h.FunFrames p.B l) (t:(∃f1,h.TracedAtW p.B a (.ref p.exc) eA f1)∨Tl h a (.ref p.exc) eA):rO p l e h
noncomputable def cu(p:bP)(s:ah):Prop:=s.gens=#[]/\s.os=p.os
inductive dm{α:Type}(p:bP)(Γ:I Place)(l:I bx)(F:a2)(c:Ι)(s:ah)(R:a2->Ι->Ο->α->Prop)(a:α)(μ:ah):Prop
 |mk (ω c' aM) (X:cf (ee Γ) F c s.heap ω c' μ.heap) (S:a0 p.prog p.w p.B ω c' μ.heap) (P:bI p.prog p.w p.B Γ l ω c' aM μ.heap) (f:cu p μ) (r:R ω c' aM a):dm p Γ l F c s R a μ
noncomputable def JD(W:ε->Prop)(c:Ι)(h h':bK):Prop:=∀b o,h.get? b=some o->c b=none->¬W b->gZ o->∃f2,h'.get? b=some {o with slots:=f2}
noncomputable def nE(h:bK):Place->Prop
 | .loc L _=>∃m,h.Ns L m
 | .cell _=>rl
structure cZ(p:bP)(Γ:I Place)(l:I bx)(c:Ι)(s:ah)(Er:Prop)(e:Λ)(μ:ah):Prop where
 cK:Er
 v4:rO p l e μ.heap
 Ψ:cu p μ
 ext:JD (ee Γ) c s.heap μ.heap
 C0:∀pl∈Γ,nE μ.heap pl
theorem cf.yO{W:ε->Prop}{F c h ω c' h'}(X:cf W F c h ω c' h'){b:ε}{o:cU}(e:h.get? b=some o)(Θ:c b=none):c' b=none:=by
 rcases q:c' b with _|k
 ·rfl
 ·rcases X.i9 b (by rw[q];rfl) with r|r
  ·rw[e] at r;contradiction
  ·rw[Θ] at r;contradiction
theorem cZ.after{p:bP}{Γ:I Place}{l:I bx}{F F₁:a2}{c Μ:Ι}{s s₁ μ:ah}{Er:Prop}{e:Λ}(X:cf (ee Γ) F c s.heap F₁ Μ s₁.heap)(h:cZ p Γ l Μ s₁ Er e μ):cZ p Γ l c s Er e μ:=
 ⟨h.cK,h.v4,h.Ψ,λb o e Θ bC n=>h.ext b o (X.keep b o e Θ bC) (X.yO e Θ) bC n,h.C0⟩
theorem cZ.mono{p:bP}{Γ:I Place}{l:I bx}{c:Ι}{s μ:ah}{Er qd:Prop}{e:Λ}(h:cZ p Γ l c s Er e μ)(aL:Er->qd):cZ p Γ l c s qd e μ:=⟨aL h.cK,h.v4,h.Ψ,h.ext,h.C0⟩
theorem nE.slots{h h':bK}{pl:Place}(Ε:nE h pl)(k:∀o,h.get? pl.addr=some o->gZ o->∃f2,h'.get? pl.addr=some {o with slots:=f2}):nE h' pl:=by
 cases pl with
 |cell a=>trivial
 |loc L x=>
  refine oL Ε λm o es dR ab hd r=>?_;try clear Ε
  refine a8 (k o ab λvs q=>by rw[hd] at q;contradiction) λf2 σ=>?_;exact vR m _ es dR σ hd r
theorem jA.place{prog:he}{w:e4}{F:a2}{h:bK}{pl:Place}:∀{x:ξ O},jA prog w F h pl x->nE h pl:=by
 intro x Ε;cases pl with
 |cell a=>trivial
 |loc L y=>
  rcases x with _|ek
  ·exact Ε
  ·(refine gy Ε λm v Ε H=>?_);exact⟨m,Ε⟩
theorem bI.there{prog:he}{w:e4}{B:bK}{Γ:I Place}{l:I bx}{F:a2}{c:Ι}{ρ:Ο}{h:bK}(P:bI prog w B Γ l F c ρ h):∀pl∈Γ,nE h pl:=λpl ζ=>by
 refine a8 (s7 ζ) λi hi=>?_;exact(P.places i pl hi).place
theorem cZ.up{p:bP}{Γ:I Place}{l:I bx}{F:a2}{c:Ι}{ρ:Ο}{s μ:ah}{Er:Prop}{e:Λ}(P:bI p.prog p.w p.B Γ l F c ρ s.heap)(h:cZ p [] l c s Er e μ):cZ p Γ l c s Er e μ:=by
 have k:∀b o,s.heap.get? b=some o->c b=none->gZ o->∃f2,μ.heap.get? b=some {o with slots:=f2}:=λb o e Θ n=>h.ext b o e Θ (λ⟨_,hm,_⟩=>(nomatch hm)) n;exact⟨h.cK,h.v4,h.Ψ,λb o e Θ H n=>k b o e Θ n,λpl ζ=>(P.there pl ζ).slots λo e n=>k _ o e (P.hP pl ζ).2 n⟩
noncomputable def π{α:Type}(p:bP)(A:gh)(Γ:I Place)(l:I bx)(F:a2)(c:Ι)(ρ:Ο)(t:dP α)(R:a2->Ι->Ο->α->Prop)(Er:Prop):Prop:=
 ∀s,a0 p.prog p.w p.B F c s.heap->bI p.prog p.w p.B Γ l F c ρ s.heap->cu p s->aB p.M A t (dm p Γ l F c s R) (cZ p Γ l c s Er) s
section
variable{α β:Type}{p:bP}{A:gh}{Γ:I Place}{l:I bx}{F ω:a2}{c c':Ι}{ρ:Ο}{t:dP α}{R rP:a2->Ι->Ο->α->Prop}{Er qd:Prop}{s μ:ah}
theorem dm.after{a:α}{s₁:ah}{F₁ Μ}(X:cf (ee Γ) F c s.heap F₁ Μ s₁.heap)(h:dm p Γ l F₁ Μ s₁ R a μ):dm p Γ l F c s R a μ:=by
 obtain⟨ω,c',aM,iE,S,P,f,r⟩:=h;exact⟨ω,c',aM,X.trans iE,S,P,f,r⟩
theorem dm.mono{a:α}(h:dm p Γ l F c s R a μ)(gE:∀ω c' aM,cr F ω->R ω c' aM a->rP ω c' aM a):dm p Γ l F c s rP a μ:=by
 obtain⟨ω,c',aM,iE,S,P,f,r⟩:=h;exact⟨ω,c',aM,iE,S,P,f,gE _ _ _ iE.le r⟩
theorem dm.now{a:α}(S:a0 p.prog p.w p.B F c s.heap)(P:bI p.prog p.w p.B Γ l F c ρ s.heap)(f:cu p s)(h:R F c ρ a):dm p Γ l F c s R a s:=
 ⟨F,c,ρ,.refl ..,S,P,f,h⟩
theorem dm.grow{a:α}{h':bK}{tk:Y}(S:a0 p.prog p.w p.B F c s.heap)(P:bI p.prog p.w p.B Γ l F c ρ s.heap)(f:cu p s)(k:∀b o,s.heap.get? b=some o->h'.get? b=some o)(h:R F c ρ a):
 dm p Γ l F c s R a {s with heap:=h',toks:=tk}:=
 ⟨F,c,ρ,.grow k,S.grow k,P.ext (.grow k),f,h⟩
theorem π.pure{a:α}(h:R F c ρ a):π p A Γ l F c ρ (Pure.pure a) R Er:=λs S P f=>cy (.now S P f h)
theorem π.bind{f:α->dP β}{R:a2->Ι->Ο->β->Prop}(h:π p A Γ l F c ρ t (λF₁ Μ ν a=>cr F F₁->π p A Γ l F₁ Μ ν (f a) R Er) Er):π p A Γ l F c ρ (t>>= f) R Er:=
 λs S P Ψ=>aI (bR (h s S P Ψ) (λa s₁ bG=>by
  obtain⟨F₁,Μ,ν,X,dS,er,g2,bG⟩:=bG;exact bR (bG X.le s₁ dS er g2) (λb a5 c9=>c9.after X) λH H e=>e.after X) λH H e=>e)
theorem π.mono(h:π p A Γ l F c ρ t R Er)(gE:∀ω c' aM a,cr F ω->R ω c' aM a->rP ω c' aM a)(aL:Er->qd):π p A Γ l F c ρ t rP qd:=
 λs S P Ψ=>bR (h s S P Ψ) (λa H h=>h.mono λω c' aM le r=>gE ω c' aM a le r) λH H e=>e.mono aL
theorem π.ajU{m:dP β}{k:β->dP α}(Χ:∀Q E s,aB p.M A m (λa s₁=>aB p.M A (k a) Q E s₁) E s->aB p.M A t Q E s)(h:π p A Γ l F c ρ m (λF₁ Μ ν a=>cr F F₁->π p A Γ l F₁ Μ ν (k a) R Er) Er):π p A Γ l F c ρ t R Er:=
 λs S P Ψ=>Χ _ _ _ (bR (h s S P Ψ) (λa s₁ bG=>by
  obtain⟨F₁,Μ,ν,X,dS,er,g2,bG⟩:=bG;exact bR (bG X.le s₁ dS er g2) (λb a5 c9=>c9.after X) λH H e=>e.after X) λH H e=>e)
theorem π.ajV{yP:Type}{m:dP β}{k:β->dP yP}{jC:β->yP->dP α}(Χ:∀Q E s,aB p.M A m (λa s₁=>aB p.M A (k a) (λb a5=>aB p.M A (jC a b) Q E a5) E s₁) E s->aB p.M A t Q E s)(h:π p A Γ l F c ρ m (λF₁ Μ ν a=>cr F F₁->π p A Γ l F₁ Μ ν (k a) (λaY az bg b=>cr F₁ aY->π p A Γ l aY az bg (jC a b) R Er) Er) Er):π p A Γ l F c ρ t R Er:=
 λs S P Ψ=>Χ _ _ _ (bR (h s S P Ψ) (λa s₁ bG=>by
  obtain⟨F₁,Μ,ν,X,dS,er,g2,bG⟩:=bG;exact bR (bG X.le s₁ dS er g2) (λb a5 c9=>by
   obtain⟨aY,az,bg,eW,d7,ef,v5,c9⟩:=c9;exact bR (c9 eW.le a5 d7 ef v5) (λb gM g3=>g3.after (X.trans eW)) λH H e=>e.after (X.trans eW)) λH H e=>e.after X) λH H e=>e)
inductive aZ(p:bP)(Q:O->Ο->Ι->Prop)(F:a2)(c:Ι)(ρ:Ο)(v:Λ):Prop
 |mk (x) (r:au p.prog p.w F x v) (q:Q x ρ c):aZ p Q F c ρ v
inductive jD(p:bP)(Q:I O->Ο->Ι->Prop)(F:a2)(c:Ι)(ρ:Ο)(v:I Λ):Prop
 |mk (x) (r:bA p.prog p.w F x v) (q:Q x ρ c):jD p Q F c ρ v
end
noncomputable def ajW(p:bP)(A:gh)(Γ:I Place)(l:I bx)(t:dP Λ)(ρ:Ο)(c:Ι)(Q:O->Ο->Ι->Prop)(Er:Prop):Prop:=
 ∀F,π p A Γ l F c ρ t (aZ p Q) Er
structure lK(A:gh)(l:I bx)(n:Y):Prop where
 handled:A.handled=none
 frames:A.frames=some l
 depth:A.depth+4*n+4<j6
 units:A.units+20*n+90<i1
inductive lL(p:bP)(l:I bx)(F:a2)(c:Ι)(s:ah)(R:a2->Ι->Λ->Prop)(a:Λ)(μ:ah):Prop
 |mk (ω c') (X:cf (λH=>aK) F c s.heap ω c' μ.heap) (S:a0 p.prog p.w p.B ω c' μ.heap) (f:cu p μ) (r:R ω c' a):lL p l F c s R a μ
noncomputable def C1(Q:Λ->ah->Prop)(E:Λ->ah->Prop)(r:j9)(μ:ah):Prop:=match r with
 | .ok (.ret v)=>Q v μ
 | .ok _=>aK
 | .error e=>E e μ
noncomputable def oR(M:rj)(A:gh)(ea:Λ)(vs:I Λ)(Q:Λ->ah->Prop)(E:Λ->ah->Prop)(s:ah):Prop:=match ea with
 | .ref a=>ip M A (.call (.ref a) ⟨vs,[]⟩) (C1 Q E) s
 |v=>aB M A (call v vs) Q E s
theorem oR.wp{M:rj}{A:gh}{ea:Λ}{vs:I Λ}{Q E:Λ->ah->Prop}{s:ah}(h:oR M A ea vs Q E s):aB M A (call ea vs) Q E s:=by
 unfold oR at h;split at h
 ·exact BF h
 ·exact h
theorem oR.mono{M:rj}{A:gh}{ea:Λ}{vs:I Λ}{Q E mE nF:Λ->ah->Prop}{s:ah}(h:oR M A ea vs Q E s)(eH:∀v μ,Q v μ->mE v μ)(aL:∀v μ,E v μ->nF v μ):oR M A ea vs mE nF s:=by
 unfold oR at h ⊢;split at h
 ·refine GL h λr μ z=>?_;unfold C1 at z ⊢;rcases r with e|(v|_|_|_)<;>first|exact aL _ _ z|exact eH _ _ z|exact z
 ·exact bR h eH aL
@[irreducible] def aF(p:bP)(n:Y)(f:O)(args:I O)(c:Ι)(Q:O->Ι->Prop)(Er:Prop):Prop:=
 ∀A l F ea vs,lK A l n->au p.prog p.w F f ea->bA p.prog p.w F args vs->∀s,a0 p.prog p.w p.B F c s.heap->s.heap.FunFrames p.B l->cu p s->
  oR p.M A ea vs (lL p l F c s λω c' r=>∃x,au p.prog p.w ω x r/\Q x c') (cZ p [] l c s Er) s
theorem aF.mono{p:bP}{n dy:Y}{f:O}{args:I O}{c:Ι}{Q mE:O->Ι->Prop}{Er qd:Prop}(h:aF p n f args c Q Er)(Ζ:n<=dy)(eH:∀x c',Q x c'->mE x c')(aL:Er->qd):aF p dy f args c mE qd:=by
 unfold aF at h ⊢;intro A l F ea vs R kh am s S P Ψ;refine(h A l F ea vs ⟨R.handled,R.frames,by have:=R.depth;exact θ [_,_,_,j6] [] (.le (.a (.a (.a (.v 2) (.m 4 (.v 0))) (.c 4)) (.c 1)) (.v 3)) [(.le (.v 0) (.v 1)),(.le (.a (.a (.a (.v 2) (.m 4 (.v 1))) (.c 4)) (.c 1)) (.v 3))] [[1,4,1]] rfl Ζ this,by have:=R.units;exact θ [_,_,_,i1] [] (.le (.a (.a (.a (.v 2) (.m 20 (.v 0))) (.c 90)) (.c 1)) (.v 3)) [(.le (.v 0) (.v 1)),(.le (.a (.a (.a (.v 2) (.m 20 (.v 1))) (.c 90)) (.c 1)) (.v 3))] [[1,20,1]] rfl Ζ this⟩ kh am s S P Ψ).mono (λr μ h=>?_) λH H e=>e.mono aL;obtain⟨ω,c',X,cn,i8,x,ba,q⟩:=h;exact⟨ω,c',X,cn,i8,x,ba,eH _ _ q⟩
theorem aF.run{p:bP}{n:Y}{A:gh}{Γ:I Place}{l:I bx}{F:a2}{c:Ι}{ρ:Ο}{f:O}{args:I O}{ea:Λ}{vs:I Λ}{Q:O->Ι->Prop}{Er:Prop}(h:aF p n f args c Q Er)(R:lK A l n)(kh:au p.prog p.w F f ea)(am:bA p.prog p.w F args vs):π p A Γ l F c ρ (call ea vs) (aZ p λx aM c'=>aM=ρ/\Q x c') Er:=by
 unfold aF at h;intro s S P Ψ;refine bR (h A l F ea vs R kh am s S P.frames Ψ).wp (λr μ h=>?_) λH H e=>e.up P;obtain⟨ω,c',X,cn,i8,x,ba,q⟩:=h;exact⟨ω,c',ρ,X.weaken λH z=>z.elim,cn,P.ext X,i8,x,ba,rfl,q⟩
section
inductive ki where
 |var (i:Y)
 |tup (is:I Y)
set_option genCtorIdx false in
mutual
inductive X where
 |cst (v:O)
 |var (i:Y)
 |i' (i:Y)
 |bin (op:rm) (l r:X)
 |neg (x:X)
 |ite (t:T) (a b:X)
 |C2 (t:T)
 |tup (l:XL)
 |lst (m:aQ) (l:XL)
 |Ω (m:aQ) (bc:I Y) (l:XL)
 |call (f:X) (l:XL)
 |mk (m:aQ) (C:ε) (l:XL)
 |hG (o:X) (n:Y) (l:XL)
 |attr (o:X) (n:Y)
 |sub (o i:X)
 |JE (o:X) (lo hi:ξ J)
 |comp (k:Y) (aN:X) (tg:ki) (it:jE) (cL:rQ)
 |JF (k:Y) (aN:X) (tg:ki) (it:jE) (tI:ki) (JG:jE)
 |tab
 |dead
inductive XL where
 |nil
 |cons (x:X) (l:XL)
inductive T where
 |not (t:T)
 |and (l:rQ)
 |or (l:rQ)
 |cmp (op:ju) (l r:X)
 |C3 (op:ju) (l m:X) (hH:ju) (r:X)
 |val (x:X)
 |dead
inductive rQ where
 |nil
 |cons (t:T) (l:rQ)
inductive jE where
 |val (x:X)
 |range (lo hi step:X)
 |rev (hi:X)
 |zip (x y:X)
 |dead
end
set_option genCtorIdx false in
mutual
inductive S where
 |asg (tg:ki) (x:X)
 |swap (is:I Y) (l:XL)
 |setAttr (o:X) (n:Y) (x:X)
 |setItem (o i x:X)
 |qe (t:T) (a b:SL)
 |JH (t:T) (b:SL)
 |for (tg:ki) (it:jE) (b:SL)
 |ret (x:X)
 |raise (l:XL)
 |expr (x:X)
 |dead
inductive SL where
 |nil
 |cons (s:S) (l:SL)
end
noncomputable def JI(op:rm)(a b:J)(Q:O->Prop):Prop:=match op with
 | .Add=>Q (.int (a+b))
 | .Sub=>Q (.int (a - b))
 | .Mult=>vr a b/\Q (.int (a*b))
 | .FloorDiv=>(b≠0/\Qo a b=false)/\Q (.int (kN a b))
 | .Mod=>b≠0/\Q (.int (fJ a b))
 | .Pow=>(0<=b/\(s9 a:J)*b<=2^27)/\Q (.int (a^b.toNat))
 | .LShift=>(0<=b/\b<=64/\a.natAbs<2^64)/\Q (.int (a*2^b.toNat))
 | .RShift=>0<=b/\Q (.int (kN a (2^b.toNat)))
 | .BitOr=>Q (.int (BG a b))
 | .BitAnd=>Q (.int (xZ a b))
 |_=>aK
noncomputable def C4(op:rm)(l:I O)(b:O)(Q:O->Prop):Prop:=match op with
 | .Add=>match b with
  | .lst l'=>l.length+l'.length<=10000/\Q (.lst (l++l'))
  |_=>aK
 | .Mult=>match b with
  | .int k=>(0<=k/\k<=1000/\l.length<=10)/\Q (.lst (d0 k.toNat l).flatten)
  |_=>aK
 |_=>aK
noncomputable def Tm(op:rm)(b:O)(Q:O->Prop):Prop:=match op with
 | .Add=>match b with
  | .sym _=>Q .text
  |_=>aK
 |_=>aK
noncomputable def v6(op:rm)(a b:O)(Q:O->Prop):Prop:=match a with
 | .int x=>match b with
  | .int y=>JI op x y Q
  |_=>aK
 | .lst l=>C4 op l b Q
 | .sym _=>Tm op b Q
 |_=>aK
theorem Tn{op:rm}{Q:O->Prop}{P:O->O->Prop}(ch:∀x y,JI op x y Q->P (.int x) (.int y))(c5:∀l l',op= .Add->C4 .Add l (.lst l') Q->P (.lst l) (.lst l'))(fy:∀l k,op= .Mult->C4 .Mult l (.int k) Q->P (.lst l) (.int k))(kU:∀a b,op= .Add->Q .text->P (.sym a) (.sym b)){a b:O}(h:v6 op a b Q):P a b:=by
 cases a with
 |int x=>cases b with
  |int y=>exact ch x y h
  |_=>exact h.elim
 |lst l=>cases op with
  |Add=>cases b with
   |lst l'=>exact c5 l l' rfl h
   |_=>exact h.elim
  |Mult=>cases b with
   |int k=>exact fy l k rfl h
   |_=>exact h.elim
  |_=>exact h.elim
 |sym x=>cases op with
  |Add=>cases b with
   |sym y=>exact kU x y rfl h
   |_=>exact h.elim
  |_=>exact h.elim
 |_=>exact h.elim
noncomputable def C5:O->(O->Prop)->Prop
 | .int a,Q=>Q (.int (-a))
 |_,_=>aK
noncomputable def fO(b:aQ)(P Q:Prop):Prop:=nq Q P b
noncomputable def nG(b:aQ)(P:Prop):Prop:=nq aK P b
theorem kW{b:aQ}{P:Prop}(h:nG b P):b=true/\P:=by
 cases b with
 |true=>exact⟨rfl,h⟩
 |false=>exact h.elim
theorem ajX{b:aQ}{P Q:Prop}(h:b=true->P)(h':b=false->Q):fO b P Q:=by
 cases b with
 |true=>exact h rfl
 |false=>exact h' rfl
noncomputable def v7:O->ξ aQ
 | .none=>some true
 | .loc _=>some false
 | .val _=>dc
 |_=>some false
noncomputable def v8:O->ξ J
 | .int a=>some a
 |_=>dc
noncomputable def C6:O->ξ Y
 | .sym a=>some a
 |_=>dc
theorem C7{P:O->Prop}{i:J}(p:P (.int i)){x:O}(h:v8 x=some i):P x:=by
 cases x with
 |int a=>exact bQ h▸p
 |_=>exact d6 h
theorem To{P:O->Prop}{i:Y}(p:P (.sym i)){x:O}(h:C6 x=some i):P x:=by
 cases x with
 |sym a=>exact bQ h▸p
 |_=>exact d6 h
theorem JJ{i:J}{x:O}(h:v8 x=some i):x= .int i:=C7 (P:=λx=>x= .int i) rfl h
theorem Tp{i:Y}{x:O}(h:C6 x=some i):x= .sym i:=To (P:=λx=>x= .sym i) rfl h
noncomputable def nH{α β:Type}(o:ξ α)(k:α->ξ β):ξ β:=match o with
 |some a=>k a
 |Option.none=>dc
theorem nI{α β:Type}{o:ξ α}{k:α->ξ β}{b:β}(h:nH o k=some b):∃a,o=some a/\k a=some b:=by
 cases o with
 |some a=>exact as a rfl h
 |none=>exact d6 h
noncomputable def JK:I O->ξ J
 |[]=>dc
 |y::l=>nH (v8 y) λb=>match l with
  |[]=>some b
  |_::_=>dc
noncomputable def tJ:I O->ξ (J×J)
 |[]=>dc
 |x::l=>nH (v8 x) λa=>nH (JK l) λb=>some (a,b)
noncomputable def qf:I O->aQ
 |[]=>true
 |_::_=>false
noncomputable def C8(l l':I O):ξ aQ:=match tJ l with
 |some x=>match tJ l' with
  |some y=>some (decide (x.1=y.1)&&decide (x.2=y.2))
  |Option.none=>dc
 |Option.none=>dc
noncomputable def Tq(l l':I O):ξ aQ:=match l' with
 |[]=>some (qf l)
 |_::_=>dc
noncomputable def tK(a b:O):ξ aQ:=match a with
 | .none=>match b with
  | .none=>some true
  | .int _=>some false
  |_=>dc
 | .int x=>match b with
  | .none=>some false
  | .int y=>some (decide (x=y))
  |_=>dc
 | .sym x=>match b with
  | .sym y=>some (bE x y)
  |_=>dc
 | .tup l=>match b with
  | .tup l'=>C8 l l'
  |_=>dc
 | .lst l=>match b with
  | .lst l'=>Tq l l'
  |_=>dc
 |_=>dc
inductive oS:O->O->aQ->Prop
 |nn:oS .none .none true
 |Tr (a):oS .none (.int a) false
 |Ts (a):oS (.int a) .none false
 |ii (a b):oS (.int a) (.int b) (decide (a=b))
 |ss (a b):oS (.sym a) (.sym b) (bE a b)
 |pp (a b c d):oS (.tup [.int a,.int b]) (.tup [.int c,.int d]) (decide (a=c)&&decide (b=d))
 |nJ:oS (.lst []) (.lst []) true
 |lc (x l):oS (.lst (x::l)) (.lst []) false
theorem Tt{l:I O}{b:J}(e:JK l=some b):l=[.int b]:=by
 rcases l with _|⟨y,l⟩
 ·exact d6 e
 ·refine ψ (nI e) λcv Α Δ=>?_;rcases l with _|_
  ·exact C7 (P:=λy=>[y]=[.int b]) rfl (Α.trans Δ)
  ·exact d6 Δ
theorem C9{l:I O}{x:J×J}(e:tJ l=some x):l=[.int x.1,.int x.2]:=by
 rcases l with _|⟨y,l⟩
 ·exact d6 e
 ·refine ψ (nI e) λa Α Δ=>ψ (nI Δ) λb κ ay=>?_;rw[Tt κ,<-bQ ay];exact C7 (P:=λy=>[y,.int b]=[.int a,.int b]) rfl Α
theorem JL{a b:O}{r:aQ}(e:tK a b=some r):oS a b r:=by
 cases a with
 |none=>cases b with
  |none=>exact bQ e▸.nn
  |int x=>exact bQ e▸.Tr x
  |_=>exact d6 e
 |int x=>cases b with
  |none=>exact bQ e▸.Ts x
  |int y=>exact bQ e▸.ii x y
  |_=>exact d6 e
 |sym x=>cases b with
  |sym y=>exact bQ e▸.ss x y
  |_=>exact d6 e
 |tup l=>
  cases b with
  |tup l'=>
   have e:C8 l l'=some r:=e;unfold C8 at e;cases q:tJ l with
   |none=>rw[q] at e;exact d6 e
   |some x=>
    cases fi:tJ l' with
    |none=>rw[q,fi] at e;exact d6 e
    |some y=>rw[q,fi] at e;rw[C9 q,C9 fi];exact bQ e▸.pp _ _ _ _
  |_=>exact d6 e
 |lst l=>
  cases b with
  |lst l'=>
   cases l' with
   |nil=>cases l with
    |nil=>exact bQ e▸.nJ
    |cons x l=>exact bQ e▸.lc x l
   |cons=>exact d6 e
  |_=>exact d6 e
 |_=>exact d6 e
noncomputable def allInts:I O->ξ (I J)
 |[]=>some []
 |x::l=>nH (v8 x) λa=>(allInts l).map (a::·)
noncomputable def yQ:I O->ξ (I Y)
 |[]=>some []
 |x::l=>nH (C6 x) λa=>(yQ l).map (a::·)
noncomputable def rR(a:J):I J->aQ
 |[]=>false
 |b::l=>decide (a=b)||rR a l
noncomputable def v9(a:Y):I Y->aQ
 |[]=>false
 |b::l=>bE a b||v9 a l
noncomputable def v':O->ξ (I O)
 | .tup l=>some l
 |_=>dc
theorem C'{P:O->Prop}{l:I O}(p:P (.tup l)){x:O}(h:v' x=some l):P x:=by
 cases x with
 |tup a=>exact bQ h▸p
 |_=>exact d6 h
theorem Tu{l:I O}{x:O}(h:v' x=some l):x= .tup l:=C' (P:=λx=>x= .tup l) rfl h
noncomputable def yR(a b:O):ξ aQ:=match a with
 | .int a=>nH (v' b) λl=>(allInts l).map (rR a)
 | .sym a=>nH (v' b) λl=>(yQ l).map (v9 a)
 |_=>dc
theorem Tv{P:O->O->aQ->Prop}(ch:∀a l ns,allInts l=some ns->P (.int a) (.tup l) (rR a ns))(c5:∀a l ns,yQ l=some ns->P (.sym a) (.tup l) (v9 a ns)){a b:O}{r:aQ}(e:yR a b=some r):P a b r:=by
 cases a with
 |int a=>
  refine ψ (nI e) λl Α Δ=>ψ (mq.mp Δ) λns κ ay=>?_;exact ay▸C' (P:=λb=>P (.int a) b _) (ch a l ns κ) Α
 |sym a=>
  refine ψ (nI e) λl Α Δ=>ψ (mq.mp Δ) λns κ ay=>?_;exact ay▸C' (P:=λb=>P (.sym a) b _) (c5 a l ns κ) Α
 |_=>exact d6 e
noncomputable def pairsOf:I O->ξ (I (J×J))
 |[]=>some []
 |x::l=>nH (v' x) λt=>nH (tJ t) λcA=>(pairsOf l).map (cA::·)
noncomputable def wa(a b:O):ξ aQ:=match a with
 | .lst a=>match b with
  | .lst b=>match pairsOf a,pairsOf b with
   |some x,some y=>some (!decide (x=y))
   |_,_=>dc
  |_=>dc
 |_=>dc
theorem Tw{P:O->O->aQ->Prop}(p:∀x y xs bj,pairsOf x=some xs->pairsOf y=some bj->P (.lst x) (.lst y) (!decide (xs=bj))){a b:O}{r:aQ}(e:wa a b=some r):P a b r:=by
 cases a with
 |lst x=>
  cases b with
  |lst y=>
   have e:(match pairsOf x,pairsOf y with|some x,some y=>some (!decide (x=y))|_,_=>dc)=some r:=e;rcases tL:pairsOf x with _|xs
   ·rw[tL] at e;exact d6 e
   ·rcases wb:pairsOf y with _|bj
    ·rw[tL,wb] at e;exact d6 e
    ·rw[tL,wb] at e;exact bQ e▸p x y xs bj tL wb
  |_=>exact d6 e
 |_=>exact d6 e
noncomputable def tM(a b:O):ξ aQ:=match tK a b with
 |some r=>some (!r)
 |Option.none=>wa a b
noncomputable def tN(f:J->J->aQ)(a b:O):ξ aQ:=match a with
 | .int x=>match b with
  | .int y=>some (f x y)
  |_=>dc
 |_=>dc
theorem Tx{f:J->J->aQ}{P:O->O->aQ->Prop}(p:∀x y,P (.int x) (.int y) (f x y)){a b:O}{r:aQ}(e:tN f a b=some r):P a b r:=by
 cases a with
 |int x=>cases b with
  |int y=>exact bQ e▸p x y
  |_=>exact d6 e
 |_=>exact d6 e
theorem yS{f:J->J->aQ}{a b:O}{r:aQ}(e:tN f a b=some r):∃x y,a= .int x/\b= .int y/\r=f x y:=
 Tx (P:=λa b r=>∃x y,a= .int x/\b= .int y/\r=f x y) (λx y=>⟨x,y,rfl,rfl,rfl⟩) e
noncomputable def Db(o:ξ aQ)(b:O):ξ aQ:=match b with
 | .none=>o
 |_=>dc
theorem JM{o:ξ aQ}{b:O}{r:aQ}(e:Db o b=some r):b= .none/\o=some r:=by
 rcases b with ⟨⟩<;>first|exact⟨rfl,e⟩|contradiction
noncomputable def Dc:ξ aQ->ξ aQ
 |some b=>some (!b)
 |Option.none=>dc
theorem JN{o:ξ aQ}{r:aQ}(e:Dc o=some r):∃q,o=some q/\r= !q:=by
 cases o<;>rcases e with ⟨⟩;exact as _ rfl rfl
noncomputable def jF(op:ju)(a b:O):ξ aQ:=match op with
 | .Eq=>tK a b
 | .NotEq=>tM a b
 | .Lt=>tN (λa b=>decide (a<b)) a b
 | .LtE=>tN (λa b=>decide (a<=b)) a b
 | .Gt=>tN (λa b=>decide (a>b)) a b
 | .GtE=>tN (λa b=>decide (a≥b)) a b
 | .Is=>Db (v7 a) b
 | .IsNot=>Db (Dc (v7 a)) b
 | .In=>yR a b
 | .NotIn=>Dc (yR a b)
noncomputable def Dd:O->ξ aQ
 | .bool b=>some b
 |_=>dc
theorem Tz{x:O}{b:aQ}(h:Dd x=some b):x= .bool b:=by
 cases x with
 |bool a=>exact cE O.bool (bQ h)
 |_=>exact d6 h
noncomputable def hR(o:ξ aQ)(P Q:Prop):Prop:=aha aK (λb=>fO b P Q) o
noncomputable def bl:I (Y×O)->Y->ξ O
 |[],_=>dc
 |(k,v)::l,n=>match bE k n with
  |true=>some v
  |false=>bl l n
theorem TA(k:Y)(v:O)(l:I (Y×O))(n:Y):bl ((k,v)::l) n=(match bE k n with
 |true=>some v
 |false=>bl l n):=rfl
noncomputable def putN:I (Y×O)->Y->O->I (Y×O)
 |[],n,v=>[(n,v)]
 |(k,x)::l,n,v=>match bE k n with
  |true=>(k,v)::l
  |false=>(k,x)::putN l n v
theorem TB(k:Y)(x:O)(l:I (Y×O))(n:Y)(v:O):putN ((k,x)::l) n v=(match bE k n with
 |true=>(k,v)::l
 |false=>(k,x)::putN l n v):=rfl
noncomputable def cW:I (J×O)->J->ξ O
 |[],_=>dc
 |(k,v)::l,n=>if k=n then some v else cW l n
noncomputable def f3:I (J×O)->J->O->I (J×O)
 |[],n,v=>[(n,v)]
 |(k,x)::l,n,v=>if k=n then (k,v)::l else (k,x)::f3 l n v
noncomputable def iF(o:ξ O)(Q:O->Prop):Prop:=aha aK Q o
theorem cO{o:ξ O}{v:O}{Q:O->Prop}(h:o=some v)(q:Q v):iF o Q:=by rw[h];exact q
noncomputable def rS(k:J)(len:Y):ξ Y:=match k with
 | .ofNat n=>match iq n len&&iq n 4611686018427387904 with
  |true=>some n
  |false=>dc
 | .negSucc n=>match iq n len&&iq n 4611686018427387904 with
  |true=>some (len - (n+1))
  |false=>dc
theorem TC{n len:Y}(h:n<len)(h':n<4611686018427387904):rS (n:J) len=some n:=by
 show(match iq n len&&iq n 4611686018427387904 with|true=>some n|false=>dc)=some n;rw[show iq n len=true from Qp h,show iq n 4611686018427387904=true from Qp h'];rfl
theorem JO{k:J}{len i:Y}(h:rS k len=some i):(k=i/\i<len/\i<4611686018427387904)∨(k<0∧-(len:J)<=k∧-4611686018427387904<=k/\(i:J)=k+len):=by
 rcases k with n|n
 ·left
  simp only[rS] at h;split at h
  ·rename_i e;obtain rfl:=bQ h;exact ft rfl (gX ((e5.mp e)).1) (gX ((e5.mp e)).2)
  ·contradiction
 ·right
  simp only[rS] at h;split at h
  ·rename_i e;obtain rfl:=bQ h;refine aa (e5.mp e) λa b=>?_;have a:=gX a;have b:=gX b;omega
  ·contradiction
noncomputable def mF:I O->Y->ξ O
 |[],_=>dc
 |x::_,0=>some x
 |_::l,i+1=>mF l i
noncomputable def eX(l:I O)(k:J):ξ O:=match rS k l.length with
 |some i=>mF l i
 |Option.none=>dc
noncomputable def oT(c:Ι):O->O->(O->Prop)->Prop
 | .tup l,.int k,Q=>iF (eX l k) Q
 | .lst l,.int k,Q=>iF (eX l k) Q
 | .bytes b,.int k,Q=>(0<=k/\k<b.length/\b.length<=10000)/\Q (.int ((b.getD k.toNat 0).toNat:J))
 | .Ω l,.sym k,Q=>iF (bl l k) Q
 | .loc a,.int k,Q=>∃l,c a=some (.lst l)/\iF (eX l k) Q
 | .loc a,.sym k,Q=>∃l,c a=some (.Ω l)/\iF (bl l k) Q
 |_,_,_=>aK
theorem TD{c:Ι}{Q:O->Prop}{P:O->O->Prop}(ch:∀l k,iF (eX l k) Q->P (.tup l) (.int k))(c5:∀l k,iF (eX l k) Q->P (.lst l) (.int k))(fy:∀b k,oT c (.bytes b) (.int k) Q->P (.bytes b) (.int k))(kU:∀l k,iF (bl l k) Q->P (.Ω l) (.sym k))(rT:∀a k,oT c (.loc a) (.int k) Q->P (.loc a) (.int k))(TE:∀a k,oT c (.loc a) (.sym k) Q->P (.loc a) (.sym k)){a b:O}(h:oT c a b Q):P a b:=by
 cases a with
 |tup l=>cases b with
  |int k=>exact ch l k h
  |_=>exact h.elim
 |lst l=>cases b with
  |int k=>exact c5 l k h
  |_=>exact h.elim
 |bytes l=>cases b with
  |int k=>exact fy l k h
  |_=>exact h.elim
 |Ω l=>cases b with
  |sym k=>exact kU l k h
  |_=>exact h.elim
 |loc l=>cases b with
  |int k=>exact rT l k h
  |sym k=>exact TE l k h
  |_=>exact h.elim
 |_=>exact h.elim
noncomputable def wc(l:I O)(lo hi:ξ J):I O:=match lo,hi with
 |Option.none,some (.ofNat n)=>l.take n
 |some (.ofNat n),dc=>l.drop n
 |Option.none,some (.negSucc n)=>l.take (l.length - (n+1))
 |_,_=>l
noncomputable def De:O->ξ J->ξ J->(O->Prop)->Prop
 | .lst l,lo,hi,Q=>l.length<=10000/\Q (.lst (wc l lo hi))
 |_,_,_,_=>aK
noncomputable def rU(c:Ι):O->(O->Ι->Prop)->Prop
 | .loc a,Q=>∃k,c a=some k/\match k with
  | .lst l=>Q (.lst l) (upd c a dc)
  | .Ω l=>Q (.Ω l) (upd c a dc)
  | .tab _=>aK
  | .cV _=>aK
 | .ins C d,Q=>∃l,c d=some (.cV l)/\Q (.obj C l) (upd c d dc)
 |v,Q=>Q v c
theorem TF{c:Ι}{K:O->Ι->Prop}{P:O->Prop}(ch:∀a,rU c (.loc a) K->P (.loc a))(c5:∀C d,rU c (.ins C d) K->P (.ins C d))(fy:∀v,K v c->P v){v:O}(h:rU c v K):P v:=by
 cases v with
 |loc a=>exact ch a h
 |ins C d=>exact c5 C d h
 |_=>exact fy _ h
noncomputable def fP(lo:J)(step:J):Y->I O
 |0=>[]
 |n+1=>.int lo::fP (lo+step) step n
noncomputable def fQ(lo hi step:J):Y:=((hi - lo+step - 1) / step).toNat
noncomputable def kj:I O->I O->I O
 |x::l,y::l'=>.tup [x,y]::kj l l'
 |_,_=>[]
noncomputable def Df:O->(I O->Prop)->Prop
 | .lst l,Q=>Q l
 | .tup l,Q=>Q l
 |_,_=>aK
theorem TG{Q:I O->Prop}{P:O->Prop}(ch:∀l,Q l->P (.lst l))(c5:∀l,Q l->P (.tup l)){v:O}(h:Df v Q):P v:=by
 cases v with
 |lst l=>exact ch l h
 |tup l=>exact c5 l h
 |_=>exact h.elim
noncomputable def hk:ki->O->Ο->(Ο->Prop)->Prop
 | .var i,v,ρ,K=>K (eU ρ i (some v))
 | .tup is,.tup vs,ρ,K=>go is vs ρ K
 |_,_,_,_=>aK
where
 go:I Y->I O->Ο->(Ο->Prop)->Prop
  |[],[],ρ,K=>K ρ
  |i::is,v::vs,ρ,K=>go is vs (eU ρ i (some v)) K
  |_,_,_,_=>aK
noncomputable def fz:Y->Ο
 |0=>[]
 |n+1=>dc::fz n
structure et where
 fns:I ε
 TH:I Λ
 attr:I (ε×I Y)
 hG:I (ε×Y×ε)
 init:I (ε×ε)
 cG:I ε
noncomputable def qg(a:Y):I Y->aQ
 |[]=>false
 |b::l=>bE a b||qg a l
noncomputable def yT(υ:et):O->aQ
 | .val (.ref a)=>qg a υ.fns
 | .val (.builtin _)=>true
 | .val (.type _)=>true
 |_=>false
theorem TJ{υ:et}{P:O->Prop}(ch:∀a,qg a υ.fns=true->P (.val (.ref a)))(c5:∀x,P (.val (.builtin x)))(fy:∀x,P (.val (.type x))){a:O}(h:yT υ a=true):P a:=by
 cases a with
 |val v=>cases v with
  |ref a=>exact ch a h
  |builtin x=>exact c5 x
  |type x=>exact fy x
  |_=>exact hE h
 |_=>exact hE h
noncomputable def oU:I (ε×I Y)->ε->Y->aQ
 |[],_,_=>false
 |(C,l)::r,D,n=>match bE C D with
  |true=>qg n l
  |false=>oU r D n
noncomputable def lM:I (ε×Y×ε)->ε->Y->ξ ε
 |[],_,_=>dc
 |(C,m,f)::r,D,n=>match bE C D&&bE m n with
  |true=>some f
  |false=>lM r D n
noncomputable def mG:I (ε×ε)->ε->ξ ε
 |[],_=>dc
 |(C,f)::r,D=>match bE C D with
  |true=>some f
  |false=>mG r D
noncomputable def tO(υ:et)(c:Ι)(n:Y):O->(O->Prop)->Prop
 | .obj C bW,Q=>nG (oU υ.attr C n) (iF (bl bW n) Q)
 | .ins C d,Q=>nG (oU υ.attr C n) (∃bW,c d=some (.cV bW)/\iF (bl bW n) Q)
 |_,_=>aK
theorem TK{υ:et}{c:Ι}{n:Y}{Q:O->Prop}{P:O->Prop}(ch:∀C bW,tO υ c n (.obj C bW) Q->P (.obj C bW))(c5:∀C d,tO υ c n (.ins C d) Q->P (.ins C d)){v:O}(h:tO υ c n v Q):P v:=by
 cases v with
 |obj C bW=>exact ch C bW h
 |ins C d=>exact c5 C d h
 |_=>exact h.elim
structure gm where
 append:Y
 extend:Y
 get:Y
 update:Y
 init:Y
noncomputable def Dg(v:O)(Q:Y->Prop):Prop:=match v with
 | .sym s=>Q s
 |_=>aK
noncomputable def lN(v:O)(Q:J->Prop):Prop:=match v with
 | .int s=>Q s
 |_=>aK
noncomputable def qh(v:O)(Q:I O->Prop):Prop:=match v with
 | .lst s=>Q s
 |_=>aK
noncomputable def JP(v:O)(Q:I (Y×O)->Prop):Prop:=match v with
 | .Ω s=>Q s
 |_=>aK
theorem JQ{v:O}{Q:Y->Prop}(h:Dg v Q):∃s,v= .sym s/\Q s:=by
 cases v with
 |sym s=>exact as s rfl h
 |_=>exact h.elim
theorem qi{v:O}{Q:J->Prop}(h:lN v Q):∃s,v= .int s/\Q s:=by
 cases v with
 |int s=>exact as s rfl h
 |_=>exact h.elim
theorem wd{v:O}{Q:I O->Prop}(h:qh v Q):∃s,v= .lst s/\Q s:=by
 cases v with
 |lst s=>exact as s rfl h
 |_=>exact h.elim
theorem TL{v:O}{Q:I (Y×O)->Prop}(h:JP v Q):∃s,v= .Ω s/\Q s:=by
 cases v with
 |Ω s=>exact as s rfl h
 |_=>exact h.elim
theorem tP{b:aQ}{P Q G:Prop}(h:fO b P Q)(k:b=true->P->G)(jC:Q->G):G:=by
 cases b with
 |true=>exact k rfl h
 |false=>exact jC h
noncomputable def TM(nm:gm)(c:Ι)(k:Y)(a:ε)(v:O)(Q:O->Ι->Prop):Prop:=
 fO (bE k nm.append) (∃l,c a=some (.lst l)/\l.length<=10000/\Q .none (upd c a (some (.lst (l++[v])))))
 (fO (bE k nm.extend) (qh v λl'=>∃l,c a=some (.lst l)/\l.length+l'.length<=10000/\Q .none (upd c a (some (.lst (l++l')))))
 (fO (bE k nm.get) (Dg v λs=>∃l,c a=some (.Ω l)/\Q ((bl l s).getD .none) c)
 (fO (bE k nm.update) (JP v λl'=>∃l,c a=some (.Ω l)/\l.length+l'.length<=10000/\Q .none (upd c a (some (.Ω (l'.foldl (λl x=>putN l x.1 x.2) l))))) aK)))
noncomputable def TN(nm:gm)(c:Ι)(k:Y)(a:ε)(v w:O)(Q:O->Ι->Prop):Prop:=
 fO (bE k nm.get) (lN v λi=>∃l,c a=some (.tab l)/\Q ((cW l i).getD w) c) aK
noncomputable def TO(nm:gm)(c:Ι)(k:Y)(l:I (Y×O))(v:O)(Q:O->Ι->Prop):Prop:=
 fO (bE k nm.get) (Dg v λs=>Q ((bl l s).getD .none) c) aK
variable(p:bP)(υ:et)(nm:gm)
noncomputable def nK(Er:Prop)(n:Y)(c:Ι)(k:Y):O->I O->(O->Ι->Prop)->Prop
 | .obj C bW,vs,Q=>match lM υ.hG C k with
  |some f=>aF p n (.val (.ref f)) (.obj C bW::vs) c Q Er
  |Option.none=>aK
 | .ins C d,vs,Q=>match lM υ.hG C k with
  |some f=>aF p n (.val (.ref f)) (.ins C d::vs) c Q Er
  |Option.none=>aK
 | .loc a,[v],Q=>TM nm c k a v Q
 | .loc a,[v,w],Q=>TN nm c k a v w Q
 | .Ω l,[s],Q=>TO nm c k l s Q
 |_,_,_=>aK
noncomputable def mH(c:Ι)(k:Y):O->Prop
 | .obj C bW=>(lM υ.hG C k).isSome=true/\bl bW k=dc
 | .ins C d=>(lM υ.hG C k).isSome=true/\∃bW,c d=some (.cV bW)/\bl bW k=dc
 | .loc a=>∃x,c a=some x/\match x with
  | .lst _=>(bE k nm.append||bE k nm.extend)=true
  | .Ω _=>(bE k nm.get||bE k nm.update)=true
  | .tab _=>bE k nm.get=true
  | .cV _=>aK
 | .Ω _=>bE k nm.get=true
 |_=>aK
noncomputable def we:ξ O->aQ
 |some _=>false
 |Option.none=>true
theorem JR{o:ξ O}(h:we o=true):o=dc:=by
 rcases o with _|_
 ·rfl
 ·contradiction
noncomputable def TP(k:Y):fY->aQ
 | .lst _=>bE k nm.append||bE k nm.extend
 | .Ω _=>bE k nm.get||bE k nm.update
 | .tab _=>bE k nm.get
 | .cV _=>false
noncomputable def yU(c:Ι)(k:Y)(cs:O)(Q:Prop):Prop:=match cs with
 | .obj C bW=>nG ((lM υ.hG C k).isSome&&we (bl bW k)) Q
 | .ins C d=>∃bW,c d=some (.cV bW)/\nG ((lM υ.hG C k).isSome&&we (bl bW k)) Q
 | .loc a=>∃x,c a=some x/\nG (TP nm k x) Q
 | .Ω _=>nG (bE k nm.get) Q
 |_=>aK
theorem TQ{υ:et}{nm:gm}{c:Ι}{k:Y}{cs:O}{Q:Prop}(h:yU υ nm c k cs Q):mH υ nm c k cs/\Q:=by
 cases cs with
 |obj C bW=>
  exact⟨⟨((e5.mp ((kW h)).1)).1,JR ((e5.mp ((kW h)).1)).2⟩,((kW h)).2⟩
 |ins C d=>
  refine ψ h λbW e h=>?_;exact⟨⟨((e5.mp ((kW h)).1)).1,bW,e,JR ((e5.mp ((kW h)).1)).2⟩,((kW h)).2⟩
 |loc a=>
  refine ψ h λx e h=>?_;refine⟨⟨x,e,?_⟩,((kW h)).2⟩;cases x with
  |cV=>contradiction
  |_=>exact((kW h)).1
 |Ω l=>exact kW h
 |_=>exact h.elim
noncomputable def dT(tgt:O->Ο->(Ο->Prop)->Prop)(d1:Ο->Ι->(Ο->Ι->Prop)->(Ο->Ι->Prop)->Prop)(aN:Ο->Ι->(O->Ο->Ι->Prop)->Prop):
 I O->I O->Ο->Ι->(I O->Ο->Ι->Prop)->Prop
 |[],acc,ρ,c,Q=>Q acc ρ c
 |x::xs,acc,ρ,c,Q=>tgt x ρ λρ=>d1 ρ c (λρ c=>aN ρ c λv ρ c=>dT tgt d1 aN xs (acc++[v]) ρ c Q) (λρ c=>dT tgt d1 aN xs acc ρ c Q)
noncomputable def wg(tgt:O->Ο->(Ο->Prop)->Prop)(h9:I O->Ο->Ι->(I O->Ο->Ι->Prop)->Prop):
 I O->I O->Ο->Ι->(I O->Ο->Ι->Prop)->Prop
 |[],acc,ρ,c,Q=>Q acc ρ c
 |x::xs,acc,ρ,c,Q=>tgt x ρ λρ=>h9 acc ρ c λacc ρ c=>wg tgt h9 xs acc ρ c Q
noncomputable def JS(m:aQ)(x:fY)(y:O)(c:Ι)(Q:O->Ι->Prop):Prop:=fO m (∀a,c a=dc->Q (.loc a) (upd c a (some x))) (Q y c)
noncomputable def wh(m:aQ)(C d:Y)(c:Ι)(Q:O->Ι->Prop):Prop:=fO m (Q (.ins C d) c) (∃bW,c d=some (.cV bW)/\Q (.obj C bW) (upd c d dc))
mutual
noncomputable def bS(Er:Prop)(n:Y):X->Ο->Ι->(O->Ο->Ι->Prop)->Prop
 | .cst v,ρ,c,Q=>Q v ρ c
 | .var i,ρ,c,Q=>iF (hN ρ i) λv=>Q v ρ c
 | .i' i,ρ,c,Q=>iF (hN ρ i) λv=>rU c v λiD c'=>Q iD (eU ρ i (some iD)) c'
 | .bin op l r,ρ,c,Q=>bS Er n l ρ c λa ρ c=>bS Er n r ρ c λb ρ c=>v6 op a b λv=>Q v ρ c
 | .neg x,ρ,c,Q=>bS Er n x ρ c λa ρ c=>C5 a λv=>Q v ρ c
 | .ite t a b,ρ,c,Q=>at_ Er n t ρ c (λρ c=>bS Er n a ρ c Q) (λρ c=>bS Er n b ρ c Q)
 | .C2 t,ρ,c,Q=>at_ Er n t ρ c (Q (.bool true)) (Q (.bool false))
 | .tup l,ρ,c,Q=>iG Er n l ρ c λvs ρ c=>Q (.tup vs) ρ c
 | .lst m l,ρ,c,Q=>iG Er n l ρ c λvs ρ c=>JS m (.lst vs) (.lst vs) c λv c=>Q v ρ c
 | .Ω m bc l,ρ,c,Q=>iG Er n l ρ c λvs ρ c=>JS m (.Ω (bc.zip vs)) (.Ω (bc.zip vs)) c λv c=>Q v ρ c
 | .call f l,ρ,c,Q=>bS Er n f ρ c λea ρ c=>nG (yT υ ea) (iG Er n l ρ c λvs ρ c=>aF p n ea vs c (λv c'=>Q v ρ c') Er)
 | .mk m C l,ρ,c,Q=>match mG υ.init C with
  |some f=>iG Er n l ρ c λvs ρ c=>∀d,c d=dc->aF p n (.val (.ref f)) (.ins C d::vs) (upd c d (some (.cV []))) (λr c'=>r= .none/\wh m C d c' λv c=>Q v ρ c) Er
  |Option.none=>aK
 | .hG o k l,ρ,c,Q=>bS Er n o ρ c λcs ρ c=>yU υ nm c k cs (iG Er n l ρ c λvs ρ c=>nK p υ nm Er n c k cs vs λv c'=>Q v ρ c')
 | .attr o k,ρ,c,Q=>bS Er n o ρ c λcs ρ c=>tO υ c k cs λv=>Q v ρ c
 | .sub o i,ρ,c,Q=>bS Er n o ρ c λcs ρ c=>bS Er n i ρ c λkX ρ c=>oT c cs kX λv=>Q v ρ c
 | .JE o lo hi,ρ,c,Q=>bS Er n o ρ c λcs ρ c=>De cs lo hi λv=>Q v ρ c
 | .comp k aN tg it cL,ρ,c,Q=>kl Er n it ρ c λitems ρ c=>dT (hk tg) (mI Er n cL) (bS Er n aN) items [] (ρ++fz k) c λvs aM c=>Q (.lst vs) (aM.take ρ.length) c
 | .JF k aN tg it tI JG,ρ,c,Q=>kl Er n it ρ c λitems ρ c=>items.length<=100/\wg (hk tg) (λacc ρ c Q=>kl aK n JG ρ c λitems ρ c=>items.length<=100/\dT (hk tI) (λρ c P H=>P ρ c) (bS aK n aN) items acc ρ c Q) items [] (ρ++fz k) c λvs aM c=>Q (.lst vs) (aM.take ρ.length) c
 | .tab,ρ,c,Q=>∀a,c a=dc->Q (.loc a) ρ (upd c a (some (.tab [])))
 | .dead,_,_,_=>aK
noncomputable def iG(Er:Prop)(n:Y):XL->Ο->Ι->(I O->Ο->Ι->Prop)->Prop
 | .nil,ρ,c,Q=>Q [] ρ c
 | .cons x l,ρ,c,Q=>bS Er n x ρ c λv ρ c=>iG Er n l ρ c λvs ρ c=>Q (v::vs) ρ c
noncomputable def at_(Er:Prop)(n:Y):T->Ο->Ι->(Ο->Ι->Prop)->(Ο->Ι->Prop)->Prop
 | .not t,ρ,c,P,Q=>at_ Er n t ρ c Q P
 | .and l,ρ,c,P,Q=>mI Er n l ρ c P Q
 | .or l,ρ,c,P,Q=>Dh Er n l ρ c P Q
 | .cmp op l r,ρ,c,P,Q=>bS Er n l ρ c λa ρ c=>bS Er n r ρ c λb ρ c=>hR (jF op a b) (P ρ c) (Q ρ c)
 | .C3 op l m hH r,ρ,c,P,Q=>bS Er n l ρ c λa ρ c=>bS Er n m ρ c λb ρ c=>hR (jF op a b) (bS Er n r ρ c λd ρ c=>hR (jF hH b d) (P ρ c) (Q ρ c)) (Q ρ c)
 | .val x,ρ,c,P,Q=>bS Er n x ρ c λa ρ c=>hR (Dd a) (P ρ c) (Q ρ c)
 | .dead,_,_,_,_=>aK
noncomputable def mI(Er:Prop)(n:Y):rQ->Ο->Ι->(Ο->Ι->Prop)->(Ο->Ι->Prop)->Prop
 | .nil,ρ,c,P,_=>P ρ c
 | .cons t l,ρ,c,P,Q=>at_ Er n t ρ c (λρ c=>mI Er n l ρ c P Q) Q
noncomputable def Dh(Er:Prop)(n:Y):rQ->Ο->Ι->(Ο->Ι->Prop)->(Ο->Ι->Prop)->Prop
 | .nil,ρ,c,_,Q=>Q ρ c
 | .cons t l,ρ,c,P,Q=>at_ Er n t ρ c P (λρ c=>Dh Er n l ρ c P Q)
noncomputable def kl(Er:Prop)(n:Y):jE->Ο->Ι->(I O->Ο->Ι->Prop)->Prop
 | .val x,ρ,c,Q=>bS Er n x ρ c λv ρ c=>Df v λl=>l.length<=20000/\Q l ρ c
 | .dead,_,_,_=>aK
 | .range lo hi st,ρ,c,Q=>bS Er n lo ρ c λa ρ c=>bS Er n hi ρ c λb ρ c=>bS Er n st ρ c λs ρ c=>
  lN a λa=>lN b λb=>lN s λs=>(0<s/\s<1000∧-(2^60)<a/\a<2^60∧-(2^60)<b/\b<2^60/\b - a<=20000)/\Q (fP a s (fQ a b s)) ρ c
 | .rev hi,ρ,c,Q=>bS Er n hi ρ c λb ρ c=>lN b λb=>(0<=b/\b<1000)/\Q (fP (b - 1) (-1) b.toNat) ρ c
 | .zip x y,ρ,c,Q=>bS Er n x ρ c λa ρ c=>bS Er n y ρ c λb ρ c=>
  qh a λl=>qh b λl'=>l.length<=20000/\Q (kj l l') ρ c
end
noncomputable def mJ(tgt:O->Ο->(Ο->Prop)->Prop)(body:Ο->Ι->(Ο->Ι->Prop)->Prop):
 I O->Ο->Ι->(Ο->Ι->Prop)->Prop
 |[],ρ,c,Q=>Q ρ c
 |x::xs,ρ,c,Q=>tgt x ρ λρ=>body ρ c λρ c=>mJ tgt body xs ρ c Q
noncomputable def JT:I Y->I O->Ο->(Ο->Prop)->Prop
 |[],[],ρ,K=>K ρ
 |i::is,v::vs,ρ,K=>JT is vs ρ λρ=>K (eU ρ i (some v))
 |_,_,_,_=>aK
noncomputable def yV(c:Ι)(k:Y)(x:O):O->(Ι->Prop)->Prop
 | .ins C d,K=>nG (oU υ.attr C k) (∃bW,c d=some (.cV bW)/\bW.length<=900/\K (upd c d (some (.cV (putN bW k x)))))
 |_,_=>aK
noncomputable def wi:I O->Y->O->I O
 |[],_,_=>[]
 |_::l,0,v=>v::l
 |x::l,i+1,v=>x::wi l i v
noncomputable def tQ(c:Ι)(x:O):O->O->(Ι->Prop)->Prop
 | .loc a,.int k,K=>(∃l i,c a=some (.lst l)/\rS k l.length=some i/\0<=k/\k<2^60/\K (upd c a (some (.lst (wi l i x)))))∨(∃l,c a=some (.tab l)/\l.length<=100000/\K (upd c a (some (.tab (f3 l k x)))))
 | .loc a,.sym k,K=>∃l,c a=some (.Ω l)/\l.length<=10000/\K (upd c a (some (.Ω (putN l k x))))
 |_,_,_=>aK
theorem TR{c:Ι}{x:O}{K:Ι->Prop}{P:O->O->Prop}(ch:∀a k,tQ c x (.loc a) (.int k) K->P (.loc a) (.int k))(c5:∀a k,tQ c x (.loc a) (.sym k) K->P (.loc a) (.sym k)){a b:O}(h:tQ c x a b K):P a b:=by
 cases a with
 |loc a=>cases b with
  |int k=>exact ch a k h
  |sym k=>exact c5 a k h
  |_=>exact h.elim
 |_=>exact h.elim
noncomputable def JU(v:O)(Q:Prop):Prop:=match v with
 | .sym _=>Q
 | .text=>Q
 |_=>aK
theorem TS{v:O}{Q:Prop}(h:JU v Q):((∃k,v= .sym k)∨v= .text)/\Q:=by
 cases v with
 |sym k=>exact⟨.inl ⟨k,rfl⟩,h⟩
 |text=>exact⟨.inr rfl,h⟩
 |_=>exact h.elim
noncomputable def JV(vs:I O)(Er:Prop):Prop:=match vs with
 |[]=>aK
 |x::r=>match r with
  |[]=>JU x Er
  |_::_=>aK
theorem TU{vs:I O}{Er:Prop}(h:JV vs Er):(∃k,vs=[.sym k]/\Er)∨(vs=[.text]/\Er):=by
 rcases vs with _|⟨x,r⟩
 ·exact h.elim
 ·rcases r with _|_
  ·exact aa (TS h) λΑ Δ=>Α.elim (λq=>q.elim λk e=>.inl ⟨k,e▸rfl,Δ⟩) λe=>.inr ⟨e▸rfl,Δ⟩
  ·exact h.elim
mutual
noncomputable def kY(Er:Prop)(n:Y):S->Ο->Ι->(Ο->Ι->Prop)->(O->Ο->Ι->Prop)->Prop
 | .asg tg x,ρ,c,Q,_=>bS p υ nm Er n x ρ c λv ρ c=>hk tg v ρ λρ=>Q ρ c
 | .swap is l,ρ,c,Q,_=>iG p υ nm Er n l ρ c λvs ρ c=>JT is vs ρ λρ=>Q ρ c
 | .setAttr o k x,ρ,c,Q,_=>bS p υ nm Er n x ρ c λv ρ c=>bS p υ nm Er n o ρ c λcs ρ c=>yV υ c k v cs λc=>Q ρ c
 | .setItem o i x,ρ,c,Q,_=>bS p υ nm Er n x ρ c λv ρ c=>bS p υ nm Er n o ρ c λcs ρ c=>bS p υ nm Er n i ρ c λkX ρ c=>tQ c v cs kX λc=>Q ρ c
 | .qe t a b,ρ,c,Q,R=>at_ p υ nm Er n t ρ c (λρ c=>bh Er n a ρ c Q R) (λρ c=>bh Er n b ρ c Q R)
 | .JH t b,ρ,c,Q,R=>∃aG:Y->Ο->Ι->Prop,(∃m,aG m ρ c)/\∀m ρ c,aG m ρ c->at_ p υ nm aK n t ρ c (λρ c=>bh aK n b ρ c (λρ c=>∃cR,cR<m/\aG cR ρ c) R) Q
 | .for tg it b,ρ,c,Q,R=>kl p υ nm Er n it ρ c λitems ρ c=>mJ (hk tg) (λρ c K=>bh aK n b ρ c K R) items ρ c Q
 | .ret x,ρ,c,_,R=>bS p υ nm Er n x ρ c R
 | .raise l,ρ,c,_,_=>iG p υ nm Er n l ρ c λvs H H=>JV vs Er
 | .expr x,ρ,c,Q,_=>bS p υ nm Er n x ρ c λH ρ c=>Q ρ c
 | .dead,_,_,_,_=>aK
noncomputable def bh(Er:Prop)(n:Y):SL->Ο->Ι->(Ο->Ι->Prop)->(O->Ο->Ι->Prop)->Prop
 | .nil,ρ,c,Q,_=>Q ρ c
 | .cons s l,ρ,c,Q,R=>kY Er n s ρ c (λρ c=>bh Er n l ρ c Q R) R
end
end
section
variable{p:bP}{A:gh}{Γ:I Place}{l:I bx}{F ω:a2}{c c':Ι}{ρ:Ο}{Er:Prop}{s μ:ah}{Q:O->Ο->Ι->Prop}{n:Y}{env:bx}{pos:bo}{es:I Υ}
section
variable{α:Type}{R:a2->Ι->Ο->α->Prop}{a b:O}{va c0:Λ}
theorem dm.tok{x:α}{tk:Y}(S:a0 p.prog p.w p.B F c s.heap)(P:bI p.prog p.w p.B Γ l F c ρ s.heap)(f:cu p s)(h:R F c ρ x):dm p Γ l F c s R x {s with toks:=tk}:=
 ⟨F,c,ρ,.refl ..,S,P,f,h⟩
theorem aZ.int{i:J}{t:nt}(h:Q (.int i) ρ c):aZ p Q F c ρ (.int i t):=⟨_,.int i t,h⟩
theorem aZ.bool{b:aQ}(h:Q (.bool b) ρ c):aZ p Q F c ρ (.bool b):=⟨_,.bool b,h⟩
theorem au.int_inv{i:J}{v:Λ}(h:au p.prog p.w F (.int i) v):∃t,v= .int i t:=by rcases h with ⟨⟩;exact⟨_,rfl⟩
theorem au.lO{k:Y}{v:Λ}(h:au p.prog p.w F (.sym k) v):k<dB.length/\∃t,v= .str (b6 k) t:=by cases h with|sym _ t h=>exact⟨h,_,rfl⟩
theorem au.mK{x:I O}{v:Λ}(h:au p.prog p.w F (.tup x) v):∃vs a n,v= .ref a/\F a=some (vZ vs.toArray n)/\bA p.prog p.w F x vs:=by cases h with|tup h r=>exact vQ _ _ _ rfl h r
theorem au.lst_inv{x:I O}{v:Λ}(h:au p.prog p.w F (.lst x) v):∃vs a n,v= .ref a/\F a=some (listOf vs.toArray n)/\bA p.prog p.w F x vs:=by cases h with|lst h r=>exact vQ _ _ _ rfl h r
theorem au.tR{a:ε}{v:Λ}(h:au p.prog p.w F (.loc a) v):v= .ref a:=by rcases h with ⟨⟩;rfl
theorem au.val_inv{u v:Λ}(h:au p.prog p.w F (.val u) v):v=u:=by rcases h with ⟨⟩;rfl
theorem au.none_inv{v:Λ}(h:au p.prog p.w F .none v):v= .none:=by rcases h with ⟨⟩;rfl
theorem au.bool_inv{b:aQ}{v:Λ}(h:au p.prog p.w F (.bool b) v):v= .bool b:=by rcases h with ⟨⟩;rfl
theorem au.yW{b:I h5}{v:Λ}(h:au p.prog p.w F (.bytes b) v):∃t,v= .bytes b.toArray t:=by rcases h with ⟨⟩;exact⟨_,rfl⟩
theorem au.yX{C d:ε}{v:Λ}(h:au p.prog p.w F (.ins C d) v):∃a,v= .ref a/\F a=some (lB C d):=by cases h with|ins h=>exact as _ rfl h
theorem au.tS{x:I (Y×O)}{v:Λ}(h:au p.prog p.w F (.Ω x) v):∃a o kvs,v= .ref a/\F a=some o/\o.IsDictOf (strKind p.prog p.w) kvs/\RelK p.prog p.w F x kvs/\(a==mo)=false:=by cases h with|Ω n h d r=>exact HI _ _ _ rfl h d r n
theorem au.Di{C:ε}{x:I (Y×O)}{v:Λ}(h:au p.prog p.w F (.obj C x) v):∃a d o kvs,v= .ref a/\F a=some (lB C d)/\F d=some o/\mB o kvs/\RelK p.prog p.w F x kvs:=by cases h with|obj h h' d r=>exact yx _ _ _ _ rfl h h' d r
theorem bA.length{l:I O}{vs:I Λ}(h:bA p.prog p.w F l vs):vs.length=l.length:=by
 induction l generalizing vs with
 |nil=>rcases h with ⟨⟩;rfl
 |cons x l Ξ=>cases h with|cons _ r=>simp[Ξ r]
theorem bA.append{l l':I O}{vs fA:I Λ}(h:bA p.prog p.w F l vs)(h':bA p.prog p.w F l' fA):bA p.prog p.w F (l++l') (vs++fA):=by
 induction l generalizing vs with
 |nil=>rcases h with ⟨⟩;exact h'
 |cons x l Ξ=>cases h with|cons r rs=>exact .cons r (Ξ rs)
theorem bA.mF{l:I O}{vs:I Λ}(h:bA p.prog p.w F l vs):∀{i x},mF l i=some x->∃v,vs[i]?=some v/\au p.prog p.w F x v:=by
 induction l generalizing vs with
 |nil=>intro i x e;rcases i with ⟨⟩<;>contradiction
 |cons y l Ξ=>
  intro i x e;cases h with
  |cons r rs=>
   rcases i with _|i
   ·obtain rfl:=bQ e;exact as _ rfl r
   ·exact Ξ rs e
theorem dm.v2{h':bK}{o:cU}{tk:Y}{x:α}(S:a0 p.prog p.w p.B F c s.heap)(P:bI p.prog p.w p.B Γ l F c ρ s.heap)(f:cu p s){a:ε}(k:∀b o,s.heap.get? b=some o->h'.get? b=some o)(Ζ:s.heap.get? a=none)(γ:h'.get? a=some o)(h:cr F (g0 F a o)->R (g0 F a o) c ρ x):dm p Γ l F c s R x {s with heap:=h',toks:=tk}:=by
 obtain⟨cn,X⟩:=S.v2 k Ζ γ;exact⟨_,c,ρ,X.weaken λH z=>z.elim,cn,P.ext X,f,h X.le⟩
theorem dm.wj{o:cU}{tk:Y}{x:α}(S:a0 p.prog p.w p.B F c s.heap)(P:bI p.prog p.w p.B Γ l F c ρ s.heap)(f:cu p s)(hf:o.isFreed=false)(h:cr F (g0 F s.heap.objs.size o)->R (g0 F s.heap.objs.size o) c ρ x):
 dm p Γ l F c s R x {s with heap:=s.heap.push o,toks:=tk}:=
 .v2 S P f (a:=s.heap.objs.size) (λH H e=>hg _ e) (by
  rcases q:s.heap.get? s.heap.objs.size with _|aU
  ·rfl
  ·exact absurd (jv q) (GN _)) (kO _ hf) h
theorem ja(h:bK):h.get? h.objs.size=none:=by
 rcases q:h.get? h.objs.size with _|aU
 ·rfl
 ·exact absurd (jv q) (GN _)
theorem rV(ζ:p.Ok)(S:a0 p.prog p.w p.B F c s.heap):(s.heap.objs.size==mo)=false:=by
 refine gy ζ.big λb o Κ dh=>?_;have:=jv (S.frozen b o (S.base b o Κ));exact beq_eq_false_iff_ne.mpr λe=>by rw[e] at this;exact GN _ (Qq this dh)
theorem dm.JW{o:cU}{tk:Y}{x:α}{y:fY}(ζ:p.Ok)(S:a0 p.prog p.w p.B F c s.heap)(P:bI p.prog p.w p.B Γ l F c ρ s.heap)(f:cu p s)(r:hO p.prog p.w F y o)(h:c s.heap.objs.size=none->R F (upd c s.heap.objs.size (some y)) ρ x):dm p Γ l F c s R x {s with heap:=s.heap.push o,toks:=tk}:=by
 have Ζ:=ja s.heap;obtain⟨cn,X⟩:=S.yN (x:=y) (h':=s.heap.push o) (λH H e=>hg _ e) (rV ζ S) Ζ (kO _ r.free) r;exact⟨F,_,ρ,X.weaken λ_ (z:aK)=>z.elim,cn,P.ext X,f,h (S.none_of Ζ).2⟩
theorem JX(ζ:p.Ok)(S:a0 p.prog p.w p.B F c s.heap):s.heap.NoLimit:=ζ.nolimit.keeps λb o e=>S.frozen b o (S.base b o e)
theorem nL(S:a0 p.prog p.w p.B F c s.heap):∀b o,p.B.get? b=some o->s.heap.get? b=some o:=λb o e=>S.frozen b o (S.base b o e)
theorem lP(S:a0 p.prog p.w p.B F c s.heap){a:ε}{vs:I Λ}{n:Y}(h:F a=some (listOf vs.toArray n)):s.heap.IsList a vs.toArray:=⟨_,S.frozen _ _ h,rfl,n,rfl⟩
theorem Dj(S:a0 p.prog p.w p.B F c s.heap){a:ε}{vs:I Λ}{n:Y}(h:F a=some (vZ vs.toArray n)):s.heap.IsTuple a vs.toArray:=⟨_,S.frozen _ _ h,rfl,n,rfl⟩
theorem TV(items:h6 Λ):∀(k:Y),ahb (λΒ x2=>Β++x2) #[] (d0 k items)=(d0 k items.toList).flatten.toArray:=by
 have key:∀(k:Y) (acc:h6 Λ),ahb (λΒ x2=>Β++x2) acc (d0 k items)=(acc.toList++(d0 k items.toList).flatten).toArray:=by
  intro k
  induction k with
  |zero=>intro acc;simp
  |succ k Ξ=>intro acc;rw[s',List.foldl_cons,Ξ,s',GO];simp[oy]
 intro k;rw[key];simp
theorem bA.replicate{l:I O}{vs:I Λ}(h:bA p.prog p.w F l vs):∀k,bA p.prog p.w F (d0 k l).flatten (d0 k vs).flatten
 |0=>.nil
 |k+1=>by rw[s',s',GO,GO];exact h.append (bA.replicate h k)
theorem add_lists{nJ Dk:I O}(am:au p.prog p.w F (.lst nJ) va)(br:au p.prog p.w F (.lst Dk) c0)(S:a0 p.prog p.w p.B F c s.heap)(P:bI p.prog p.w p.B Γ l F c ρ s.heap)(f:cu p s)(h:nJ.length+Dk.length<=10000/\Q (.lst (nJ++Dk)) ρ c):aB p.M A (BH .Add va c0) (dm p Γ l F c s (aZ p λv ρ c=>Q v ρ c)) (cZ p Γ l c s Er) s:=by
 refine gz am.lst_inv λvs a n aV γ bm=>gz br.lst_inv λgn b m aW Κ g4=>?_;subst aV aW
 ·have ab:=S.frozen _ _ γ;have yY:=S.frozen _ _ Κ;refine concat_meets ⟨_,ab,rfl⟩ ⟨_,yY,rfl⟩ noFill_list_add seq_list_add PySem.F.slot_list_add PySem.F.entry_list_add (PySem.F.args_list_add_2 _ _) (list_addW _ _ vs.toArray gn.toArray n m none none #[] #[] (by simp only[i3,Qr];exact θ [_,_,_,_] [] (.le (.a (.v 2) (.v 0)) (.c 16777216)) [(.eq (.v 0) (.v 1)),(.eq (.v 2) (.v 3)),(.le (.a (.v 3) (.v 1)) (.c 10000))] [[1,1,0,1,0,1]] rfl g4.length bm.length h.1)) ⟨ab,yY,?_⟩;rw[(by simp:vs.toArray++gn.toArray=(vs++gn).toArray)];exact .wj S P f rfl λle=>⟨_,.lst (n:=0) (hQ _ _ _) ((bm.append g4).mono le),h.2⟩
theorem mul_list{nJ:I O}{k:J}(am:au p.prog p.w F (.lst nJ) va)(br:au p.prog p.w F (.int k) c0)(S:a0 p.prog p.w p.B F c s.heap)(P:bI p.prog p.w p.B Γ l F c ρ s.heap)(f:cu p s)(h:(0<=k/\k<=1000/\nJ.length<=10)/\Q (.lst (d0 k.toNat nJ).flatten) ρ c):aB p.M A (BH .Mult va c0) (dm p Γ l F c s (aZ p λv ρ c=>Q v ρ c)) (cZ p Γ l c s Er) s:=by
 apply gk am.lst_inv;intro vs a n γ bm;apply dG br.int_inv;intro t
 ·have ab:=S.frozen _ _ γ;refine aa h λbM h=>?_;refine e7 bM λeB f4 dI=>?_;try clear bM
  have hm:vs.toArray.size*k.toNat<=10000:=aP (rn (by simp only[i3];exact cJ bm.length dI rfl:vs.toArray.size<=10) (Qs.mpr f4:k.toNat<=1000)) (by decide:10*1000<=10000);have hi:((vs.toArray.size:J)*(k.toNat:J))<=10000:=by rw[<-ou];exact ml.mpr hm
  have key:bA p.prog p.w F (d0 k.toNat nJ).flatten (d0 (if vs.toArray.isEmpty=true then 0 else k.toNat) vs.toArray.toList).flatten:=by
   by_cases z:vs=[]
   ·subst z;rcases bm with ⟨⟩
    have bd:∀k,(d0 k ([]:I Λ)).flatten=[]:=λk=>ahc;simp only[bd,(λk=>ahc:∀k,(d0 k ([]:I O)).flatten=[])];exact .nil
   ·have:vs.toArray.isEmpty=false:=by cases vs with|nil=>exact absurd rfl z|cons _ _=>rfl
    simp only[this,vt,ta];exact bm.replicate _
  refine wpAny_binaryOp_repeat_ref (T:="list") (U:="int") (by decide) ⟨_,ab,rfl⟩ (λμ=>typeIs_int μ k t) noFill_list_mul PySem.F.fills_int_mul ahd repeat_list PySem.F.slot_int_index.lookup
   (BI ahd (typeIs_int s k t) PySem.F.entry_int_rmul (PySem.F.args_int_rmul_2 _ _) (int___rmul___int_list k t a vs.toArray n)
    ⟨ab,rfl,⟨_,ab,rfl⟩,BI PySem.F.slot_list_mul ⟨_,ab,rfl⟩ PySem.F.entry_list_mul (PySem.F.args_list_mul_2 _ _)
     (AutoListH.list___mul___list_int_3 a vs.toArray n k t (by simp[akW,-i3];exact θ [] [_] (.an (.ι (.g (.c 9223372036854775808)) (.v 0)) (.ι (.a (.v 0) (.c 1)) (.c 9223372036854775808))) [(.ι (.c 0) (.v 0)),(.ι (.v 0) (.c 1000))] [[1,1],[1,0,1]] rfl eB f4) (S7 hi) (by simp only[i3] at hm hi;simp[ahe,Qr];exact ml.mp (hc hi (by decide)))) ⟨ab,?_⟩⟩)
  rw[TV];exact .wj S P f rfl λle=>⟨_,.lst (n:=0) (hQ _ _ _) (key.mono le),h⟩
theorem TW{f4 gN:Y}(am:au p.prog p.w F (.sym f4) va)(br:au p.prog p.w F (.sym gN) c0)(S:a0 p.prog p.w p.B F c s.heap)(P:bI p.prog p.w p.B Γ l F c ρ s.heap)(f:cu p s)(h:Q .text ρ c):aB p.M A (BH .Add va c0) (dm p Γ l F c s (aZ p λv ρ c=>Q v ρ c)) (cZ p Γ l c s Er) s:=by
 refine aa am.lO λΗ cN=>?_;apply dG cN;intro t;refine aa br.lO λrW dg=>?_;apply dG dg;intro χ;have ds:=JB Η;have eC:=JB rW;have mL:¬((b6 f4).length==0)=true:=by simpa using GH ds.1
 have kZ:¬((b6 gN).length==0)=true:=by simpa using GH eC.1
 refine PySem.P.add_str ?_;rw[bL mL,bL kZ];exact⟨by rw[ahf,hC];exact aP (Qt ds.2 eC.2) (by decide),.tok S P f ⟨_,.text _ _ (by rw[ahf];exact aP (Qt ds.2 eC.2) (by decide)),h⟩⟩
theorem TX{op:rm}(ζ:p.Ok)(am:au p.prog p.w F a va)(br:au p.prog p.w F b c0)(h:v6 op a b λv=>Q v ρ c):π p A Γ l F c ρ (BH op va c0) (aZ p Q) Er:=by
 intro s S P f;revert am br;refine Tn (P:=λa b=>au p.prog p.w F a va->au p.prog p.w F b c0->aB p.M A (BH op va c0) (dm p Γ l F c s (aZ p Q)) (cZ p Γ l c s Er) s) (λx y h am br=>?_) (λl l' e h' wk wl=>by subst e;exact add_lists wk wl S P f h') (λl k e h' wk wl=>by subst e;exact mul_list wk wl S P f h') (λf4 gN e h' wk wl=>by subst e;exact TW wk wl S P f h') h;apply dG am.int_inv;intro t;apply dG br.int_inv;intro u;cases op with
 |Add=>exact akX (.tok S P f (aZ.int h))
 |Sub=>exact PySem.P.sub_int (.tok S P f (aZ.int h))
 |Mult=>exact PySem.P.mul_int (.tok S P f (aZ.int h.2)) h.1
 |FloorDiv=>exact akY h.1.1 (.tok S P f (aZ.int h.2)) (.inl h.1.2)
 |Mod=>exact akZ h.1 (.tok S P f (aZ.int h.2))
 |Pow=>exact ak0 h.1.1 h.1.2 (.tok S P f (aZ.int h.2))
 |LShift=>exact ak1 h.1.1 (by have:=h.1.2.1;exact hc this (by decide)) h.1.2.2 (.tok S P f (aZ.int h.2))
 |RShift=>exact ak2 h.1 (.tok S P f (aZ.int h.2))
 |BitOr=>exact ak3 (.tok S P f (aZ.int h))
 |BitAnd=>exact ak4 (.tok S P f (aZ.int h))
 |_=>exact h.elim
end
section
variable{α:Type}{R:a2->Ι->Ο->α->Prop}{a b:O}{va c0:Λ}
theorem bA.wm{x y:O}{vs:I Λ}(h:bA p.prog p.w F [x,y] vs):∃v w,vs=[v,w]/\au p.prog p.w F x v/\au p.prog p.w F y w:=by
 cases h with
 |cons r h=>cases h with
  |cons kg h=>rcases h with ⟨⟩;exact oM _ _ rfl r kg
theorem bA.ajY{x:O}{vs:I Λ}(h:bA p.prog p.w F [x] vs):∃v,vs=[v]/\au p.prog p.w F x v:=by
 cases h with
 |cons r h=>rcases h with ⟨⟩;exact as _ rfl r
theorem yZ(a b:Y):bE a b=decide (a=b):=by
 cases h:bE a b with
 |true=>simp[oz h]
 |false=>simp[Nat.ne_of_beq_eq_false h]
theorem JY{i j:Y}(hi:i<dB.length)(cQ:j<dB.length):((b6 i).cps.toList==(b6 j).cps.toList)=bE i j:=by
 rw[yZ];by_cases e:i=j
 ·subst e;simp
 ·have:¬b6 i=b6 j:=λh=>e (vY hi cQ h);rw[ro e];apply Bool.eq_false_iff.mpr;intro h;exact this (Str.ext' (by simpa using h))
theorem TY{l:I O}:∀{vs:I Λ} {ns:I J},bA p.prog p.w F l vs->allInts l=some ns->x0 vs ns:=by
 induction l with
 |nil=>intro vs ns h e;rcases h with ⟨⟩;rcases e with ⟨⟩;exact .nil
 |cons x l Ξ=>
  intro vs ns h e;refine ψ (nI e) λi Α Δ=>ψ (mq.mp Δ) λhl κ ay=>?_;cases h with
  |cons r rs=>exact ay▸(JJ Α▸r).int_inv.elim λt e=>e▸.cons _ _ (Ξ rs κ)
theorem TZ{l:I O}:∀{vs:I Λ} {ns:I Y},bA p.prog p.w F l vs->yQ l=some ns->StrsAre vs (ns.map b6)/\∀k∈ns,k<dB.length:=by
 induction l with
 |nil=>intro vs ns h e;rcases h with ⟨⟩;rcases e with ⟨⟩;exact⟨.nil,λH h=>nomatch h⟩
 |cons x l Ξ=>
  intro vs ns h e;refine ψ (nI e) λi Α Δ=>ψ (mq.mp Δ) λhl κ ay=>?_;cases h with
  |cons r rs=>
   refine aa (Tp Α▸r).lO λΗ aW=>?_;apply dG aW;intro t;exact ay▸⟨.cons _ _ ((Ξ rs κ)).1,λk hm=>(eR.mp hm).elim (λq=>q▸Η) (((Ξ rs κ)).2 k)⟩
theorem T0(a:J)(l:I J):rR a l=l.any (·==a):=by
 induction l with
 |nil=>
  exact rfl
 |cons b l Ξ=>
  exact by
   change(decide (a=b)||rR a l)=_;rw[ahg,Ξ];by_cases h:a=b
   ·subst h;simp
   ·have:¬b=a:=λe=>h e.symm;simp[h,this]
theorem T1{a:Y}(γ:a<dB.length)(l:I Y):(∀k∈l,k<dB.length)->v9 a l=(l.map b6).any (·==b6 a):=by
 induction l with
 |nil=>
  exact λH=>rfl
 |cons b l Ξ=>
  exact λh=>by
   change(bE a b||v9 a l)=_;rw[i4,ahg,Ξ λk Η=>h k (List.mem_cons_of_mem _ Η)];congr 1;rw[yZ];by_cases e:a=b
   ·subst e;simp
   ·have:¬b6 b=b6 a:=λq=>e (vY (h b List.mem_cons_self) γ q).symm;simp[e,this]
theorem JZ{h:bK}(Η:∀a o,F a=some o->h.get? a=some o):∀{l:I O} {vs:I Λ} {ns:I (J×J)},bA p.prog p.w F l vs->pairsOf l=some ns->
 ∃dz,ReadsAll h vs (ns.map λx=>.tuple [.int x.1,.int x.2]) dz:=by
 intro l
 induction l with
 |nil=>intro vs ns r e;rcases r with ⟨⟩;rcases e with ⟨⟩;exact⟨_,.nil⟩
 |cons x l Ξ=>
  intro vs ns r e;refine ψ (nI e) λt0 Α Δ=>ψ (nI Δ) λcA κ ay=>ψ (mq.mp ay) λhl q cc=>?_;subst cc;cases r with
  |cons r rs=>
   refine a8 (Ξ rs q) λdz T2=>?_;refine gz ((Tu Α).trans (cE O.tup (C9 κ))▸r).mK λfA dU n cN γ bm=>?_;rcases cN with rfl
   refine fb bm.wm λH H oV ag dJ=>?_;rcases oV with rfl
   refine a8 ag.int_inv λdA dk=>?_;rcases dk with rfl
   refine a8 dJ.int_inv λjb dg=>?_;rcases dg with rfl
   exact⟨_,.cons (.tuple (Η _ _ γ) rfl rfl (.cons (.int _ _) (.cons (.int _ _) .nil))) T2⟩
theorem J0:∀x y:I (J×J),rp (x.map λx=>GP [.int x.1,.int x.2]) (y.map λx=>.tuple [.int x.1,.int x.2])=decide (x=y)
 |[],[]=>by simp[rp]
 |[],_::_=>by simp[rp]
 |_::_,[]=>by simp[rp]
 |(a,b)::r,(c,d)::t=>by
  simp only[i4,rp,x1,J0 r t];by_cases Α:a=c<;>by_cases Δ:b=d<;>by_cases κ:r=t<;>simp[Α,Δ,κ]
theorem T3(x:I (J×J)):Qu (x.map λx=>GP [.int x.1,.int x.2])=true:=by
 induction x with
 |nil=>
  exact by simp[Qu]
 |cons hd r Ξ=>
  exact by simp[Qu,Qw,Ξ]
theorem T4(x:I (J×J)):Qx (x.map λx=>GP [.int x.1,.int x.2])<=3:=by
 induction x with
 |nil=>
  exact by simp[Qx]
 |cons hd r Ξ=>
  exact by have:=Ξ;simp[Qx,Qy];exact SU this
theorem J1(x:I (J×J)):SeqAt.shaped (.list (x.map λx=>GP [.int x.1,.int x.2]))=true:=by
 have:=T4 x;show(Qw (.list _)&&decide (Qy (.list _)<=64))=true;rw[e6];exact⟨by simp only[Qw];exact T3 x,jw (by simp only[Qy];exact gL this rfl)⟩
theorem T5{r:aQ}(S:a0 p.prog p.w p.B F c s.heap)(a4:A.units+64<i1)(am:au p.prog p.w F a va)(br:au p.prog p.w F b c0)(e:tK a b=some r){P:Λ->ah->Prop}{E:Λ->ah->Prop}(h:P (.bool r) s):
 aB p.M A (j' .Eq va c0) P E s:=by
 cases JL e
 ·rcases am.none_inv with ⟨⟩;rcases br.none_inv with ⟨⟩;exact ak5 h
 ·rcases am.none_inv with ⟨⟩;(apply dG br.int_inv;intro t);exact ak6 h
 ·rcases br.none_inv with ⟨⟩;(apply dG am.int_inv;intro t);exact ak7 h
 ·(apply dG am.int_inv;intro t);(apply dG br.int_inv;intro u)
  exact PySem.P.eq_int (by first|exact h|(rw[show((_:J)==_)=decide _ from rfl];exact h))
 ·(refine aa am.lO λΗ nD=>?_;apply dG nD;intro t);(refine aa br.lO λrW jG=>?_;apply dG jG;intro u)
  exact PySem.P.eq_str (by rw[JY Η rW];exact h)
 ·apply gk am.mK;intro vs dU n γ bm;apply gk br.mK;intro gn cv m Κ g4;refine fb bm.wm λH H oV ag dJ=>?_;rcases oV with rfl
  refine fb g4.wm λH H tT fB e8=>?_;rcases tT with rfl
  refine a8 ag.int_inv λdA oW=>?_;rcases oW with rfl
  refine a8 dJ.int_inv λjb tU=>?_;rcases tU with rfl
  refine a8 fB.int_inv λao oX=>?_;rcases oX with rfl
  refine a8 e8.int_inv λaJ rX=>?_;rcases rX with rfl
  refine ahh (da:=.tuple [.int _,.int _]) (db:=.tuple [.int _,.int _]) (.tuple (S.frozen _ _ γ) rfl rfl (.cons (.int _ _) (.cons (.int _ _) .nil))) (.tuple (S.frozen _ _ Κ) rfl rfl (.cons (.int _ _) (.cons (.int _ _) .nil))) (by rfl) (by rfl) a4 ?_;simp only[x1,rp,Qz];exact h
 ·apply gk am.lst_inv;intro vs dU n γ bm;apply gk br.lst_inv;intro gn cv m Κ g4;rcases bm with ⟨⟩;rcases g4 with ⟨⟩
  refine ahh (da:=.list []) (db:=.list []) (.list (S.frozen _ _ γ) rfl rfl .nil) (.list (S.frozen _ _ Κ) rfl rfl .nil) (by rfl) (by rfl) a4 ?_;simp only[x1,rp];exact h
 ·apply gk am.lst_inv;intro vs dU n γ bm;apply gk br.lst_inv;intro gn cv m Κ g4;rcases g4 with ⟨⟩
  have:=bm.length;exact SeqAt.eq_list_lengthsAt (lP S γ) (lP S Κ) (by simp;intro z;subst z;contradiction) (Io a4) h
theorem T6{r:aQ}(S:a0 p.prog p.w p.B F c s.heap)(a4:A.units+64<i1)(am:au p.prog p.w F a va)(br:au p.prog p.w F b c0)(e:tK a b=some r){P:Λ->ah->Prop}{E:Λ->ah->Prop}(h:P (.bool (!r)) s):
 aB p.M A (j' .NotEq va c0) P E s:=by
 cases JL e
 ·cases am.none_inv;cases br.none_inv;exact ak8 h
 ·cases am.none_inv;(apply dG br.int_inv;intro t);exact ak9 h
 ·cases br.none_inv;(apply dG am.int_inv;intro t);exact ala h
 ·(apply dG am.int_inv;intro t);(apply dG br.int_inv;intro u)
  exact PySem.P.ne_int (by first|exact h|(rw[show((_:J) != _)= !decide _ from rfl];exact h))
 ·(refine aa am.lO λΗ T7=>?_;apply dG T7;intro t);(refine aa br.lO λrW T8=>?_;apply dG T8;intro u)
  exact PySem.P.ne_str (by rw[bne,JY Η rW];exact h)
 ·apply gk am.mK;intro vs dU n γ bm;apply gk br.mK;intro gn cv m Κ g4;refine fb bm.wm λH H T9 ag dJ=>?_;rcases T9 with rfl
  refine fb g4.wm λH H T' fB e8=>?_;rcases T' with rfl
  refine a8 ag.int_inv λdA Ua=>?_;rcases Ua with rfl
  refine a8 dJ.int_inv λjb Ub=>?_;rcases Ub with rfl
  refine a8 fB.int_inv λao Uc=>?_;rcases Uc with rfl
  refine a8 e8.int_inv λaJ Ud=>?_;rcases Ud with rfl
  refine QA (da:=.tuple [.int _,.int _]) (db:=.tuple [.int _,.int _]) (.tuple (S.frozen _ _ γ) rfl rfl (.cons (.int _ _) (.cons (.int _ _) .nil))) (.tuple (S.frozen _ _ Κ) rfl rfl (.cons (.int _ _) (.cons (.int _ _) .nil))) (by rfl) (by rfl) a4 ?_;simp only[x1,rp,Qz];exact h
 ·apply gk am.lst_inv;intro vs dU n γ bm;apply gk br.lst_inv;intro gn cv m Κ g4;cases bm;cases g4;refine QA (da:=.list []) (db:=.list []) (.list (S.frozen _ _ γ) rfl rfl .nil) (.list (S.frozen _ _ Κ) rfl rfl .nil) (by rfl) (by rfl) a4 ?_;simp only[x1,rp];exact h
 ·apply gk am.lst_inv;intro vs dU n γ bm;apply gk br.lst_inv;intro gn cv m Κ g4;cases g4;exact(alb (lP S γ) (lP S Κ) (by simp;intro z;subst z;cases bm) (Io a4)) _ _ _ _ h
theorem J2{r:aQ}(am:au p.prog p.w F a va)(e:v7 a=some r):plainIs va .none=true/\(va==.none)=r:=by
 rcases am with ⟨⟩<;>first|exact d6 e|exact⟨rfl,bQ e⟩
theorem Ue{r:aQ}(am:au p.prog p.w F a va)(e:v7 a=some r){P:Λ->ah->Prop}{E:Λ->ah->Prop}(h:P (.bool r) s):aB p.M A (j' .Is va .none) P E s:=by
 exact aa (J2 am e) λΑ Δ=>wpAny_is_plain Α (Δ.symm▸h)
theorem Uf{r:aQ}(am:au p.prog p.w F a va)(e:v7 a=some r){P:Λ->ah->Prop}{E:Λ->ah->Prop}(h:P (.bool (!r)) s):aB p.M A (j' .IsNot va .none) P E s:=by
 exact aa (J2 am e) λΑ Δ=>wpAny_isNot_plain Α (Δ.symm▸h)
theorem J3{r:aQ}(S:a0 p.prog p.w p.B F c s.heap)(am:au p.prog p.w F a va)(br:au p.prog p.w F b c0)(e:yR a b=some r){P:Λ->ah->Prop}{E:Λ->ah->Prop}:
 (P (.bool r) s->aB p.M A (j' .In va c0) P E s)/\(P (.bool (!r)) s->aB p.M A (j' .NotIn va c0) P E s):=by
 revert am br;refine Tv (P:=λa b r=>au p.prog p.w F a va->au p.prog p.w F b c0->(P (.bool r) s->aB p.M A (j' .In va c0) P E s)/\(P (.bool (!r)) s->aB p.M A (j' .NotIn va c0) P E s)) (λa l ns q am br=>?_) (λa l ns q am br=>?_) e
 ·apply dG am.int_inv;intro t;apply gk br.mK;intro vs cv m Κ g4;have δ:GQ s.heap cv vs.toArray:=⟨_,S.frozen _ _ Κ,rfl,m,rfl⟩;have hi:=TY g4 q;rw[T0];exact⟨λh=>in_tuple_ints δ hi h,λh=>notin_tuple_ints δ hi h⟩
 ·refine aa am.lO λΗ Ug=>?_;apply dG Ug;intro t;apply gk br.mK;intro vs cv m Κ g4;have δ:GQ s.heap cv vs.toArray:=⟨_,S.frozen _ _ Κ,rfl,m,rfl⟩;refine aa (TZ g4 q) λhi Uh=>?_;rw[T1 Η _ Uh];exact⟨λh=>in_tuple_strs δ hi h,λh=>notin_tuple_strs δ hi h⟩
theorem Ui{r:aQ}(S:a0 p.prog p.w p.B F c s.heap)(a4:A.units+64<i1)(am:au p.prog p.w F a va)(br:au p.prog p.w F b c0)(e:wa a b=some r){P:Λ->ah->Prop}{E:Λ->ah->Prop}(h:P (.bool r) s):aB p.M A (j' .NotEq va c0) P E s:=by
 revert am br h;refine Tw (P:=λa b r=>au p.prog p.w F a va->au p.prog p.w F b c0->P (.bool r) s->aB p.M A (j' .NotEq va c0) P E s) (λx y xs bj tL wb am br h=>?_) e;apply gk am.lst_inv;intro vs dU n γ bm;apply gk br.lst_inv;intro gn cv m Κ g4;refine a8 (JZ S.frozen bm tL) λdz wn=>?_;refine a8 (JZ S.frozen g4 wb) λbs qj=>?_;refine QA (.list (S.frozen _ _ γ) rfl rfl wn) (.list (S.frozen _ _ Κ) rfl rfl qj) (J1 xs) (J1 bj) a4 ?_;simp only[x1,J0];exact h
theorem Uj{op:ju}{r:aQ}(S:a0 p.prog p.w p.B F c s.heap)(a4:A.units+64<i1)(am:au p.prog p.w F a va)(br:au p.prog p.w F b c0)(e:jF op a b=some r){P:Λ->ah->Prop}{E:Λ->ah->Prop}(h:P (.bool r) s):
 aB p.M A (j' op va c0) P E s:=by
 cases op with
 |Eq=>exact T5 S a4 am br e h
 |NotEq=>
  have e:tM a b=some r:=e;unfold tM at e;cases q:tK a b with
  |some kg=>rw[q] at e;obtain rfl:=bQ e;exact T6 S a4 am br q h
  |none=>
   rw[q] at e;exact Ui S a4 am br e h
 |Lt=>(refine fb (yS e) λx y Uk Ul Um=>?_;rcases Uk with rfl;rcases Ul with rfl;rcases Um with rfl);(refine a8 am.int_inv λt Un=>?_;rcases Un with rfl);(refine a8 br.int_inv λu Uo=>?_;rcases Uo with rfl);exact PySem.P.lt_int h
 |LtE=>(refine fb (yS e) λx y Up Uq Ur=>?_;rcases Up with rfl;rcases Uq with rfl;rcases Ur with rfl);(refine a8 am.int_inv λt Us=>?_;rcases Us with rfl);(refine a8 br.int_inv λu Ut=>?_;rcases Ut with rfl);exact PySem.P.le_int h
 |Gt=>(refine fb (yS e) λx y Uu Uv Uw=>?_;rcases Uu with rfl;rcases Uv with rfl;rcases Uw with rfl);(refine a8 am.int_inv λt Ux=>?_;rcases Ux with rfl);(refine a8 br.int_inv λu Uy=>?_;rcases Uy with rfl);exact PySem.P.gt_int h
 |GtE=>(refine fb (yS e) λx y Uz UA UB=>?_;rcases Uz with rfl;rcases UA with rfl;rcases UB with rfl);(refine a8 am.int_inv λt UC=>?_;rcases UC with rfl);(refine a8 br.int_inv λu UD=>?_;rcases UD with rfl);exact PySem.P.ge_int h
 |Is=>
  refine aa (JM e) λUE e=>?_;rcases UE with rfl
  rcases br.none_inv with ⟨⟩;exact Ue am e h
 |IsNot=>
  refine aa (JM e) λUF e=>?_;rcases UF with rfl
  refine ψ (JN e) λq aT UG=>?_;rcases UG with rfl
  rcases br.none_inv with ⟨⟩;exact Uf am aT h
 |In=>exact(J3 S am br e).1 h
 |NotIn=>
  refine ψ (JN e) λq aT UH=>?_;rcases UH with rfl
  exact(J3 S am br aT).2 h
end
section
open PySem.Builtin PySem.Builtin.ObjectAttr
section
variable{α:Type}{R:a2->Ι->Ο->α->Prop}{a b:O}{va c0:Λ}
noncomputable def jH{T:Type}(d:T)(e:Υ)(hBoolOp:PySem.BoolOp->I Υ->bo->T:=λH H H=>d)(hBinOp:Υ->rm->Υ->bo->T:=λH H H H=>d)(hUnaryOp:PySem.UnaryOp->Υ->bo->T:=λH H H=>d)(hIfExp:Υ->Υ->Υ->bo->T:=λH H H H=>d)(hDict:I (ξ Υ)->I Υ->bo->T:=λH H H=>d)(hListComp:Υ->I rq->fX->bo->T:=λH H H H=>d)(hSetComp:Υ->I rq->fX->bo->T:=λH H H H=>d)(hDictComp:Υ->Υ->I rq->fX->bo->T:=λH H H H H=>d)(hCompare:Υ->I ju->I Υ->bo->T:=λH H H H=>d)(hCall:Υ->I Υ->I GR->bo->T:=λH H H H=>d)(hConstant:Const->Y->bo->T:=λH H H=>d)(hAttribute:Υ->φ->bo->T:=λH H H=>d)(hSubscript:Υ->Υ->bo->T:=λH H H=>d)(hName:φ->bo->T:=λH H=>d)(hList:I Υ->bo->T:=λH H=>d)(hTuple:I Υ->Y->bo->T:=λH H H=>d)(hSlice:ξ Υ->ξ Υ->ξ Υ->bo->T:=λH H H H=>d):T:=
 ahi (motive_1:=λH=>T) e hBoolOp (λH H H=>d) hBinOp hUnaryOp (λH H H H=>d) hIfExp hDict (λH H H=>d) hListComp hSetComp hDictComp (λH H H H=>d) (λH H=>d) (λH H=>d) (λH H=>d) hCompare hCall (λH H H H=>d) (λH H=>d) hConstant hAttribute hSubscript (λH H=>d) hName hList hTuple hSlice
noncomputable def rY(e:Υ):aQ:=(bE e.ctorIdx 26).not
theorem tV{e:Υ}(h:rY e=true)(o i:Λ):subscripted e false o i=operate [o,i] (QB o i):=by
 rcases e with ⟨⟩<;>first|rfl|contradiction
theorem UI:∀(l:I O) (i:Y),mF l i=l[i]?
 |[],i=>by rcases i with ⟨⟩<;>rfl
 |x::l,0=>rfl
 |x::l,i+1=>UI l i
set_option tactic.hygienic true in
theorem Dl{l:I O}{vs:I Λ}{k:J}{x:O}(r:bA p.prog p.w F l vs)(h:eX l k=some x):
 ∃(i:Y) (v:Λ),((k=i/\i<vs.length/\i<4611686018427387904)∨(k<0∧-(vs.length:J)<=k∧-4611686018427387904<=k/\(i:J)=k+vs.length))/\vs[i]?=some v/\au p.prog p.w F x v:=by
 unfold eX at h;split at h
 ·rename_i i e;refine ψ (r.mF h) λv Φ c6=>?_;have:=JO e;rw[<-r.length] at this;exact oM i v this Φ c6
 ·contradiction
theorem J4{bm:ε}{vs:I Λ}{k:J}{t:nt}{i:Y}{v:Λ}{P:Λ->ah->Prop}{E:Λ->ah->Prop}(Τ:s.heap.IsList bm vs.toArray)(hi:(k=i/\i<vs.length/\i<4611686018427387904)∨(k<0∧-(vs.length:J)<=k∧-4611686018427387904<=k/\(i:J)=k+vs.length))(Φ:vs[i]?=some v)(h:P v s):
 aB p.M A (QB (.ref bm) (.int k t)) P E s:=by
 rcases hi with ⟨rfl,Α,Δ⟩|⟨Α,Δ,κ,ay⟩
 ·exact wpAny_getItem_list Τ (oP) (ml.2 (aP Δ (by decide))) (by simpa using Φ) h
 ·refine wpAny_getItem_list_neg Τ Α (by simpa using Δ) (hc (by decide) κ) ?_ h;have:(k+(vs.toArray.size:J)).toNat=i:=by simp only[i3];exact Ia ay
  rw[this];simpa using Φ
theorem UJ{bm:ε}{vs:I Λ}{k:J}{t:nt}{i:Y}{v:Λ}{P:Λ->ah->Prop}{E:Λ->ah->Prop}(Τ:GQ s.heap bm vs.toArray)(hi:(k=i/\i<vs.length/\i<4611686018427387904)∨(k<0∧-(vs.length:J)<=k∧-4611686018427387904<=k/\(i:J)=k+vs.length))(Φ:vs[i]?=some v)(h:P v s):
 aB p.M A (QB (.ref bm) (.int k t)) P E s:=by
 refine getItem_tuple Τ (j:=i) ?_ ?_ ?_ (by simpa using Φ) h
 ·rcases hi with ⟨rfl,Α,Δ⟩|⟨Α,Δ,κ,ay⟩<;>omega
 ·rcases hi with ⟨rfl,Α,Δ⟩|⟨Α,Δ,κ,ay⟩<;>omega
 ·unfold seqIndex?;simp only[i3];rcases hi with ⟨rfl,Α,Δ⟩|⟨Α,Δ,κ,ay⟩
  ·have q:¬((i:J)<0):=(by simp);simp only[q,ta];have:(decide (0<=(i:J))&&decide ((i:J)<(vs.length:J)))=true:=by simp;exact θ [_,_] [] (.le (.a (.v 0) (.c 1)) (.v 1)) [(.le (.a (.v 0) (.c 1)) (.v 1))] [[1,1]] rfl Α
   rw[cz this];simp
  ·simp only[Α,rr];have:(decide (0<=k+(vs.length:J))&&decide (k+(vs.length:J)<(vs.length:J)))=true:=by simp;exact θ [_] [_] (.an (.ι (.c 0) (.a (.v 0) (.n (.v 0)))) (.ι (.a (.a (.v 0) (.n (.v 0))) (.c 1)) (.n (.v 0)))) [(.ι (.g (.n (.v 0))) (.v 0)),(.ι (.a (.v 0) (.c 1)) (.c 0))] [[1,1],[1,0,1]] rfl Δ Α
   rw[cz this];congr 1;exact Ia ay
theorem tW{l:I (Y×O)}:∀{kvs:I (φ×Λ)} {k:Y},RelK p.prog p.w F l kvs->k<dB.length->
 (∀x,bl l k=some x->∃v,eS kvs (b6 k)=some v/\au p.prog p.w F x v)/\(bl l k=dc->eS kvs (b6 k)=none):=by
 induction l with
 |nil=>intro kvs k h _;rcases h with ⟨⟩;exact⟨λH e=>(nomatch e),λH=>rfl⟩
 |cons y l Ξ=>
  intro kvs k h Η;cases h with
  |@cons j x v l kvs cQ r rs=>
   rw[TA,yZ];by_cases e:j=k
   ·subst e;have:eS ((b6 j,v)::kvs) (b6 j)=some v:=by simp[eS]
    simp only[decide_true,this];exact⟨λqk aT=>by(obtain rfl:=bQ aT;exact as v rfl r),λaT=>(nomatch aT)⟩
   ·have ne:¬b6 j=b6 k:=λq=>e (vY cQ Η q);have:eS ((b6 j,v)::kvs) (b6 k)=eS kvs (b6 k):=by simp[eS,ne]
    simp only[e,decide_false,this];exact⟨((Ξ rs Η)).1,((Ξ rs Η)).2⟩
theorem oY{o:ξ O}{Q:O->Prop}(h:iF o Q):∃x,o=some x/\Q x:=by
 rcases o with _|x
 ·exact h.elim
 ·exact as x rfl h
theorem k0{h:bK}{d:ε}{o:cU}{K:Type}[oA K]{knd:KeyKind p.prog p.w K}{kvs:I (K×Λ)}(ab:h.get? d=some o)(D:o.IsDictOf knd kvs):h.DictOf knd d kvs:=
 vu.mpr ⟨o,ab,D⟩
theorem UK{value Dm:Υ}{Qv:O->Prop}(σ:rY Dm=true)(S:a0 p.prog p.w p.B F c s.heap)(P:bI p.prog p.w p.B Γ l F c ρ s.heap)(f:cu p s)(am:au p.prog p.w F a va)(br:au p.prog p.w F b c0)(h:oT c a b Qv){E:Λ->ah->Prop}:
 aB p.M A (subscriptTail value Dm va c0) (dm p Γ l F c s (aZ p λx aM c'=>aM=ρ/\c'=c/\Qv x)) E s:=by
 have cq:∀{x v tk},au p.prog p.w F x v->Qv x->dm p Γ l F c s (aZ p λx aM c'=>aM=ρ/\c'=c/\Qv x) v {s with toks:=tk}:=λr q=>.tok S P f ⟨_,r,rfl,rfl,q⟩;revert am br;refine TD (P:=λa b=>au p.prog p.w F a va->au p.prog p.w F b c0->aB p.M A (subscriptTail value Dm va c0) (dm p Γ l F c s (aZ p λx aM c'=>aM=ρ/\c'=c/\Qv x)) E s) (λl k h am br=>?_) (λl k h am br=>?_) (λl k h am br=>?_) (λl' k h am br=>?_) (λl k h am br=>?_) (λl k h am br=>?_) h
 ·refine ψ (oY h) λx e q=>?_;refine gz am.mK λvs dU m aV γ bm=>?_;rcases aV with rfl
  refine a8 br.int_inv λt aW=>?_;rcases aW with rfl
  refine fb (Dl bm e) λi v hi Φ c6=>?_;have δ:GQ s.heap dU vs.toArray:=⟨_,S.frozen _ _ γ,rfl,m,rfl⟩;exact x8 δ.typeIs slot_tuple_getitem.lookup (UJ δ hi Φ (cq c6 q)) (tV σ _ _)
 ·refine ψ (oY h) λx e q=>?_;refine gz am.lst_inv λvs dU m bM γ bm=>?_;rcases bM with rfl
  refine a8 br.int_inv λt cN=>?_;rcases cN with rfl
  refine fb (Dl bm e) λi v hi Φ c6=>?_;have Τ:=lP S γ;exact x8 Τ.typeIs ahj.lookup (J4 Τ hi Φ (cq c6 q)) (tV σ _ _)
 ·refine aa h λdk q=>?_;try clear h;refine e7 dk λh0 Α Δ=>?_;try clear dk
  refine a8 am.yW λt dg=>?_;rcases dg with rfl
  refine a8 br.int_inv λu eV=>?_;rcases eV with rfl
  exact x8 (rt s _ t) alc.lookup (getItem_bytes (aR Δ rfl) h0 Α (cq (.int _ _) q)) (tV σ _ _)
 ·refine ψ (oY h) λx e q=>?_;refine lI am.tS λdU o kvs fh γ hd cX H=>?_;rcases fh with rfl
  refine aa br.lO λΗ f0=>?_;refine a8 f0 λt kf=>?_;try clear f0;rcases kf with rfl
  refine ψ ((tW cX Η).1 x e) λv Φ c6=>?_;have hm:=(k0 (S.frozen _ _ γ) hd).mapOf;exact x8 hm.typeIs ahk.lookup (ahl (GS _ _ _ t) hm Φ (cq c6 q)) (tV σ _ _)
 ·refine ψ h λl' fx h=>?_;refine ψ (oY h) λx e q=>?_;obtain rfl:=am.tR;refine a8 br.int_inv λt nD=>?_;rcases nD with rfl
  refine aa (S.cells _ _ fx) λH lQ=>?_;refine ψ lQ λo ab eb=>?_;try clear lQ
  cases eb with
  |@lst _ vs m bm=>
   refine fb (Dl bm e) λi v hi Φ c6=>?_;have Τ:s.heap.IsList _ vs.toArray:=⟨_,ab,rfl,m,rfl⟩;exact x8 Τ.typeIs ahj.lookup (J4 Τ hi Φ (cq c6 q)) (tV σ _ _)
 ·refine ψ h λl' fx h=>?_;refine ψ (oY h) λx e q=>?_;obtain rfl:=am.tR;refine aa br.lO λΗ jG=>?_;refine a8 jG λt lR=>?_;try clear jG;rcases lR with rfl
  refine aa (S.cells _ _ fx) λH wo=>?_;refine ψ wo λo ab eb=>?_;try clear wo
  cases eb with
  |Ω hd cX=>
   refine ψ ((tW cX Η).1 x e) λv Φ c6=>?_;have hm:=(k0 ab hd).mapOf;exact x8 hm.typeIs ahk.lookup (ahl (GS _ _ _ t) hm Φ (cq c6 q)) (tV σ _ _)
structure Dn(K:vq)(C:ε):Prop where
 ga:h7 K (.ref C) "__getattribute__"=some (some (.builtin "object.__getattribute__"))
 J5:h7 K (.ref C) "__getattr__"=some none
 gp:h7 K (.ref C) "__setattr__"=some (some (.builtin "object.__setattr__"))
 over:plainOver K C=true
 dict:GU K C=true
structure iH(p:bP)(υ:et):Prop where
 fns:∀a,qg a υ.fns=true->pW p.K (.ref a)=true
 attr:∀C k,oU υ.attr C k=true->Dn p.K C/\k<dB.length/\h7 p.K (.ref C) (b6 k)=some none
 hG:∀C k f,lM υ.hG C k=some f->Dn p.K C/\k<dB.length/\h7 p.K (.ref C) (b6 k)=some (some (.ref f))/\GV p.K (.ref f)=some (.type "function")/\pW p.K (.ref f)=true
 init:∀C f,mG υ.init C=some f->makesIn p.K C=true/\h7 p.K (.ref C) "__init__"=some (some (.ref f))/\GV p.K (.ref f)=some (.type "function")/\pW p.K (.ref C)=true
theorem J6{o:cU}{kvs:I (φ×Λ)}(h:mB o kvs)(name:φ):lookIn name o=some (eS kvs name):=by
 refine oJ h λes dR hd Η H hf=>?_;try clear h
 unfold lookIn;rw[hd];dsimp only;have:=hf name;unfold BD GW at this;rw[<-QC] at this;cases q:es.toList.find? (λe=>e.key.isStr name) with
 |some e=>rw[q] at this;simp only[BJ] at this;rw[<-this]
 |none=>
  rw[q] at this;simp only[Option.map_none] at this;rw[<-this];have y0:es.toList.any (·.refKey)=false:=by
   rw[List.any_eq_false];intro e aH;refine ys (Η e (Array.mem_toList_iff.mp aH)) λn t UL=>?_;simp[DictEntry.refKey,UL]
  rw[bL (by rw[y0];decide)]
theorem y1{h:bK}{a C d:ε}{o:cU}(γ:h.get? a=some (lB C d))(hd:h.get? d=some o):InstAt h a (lB C d) C (some o):=⟨γ,rfl,rfl,hd⟩
theorem J7{υ:et}{C k:ε}{a d:ε}{o:cU}{kvs:I (φ×Λ)}{v:Λ}{P:Λ->ah->Prop}{E:Λ->ah->Prop}(ζ:p.Ok)(T:iH p υ)(S:a0 p.prog p.w p.B F c s.heap)(δ:oU υ.attr C k=true)(γ:s.heap.get? a=some (lB C d))(hd:s.heap.get? d=some o)(ab:mB o kvs)(Φ:eS kvs (b6 k)=some v)(bJ:GK v=true)(h:P v {s with toks:=s.toks+1}):
 aB p.M A (QD (.ref a) (b6 k) true) P E s:=by
 refine e7 (T.attr C k δ) λlS Η hf=>?_;exact get_value (λb aU e=>nL S b aU (ζ.X b aU e)) (y1 γ hd) lS.ga (findObj_own lS.dict hf rfl ((J6 ab _).trans (by rw[Φ]))) bJ h
theorem UM{υ:et}{k:Y}{Qv:O->Prop}(ζ:p.Ok)(T:iH p υ)(S:a0 p.prog p.w p.B F c s.heap)(P:bI p.prog p.w p.B Γ l F c ρ s.heap)(f:cu p s)(am:au p.prog p.w F a va)(h:tO υ c k a Qv){E:Λ->ah->Prop}:
 aB p.M A (QD va (b6 k) true) (dm p Γ l F c s (aZ p λx aM c'=>aM=ρ/\c'=c/\Qv x)) E s:=by
 revert am;refine TK (P:=λa=>au p.prog p.w F a va->aB p.M A (QD va (b6 k) true) (dm p Γ l F c s (aZ p λx aM c'=>aM=ρ/\c'=c/\Qv x)) E s) (λC bW h am=>?_) (λC d h am=>?_) h
 ·refine aa (kW h) λδ h=>?_;refine ψ (oY h) λx e q=>?_;refine rG am.Di λdU d o kvs rZ γ hd ab cX=>?_;rcases rZ with rfl
  refine ψ ((tW cX (T.attr _ _ δ).2.1).1 x e) λv Φ c6=>?_;exact J7 ζ T S δ (S.frozen _ _ γ) (S.frozen _ _ hd) ab Φ c6.handed (.tok S P f ⟨_,c6,rfl,rfl,q⟩)
 ·refine aa (kW h) λδ oV=>?_;refine ψ oV λbW Θ h=>?_;try clear oV
  refine ψ (oY h) λx e q=>?_;refine ψ am.yX λdU tT γ=>?_;rcases tT with rfl
  refine aa (S.cells _ _ Θ) λH oW=>?_;refine ψ oW λo hd eb=>?_;try clear oW
  cases eb with
  |cV ab cX=>
   refine ψ ((tW cX (T.attr _ _ δ).2.1).1 x e) λv Φ c6=>?_;exact J7 ζ T S δ (S.frozen _ _ γ) hd ab Φ c6.handed (.tok S P f ⟨_,c6,rfl,rfl,q⟩)
noncomputable def jI{K:Type}[oA K]:I (K×Λ)->K->Λ->I (K×Λ)
 |[],n,v=>[(n,v)]
 |(k,x)::l,n,v=>if k=n then (k,v)::l else (k,x)::jI l n v
theorem wq{K:Type}[oA K](n:K)(v:Λ):jI [] n v=[(n,v)]:=rfl
theorem r0{K:Type}[oA K](k:K)(x:Λ)(l:I (K×Λ))(n:K)(v:Λ):jI ((k,x)::l) n v=if k=n then (k,v)::l else (k,x)::jI l n v:=rfl
theorem UN{K:Type}[oA K](kvs:I (K×Λ))(n:K)(v:Λ)(x:K):eS (jI kvs n v) x=if x=n then some v else eS kvs x:=by
 induction kvs with
 |nil=>
  by_cases h:x=n
  ·subst h;simp[wq,eS]
  ·have:¬n=x:=λe=>h e.symm;simp[wq,eS,h,this]
 |cons y l Ξ=>
  obtain⟨k,z⟩:=y;rw[r0];by_cases h:k=n
  ·subst h;rw[cz rfl];by_cases Δ:x=k
   ·subst Δ;simp[eS]
   ·have:¬k=x:=λe=>Δ e.symm;simp[eS,Δ,this]
  ·rw[bL h];by_cases Δ:k=x
   ·subst Δ;simp[eS,h]
   ·rw[(by simp[eS,Δ]:eS ((k,z)::jI l n v) x=eS (jI l n v) x),(by simp[eS,Δ]:eS ((k,z)::l) x=eS l x),Ξ]
theorem ajZ{K:Type}[oA K](kvs:I (K×Λ))(n:K)(v:Λ):(jI kvs n v).length<=kvs.length+1:=by
 induction kvs with
 |nil=>simp[wq]
 |cons y l Ξ=>obtain⟨k,z⟩:=y;rw[r0];split<;>simp<;>exact θ [_,_] [] (.le (.v 0) (.a (.v 1) (.c 1))) [(.le (.v 0) (.a (.v 1) (.c 1)))] [[1,1]] rfl Ξ
theorem y2{K:Type}[oA K]{kvs:I (K×Λ)}:(kvs.map (·.1)).Nodup->∀(n:K) (v:Λ),BK kvs n v=jI kvs n v:=by
 induction kvs with
 |nil=>
  exact λH n v=>rfl
 |cons hd l Ξ=>
  obtain⟨k,z⟩:=hd;exact λΖ n v=>by
   rw[i4,tb] at Ζ;rw[r0];by_cases h:k=n
   ·subst h;rw[cz rfl];unfold BK;rw[cz (by simp),i4,cz rfl,map_store_of_not_mem l _ v Ζ.1]
   ·rw[bL h,<-Ξ Ζ.2];unfold BK;rw[(by simp[h]:((k,z)::l).any (λtX=>decide (tX.1=n))=l.any (λtX=>decide (tX.1=n)))];split
    ·rw[i4,bL h]
    ·rfl
theorem RelK.put{l:I (Y×O)}:∀{kvs:I (φ×Λ)} {k:Y} {x:O} {v:Λ},RelK p.prog p.w F l kvs->k<dB.length->au p.prog p.w F x v->RelK p.prog p.w F (putN l k x) (jI kvs (b6 k) v):=by
 induction l with
 |nil=>intro kvs k x v h Η r;rcases h with ⟨⟩;exact .cons Η r .nil
 |cons y l Ξ=>
  intro kvs k x v h Η r;cases h with
  |@cons j z u l kvs cQ ak rs=>
   rw[TB,r0,yZ];by_cases e:j=k
   ·subst e;simp only[decide_true,rr];exact .cons cQ r rs
   ·simp only[ro e,bL (λq=>e (vY cQ Η q))];exact .cons cQ ak (Ξ rs Η r)
theorem jz.put{l:I (J×O)}:∀{kvs:I (J×Λ)} {k:J} {x:O} {v:Λ},jz p.prog p.w F l kvs->au p.prog p.w F x v->jz p.prog p.w F (f3 l k x) (jI kvs k v):=by
 induction l with
 |nil=>intro kvs k x v h r;rcases h with ⟨⟩;exact .cons r .nil
 |cons y l Ξ=>
  intro kvs k x v h r;cases h with
  |@cons j z u l kvs ak rs=>
   change jz p.prog p.w F (if j=k then (j,x)::l else (j,z)::f3 l k x) _;rw[r0];by_cases e:j=k
   ·subst e;simp only[rr];exact .cons r rs
   ·simp only[bL e];exact .cons ak (Ξ rs r)
theorem RelK.length{l:I (Y×O)}:∀{kvs:I (φ×Λ)},RelK p.prog p.w F l kvs->kvs.length=l.length:=by
 induction l with
 |nil=>intro kvs h;rcases h with ⟨⟩;rfl
 |cons y l Ξ=>intro kvs h;cases h with|cons _ _ rs=>simp[Ξ rs]
theorem jz.length{l:I (J×O)}:∀{kvs:I (J×Λ)},jz p.prog p.w F l kvs->kvs.length=l.length:=by
 induction l with
 |nil=>intro kvs h;rcases h with ⟨⟩;rfl
 |cons y l Ξ=>intro kvs h;cases h with|cons _ rs=>simp[Ξ rs]
theorem UO{h:bK}{d:ε}{o:cU}{kvs:I (φ×Λ)}(hd:h.get? d=some o)(ab:mB o kvs):h.Ns1 d (eS kvs):=
 let ⟨es,dR,a,b,u,f⟩:=ab;⟨o,es,dR,hd,a,b,u,f⟩
theorem UP{h:bK}{d:ε}{kvs:I (φ×Λ)}{m:φ->ξ Λ}(Ε:h.Ns1 d m)(e:∀x,m x=eS kvs x):∃o,h.get? d=some o/\mB o kvs:=
 lI Ε λo es dR a b k u f=>⟨o,a,es,dR,b,k,u,λn=>(f n).trans (e n)⟩
theorem UQ(kvs:I (φ×Λ)):Within (eS kvs) (kvs.map (·.1)):=λy h=>by
 unfold eS at h;rcases q:kvs.find? (λtX=>decide (tX.1=y)) with _|tX
 ·rw[q] at h;exact absurd rfl h
 ·have:=List.find?_some q;simp only[vv] at this;exact this▸vw (List.mem_of_find?_eq_some q)
theorem UR{υ:et}{C k:ε}{a d:ε}{o:cU}{kvs:I (φ×Λ)}{v:Λ}{P:gx->ah->Prop}{E:Λ->ah->Prop}(ζ:p.Ok)(T:iH p υ)(S:a0 p.prog p.w p.B F c s.heap)(δ:oU υ.attr C k=true)(γ:s.heap.get? a=some (lB C d))(hd:s.heap.get? d=some o)(ab:mB o kvs)(Τ:kvs.length<=1000)(h:∀h' aU tk,h'.get? d=some aU->mB aU (jI kvs (b6 k) v)->vp d s.heap h'->P () {s with heap:=h',toks:=tk}):
 aB p.M A (setAttr (.ref a) (b6 k) v) P E s:=by
 refine e7 (T.attr C k δ) λlS Η hf=>?_;have X:p.K.In s.heap:=λb aU e=>nL S b aU (ζ.X b aU e);have aG:=y1 γ hd;refine set_plain X aG lS.gp (osa_open (s:={s with toks:=s.toks+1}) X aG lS.over (by unfold takerIn;rw[hf];rfl) λb=>?_);refine ψ (GX lS.dict) λcd Θ fu=>?_;refine aI (cy (aI (aI (QE γ (aI ((GY X Θ).here (s:={s with toks:=s.toks+1}) ?_))))));rw[fu];refine cy (a:=some d) (aI (cy (aI (QF (UO hd ab) λh' d2 σ=>?_))));refine gz (d2.count (ahm (b6 k) v (UQ kvs))) λJ8 J9 J' wr ws r1=>?_;refine aI (QG wr (by rw[ws];exact QH (aP r1 (by rw[kP,bV,hC];exact Ix Τ))) (cy ?_));refine ψ (UP (kvs:=jI kvs (b6 k) v) d2 λx=>by rw[UN]) λaU bd bk=>?_;exact h h' aU _ bd bk σ
theorem US{υ:et}{k:Y}{x:O}{iI:Λ}{K:Ι->Prop}(ζ:p.Ok)(T:iH p υ)(S:a0 p.prog p.w p.B F c s.heap)(P:bI p.prog p.w p.B Γ l F c ρ s.heap)(f:cu p s)(ba:au p.prog p.w F x iI)(am:au p.prog p.w F a va)(h:yV υ c k x a K){E:Λ->ah->Prop}:
 aB p.M A (setAttr va (b6 k) iI) (dm p Γ l F c s λ_ c' aM (_:gx)=>aM=ρ/\K c') E s:=by
 unfold yV at h;split at h
 ·refine aa (kW h) λδ tU=>?_;refine ix tU λbW Θ a' h=>?_;try clear tU
  refine ψ am.yX λdU oX γ=>?_;rcases oX with rfl
  refine aa (S.cells _ _ Θ) λH rX=>?_;refine ψ rX λo hd eb=>?_;try clear rX
  cases eb with
  |@cV _ kvs _ ab cX=>
   refine UR ζ T S δ (S.frozen _ _ γ) hd ab (cJ cX.length a' rfl) λh' aU tk bd bk σ=>?_;obtain⟨cn,X⟩:=S.setC (x:=.cV (putN bW k x)) Θ (λb Κ o e=>(σ.2 b Κ).trans e) bd (.cV bk (cX.put (T.attr _ _ δ).2.1 ba));exact⟨F,_,ρ,X.weaken λ_ (z:aK)=>z.elim,cn,P.ext X,f,rfl,h⟩
 ·exact h.elim
end
end
section
open PySem.Builtin
section
variable{α β:Type}{R:a2->Ι->Ο->α->Prop}{a b:O}{va c0:Λ}{t:dP α}
theorem π.holding{vs:I Λ}(h:π p A Γ l F c ρ t R Er):π p A Γ l F c ρ (holding vs t) R Er:=λs S P f=>oB (h s S P f)
theorem π.standAt(h:π p A Γ l F c ρ t R Er):π p A Γ l F c ρ (standAt pos>>= λH=>t) R Er:=λs S P f=>aI (mr (h s S P f))
theorem π.operate{t:dP Λ}{vs:I Λ}{R:a2->Ι->Ο->Λ->Prop}(h:π p A Γ l F c ρ t R Er):π p A Γ l F c ρ (operate vs t) R Er:=λs S P f=>wpAny_operating (h s S P f)
theorem π.point(h:π p A Γ l F c ρ t R Er):π p A Γ l F c ρ (point>>= λH=>t) R Er:=λs S P f=>aI (wpAny_point (h s S P f))
theorem π.release{vs keep:I Λ}(h:π p A Γ l F c ρ t R Er):π p A Γ l F c ρ (release vs keep>>= λH=>t) R Er:=λs S P f=>aI (GZ (h s S P f))
theorem π.ite{b:aQ}{t χ:dP α}(h:b=true->π p A Γ l F c ρ t R Er)(h':b=false->π p A Γ l F c ρ χ R Er):π p A Γ l F c ρ (if b then t else χ) R Er:=by
 cases b with
 |true=>exact h rfl
 |false=>exact h' rfl
theorem π.look{f:α->dP β}{R:a2->Ι->Ο->β->Prop}{x:α}(Τ:∀s E (Q:α->ah->Prop),a0 p.prog p.w p.B F c s.heap->bI p.prog p.w p.B Γ l F c ρ s.heap->cu p s->Q x s->aB p.M A t Q E s)(h:π p A Γ l F c ρ (f x) R Er):π p A Γ l F c ρ (t>>= f) R Er:=λs S P Ψ=>aI (Τ s _ _ S P Ψ (h s S P Ψ))
theorem UT:∀(l:I O) (i:Y) (v:O),wi l i v=l.set i v
 |[],_,_=>rfl
 |_::_,0,_=>rfl
 |x::l,i+1,v=>cE (x::·) (UT l i v)
theorem bA.set{l:I O}:∀{vs:I Λ} {i:Y} {x:O} {v:Λ},bA p.prog p.w F l vs->au p.prog p.w F x v->bA p.prog p.w F (wi l i x) (vs.set i v):=by
 induction l with
 |nil=>intro vs i x v h r;rcases h with ⟨⟩;exact .nil
 |cons y l Ξ=>
  intro vs i x v h r;cases h with
  |cons ak rs=>
   rcases i with _|i
   ·exact .cons r rs
   ·exact .cons ak (Ξ rs r)
theorem y3(vs:h6 Λ)(n:Y)(f:h6 Λ->h6 Λ):∃dy,pX f (listOf vs n)=listOf (f vs) dy:=⟨_,rfl⟩
theorem UU{bm:ε}{vs:I Λ}{m j:Y}{t:nt}{v:Λ}{P:gx->ah->Prop}{E:Λ->ah->Prop}(ab:s.heap.get? bm=some (listOf vs.toArray m))(cQ:j<vs.length)(UV:j<2^60)(h:∀dy h',h'.get? bm=some (listOf (vs.set j v).toArray dy)->vp bm s.heap h'->P () {s with heap:=h'}):aB p.M A (setItem (.ref bm) (.int j t) v) P E s:=by
 obtain⟨k,Η⟩:∃k:J,k=j:=⟨_,rfl⟩;rw[<-Η];have Τ:s.heap.IsList bm vs.toArray:=⟨_,ab,rfl,m,rfl⟩;unfold setItem;refine oB ?_;refine aI (wpAny_sequenceKey Τ.typeIs (by decide) ?_);refine aI (wpAny_callSpecial?_slot (name:=G0 "__setitem__") Τ.typeIs ahn
  (aho ahn Τ.typeIs entry_list_setitem ?_ (args_list_setitem _ _ _)))
 show aB _ _ (ald (.int k t)>>= _) _ _ s;refine aI (wpAny_listSubscript_int (fitsIndex_of (θ [_] [_] (.ι (.c 0) (.v 0)) [(.ff (.v 0) (.n (.v 0)))] [[1,0,1]] rfl Η) ((by subst Η;exact Int.lt_trans (nr.mpr UV) (by decide)))) ?_);subst Η;show aB _ _ ((seqItemAt bm j>>= λr=>pure (r.map (j,·)))>>= _) _ _ s;refine aI (aI (wpAny_seqItemAt ab rfl (cy ?_)));rw[(by simp[cQ]:vs.toArray[j]?=some vs[j])];show aB _ _ (setSeqItemAt bm j v>>= _) _ _ s;refine aI (wpAny_setSeqItemAt ab rfl ?_);have Ka:=(λf=>tc _ ab rfl:∀f,Heap.get? (s.heap.update bm (pX f)) bm=some (pX f (listOf vs.toArray m))) (·.setIfInBounds j v);refine a8 (y3 vs.toArray m (·.setIfInBounds j v)) λdy d2=>?_;rw[d2,(by simp:(vs.toArray).setIfInBounds j v=(vs.set j v).toArray)] at Ka;exact cy ⟨.none,rfl,cy (h dy _ Ka (ahp ..))⟩
theorem UW{x i:O}{iI y4:Λ}{K:Ι->Prop}(S:a0 p.prog p.w p.B F c s.heap)(P:bI p.prog p.w p.B Γ l F c ρ s.heap)(f:cu p s)(ba:au p.prog p.w F x iI)(am:au p.prog p.w F a va)(r2:au p.prog p.w F i y4)(h:tQ c x a i K){E:Λ->ah->Prop}:
 aB p.M A (setItem va y4 iI) (dm p Γ l F c s λ_ c' aM (_:gx)=>aM=ρ/\K c') E s:=by
 revert am r2;refine TR (P:=λa i=>au p.prog p.w F a va->au p.prog p.w F i y4->aB p.M A (setItem va y4 iI) (dm p Γ l F c s λ_ c' aM (_:gx)=>aM=ρ/\K c') E s) (λdU k h am r2=>?_) (λdU k h am r2=>?_) h
 ·skip
  obtain rfl:=am.tR;apply dG r2.int_inv;intro t;rcases h with ⟨l',i,Θ,hi,h0,Η,h⟩|⟨l',Θ,Τ,h⟩
  ·refine aa (S.cells _ _ Θ) λH aW=>?_;refine ψ aW λo ab eb=>?_;try clear aW
   cases eb with
   |@lst _ vs m de=>
    rcases JO hi with ⟨rfl,Α,Δ⟩|⟨Α,_⟩
    ·refine UU ab (tG de.length Α) (nr.1 Η) λdy h' e σ=>?_;obtain⟨cn,X⟩:=S.setC (x:=.lst (wi l' i x)) Θ (λb Κ o e=>(σ.2 b Κ).trans e) e (.lst (de.set ba));exact⟨F,_,ρ,X.weaken λ_ (z:aK)=>z.elim,cn,P.ext X,f,rfl,h⟩
    ·omega
  ·refine aa (S.cells _ _ Θ) λH bM=>?_;refine ψ bM λo ab eb=>?_;try clear bM
   cases eb with
   |@tab _ kvs _ hd cX=>
    refine ahq (intKind_is _ _ _ t) (k0 ab hd) (λh' fu σ=>?_) (by rw[hC];exact cJ cX.length Τ rfl);refine ψ (vu.mp fu) λaU fZ fu=>?_;refine oK hd λH H H H H H nd=>?_;try clear hd
    rw[y2 nd] at fu;obtain⟨cn,X⟩:=S.setC (x:=.tab (f3 l' k x)) Θ (λb Κ o e=>(σ.2 b Κ).trans e) fZ (.tab fu (cX.put ba));exact⟨F,_,ρ,X.weaken λ_ (z:aK)=>z.elim,cn,P.ext X,f,rfl,h⟩
 ·skip
  obtain rfl:=am.tR;refine aa r2.lO λΗ cN=>?_;apply dG cN;intro t;refine ix h λl' Θ Τ h=>?_;refine aa (S.cells _ _ Θ) λH dg=>?_;refine ψ dg λo ab eb=>?_;try clear dg
  cases eb with
  |@Ω _ kvs _ hd cX=>
   refine ahq (GS _ _ _ t) (k0 ab hd) (λh' fu σ=>?_) (by rw[hC];exact cJ cX.length Τ rfl);refine ψ (vu.mp fu) λaU fZ fu=>?_;refine oK hd λH H H H H H nd=>?_;try clear hd
   rw[y2 nd] at fu;obtain⟨cn,X⟩:=S.setC (x:=.Ω (putN l' k x)) Θ (λb Κ o e=>(σ.2 b Κ).trans e) fZ (.Ω fu (cX.put Η ba));exact⟨F,_,ρ,X.weaken λ_ (z:aK)=>z.elim,cn,P.ext X,f,rfl,h⟩
end
noncomputable def el:I Υ->aQ
 |[]=>true
 |e::r=>(bE e.ctorIdx 22).not&&el r
noncomputable def gF(es:I Υ)(env:bx):I (aQ×dP Λ):=es.map λe=>(false,eval e env)
theorem UX{e:Υ}{r:I Υ}{env:bx}(h:el (e::r)=true):oC (e::r) env=(false,eval e env)::oC r env/\el r=true:=by
 rcases e with ⟨⟩<;>first|exact⟨rfl,h⟩|contradiction
theorem mM{env:bx}{pos:bo}{es:I Υ}:el es=true->ru pos (oC es env)=gF es env:=by
 induction es with
 |nil=>
  exact λH=>rfl
 |cons e r Ξ=>
  exact λh=>by
   obtain⟨a,b⟩:=UX (env:=env) h;rw[a];show(false,eval e env)::ru pos (oC r env)=_;rw[Ξ b];rfl
theorem r3{env:bx}(es:I Υ):(gF es env).any (·.1)=false:=by
 induction es with
 |nil=>
  exact rfl
 |cons hd r Ξ=>
  exact Ξ
theorem UY{env:bx}(es:I Υ):(gF es env).all (!·.1)=true:=by
 induction es with
 |nil=>
  exact rfl
 |cons hd r Ξ=>
  exact Ξ
section
variable{α β:Type}{a b:O}{va c0:Λ}{ea:Λ}{first:I Λ}
theorem π.spliced_nil{R:a2->Ι->Ο->I Λ->Prop}(h:R F c ρ []):π p A Γ l F c ρ (spliced (gF [] env)) R Er:=λs S P f=>G1 (.now S P f h)
theorem π.spliced_cons{e:Υ}{R:a2->Ι->Ο->I Λ->Prop}(h:π p A Γ l F c ρ (eval e env) (λF₁ Μ ν v=>cr F F₁->π p A Γ l F₁ Μ ν (spliced (gF es env)) (λaY az bg vs=>cr F₁ aY->R aY az bg (v::vs)) Er) Er):
 π p A Γ l F c ρ (spliced (gF (e::es) env)) R Er:=λs S P f=>
 BL (bR (h s S P f) (λv s₁ bG=>by
  obtain⟨F₁,Μ,ν,X,dS,er,g2,bG⟩:=bG;refine bR (bG X.le s₁ dS er g2) (λvs a5 c9=>?_) λH H e=>e.after X;obtain⟨aY,az,bg,eW,d7,ef,v5,c9⟩:=c9;exact⟨aY,az,bg,X.trans eW,d7,ef,v5,c9 eW.le⟩) λH H e=>e)
theorem r4{f:Λ}{M:rj}{E:Λ->ah->Prop}{y5:Args->ah->Prop}(h:aB M A (spliced (gF es env)) (λvs μ=>y5 ⟨vs,[]⟩ μ) E s):aB M A (evalArgs f true (gF es env) []) y5 E s:=by
 rcases es with _|⟨e,r⟩
 ·have:aB M A (spliced []) (λvs μ=>y5 ⟨vs,[]⟩ μ) E s:=h;unfold evalArgs;show aB M A (spliced []>>= _) y5 E s;refine aI (bR this (λvs μ h'=>?_) λH H x=>x);refine aI (cy ?_);refine oB ?_;exact aI (cy (aI (cy (cy h'))))
 ·exact Calls.evalArgs_plain h
noncomputable def tY(p:bP)(ea:Λ):Prop:=∀h,p.K.In h->∃k,(k=Keeper.frame∨k=Keeper.machine∨k=Keeper.boundFrame)/\Looks p.M h (keeperOf ea) k
theorem tZ{f:ε}(h:pW p.K (.ref f)=true):tY p (.ref f):=λH X=>keeps_K h _ X
theorem y6(id:hh):tY p (.builtin id):=λH H=>⟨.machine,.inr (.inl rfl),.of_pure rfl⟩
theorem UZ(T:hh):tY p (.type T):=λH H=>⟨.machine,.inr (.inl rfl),.of_pure rfl⟩
theorem oZ(ζ:p.Ok)(S:a0 p.prog p.w p.B F c s.heap):p.K.In s.heap:=λb o e=>nL S b o (ζ.X b o e)
theorem π.callWith{R:a2->Ι->Ο->Λ->Prop}(ζ:p.Ok)(Η:tY p ea)(h:π p A Γ l F c ρ (spliced (gF es env)) (λF₁ Μ ν vs=>cr F F₁->π p A Γ l F₁ Μ ν (call ea (first++vs)) R Er) Er):
 π p A Γ l F c ρ (callWith pos ea first (gF es env) []) R Er:=λs S P f=>by
 refine G2 (P:=p.K.In) (by rw[r3];rfl) (λh' X=>Η h' X) (r4 (bR (h s S P f) (λvs s₁ bG=>?_) λH H e=>e));obtain⟨F₁,Μ,ν,X,dS,er,g2,bG⟩:=bG;exact⟨oZ ζ dS,bR (bG X.le s₁ dS er g2) (λv a5 c9=>c9.after X) λH H e=>e.after X⟩
theorem fw.Dp(r:fw A l n):lK A l n:=⟨r.handled,r.frames,by have:=r.depth;exact θ [_,_,j6] [] (.le (.a (.a (.a (.v 0) (.m 4 (.v 1))) (.c 4)) (.c 1)) (.v 2)) [(.le (.a (.a (.a (.v 0) (.m 4 (.v 1))) (.c 6)) (.c 1)) (.v 2))] [[1,1]] rfl this,by have:=r.units;exact θ [_,_,i1] [] (.le (.a (.a (.a (.v 0) (.m 20 (.v 1))) (.c 90)) (.c 1)) (.v 2)) [(.le (.a (.a (.a (.v 0) (.m 20 (.v 1))) (.c 100)) (.c 1)) (.v 2))] [[1,1]] rfl this⟩
theorem lK.Kb(r:lK A l (n+1))(C:ε)(em:I Λ)(r5:I (φ×Λ)):lK (A.under (.builtin "type.__call__" ⟨.ref C::em,r5⟩)) l n:=by
 refine⟨r.handled,rfl.trans r.frames,?_,?_⟩
 ·have:=r.depth;rw[(rfl:(A.under (.builtin "type.__call__" ⟨.ref C::em,r5⟩)).depth=A.depth+1)];exact θ [_,_,j6] [] (.le (.a (.a (.a (.a (.v 0) (.c 1)) (.m 4 (.v 1))) (.c 4)) (.c 1)) (.v 2)) [(.le (.a (.a (.a (.v 0) (.m 4 (.a (.v 1) (.c 1)))) (.c 4)) (.c 1)) (.v 2))] [[1,1]] rfl this
 ·have:=r.units;rw[(rfl:(A.under (.builtin "type.__call__" ⟨.ref C::em,r5⟩)).units=A.units+1)];exact θ [_,_,i1] [] (.le (.a (.a (.a (.a (.v 0) (.c 1)) (.m 20 (.v 1))) (.c 90)) (.c 1)) (.v 2)) [(.le (.a (.a (.a (.v 0) (.m 20 (.a (.v 1) (.c 1)))) (.c 90)) (.c 1)) (.v 2))] [[1,1]] rfl this
theorem U0{υ:et}{f:O}(ζ:p.Ok)(T:iH p υ)(h:yT υ f=true)(r:au p.prog p.w F f ea):tY p ea:=by
 revert r;exact TJ (P:=λf=>au p.prog p.w F f ea->tY p ea) (λa h r=>r.val_inv▸tZ (T.fns _ h)) (λx r=>r.val_inv▸y6 _) (λx r=>r.val_inv▸UZ _) h
theorem jD.of{Q:I O->Ο->Ι->Prop}{xs:I O}{vs:I Λ}(r:bA p.prog p.w F xs vs)(q:Q xs ρ c):jD p Q F c ρ vs:=⟨xs,r,q⟩
theorem U1{υ:et}{func:Υ}(ζ:p.Ok)(T:iH p υ)(Χ:fw A l n)(b0:el es=true)(aH:eval (.Call func es [] pos) env=(eval func env>>= λf=>td pos f [] (ru pos (oC es env)) (te pos (tf [] env))))(h:π p A Γ l F c ρ (eval func env) (aZ p λΨ ν Μ=>yT υ Ψ=true/\∀F₁,cr F F₁->π p A Γ l F₁ Μ ν (spliced (gF es env)) (jD p λxs bg az=>aF p n Ψ xs az (λv c'=>Q v bg c') Er) Er) Er):
 π p A Γ l F c ρ (eval (.Call func es [] pos) env) (aZ p Q) Er:=by
 rw[aH];refine .bind (h.mono (λF₁ Μ ν ea le hf Kc=>?_) id);obtain⟨Ψ,kh,ok,hf⟩:=hf;rw[mM b0];refine .callWith ζ (U0 ζ T ok kh) ((hf F₁ le).mono (λaY az bg vs d3 Φ H=>?_) id);obtain⟨xs,ba,Θ⟩:=Φ;exact(Θ.run Χ.Dp (kh.mono d3) ba).mono (λH H H v H Φ=>by obtain⟨x,ba,rfl,q⟩:=Φ;exact⟨x,ba,q⟩) id
end
section
variable{α β:Type}{a b:O}{va c0:Λ}{ea:Λ}{first:I Λ}
theorem fw.Kb(r:fw A l n)(C:ε)(em:I Λ)(r5:I (φ×Λ)):lK (A.under (.builtin "type.__call__" ⟨.ref C::em,r5⟩)) l n:=by
 refine⟨r.handled,rfl.trans r.frames,?_,?_⟩
 ·have:=r.depth;rw[(rfl:(A.under (.builtin "type.__call__" ⟨.ref C::em,r5⟩)).depth=A.depth+1)];exact θ [_,_,j6] [] (.le (.a (.a (.a (.a (.v 0) (.c 1)) (.m 4 (.v 1))) (.c 4)) (.c 1)) (.v 2)) [(.le (.a (.a (.a (.v 0) (.m 4 (.v 1))) (.c 6)) (.c 1)) (.v 2))] [[1,1]] rfl this
 ·have:=r.units;rw[(rfl:(A.under (.builtin "type.__call__" ⟨.ref C::em,r5⟩)).units=A.units+1)];exact θ [_,_,i1] [] (.le (.a (.a (.a (.a (.v 0) (.c 1)) (.m 20 (.v 1))) (.c 90)) (.c 1)) (.v 2)) [(.le (.a (.a (.a (.v 0) (.m 20 (.v 1))) (.c 100)) (.c 1)) (.v 2))] [[1,1]] rfl this
theorem U2:mB lD []:=⟨#[],0,rfl,by intro e h;simp at h,by unfold Ql;simp,λname=>rfl⟩
theorem U3{C f:ε}{m:aQ}{xs:I O}{vs:I Λ}{υ:et}(ζ:p.Ok)(T:iH p υ)(Χ:fw A l n)(hi:mG υ.init C=some f)(ba:bA p.prog p.w F xs vs)(h:∀d,c d=none->aF p n (.val (.ref f)) (.ins C d::xs) (upd c d (some (.cV []))) (λr c'=>r= .none/\wh m C d c' λv c=>Q v ρ c) Er):
 π p A Γ l F c ρ (call (.ref C) vs) (aZ p Q) Er:=by
 intro s S P Ψ;refine lH (T.init C f hi) λdA jb gO y7=>?_;have X:=oZ ζ S;obtain⟨bJ,g,d,t,os⟩:=s;refine BF (make_core (makes_of X dA) (QI X jb) (λself=>bind_fn X self gO) (.inl rfl) ?_);have n0:bJ.get? bJ.objs.size=none:=ja bJ;refine aa (S.yN (W:=λH=>aK) (x:=.cV []) (h':=bJ.push lD) (a:=bJ.objs.size) (o:=lD) (λb o e=>hg _ e) (rV ζ S) n0 (kO _ rfl) (.cV U2 .nil)) λU4 y8=>?_;have z:(bJ.push lD).objs.size=bJ.objs.size+1:=QJ ..;refine aa (U4.v2 (W:=λH=>aK) (λb o e=>hg _ e:∀b o,(bJ.push lD).get? b=some o->((bJ.push lD).push (lB C bJ.objs.size)).get? b=some o) (z▸ja _:(bJ.push lD).get? (bJ.objs.size+1)=none) (by rw[<-z];exact kO _ rfl:((bJ.push lD).push (lB C bJ.objs.size)).get? (bJ.objs.size+1)=some (lB C bJ.objs.size))) λy9 wt=>?_;have Dq:=y8.trans wt;have za:=h bJ.objs.size ((S.none_of n0).2);unfold aF at za;have za:=za (A.under (.builtin "type.__call__" ⟨.ref C::vs,[]⟩)) l (g0 F (bJ.objs.size+1) (lB C bJ.objs.size)) (.ref f) (.ref (bJ.objs.size+1)::vs) (Χ.Kb C vs []) (.val _ rfl)
  (.cons (.ins (hQ _ _ _)) (ba.mono wt.le)) ⟨(bJ.push lD).push (lB C bJ.objs.size),g,d,t,os⟩ y9 (P.ext Dq).frames Ψ
 refine GL za λr μ nM=>?_;unfold C1 at nM;unfold InitBack;rcases r with e|(_|_|_|v)
 ·exact(cZ.after (Γ:=[]) (Dq.weaken λ_ (z:aK)=>z.elim) nM).up P
 ·exact nM
 ·exact nM
 ·exact nM
 ·obtain⟨ω,c',Kd,zb,jc,x,ba,rfl,q⟩:=nM;refine⟨ba.none_inv,?_⟩;have Dr:=Dq.trans Kd;have ql:ω (bJ.objs.size+1)=some (lB C bJ.objs.size):=Kd.le _ _ (hQ _ _ _);cases m with
  |true=>exact⟨ω,c',ρ,Dr.weaken λ_ (z:aK)=>z.elim,zb,P.ext Dr,jc,.ins C bJ.objs.size,.ins ql,q⟩
  |false=>
   refine ψ q λbW eY q=>?_;refine rD (zb.freeze (W:=λH=>aK) eY) λo ab eb jJ Ds=>?_;have Ke:=Dr.trans Ds;cases eb with
   |@cV _ kvs _ jd cX=>
    exact⟨_,_,ρ,Ke.weaken λ_ (z:aK)=>z.elim,jJ,P.ext Ke,jc,.obj C bW,.obj (Ds.le _ _ ql) (hQ _ _ _) jd (cX.mono Ds.le),q⟩
theorem U5{υ:et}{func:Υ}{C f:ε}{m:aQ}(ζ:p.Ok)(T:iH p υ)(Χ:fw A l n)(hi:mG υ.init C=some f)(b0:el es=true)(aH:eval (.Call func es [] pos) env=(eval func env>>= λf=>td pos f [] (ru pos (oC es env)) (te pos (tf [] env))))(h:π p A Γ l F c ρ (eval func env) (aZ p λΨ ν Μ=>Ψ= .val (.ref C)/\∀F₁,cr F F₁->π p A Γ l F₁ Μ ν (spliced (gF es env)) (jD p λxs bg az=>
 ∀d,az d=none->aF p n (.val (.ref f)) (.ins C d::xs) (upd az d (some (.cV []))) (λr c'=>r= .none/\wh m C d c' λv c=>Q v bg c) Er) Er) Er):
 π p A Γ l F c ρ (eval (.Call func es [] pos) env) (aZ p Q) Er:=by
 rw[aH];refine .bind (h.mono (λF₁ Μ ν ea le hf Kc=>?_) id);obtain⟨Ψ,kh,rfl,hf⟩:=hf;rw[mM b0];rcases kh.val_inv with ⟨⟩
 refine .callWith ζ (tZ (T.init C f hi).2.2.2) ((hf F₁ le).mono (λaY az bg vs d3 Φ H=>?_) id);obtain⟨xs,ba,Θ⟩:=Φ;exact U3 ζ T Χ hi ba Θ
structure o0(nm:gm):Prop where
 append:nm.append<dB.length/\b6 nm.append="append"
 extend:nm.extend<dB.length/\b6 nm.extend="extend"
 get:nm.get<dB.length/\b6 nm.get="get"
 update:nm.update<dB.length/\b6 nm.update="update"
theorem o0.ne{nm:gm}(N:o0 nm){i j:Y}{x y:φ}(hi:b6 i=x)(cQ:b6 j=y)(h:x≠y):i≠j:=λe=>h (by rw[<-hi,<-cQ,e])
theorem U6{bm:ε}{xs:I O}{x:O}{iI:Λ}{P:Ι->Prop}{E:Λ->ah->Prop}(S:a0 p.prog p.w p.B F c s.heap)(mN:bI p.prog p.w p.B Γ l F c ρ s.heap)(f:cu p s)(Θ:c bm=some (.lst xs))(a':xs.length<=10000)(ba:au p.prog p.w F x iI)(h:Q .none ρ (upd c bm (some (.lst (xs++[x]))))):
 aB p.M A (call (.builtin "list.append") [.ref bm,iI]) (dm p Γ l F c s (aZ p Q)) E s:=by
 refine aa (S.cells _ _ Θ) λH aV=>?_;refine ψ aV λo ab eb=>?_;try clear aV
 cases eb with
 |@lst _ vs m de=>
  refine BI QK ⟨_,ab,rfl⟩ ahr (ahs _ _) (aht bm vs.toArray m iI (by rw[hC];simp only[i3];exact cJ de.length a' rfl)) ⟨ab,?_⟩;have e:(vs.toArray).push iI=(vs++[iI]).toArray:=by simp
  have aO:(s.heap.update bm (pX λx=>x.push iI)).get? bm=some (pX (λx=>x.push iI) (listOf vs.toArray m)):=tc _ ab rfl;refine a8 (y3 vs.toArray m (λx=>x.push iI)) λdy d2=>?_;rw[d2,e] at aO;obtain⟨cn,X⟩:=S.setC (x:=.lst (xs++[x])) Θ (λb Κ o e=>(ahu _ _ _ _ Κ).trans e) aO (.lst (de.append (.cons ba .nil)));exact⟨F,_,ρ,X.weaken λ_ (z:aK)=>z.elim,cn,mN.ext X,f,.none,.none,h⟩
theorem U7{bm:ε}{xs bj:I O}{r6:Λ}{P:Ι->Prop}{E:Λ->ah->Prop}(S:a0 p.prog p.w p.B F c s.heap)(mN:bI p.prog p.w p.B Γ l F c ρ s.heap)(f:cu p s)(Θ:c bm=some (.lst xs))(a':xs.length+bj.length<=10000)(wu:au p.prog p.w F (.lst bj) r6)(h:Q .none ρ (upd c bm (some (.lst (xs++bj))))):
 aB p.M A (call (.builtin "list.extend") [.ref bm,r6]) (dm p Γ l F c s (aZ p Q)) E s:=by
 refine aa (S.cells _ _ Θ) λH aW=>?_;refine ψ aW λo ab eb=>?_;try clear aW
 cases eb with
 |@lst _ vs m de=>
  apply gk wu.lst_inv;intro gn g4 t1 Κ br;refine BI ahv ⟨_,ab,rfl⟩ PySem.F.entry_list_extend (PySem.F.args_list_extend_2 _ _) (ale bm vs.toArray m g4 gn.toArray t1 (by simp only[i3,e6,not_and,Bool.not_eq_true];intro _;simp[ahe,hC];exact Jy br.length de.length a') (by rw[hC];simp only[i3];exact θ [_,_,_] [] (.le (.v 0) (.c 16777216)) [(.eq (.v 0) (.v 1)),(.le (.a (.v 1) (.v 2)) (.c 10000))] [[1,1,0,1]] rfl de.length a') (by rw[hC];simp only[i3];exact θ [_,_,_,_] [] (.le (.a (.v 2) (.v 0)) (.a (.c 16777216) (.c 1))) [(.eq (.v 0) (.v 1)),(.eq (.v 2) (.v 3)),(.le (.a (.v 3) (.v 1)) (.c 10000))] [[1,1,0,1,0,1]] rfl br.length de.length a')) ⟨ab,(S.frozen _ _ Κ),?_⟩;have e:vs.toArray++gn.toArray=(vs++gn).toArray:=by simp
  have aO:(s.heap.update bm (pX λx=>x++gn.toArray)).get? bm=some (pX (λx=>x++gn.toArray) (listOf vs.toArray m)):=tc _ ab rfl;refine a8 (y3 vs.toArray m (λx=>x++gn.toArray)) λdy d2=>?_;rw[d2,e] at aO;obtain⟨cn,X⟩:=S.setC (x:=.lst (xs++bj)) Θ (λb Κ o e=>(ahu _ _ _ _ Κ).trans e) aO (.lst (de.append br));exact⟨F,_,ρ,X.weaken λ_ (z:aK)=>z.elim,cn,mN.ext X,f,.none,.none,h⟩
theorem U8{l:I (J×O)}:∀{kvs:I (J×Λ)} {k:J},jz p.prog p.w F l kvs->
 (∀x,cW l k=some x->∃v,eS kvs k=some v/\au p.prog p.w F x v)/\(cW l k=none->eS kvs k=none):=by
 induction l with
 |nil=>intro kvs k h;rcases h with ⟨⟩;exact⟨λH e=>(nomatch e),λH=>rfl⟩
 |cons y l Ξ=>
  intro kvs k h;cases h with
  |@cons j x v l kvs r rs=>
   change(∀U9,(if j=k then some x else cW l k)=some U9->_)/\((if j=k then some x else cW l k)=none->_);by_cases e:j=k
   ·subst e;have:eS ((j,v)::kvs) j=some v:=by simp[eS]
    simp only[rr,this];exact⟨λqk aT=>by(obtain rfl:=bQ aT;exact⟨v,rfl,r⟩),λaT=>(nomatch aT)⟩
   ·have:eS ((j,v)::kvs) k=eS kvs k:=by simp[eS,e]
    simp only[bL e,this];exact⟨((Ξ (k:=k) rs)).1,((Ξ (k:=k) rs)).2⟩
theorem Kf{d:ε}{o:cU}{kvs:I (φ×Λ)}{xs:I (Y×O)}{j:Y}{wv:Λ}{E:Λ->ah->Prop}(Ρ:(d==mo)=false)(S:a0 p.prog p.w p.B F c s.heap)(mN:bI p.prog p.w p.B Γ l F c ρ s.heap)(f:cu p s)(ab:s.heap.get? d=some o)(hd:o.IsDictOf (strKind p.prog p.w) kvs)(cX:RelK p.prog p.w F xs kvs)(r:au p.prog p.w F (.sym j) wv)(h:Q ((bl xs j).getD .none) ρ c):aB p.M A (call (.builtin "dict.get") [.ref d,wv]) (dm p Γ l F c s (aZ p Q)) E s:=by
 refine aa r.lO λcQ cN=>?_;apply dG cN;intro t;have hm:=k0 ab hd;refine QL G3 hm.mapOf.typeIs ahw (PySem.F.args_dict_get_2 _ _) (meets_dict_get (strKind p.prog p.w) d (GS _ _ _ t) Ρ) ⟨_,hm.mapOf,?_⟩;refine aa (tW cX cQ) λg5 g6=>?_;refine .tok S mN f ⟨_,?_,h⟩;rcases e:bl xs j with _|x
 ·rw[g6 e];exact .none
 ·(refine ψ (g5 x e) λv Φ c6=>?_);rw[Φ];exact c6
theorem U'{d:ε}{o:cU}{kvs:I (J×Λ)}{xs:I (J×O)}{j:J}{w:O}{wv t2:Λ}{E:Λ->ah->Prop}(Ρ:(d==mo)=false)(S:a0 p.prog p.w p.B F c s.heap)(mN:bI p.prog p.w p.B Γ l F c ρ s.heap)(f:cu p s)(ab:s.heap.get? d=some o)(hd:o.IsDictOf (Qm p.prog p.w) kvs)(cX:jz p.prog p.w F xs kvs)(r:au p.prog p.w F (.int j) wv)(ww:au p.prog p.w F w t2)(h:Q ((cW xs j).getD w) ρ c):aB p.M A (call (.builtin "dict.get") [.ref d,wv,t2]) (dm p Γ l F c s (aZ p Q)) E s:=by
 apply dG r.int_inv;intro t;have hm:=k0 ab hd;refine QL G3 hm.mapOf.typeIs ahw (PySem.F.args_dict_get_3 _ _ _) (meets_dict_get_default (Qm p.prog p.w) d (intKind_is _ _ _ t) Ρ t2) ⟨_,hm.mapOf,?_⟩;refine aa (U8 (k:=j) cX) λg5 g6=>?_;refine .tok S mN f ⟨_,?_,h⟩;rcases e:cW xs j with _|x
 ·rw[g6 e];exact ww
 ·(refine ψ (g5 x e) λv Φ c6=>?_);rw[Φ];exact c6
theorem Va{K:Type}[oA K]{l:I (K×Λ)}:∀{n:K} {v:Λ} {x:K},x∈(jI l n v).map (·.1)->x∈l.map (·.1)∨x=n:=by
 induction l with
 |nil=>
  exact λ{n} {v} {x} h=>by simp[wq] at h;exact .inr h
 |cons hd l Ξ=>
  obtain⟨k,z⟩:=hd;exact λ{n} {v} {x} h=>by
   rw[r0] at h;split at h
   ·rename_i e;exact .inl h
   ·rw[i4,eR] at h;rcases h with h|h
    ·exact .inl (by rw[i4,eR];exact .inl h)
    ·rcases Ξ h with h|h
     ·exact .inl (by rw[i4,eR];exact .inr h)
     ·exact .inr h
theorem Vb{K:Type}[oA K]{l:I (K×Λ)}:∀{n:K} {v:Λ},(l.map (·.1)).Nodup->((jI l n v).map (·.1)).Nodup:=by
 induction l with
 |nil=>
  exact λ{n} {v} _=>by simp[wq]
 |cons hd l Ξ=>
  obtain⟨k,z⟩:=hd;exact λ{n} {v} h=>by
   rw[i4,tb] at h;rw[r0];split
   ·rw[i4,tb];exact h
   ·rename_i e;rw[i4,tb];refine⟨λq=>?_,Ξ h.2⟩;rcases Va q with q|q
    ·exact h.1 q
    ·exact e q
theorem Vc{K:Type}[oA K]{l:I (K×Λ)}(h:(l.map (·.1)).Nodup)(n:K)(v:Λ):((BK l n v).map (·.1)).Nodup:=by rw[y2 h];exact Vb h
theorem RelK.merge{bj:I (Y×O)}:∀{xs:I (Y×O)} {kvs more:I (φ×Λ)},(kvs.map (·.1)).Nodup->RelK p.prog p.w F xs kvs->RelK p.prog p.w F bj more->
 RelK p.prog p.w F (bj.foldl (λl x=>putN l x.1 x.2) xs) (merged kvs more):=by
 induction bj with
 |nil=>intro xs kvs more _ h h';rcases h' with ⟨⟩;exact h
 |cons y bj Ξ=>
  intro xs kvs more nd h h';cases h' with
  |@cons k x v _ more Η r rs=>
   show RelK _ _ F _ (more.foldl _ (BK kvs (b6 k) v));refine Ξ ?_ (by rw[(y2 nd (b6 k) v)];exact h.put Η r) rs;exact Vc nd _ _
end
section
variable{α β:Type}{a b:O}{va c0:Λ}{fC:bo}{ea:Λ}{first:I Λ}
theorem Vd{d:ε}{xs bj:I (Y×O)}{r6:Λ}{E:Λ->ah->Prop}(S:a0 p.prog p.w p.B F c s.heap)(mN:bI p.prog p.w p.B Γ l F c ρ s.heap)(f:cu p s)(Θ:c d=some (.Ω xs))(a':xs.length+bj.length<=10000)(wu:au p.prog p.w F (.Ω bj) r6)(h:Q .none ρ (upd c d (some (.Ω (bj.foldl (λl x=>putN l x.1 x.2) xs))))):aB p.M A (call (.builtin "dict.update") [.ref d,r6]) (dm p Γ l F c s (aZ p Q)) E s:=by
 refine aa (S.cells _ _ Θ) λkd aV=>?_;refine ψ aV λo ab eb=>?_;try clear aV
 cases eb with
 |@Ω _ kvs _ hd cX=>
  apply vS wu.tS;intro dU aU more γ fu Kg Ρ;have Kh:=k0 ab hd;refine QL ahx Kh.mapOf.typeIs PySem.F.entry_dict_update (PySem.F.args_dict_update_2 _ _) (meets_dict_update (strKind p.prog p.w) d dU (λe=>by subst e;rw[kd] at γ;contradiction) Ρ) ⟨kvs,more,Kh,(k0 (S.frozen _ _ γ) fu),by rw[hC];exact Jy Kg.length cX.length a',λh' bd bk σ=>?_⟩;refine ψ (vu.mp bd) λmO yY zc=>?_;refine oK hd λH H H H H H nd=>?_;try clear hd
  obtain⟨cn,X⟩:=S.setC (x:=.Ω (bj.foldl (λl x=>putN l x.1 x.2) xs)) Θ (λb Κ o e=>(σ.2 b Κ).trans e) yY (.Ω zc (.merge nd cX Kg));exact⟨F,_,ρ,X.weaken λ_ (z:aK)=>z.elim,cn,mN.ext X,f,.none,.none,h⟩
theorem bA.two{x y:O}{vs:I Λ}(h:bA p.prog p.w F [x,y] vs):∃u v,vs=[u,v]/\au p.prog p.w F x u/\au p.prog p.w F y v:=by
 cases h with|cons r rs=>cases rs with|cons dJ Ve=>rcases Ve with ⟨⟩;exact oM _ _ rfl r dJ
theorem bA.one{x:O}{vs:I Λ}(h:bA p.prog p.w F [x] vs):∃u,vs=[u]/\au p.prog p.w F x u:=by
 cases h with|cons r rs=>rcases rs with ⟨⟩;exact as _ rfl r
theorem Ki(o:Υ)(name:φ)(env:bx)(cs:Λ)(b0:el es=true)(a':es.length<29)(gb:(fC.endLine==pos.line)=true):
 methodCall o name fC pos env cs (es.length+([]:I GR).length) (ru pos (oC es env)) (te pos (tf [] env))=
  (holding [cs] (vx cs name (do return (<-QM o env).getD true))>>= λf=>td pos f.1 f.2 (gF es env) []):=by
 have bd:ahy (es.length+([]:I GR).length) (gF es env) (te pos (tf [] env))=true:=by
  unfold ahy;rw[UY];show(true&&true&&decide (es.length+0+0<30))=true;simp;exact Qj a'
 have bk:methodCallPos true o env fC pos=pure pos:=cz (by rw[gb];rfl);unfold methodCall;rw[mM b0,bd,bk];rfl
theorem mP{k j:Y}(h:bE k j=true):k=j:=oz h
theorem zd{bm:ε}{xs:I O}(S:a0 p.prog p.w p.B F c s.heap)(Θ:c bm=some (.lst xs)):s.TypeIs (.ref bm) "list"/\∀a,th bm= .ref a->∃o,s.heap.get? a=some o/\o.dict=none:=by
 refine aa (S.cells _ _ Θ) λH bM=>?_;refine ψ bM λo ab eb=>?_;try clear bM
 cases eb with|lst r=>exact⟨⟨_,ab,rfl⟩,λa e=>by(injection e with e;subst e);exact as _ ab rfl⟩
theorem π.getM{β:Type}{cs:Λ}{name:φ}{pl:dP aQ}{R:a2->Ι->Ο->β->Prop}{k:Λ×I Λ->dP β}{f:Λ}(Τ:∀s E (Q:Λ×I Λ->ah->Prop),a0 p.prog p.w p.B F c s.heap->Q (f,[cs]) s->aB p.M A (vx cs name pl) Q E s)(h:π p A Γ l F c ρ (k (f,[cs])) R Er):π p A Γ l F c ρ (PySem.holding [cs] (vx cs name pl)>>= k) R Er:=λs S P Ψ=>aI (oB (Τ s _ _ S (h s S P Ψ)))
theorem Kj{o:cU}{kvs:I (φ×Λ)}{bW:I (Y×O)}{k:Y}(ab:mB o kvs)(cX:RelK p.prog p.w F bW kvs)(Η:k<dB.length)(h:bl bW k=none):shadowIn (some o) (b6 k)=some false:=by
 unfold shadowIn;show Option.map (λx=>x.isSome) (lookIn (b6 k) o)=some false;rw[J6 ab,(tW cX Η).2 h];rfl
theorem Vf{υ:et}{nm:gm}{k:Y}{bW:I (Y×O)}{xs:I O}{o1:O->Ι->Prop}{P:I O->Prop}(ch:∀s,o1 ((bl bW s).getD .none) c->P [.sym s])(h:nK p υ nm Er n c k (.Ω bW) xs o1):P xs:=by
 rcases xs with _|⟨v,xs⟩
 ·exact h.elim
 ·rcases xs with _|⟨w,xs⟩
  ·exact tP h (λH h=>ψ (JQ h) λs e q=>e▸ch s q) ey
  ·exact h.elim
theorem ze{υ:et}{nm:gm}{k:Y}{bm:ε}{xs:I O}{o1:O->Ι->Prop}{P:I O->Prop}(h:nK p υ nm Er n c k (.loc bm) xs o1)(ch:∀v bj,k=nm.append->c bm=some (.lst bj)->bj.length<=10000->o1 .none (upd c bm (some (.lst (bj++[v]))))->P [v])(c5:∀zs bj,k=nm.extend->c bm=some (.lst bj)->bj.length+zs.length<=10000->o1 .none (upd c bm (some (.lst (bj++zs))))->P [.lst zs])(fy:∀s bj,k=nm.get->c bm=some (.Ω bj)->o1 ((bl bj s).getD .none) c->P [.sym s])(kU:∀zs bj,k=nm.update->c bm=some (.Ω bj)->bj.length+zs.length<=10000->o1 .none (upd c bm (some (.Ω (zs.foldl (λl x=>putN l x.1 x.2) bj))))->P [.Ω zs])(rT:∀i w bj,k=nm.get->c bm=some (.tab bj)->o1 ((cW bj i).getD w) c->P [.int i,w]):P xs:=by
 rcases xs with _|⟨v,xs⟩
 ·exact h.elim
 ·rcases xs with _|⟨w,xs⟩
  ·exact tP h (λe h=>ix h λbj Α Δ κ=>ch v bj (mP e) Α Δ κ) λh=>
    tP h (λe h=>ψ (wd h) λzs Φ h=>ix h λbj Α Δ κ=>Φ▸c5 zs bj (mP e) Α Δ κ) λh=>
    tP h (λe h=>ψ (JQ h) λs Φ h=>ψ h λbj Α Δ=>Φ▸fy s bj (mP e) Α Δ) λh=>
    tP h (λe h=>ψ (TL h) λzs Φ h=>ix h λbj Α Δ κ=>Φ▸kU zs bj (mP e) Α Δ κ) ey
  ·rcases xs with _|⟨_,_⟩
   ·exact tP h (λe h=>ψ (qi h) λi Φ h=>ψ h λbj Α Δ=>Φ▸rT i w bj (mP e) Α Δ) ey
   ·exact h.elim
noncomputable def zf(o:Υ)(env:bx)(pos:bo)(es:I Υ)(k:Y)(cs:Λ):dP Λ:=holding [cs] (vx cs (b6 k) (do return (<-QM o env).getD true))>>= λf=>td pos f.1 f.2 (gF es env) []
noncomputable def wx(p:bP)(υ:et)(nm:gm)(A:gh)(Γ:I Place)(l:I bx)(Er:Prop)(n k:Y)(o:Υ)(env:bx)(pos:bo)(es:I Υ)(Q:O->Ο->Ι->Prop)(F₁:a2)(Μ:Ι)(ν:Ο)(cs:Λ)(km:O):Prop:=
 au p.prog p.w F₁ km cs->π p A Γ l F₁ Μ ν (spliced (gF es env)) (jD p λxs bg az=>nK p υ nm Er n az k km xs (λv c'=>Q v bg c')) Er->π p A Γ l F₁ Μ ν (zf o env pos es k cs) (aZ p Q) Er
theorem Vg{υ:et}{nm:gm}{c:Ι}{k:Y}{P:O->Prop}(ch:∀C bW,mH υ nm c k (.obj C bW)->P (.obj C bW))(c5:∀C d,mH υ nm c k (.ins C d)->P (.ins C d))(fy:∀bW,mH υ nm c k (.Ω bW)->P (.Ω bW))(kU:∀a,mH υ nm c k (.loc a)->P (.loc a)){km:O}(h:mH υ nm c k km):P km:=by
 cases km with
 |obj C bW=>exact ch C bW h
 |ins C d=>exact c5 C d h
 |Ω bW=>exact fy bW h
 |loc a=>exact kU a h
 |_=>exact h.elim
theorem Vh{υ:et}{nm:gm}{o:Υ}{k:Y}{Μ:Ι}{ν:Ο}{F₁:a2}{cs:Λ}(ζ:p.Ok)(T:iH p υ)(N:o0 nm)(Χ:fw A l n)(Η:k<dB.length){C:ε}{bW:I (Y×O)}(pre:mH υ nm Μ k (.obj C bW)):wx p υ nm A Γ l Er n k o env pos es Q F₁ Μ ν cs (.obj C bW):=by
 intro je hf;refine aa pre λhm σ=>?_;try clear pre
 rcases r7:lM υ.hG C k with _|f
 ·rw[r7] at hm;contradiction
 ·refine yu (T.hG C k f r7) λlS H dA jb gO=>?_;refine .getM (f:=.ref f) (λs E o2 S q=>?_) ?_
  ·refine rG je.Di λdU d aU kvs cN γ hd ab cX=>?_;rcases cN with rfl
   exact method_fn (oZ ζ S) (y1 (S.frozen _ _ γ) (S.frozen _ _ hd)) lS.ga lS.J5 dA jb (Kj ab cX Η σ) q
  ·refine .callWith ζ (tZ gO) (hf.mono (λaY az bg vs d3 Φ H=>?_) id);obtain⟨xs,ba,Θ⟩:=Φ;unfold nK at Θ;simp only[r7] at Θ;exact(Θ.run Χ.Dp (.val _ rfl) (.cons (je.mono d3) ba)).mono (λH H H v H Φ=>by obtain⟨x,ba,rfl,q⟩:=Φ;exact⟨x,ba,q⟩) id
theorem Vi{υ:et}{nm:gm}{o:Υ}{k:Y}{Μ:Ι}{ν:Ο}{F₁:a2}{cs:Λ}(ζ:p.Ok)(T:iH p υ)(N:o0 nm)(Χ:fw A l n)(Η:k<dB.length){C d:ε}(pre:mH υ nm Μ k (.ins C d)):wx p υ nm A Γ l Er n k o env pos es Q F₁ Μ ν cs (.ins C d):=by
 intro je hf;refine aa pre λhm dk=>?_;try clear pre;refine ψ dk λbW ko σ=>?_;try clear dk
 rcases r7:lM υ.hG C k with _|f
 ·rw[r7] at hm;contradiction
 ·refine yu (T.hG C k f r7) λlS H dA jb gO=>?_;refine .getM (f:=.ref f) (λs E o2 S q=>?_) ?_
  ·refine ψ je.yX λdU dg γ=>?_;rcases dg with rfl
   refine aa (S.cells _ _ ko) λH eV=>?_;refine ψ eV λaU hd eb=>?_;try clear eV
   cases eb with
   |cV ab cX=>exact method_fn (oZ ζ S) (y1 (S.frozen _ _ γ) hd) lS.ga lS.J5 dA jb (Kj ab cX Η σ) q
  ·refine .callWith ζ (tZ gO) (hf.mono (λaY az bg vs d3 Φ H=>?_) id);obtain⟨xs,ba,Θ⟩:=Φ;unfold nK at Θ;simp only[r7] at Θ;exact(Θ.run Χ.Dp (.val _ rfl) (.cons (je.mono d3) ba)).mono (λH H H v H Φ=>by obtain⟨x,ba,rfl,q⟩:=Φ;exact⟨x,ba,q⟩) id
theorem Vj{υ:et}{nm:gm}{o:Υ}{k:Y}{Μ:Ι}{ν:Ο}{F₁:a2}{cs:Λ}(ζ:p.Ok)(T:iH p υ)(N:o0 nm)(Χ:fw A l n)(Η:k<dB.length){bW:I (Y×O)}(pre:mH υ nm Μ k (.Ω bW)):wx p υ nm A Γ l Er n k o env pos es Q F₁ Μ ν cs (.Ω bW):=by
 intro je hf;cases mP pre;unfold zf;rw[N.get.2];refine .getM (f:=.builtin "dict.get") (λs E o2 S q=>?_) ?_
 ·refine lI je.tS λdU aU kvs fh γ hd cX Ρ=>?_;rcases fh with rfl
  have D:=k0 (S.frozen _ _ γ) hd;exact BM D.mapOf.typeIs QN G3 ahz D.mapOf.noDict q
 ·refine .callWith ζ (y6 _) (hf.mono (λaY az bg vs d3 Φ H=>?_) id);obtain⟨xs,ba,Θ⟩:=Φ;apply vS je.tS;intro dU aU kvs γ hd cX Ρ;revert ba;refine Vf (P:=λxs=>bA p.prog p.w aY xs vs->π p A Γ l aY az bg (call (.builtin "dict.get") (.ref dU::vs)) (aZ p Q) Er) (λj wy ba=>?_) Θ;apply mz ba.one;intro u ag;intro s S P Ψ;exact Kf Ρ S P Ψ (S.frozen _ _ (d3 _ _ γ)) hd (cX.mono d3) ag wy
theorem Vk{υ:et}{nm:gm}{o:Υ}{k:Y}{Μ:Ι}{ν:Ο}{F₁:a2}{cs:Λ}(ζ:p.Ok)(T:iH p υ)(N:o0 nm)(Χ:fw A l n)(Η:k<dB.length){bm:ε}(pre:mH υ nm Μ k (.loc bm)):wx p υ nm A Γ l Er n k o env pos es Q F₁ Μ ν cs (.loc bm):=by
 intro je hf;refine ψ pre λx hS lQ=>?_;try clear pre;revert lQ;intro pre
 rcases je.tR with ⟨⟩
 have cq:∀{id:hh},(∀s E (o2:Λ×I Λ->ah->Prop),a0 p.prog p.w p.B F₁ Μ s.heap->o2 (.builtin id,[.ref bm]) s->aB p.M A (vx (.ref bm) (b6 k) (do return (<-QM o env).getD true)) o2 E s)->
  (∀aY az bg vs,cr F₁ aY->jD p (λxs bg az=>nK p υ nm Er n az k (.loc bm) xs λv c'=>Q v bg c') aY az bg vs->π p A Γ l aY az bg (call (.builtin id) (.ref bm::vs)) (aZ p Q) Er)->
  π p A Γ l F₁ Μ ν (zf o env pos es k (.ref bm)) (aZ p Q) Er:=
  λg Δ=>.getM (f:=.builtin _) g (.callWith ζ (y6 _) (hf.mono (λaY az bg vs d3 Φ H=>Δ aY az bg vs d3 Φ) id))
 have Kk:nm.append≠nm.extend:=N.ne N.append.2 N.extend.2 (by decide);have Dt:nm.append≠nm.get:=N.ne N.append.2 N.get.2 (by decide);have Du:nm.append≠nm.update:=N.ne N.append.2 N.update.2 (by decide);have Dv:nm.extend≠nm.get:=N.ne N.extend.2 N.get.2 (by decide);have Kl:nm.extend≠nm.update:=N.ne N.extend.2 N.update.2 (by decide);have Dw:nm.get≠nm.update:=N.ne N.get.2 N.update.2 (by decide);have Km:k=nm.get->(∀s:ah,a0 p.prog p.w p.B F₁ Μ s.heap->s.TypeIs (.ref bm) "dict"/\∀a,th bm= .ref a->∃o:cU,s.heap.get? a=some o/\o.dict=none)->
  π p A Γ l F₁ Μ ν (zf o env pos es k (.ref bm)) (aZ p Q) Er:=λe δ=>by
  subst e;refine cq (id:="dict.get") (λs E o2 S q=>?_) λaY az bg vs d3 Φ=>?_
  ·rw[N.get.2];exact BM ((δ s S)).1 QN G3 ahz ((δ s S)).2 q
  ·obtain⟨xs,ba,Θ⟩:=Φ;intro s S P Ψ;revert ba;refine ze (P:=λxs=>bA p.prog p.w aY xs vs->aB p.M A (call (.builtin "dict.get") (.ref bm::vs)) (dm p Γ l aY az s (aZ p Q)) (cZ p Γ l az s Er) s) Θ (λH H e=>absurd e.symm Dt) (λH H e=>absurd e.symm Dv) (λj bj H mQ av ba=>?_) (λH H e=>absurd e Dw) (λi w bj H mQ av ba=>?_)
   ·apply mz ba.one;intro u ag;refine aa (S.cells _ _ mQ) λH lR=>?_;refine ψ lR λaU fZ eb=>?_;try clear lR
    cases eb with|Ω hd cX=>exact Kf (S.nm _ _ mQ) S P Ψ fZ hd cX ag av
   ·apply yy ba.two;intro u v ag dJ;refine aa (S.cells _ _ mQ) λH rZ=>?_;refine ψ rZ λaU fZ eb=>?_;try clear rZ
    cases eb with|tab hd cX=>exact U' (S.nm _ _ mQ) S P Ψ fZ hd cX ag dJ av
 rcases x with bj|bj|bj|bj
 ·rcases G4.mp pre with e|e
  ·have e:=mP e;subst e;refine cq (id:="list.append") (λs E o2 S q=>?_) λaY az bg vs d3 Φ=>?_
   ·rw[N.append.2];exact BM ((zd S hS)).1 ahA QK PySem.F.type_list_append ((zd S hS)).2 q
   ·obtain⟨xs,ba,Θ⟩:=Φ;intro s S P Ψ;revert ba;refine ze (P:=λxs=>bA p.prog p.w aY xs vs->aB p.M A (call (.builtin "list.append") (.ref bm::vs)) (dm p Γ l aY az s (aZ p Q)) (cZ p Γ l az s Er) s) Θ (λv bj H mQ Τ av ba=>?_) (λH H e=>absurd e Kk) (λH H e=>absurd e Dt) (λH H e=>absurd e Du) (λH H H e=>absurd e Dt)
    ·apply mz ba.one;intro u ag;exact U6 (P:=λH=>rl) S P Ψ mQ Τ ag av
  ·have e:=mP e;subst e;refine cq (id:="list.extend") (λs E o2 S q=>?_) λaY az bg vs d3 Φ=>?_
   ·rw[N.extend.2];exact BM ((zd S hS)).1 ahA ahv PySem.F.type_list_extend ((zd S hS)).2 q
   ·obtain⟨xs,ba,Θ⟩:=Φ;intro s S P Ψ;revert ba;refine ze (P:=λxs=>bA p.prog p.w aY xs vs->aB p.M A (call (.builtin "list.extend") (.ref bm::vs)) (dm p Γ l aY az s (aZ p Q)) (cZ p Γ l az s Er) s) Θ (λH H e=>absurd e.symm Kk) (λzs bj H mQ Τ av ba=>?_) (λH H e=>absurd e Dv) (λH H e=>absurd e Kl) (λH H H e=>absurd e Dv)
    ·apply mz ba.one;intro u ag;exact U7 (P:=λH=>rl) S P Ψ mQ Τ ag av
 ·have Dx:∀s:ah,a0 p.prog p.w p.B F₁ Μ s.heap->s.TypeIs (.ref bm) "dict"/\∀a,th bm= .ref a->∃o,s.heap.get? a=some o/\o.dict=none:=λs S=>by
   refine aa (S.cells _ _ hS) λH oW=>?_;refine ψ oW λaU fZ eb=>?_;try clear oW
   cases eb with|Ω hd cX=>exact⟨(k0 fZ hd).mapOf.typeIs,(k0 fZ hd).mapOf.noDict⟩
  rcases G4.mp pre with e|e
  ·exact Km (mP e) Dx
  ·have e:=mP e;subst e;refine cq (id:="dict.update") (λs E o2 S q=>?_) λaY az bg vs d3 Φ=>?_
   ·rw[N.update.2];exact BM ((Dx s S)).1 QN ahx PySem.F.type_dict_update ((Dx s S)).2 q
   ·obtain⟨xs,ba,Θ⟩:=Φ;intro s S P Ψ;revert ba;refine ze (P:=λxs=>bA p.prog p.w aY xs vs->aB p.M A (call (.builtin "dict.update") (.ref bm::vs)) (dm p Γ l aY az s (aZ p Q)) (cZ p Γ l az s Er) s) Θ (λH H e=>absurd e.symm Du) (λH H e=>absurd e.symm Kl) (λH H e=>absurd e.symm Dw) (λzs bj H mQ Τ av ba=>?_) (λH H H e=>absurd e.symm Dw)
    ·apply mz ba.one;intro u ag;exact Vd S P Ψ mQ Τ ag av
 ·refine Km (mP pre) λs S=>?_;refine aa (S.cells _ _ hS) λH oX=>?_;refine ψ oX λaU fZ eb=>?_;try clear oX
  cases eb with|tab hd cX=>exact⟨(k0 fZ hd).mapOf.typeIs,(k0 fZ hd).mapOf.noDict⟩
 ·exact pre.elim
theorem Vl{υ:et}{nm:gm}{o:Υ}{k:Y}{name:φ}(ζ:p.Ok)(T:iH p υ)(N:o0 nm)(Χ:fw A l n)(b0:el es=true)(a':es.length<29)(gb:(fC.endLine==pos.line)=true)(Κ:QO o name env (eval o env)=eval o env)(Η:k<dB.length)(r8:name=b6 k)(h:π p A Γ l F c ρ (eval o env) (aZ p λkm ν Μ=>mH υ nm Μ k km/\∀F₁,cr F F₁->π p A Γ l F₁ Μ ν (spliced (gF es env)) (jD p λxs bg az=>nK p υ nm Er n az k km xs (λv c'=>Q v bg c')) Er) Er):
 π p A Γ l F c ρ (eval (.Call (.Attribute o name fC) es [] pos) env) (aZ p Q) Er:=by
 rw[arm_eval_Call,Κ];refine .bind (h.mono (λF₁ Μ ν cs le hf Kc=>?_) id);obtain⟨km,je,pre,hf⟩:=hf;refine .standAt ?_;rw[Ki _ _ _ _ b0 a' gb];subst r8;exact Vg (P:=wx p υ nm A Γ l Er n k o env pos es Q F₁ Μ ν cs) (λH H h=>Vh ζ T N Χ Η h) (λH H h=>Vi ζ T N Χ Η h) (λH h=>Vj ζ T N Χ Η h) (λH h=>Vk ζ T N Χ Η h) pre je (hf F₁ le)
end
structure dK(p:bP)(env:bx)(Γ:I Place)(ns:I (φ×ez))(sc:I (φ×Y)):Prop where
 kind:env.scope.kind= .function
 names:env.scope.names=ns
 glob:env.globals=lC
 blt:env.builtins=rk
 places:∀x i,sc.lookup x=some i->(x==("__debug__":φ))=false/\((ns.lookup x=some .local/\Γ[i]?=some (.loc env.locals x))∨(ns.lookup x=some .cell/\∃a,env.cells.lookup x=some a/\Γ[i]?=some (.cell a)))
noncomputable def Dy(p:bP)(gl:I (φ×O)):Prop:=∀x v,gl.lookup x=some v->(x==("__debug__":φ))=false/\∃u,(p.mD x=some u∨(p.mD x=none/\p.qc x=some u))/\au p.prog p.w p.B.get? v u
section
variable{α β:Type}{a b:O}{va c0:Λ}{fC:bo}{ea:Λ}{first:I Λ}{ns:I (φ×ez)}{sc:I (φ×Y)}{x:φ}{i:Y}{v:O}
noncomputable def Dz(h:bK)(u:Λ):Place->Prop
 | .loc L x=>∃m,h.Ns L m/\m x=some u
 | .cell a=>h.IsCell a (some u)
theorem Dz.is{h:bK}{u:Λ}{pl:Place}(Ε:Dz h u pl)(r:au p.prog p.w F v u):jA p.prog p.w F h pl (some v):=by
 rcases pl with ⟨L,x⟩|a
 ·(refine ψ Ε λm a b=>?_;try clear Ε);exact oM m u a b r
 ·exact as u Ε r
theorem Kn(bt:dK p env Γ ns sc)(Ν:sc.lookup x=some i)(Φ:hN ρ i=some v)(P:bI p.prog p.w p.B Γ l F c ρ s.heap){M:rj}{Qv E:Λ->ah->Prop}(h:∀u,au p.prog p.w F v u->(∀pl,Γ[i]?=some pl->Dz s.heap u pl)->Qv u s):
 aB M A (eval (.Name x pos) env) Qv E s:=by
 refine wpAny_Name ?_ ((bt.places x i Ν)).1;rcases((bt.places x i Ν)).2 with ⟨Η,dL⟩|⟨Η,a,Θ,dL⟩
 ·have:=P.places i _ dL;rw[Φ] at this;refine fb this λm u Ζ e r=>?_;try clear this
  exact ahB bt.kind (by unfold ms;rw[bt.names];exact Η) Ζ e (h u r λpl aT=>by rw[dL] at aT;obtain rfl:=bQ aT;exact as m Ζ e)
 ·have:=P.places i _ dL;rw[Φ] at this;refine ψ this λu Ζ r=>?_;try clear this
  exact wpAny_loadName_cell bt.kind (by unfold ms;rw[bt.names];exact Η) Θ Ζ (h u r λpl aT=>by rw[dL] at aT;obtain rfl:=bQ aT;exact Ζ)
theorem Vm(bt:dK p env Γ ns sc)(Ν:sc.lookup x=some i)(h:iF (hN ρ i) λv=>Q v ρ c):π p A Γ l F c ρ (eval (.Name x pos) env) (aZ p Q) Er:=by
 refine ψ (oY h) λv Φ q=>?_;exact λs S P f=>Kn bt Ν Φ P λu r H=>.now S P f ⟨v,r,q⟩
theorem Vn{h:bK}(P:bI p.prog p.w p.B Γ l F c ρ h){u:Λ}(hi:i<Γ.length)(Φ:∀pl,Γ[i]?=some pl->jA p.prog p.w F h pl (some v)):bI p.prog p.w p.B Γ l F c (eU ρ i (some v)) h:=
 ⟨by rw[CT];exact P.len,λj q cQ=>by
  by_cases e:j=i
  ·subst e;rw[CU _ _ _ (by rw[P.len];exact hi)];exact Φ q cQ
  ·rw[CV _ _ _ _ e];exact P.places j q cQ,P.nodup,P.hP,P.frames⟩
theorem Vo{u:Λ}{K:O->Ι->Prop}(S:a0 p.prog p.w p.B F c s.heap)(r:au p.prog p.w F v u)(h:rU c v K):
 ∃ω c' iD,cf (λH=>aK) F c s.heap ω c' s.heap/\a0 p.prog p.w p.B ω c' s.heap/\au p.prog p.w ω iD u/\K iD c':=by
 revert r;refine TF (P:=λv=>au p.prog p.w F v u->∃ω c' iD,cf (λH=>aK) F c s.heap ω c' s.heap/\a0 p.prog p.w p.B ω c' s.heap/\au p.prog p.w ω iD u/\K iD c') (λa h r=>?_) (λC d h r=>?_) (λv h r=>⟨F,c,v,.refl ..,S,r,h⟩) h
 ·skip
  refine ψ h λk Θ h=>?_;obtain rfl:=r.tR;refine rD (S.freeze (W:=λH=>aK) Θ) λo ab eb cn X=>?_;cases k with
  |lst=>cases eb with|lst de=>exact Cf _ _ _ X cn (.lst (hQ _ _ _) (de.mono X.le)) h
  |Ω=>cases eb with|Ω hd cX=>exact Cf _ _ _ X cn (.Ω (S.nm _ _ Θ) (hQ _ _ _) hd (cX.mono X.le)) h
  |_=>exact h.elim
 ·skip
  refine ψ h λbW Θ h=>?_;apply mz r.yX;intro a γ;refine rD (S.freeze (W:=λH=>aK) Θ) λo ab eb cn X=>?_;cases eb with|cV jd cX=>exact Cf _ _ _ X cn (.obj (X.le _ _ γ) (hQ _ _ _) jd (cX.mono X.le)) h
theorem Vp(bt:dK p env Γ ns sc)(Ν:sc.lookup x=some i)(h:iF (hN ρ i) λv=>rU c v λiD c'=>Q iD (eU ρ i (some iD)) c'):π p A Γ l F c ρ (eval (.Name x pos) env) (aZ p Q) Er:=by
 refine ψ (oY h) λv Φ q=>?_;intro s S P f;refine Kn bt Ν Φ P λu r f5=>?_;refine yv (Vo S r q) λω c' iD X cn kg q=>?_;refine aa (bt.places x i Ν) λH Τ=>?_;have dL:∃pl,Γ[i]?=some pl:=by rcases Τ with ⟨_,e⟩|⟨_,_,_,e⟩<;>exact⟨_,e⟩
 refine a8 dL λpl dL=>?_;exact⟨ω,c',_,X.weaken λ_ (z:aK)=>z.elim,cn,Vn (u:=u) (P.ext X) ((j7.mp dL).1) λq av=>(f5 q av).is kg,f,iD,kg,q⟩
theorem Vq{gl:I (φ×O)}(ζ:p.Ok)(bt:dK p env Γ ns sc)(G:Dy p gl)(Ν:ns.lookup x=some .globalImplicit)(Φ:gl.lookup x=some v)(q:Q v ρ c):π p A Γ l F c ρ (eval (.Name x pos) env) (aZ p Q) Er:=by
 intro s S P f;refine aa (G x v Φ) λhd aW=>?_;refine ψ aW λu a4 r=>?_;try clear aW
 have kg:au p.prog p.w F v u:=r.mono λa o e=>S.base a o e;have aO:s.heap.Ns env.globals p.mD:=by rw[bt.glob];exact ζ.g.keeps (nL S)
 refine G5 bt.kind (by unfold ms;rw[bt.names];exact Ν) ?_ hd;rcases a4 with a4|⟨hm,a4⟩
 ·exact QP aO a4 (.now S P f ⟨v,kg,q⟩)
 ·exact QQ aO hm (by rw[bt.blt];exact ζ.b.keeps (nL S)) a4 (.now S P f ⟨v,kg,q⟩)
theorem const_none{k:Y}(q:Q .none ρ c):π p A Γ l F c ρ (eval (.Constant .none k pos) env) (aZ p Q) Er:=λs S P f=>cy (.now S P f ⟨_,.none,q⟩)
theorem Vr{k:Y}{b:aQ}(q:Q (.bool b) ρ c):π p A Γ l F c ρ (eval (.Constant (.bool b) k pos) env) (aZ p Q) Er:=λs S P f=>cy (.now S P f ⟨_,.bool b,q⟩)
theorem const_int{k:Y}{b:J}(q:Q (.int b) ρ c):π p A Γ l F c ρ (eval (.Constant (.int b) k pos) env) (aZ p Q) Er:=λs S P f=>QR (.tok S P f ⟨_,.int b _,q⟩)
theorem Vs{k j:Y}{b:φ}(cQ:j<dB.length)(e:b=b6 j)(q:Q (.sym j) ρ c):π p A Γ l F c ρ (eval (.Constant (.str b) k pos) env) (aZ p Q) Er:=λs S P f=>wpAny_mkText (.tok S P f ⟨_,e▸.sym j _ cQ,q⟩)
theorem Vt{k:Y}{b:I h5}(q:Q (.bytes b) ρ c):π p A Γ l F c ρ (eval (.Constant (.bytes b) k pos) env) (aZ p Q) Er:=λs S P f=>wpAny_mkTextBytes (.tok S P f ⟨_,.bytes b _,q⟩)
theorem Vu{op:rm}{x y:Υ}(ζ:p.Ok)(h:π p A Γ l F c ρ (eval x env) (aZ p λa ν Μ=>∀F₁,cr F F₁->π p A Γ l F₁ Μ ν (eval y env) (aZ p λb bg az=>v6 op a b λv=>Q v bg az) Er) Er):
 π p A Γ l F c ρ (eval (.BinOp x op y pos) env) (aZ p Q) Er:=by
 rw[arm_eval_BinOp];refine .bind (h.mono (λF₁ Μ ν va le γ H=>?_) id);obtain⟨a,am,γ⟩:=γ;refine .bind (.holding ((γ F₁ le).mono (λaY az bg c0 d3 Κ H=>?_) id));obtain⟨b,br,Κ⟩:=Κ;exact .standAt (.operate (TX ζ (am.mono d3) br Κ))
theorem Vv{x:Υ}(h:π p A Γ l F c ρ (eval x env) (aZ p λa ν Μ=>C5 a λv=>Q v ν Μ) Er):π p A Γ l F c ρ (eval (.UnaryOp .USub x pos) env) (aZ p Q) Er:=by
 rw[ahC];refine .bind (h.mono (λF₁ Μ ν va le γ H=>?_) id);obtain⟨a,am,γ⟩:=γ;refine .standAt (.holding ?_);intro s S P f;unfold C5 at γ;split at γ
 ·exact am.int_inv.elim λt e=>e▸ahD (.tok S P f ⟨_,.int _ _,γ⟩)
 ·exact γ.elim
theorem Vw{t x y:Υ}(h:π p A Γ l F c ρ (iu t env (eval t env)) (λF₁ Μ ν b=>match b with
 |true=>π p A Γ l F₁ Μ ν (eval x env) (aZ p Q) Er
 |false=>π p A Γ l F₁ Μ ν (eval y env) (aZ p Q) Er) Er):π p A Γ l F c ρ (eval (.IfExp t x y pos) env) (aZ p Q) Er:=by
 rw[arm_eval_IfExp];refine .bind (h.mono (λF₁ Μ ν b le Κ H=>?_) id);rcases b with ⟨⟩<;>exact Κ
theorem Vx{υ:et}{x:Υ}{k:Y}{name:φ}(ζ:p.Ok)(T:iH p υ)(r8:name=b6 k)(Κ:QO x name env (eval x env)=eval x env)(h:π p A Γ l F c ρ (eval x env) (aZ p λa ν Μ=>tO υ Μ k a λv=>Q v ν Μ) Er):π p A Γ l F c ρ (eval (.Attribute x name pos) env) (aZ p Q) Er:=by
 rw[arm_eval_Attribute,Κ];refine .bind (h.mono (λF₁ Μ ν va le γ H=>?_) id);obtain⟨a,am,γ⟩:=γ;subst r8;refine .standAt λs S P f=>aI (oB (bR (UM ζ T S P f am γ (E:=cZ p Γ l _ s Er)) (λr μ Χ=>aI (wpAny_letTemporaryGo (cy ?_))) λH H e=>e));exact Χ.mono λH H H H z=>by obtain⟨x,r,rfl,rfl,q⟩:=z;exact⟨x,r,q⟩
theorem Vy{x y:Υ}(σ:rY y=true)(h:π p A Γ l F c ρ (eval x env) (aZ p λa ν Μ=>∀F₁,cr F F₁->π p A Γ l F₁ Μ ν (eval y env) (aZ p λb bg az=>oT az a b λv=>Q v bg az) Er) Er):π p A Γ l F c ρ (eval (.Subscript x y pos) env) (aZ p Q) Er:=by
 rw[arm_eval_Subscript];refine .bind (h.mono (λF₁ Μ ν va le γ H=>?_) id);obtain⟨a,am,γ⟩:=γ;refine .bind (.holding ((γ F₁ le).mono (λaY az bg c0 d3 Κ H=>?_) id));obtain⟨b,br,Κ⟩:=Κ;refine .standAt λs S P f=>?_;exact bR (UK σ S P f (am.mono d3) br Κ (E:=cZ p Γ l _ s Er)) (λr μ Χ=>Χ.mono λH H H H z=>by obtain⟨x,r,rfl,rfl,q⟩:=z;exact⟨x,r,q⟩) λH H e=>e
end
section
variable{α β:Type}{aY:a2}{az:Ι}{bg:Ο}{a b:O}{va c0:Λ}{fC:bo}{ea:Λ}{first:I Λ}{ns:I (φ×ez)}{sc:I (φ×Y)}{x:φ}{i:Y}{v:O}{B:bK}{prog:he}{w:e4}{h h' bG:bK}{W:ε->Prop}{d:ε}{o:cU}
theorem a0.past(S:a0 prog w B F c h)(dH:F d=none)(Θ:c d=none)(k:∀b,b≠d->∀o,h.get? b=some o->h'.get? b=some o):a0 prog w B F c h':=
 ⟨S.base,λa o e=>k a (λq=>by subst q;rw[dH] at e;contradiction) o (S.frozen a o e),λa x e=>let ⟨f,o,ab,r⟩:=S.cells a x e;⟨f,o,k a (λq=>by subst q;rw[Θ] at e;contradiction) o ab,r⟩,S.nm⟩
theorem cf.past(X:cf W F c h ω c' bG)(Ζ:h.get? d=none)(k:∀b,b≠d->∀o,bG.get? b=some o->h'.get? b=some o):cf W F c h ω c' h':=by
 have ne:∀b o,h.get? b=some o->b≠d:=λb o e q=>by subst q;rw[Ζ] at e;contradiction
 exact⟨X.le,λb o e Θ bC=>k b (ne b o e) o (X.keep b o e Θ bC),λb o e=>let ⟨aU,aT,n⟩:=X.c4 b o e;⟨aU,k b (ne b o e) aU aT,n⟩,X.i9,X.kT⟩
theorem a0.wz(S:a0 prog w B F c h)(dH:F d=none)(Ρ:(d==mo)=false)(ab:h.get? d=some o){k:fY}(r:hO prog w F k o):a0 prog w B F (upd c d (some k)) h:=
 ⟨S.base,S.frozen,λa y e=>by
  by_cases q:a=d
  ·subst q;rw[aj] at e;obtain rfl:=bQ e;exact⟨dH,o,ab,r⟩
  ·rw[a3 c _ q] at e;exact S.cells a y e,λa y e=>by
  by_cases q:a=d
  ·subst q;exact Ρ
  ·rw[a3 c _ q] at e;exact S.nm a y e⟩
theorem cf.wz(X:cf W F c h ω c' h')(Ζ:h.get? d=none){k:fY}:cf W F c h ω (upd c' d (some k)) h':=
 ⟨X.le,X.keep,X.c4,λb e=>by
  by_cases q:b=d
  ·subst q;exact .inl Ζ
  ·rw[a3 _ _ q] at e;exact X.i9 b e,X.kT⟩
theorem a0.lT(S:a0 prog w B F c h)(dH:F d=none)(Θ:c d=none)(ab:h.get? d=some o):a0 prog w B (g0 F d o) c h:=by
 have le:cr F (g0 F d o):=.upd dH;exact⟨λb aU e=>le _ _ (S.base b aU e),λb aU e=>by
  by_cases q:b=d
  ·subst q;rw[hQ] at e;obtain rfl:=bQ e;exact ab
  ·rw[ke F o q] at e;exact S.frozen b aU e,λb y e=>by
  refine aa (S.cells b y e) λf aV=>?_;refine ψ aV λaU fZ r=>?_;try clear aV
  exact⟨by rw[ke F o (λq=>by subst q;rw[Θ] at e;contradiction)];exact f,aU,fZ,r.mono le⟩,S.nm⟩
theorem cf.lT(X:cf W F c h ω c' h')(dH:ω d=none)(Ζ:h.get? d=none):cf W F c h (g0 ω d o) c' h':=
 ⟨X.le.trans (.upd dH),X.keep,X.c4,X.i9,λb e=>by
  by_cases q:b=d
  ·subst q;exact .inr (.inl Ζ)
  ·rw[ke _ _ q] at e;exact X.kT b e⟩
theorem bI.past(P:bI prog w B Γ l F c ρ h)(hd:∀p∈Γ,p.addr≠d)(k:∀b,b≠d->∀o,h.get? b=some o->h'.get? b=some o)(Η:∃aU,h'.get? d=some aU/\gZ aU):bI prog w B Γ l F c ρ h':=by
 refine⟨P.len,λi p hi=>?_,P.nodup,P.hP,FunFrames.ext (λb o e=>?_) P.frames⟩
 ·refine ψ ((P.places i p hi).there) λo e H=>?_;exact(P.places i p hi).mono (.refl _) e (k _ (hd p (j8 hi)) o e)
 ·by_cases q:b=d
  ·subst q;(refine ψ Η λaU aT n=>?_;try clear Η);exact as aU aT (λH=>n)
  ·exact as o (k b q o e) id
theorem bI.le(P:bI prog w B Γ l F c ρ h)(le:cr F ω)(dH:∀p∈Γ,ω p.addr=none)(Θ:∀p∈Γ,c' p.addr=none):bI prog w B Γ l ω c' ρ h:=
 ⟨P.len,λi p hi=>by(refine ψ ((P.places i p hi).there) λo e H=>?_);exact(P.places i p hi).mono le e e,P.nodup,λp ζ=>⟨dH p ζ,Θ p ζ⟩,P.frames⟩
theorem bI.wz(P:bI prog w B Γ l F c ρ h)(hd:∀p∈Γ,p.addr≠d){k:fY}:bI prog w B Γ l F (upd c d (some k)) ρ h:=
 P.le (.refl _) (λp ζ=>(P.hP p ζ).1) λp ζ=>by rw[a3 _ _ (hd p ζ)];exact(P.hP p ζ).2
theorem bI.lT(P:bI prog w B Γ l F c ρ h)(dH:F d=none)(hd:∀p∈Γ,p.addr≠d):bI prog w B Γ l (g0 F d o) c ρ h:=
 P.le (.upd dH) (λp ζ=>by rw[ke _ _ (hd p ζ)];exact(P.hP p ζ).1) λp ζ=>(P.hP p ζ).2
theorem bI.fresh(P:bI prog w B Γ l F c ρ h)(Ζ:h.get? d=none):∀p∈Γ,p.addr≠d:=λp ζ e=>by
 refine a8 (s7 ζ) λi hi=>?_;refine ψ ((P.places i p hi).there) λo ab H=>?_;rw[e,Ζ] at ab;contradiction
theorem cf.none_of(X:cf W F c h ω c' h')(S:a0 prog w B F c h)(hd:h.get? d=some o)(dH:F d=none)(Θ:c d=none):ω d=none/\c' d=none:=by
 constructor
 ·rcases q:ω d with _|_
  ·rfl
  ·rcases X.kT d (by rw[q];rfl) with r|r|r
   ·rw[dH] at r;contradiction
   ·rw[hd] at r;contradiction
   ·rw[Θ] at r;contradiction
 ·rcases q:c' d with _|_
  ·rfl
  ·rcases X.i9 d (by rw[q];rfl) with r|r
   ·rw[hd] at r;contradiction
   ·rw[Θ] at r;contradiction
theorem Ko{kk:Y}{es:I Υ}(b0:el es=true)(Τ:es.length<=1000)(h:π p A Γ l F c ρ (spliced (gF es env)) (jD p λxs ν Μ=>xs.length=es.length/\Q (.tup xs) ν Μ) Er){Β}:π p A Γ l F c ρ (eval (.Tuple es Β pos) env) (aZ p Q) Er:=by
 rw[arm_eval_Tuple,mM b0];refine .standAt (.bind (h.mono (λF₁ Μ ν vs le Φ H=>?_) id));obtain⟨xs,ba,a',q⟩:=Φ;have:=ba.length;exact λs S P f=>wpAny_newTuple (.wj S P f rfl λle=>⟨_,.tup (n:=0) (hQ _ _ _) (ba.mono le),q⟩) (by rw[hC];exact CP this a' Τ)
theorem Vz{es:I Υ}(b0:el es=true)(Τ:es.length<=1000)(h:π p A Γ l F c ρ (spliced (gF es env)) (jD p λxs ν Μ=>xs.length=es.length/\Q (.lst xs) ν Μ) Er):π p A Γ l F c ρ (eval (.List es pos) env) (aZ p Q) Er:=by
 rw[arm_eval_List,mM b0];refine .standAt (.bind (h.mono (λF₁ Μ ν vs le Φ H=>?_) id));obtain⟨xs,ba,a',q⟩:=Φ;have:=ba.length;exact λs S P f=>QS (.wj S P f rfl λle=>⟨_,.lst (n:=0) (hQ _ _ _) (ba.mono le),q⟩) (by rw[hC];exact CP this a' Τ)
theorem VA{es:I Υ}(ζ:p.Ok)(b0:el es=true)(Τ:es.length<=1000)(h:π p A Γ l F c ρ (spliced (gF es env)) (jD p λxs ν Μ=>xs.length=es.length/\∀a,Μ a=none->Q (.loc a) ν (upd Μ a (some (.lst xs)))) Er):π p A Γ l F c ρ (eval (.List es pos) env) (aZ p Q) Er:=by
 rw[arm_eval_List,mM b0];refine .standAt (.bind (h.mono (λF₁ Μ ν vs le Φ H=>?_) id));obtain⟨xs,ba,a',q⟩:=Φ;have:=ba.length;exact λs S P f=>QS (.JW ζ S P f (hO.lst (n:=0) ba) λΘ=>⟨_,.loc _,q _ Θ⟩) (by rw[hC];exact CP this a' Τ)
noncomputable def lU:I (ξ Υ)->I Y->aQ
 |[],bc=>bc.isEmpty
 |key::r,bc=>match key with
  |none=>false
  |some e=>jH false (hConstant:=λv H H=>match v with
   | .str x=>match bc with
    |[]=>false
    |k::bc=>iq k dB.length&&x==b6 k&&lU r bc
   |_=>false) e
theorem Kq{P:ξ Υ->I Y->Prop}{r:I (ξ Υ)}(ch:∀nN hn k k1,iq k dB.length=true->lU r k1=true->P (some (.Constant (.str (b6 k)) nN hn)) (k::k1)){key:ξ Υ}{bc:I Y}(h:lU (key::r) bc=true):P key bc:=by
 rcases key with _|e
 ·exact hE h
 ·cases e with
  |Constant v nN hn=>
   cases v with
   |str x=>
    rcases bc with _|⟨k,bc⟩
    ·exact hE h
    ·have h:=e5.mp h;have h':=e5.mp h.1;cases d5.mp h'.2;exact ch nN hn k bc h'.1 h.2
   |_=>exact hE h
  |_=>exact hE h
theorem VB{key:ξ Υ}{r:I (ξ Υ)}{bc:I Y}(h:lU (key::r) bc=true):∃nN hn k k1,key=some (.Constant (.str (b6 k)) nN hn)/\bc=k::k1/\(iq k dB.length=true/\lU r k1=true):=
 Kq (P:=λkey bc=>∃nN hn k k1,key=some (.Constant (.str (b6 k)) nN hn)/\bc=k::k1/\(iq k dB.length=true/\lU r k1=true)) (λnN hn k k1 Α Δ=>⟨nN,hn,k,k1,rfl,rfl,Α,Δ⟩) h
inductive o3(p:bP)(F:a2):I Y->I O->I (Λ×Λ)->Prop
 |nil:o3 p F [] [] []
 |cons {k t x v bc xs vs}:k<dB.length->au p.prog p.w F x v->o3 p F bc xs vs->o3 p F (k::bc) (x::xs) ((.str (b6 k) t,v)::vs)
theorem o3.mono{bc:I Y}{xs:I O}{vs:I (Λ×Λ)}(dH:cr F ω)(h:o3 p F bc xs vs):o3 p ω bc xs vs:=by
 induction h with
 |nil=>exact .nil
 |cons Η r _ Ξ=>exact .cons Η (r.mono dH) Ξ
theorem o3.done{bc:I Y}{xs:I O}{vs:I (Λ×Λ)}(h:o3 p F bc xs vs):allStrKeys vs=true/\RelK p.prog p.w F (bc.zip xs) (G6 vs)/\(G6 vs).map (·.1)=bc.map b6/\(∀k∈bc,k<dB.length):=by
 induction h with
 |nil=>exact p7 rfl .nil rfl (λH h=>(nomatch h))
 |cons Η r _ Ξ=>
  refine lH Ξ λa b c d=>?_;try clear Ξ
  exact p7 a (.cons Η r b) (by simp[G6,c]) (λk hm=>(eR.mp hm).elim (λe=>e▸Η) (d k))
theorem VC{bc:I Y}:bc.Nodup->(∀k∈bc,k<dB.length)->(bc.map b6).Nodup:=by
 induction bc with
 |nil=>
  exact λH H=>.nil
 |cons k bc Ξ=>
  exact λh Η=>by
   rw[tb] at h;rw[i4,tb];refine⟨λq=>?_,Ξ h.2 λj cQ=>Η j (.tail _ cQ)⟩;refine ψ (i5.mp q) λj cQ e=>?_;exact h.1 (vY (Η j (.tail _ cQ)) (Η k (.head _)) e▸cQ)
noncomputable def fj(p:bP)(A:gh)(Γ:I Place)(l:I bx)(env:bx)(Er:Prop):I Υ->a2->Ι->Ο->(I O->Ο->Ι->Prop)->Prop
 |[],_,c,ρ,Q=>Q [] ρ c
 |e::es,F,c,ρ,Q=>π p A Γ l F c ρ (eval e env) (aZ p λx ν Μ=>∀F₁,cr F F₁->fj p A Γ l env Er es F₁ Μ ν λxs=>Q (x::xs)) Er
theorem fj.zg{e:Υ}{es:I Υ}{F:a2}{c:Ι}{ρ:Ο}{Q:I O->Ο->Ι->Prop}:fj p A Γ l env Er (e::es) F c ρ Q=π p A Γ l F c ρ (eval e env) (aZ p λx ν Μ=>∀F₁,cr F F₁->fj p A Γ l env Er es F₁ Μ ν λxs=>Q (x::xs)) Er:=rfl
theorem fj.mono:∀{es:I Υ} {F:a2} {c:Ι} {ρ:Ο} {Q mE:I O->Ο->Ι->Prop},fj p A Γ l env Er es F c ρ Q->(∀xs ρ c,Q xs ρ c->mE xs ρ c)->fj p A Γ l env Er es F c ρ mE
 |[],_,_,_,_,_,h,av=>av _ _ _ h
 |e::es,_,_,_,_,_,h,av=>by
  rw[fj.zg] at h ⊢;refine h.mono (λF₁ Μ ν v le Φ=>?_) id;obtain⟨x,r,Φ⟩:=Φ;exact⟨x,r,λaY d3=>(Φ aY d3).mono λxs ρ c=>av _ _ _⟩
theorem fj.len:∀{es:I Υ} {F:a2} {c:Ι} {ρ:Ο} {Q:I O->Ο->Ι->Prop},fj p A Γ l env Er es F c ρ Q->fj p A Γ l env Er es F c ρ (λxs ρ c=>xs.length=es.length/\Q xs ρ c)
 |[],_,_,_,_,h=>⟨rfl,h⟩
 |e::es,_,_,_,_,h=>by
  rw[fj.zg] at h ⊢;refine h.mono (λF₁ Μ ν v le Φ=>?_) id;obtain⟨x,r,Φ⟩:=Φ;exact⟨x,r,λaY d3=>((Φ aY d3).len).mono λxs ρ c z=>⟨by simp[z.1],z.2⟩⟩
theorem fj.spliced:∀{es:I Υ} {F:a2} {c:Ι} {ρ:Ο} {Q:I O->Ο->Ι->Prop},fj p A Γ l env Er es F c ρ Q->π p A Γ l F c ρ (PySem.spliced (gF es env)) (jD p Q) Er
 |[],_,_,_,_,h=>.spliced_nil ⟨[],.nil,h⟩
 |e::es,F,_,_,_,h=>by
  rw[fj.zg] at h;refine .spliced_cons (h.mono (λF₁ Μ ν v le Φ aj0=>?_) id);obtain⟨x,r,Φ⟩:=Φ;refine(Φ F₁ le).spliced.mono (λaY az bg vs d3 Φ H=>?_) id;obtain⟨xs,ba,q⟩:=Φ;exact⟨x::xs,.cons (r.mono d3) ba,q⟩
theorem fj.pairs:∀{cS:I (ξ Υ)} {bc:I Y} {es:I Υ} {F:a2} {c:Ι} {ρ:Ο} {Q:I O->Ο->Ι->Prop},lU cS bc=true->cS.length=es.length->fj p A Γ l env Er es F c ρ Q->
 π p A Γ l F c ρ (evalPairs (pairTrees cS es env pos)) (λF₁ Μ ν vs=>∃xs,o3 p F₁ bc xs vs/\Q xs ν Μ) Er:=by
 intro cS
 induction cS with
 |nil=>
  intro bc es F c ρ Q Η Τ h;cases bc with
  |cons _ _=>contradiction
  |nil=>
   cases es with
   |cons _ _=>contradiction
   |nil=>exact λs S P f=>evalPairs_nil (.now S P f ⟨[],.nil,h⟩)
 |cons key cS Ξ=>
  intro bc es F c ρ Q Η Τ h;rcases es with _|⟨e,es⟩
  ·contradiction
  ·refine oL (VB Η) λnN hn k k1 aV aW ay=>?_;rcases aV with rfl;rcases aW with rfl;refine aa ay λΑ κ=>?_
   rw[fj.zg] at h;intro s S P f;refine pairTrees_cons_walk (wpAny_mkText (s:=s) (bR (h _ (S.grow λH H e=>e) (P.ext (.grow λH H e=>e)) f) (λv s₁ bG=>?_) λH H e=>⟨e.cK,e.v4,e.Ψ,e.ext,e.C0⟩));obtain⟨F₁,Μ,ν,X,dS,er,g2,x,ba,Φ⟩:=bG;refine bR (Ξ κ (ahE Τ) (Φ F₁ X.le) s₁ dS er g2) (λvs a5 c9=>?_) λH H e=>e.after X;obtain⟨aY,az,bg,eW,d7,ef,v5,xs,qm,q⟩:=c9;exact⟨aY,az,bg,X.trans eW,d7,ef,v5,x::xs,.cons (gX Α) (ba.mono eW.le) qm,q⟩
theorem VD{cS:I (ξ Υ)}:∀{bc:I Y},lU cS bc=true->cS.all (·.isSome)=true:=by
 induction cS with
 |nil=>intro _ _;rfl
 |cons key cS Ξ=>
  intro bc h;exact Kq (P:=λkey H=>(key::cS).all (·.isSome)=true) (λH H H H H h=>Ξ h) h
theorem VE{K:Type}[oA K]{knd:KeyKind prog w K}{kvs:I (K×Λ)}(D:h.DictOf knd d kvs)(e:h.get? d=some o)(aT:h'.get? d=some o):h'.DictOf knd d kvs:=by
 refine rE D λaU es dR ab r=>?_;try clear D
 rw[e] at ab;obtain rfl:=bQ ab;exact tv _ es dR aT r
theorem Kr{cS:I (ξ Υ)}{bc:I Y}{es:I Υ}{dd:I O->Ο->Ι->Prop}(Η:lU cS bc=true)(qn:bc.Nodup)(Τ:cS.length=es.length)(a':cS.length<=15)(h:fj p A Γ l env Er es F c ρ dd)(S:a0 p.prog p.w p.B F c s.heap)(P:bI p.prog p.w p.B Γ l F c ρ s.heap)(f:cu p s):
 aB p.M A (eval (.Dict cS es pos) env) (λu μ=>∃d ω c' aM o kvs xs,u= .ref d/\s.heap.get? d=none/\d=s.heap.objs.size/\ω d=none/\c' d=none/\cf (ee Γ) F c s.heap ω c' μ.heap/\a0 p.prog p.w p.B ω c' μ.heap/\bI p.prog p.w p.B Γ l ω c' aM μ.heap/\cu p μ/\
  μ.heap.get? d=some o/\o.IsDictOf (strKind p.prog p.w) kvs/\RelK p.prog p.w ω (bc.zip xs) kvs/\dd xs aM c') (cZ p Γ l c s Er) s:=by
 have n0:=ja s.heap;by_cases h0:cS=[]
 ·subst h0;cases bc with
  |cons _ _=>contradiction
  |nil=>
   cases es with
   |cons _ _=>contradiction
   |nil=>
    have k:∀b o,s.heap.get? b=some o->(s.heap.push {cls:=.type "dict",data:=.dict #[]}).get? b=some o:=λH H e=>hg _ e;refine ahF ⟨_,F,c,ρ,_,[],[],rfl,n0,rfl,(S.none_of n0).1,(S.none_of n0).2,.grow k,S.grow k,P.ext (.grow k),f,kO _ rfl,?_,.nil,h⟩;exact HH #[] 0 ⟨rfl,rfl,rfl⟩ rfl (λe h=>by simp at h) .nil .nil
 ·have k:∀b o,s.heap.get? b=some o->(s.heap.push lD).get? b=some o:=λH H e=>hg _ e;have r9:(s.heap.push lD).get? s.heap.objs.size=some lD:=kO _ rfl;have z:=S.none_of n0;refine wpAny_Dict_walk (knd:=strKind p.prog p.w) (VD Η) Τ h0 a' (bR (h.pairs Η Τ (pos:=pos) ⟨s.heap.push lD,s.gens,s.drawn,s.toks,s.os⟩ (S.grow k) (P.ext (.grow k)) f) (λvs s₁ bG=>?_) λH H e=>e.after (F:=F) (F₁:=F) (s₁:=⟨s.heap.push lD,s.gens,s.drawn,s.toks,s.os⟩) (.grow k));obtain⟨F₁,Μ,ν,X,dS,er,g2,xs,qm,q⟩:=bG;refine aa (X.none_of (S.grow k) r9 z.1 z.2) λo4 t3=>?_;refine display_done_str qm.done.1 (by rw[qm.done.2.2.1];exact VC qn qm.done.2.2.2) (VE (alf s.heap) r9 ?_) λh' fu σ=>?_
  ·exact X.keep _ _ r9 z.2 (λbe=>by(refine ψ be λpl ζ e=>?_;try clear be);exact P.fresh n0 pl ζ e)
  ·refine ψ (vu.mp fu) λo ab DA=>?_;have kk:∀b,b≠s.heap.objs.size->∀o,s₁.heap.get? b=some o->h'.get? b=some o:=λb Κ o e=>(σ.2 b Κ).trans e;refine nB s.heap.objs.size F₁ Μ ν o (G6 vs) xs rfl (⟨n0,rfl,o4,t3,((cf.grow k).trans X).past n0 kk,dS.past o4 t3 kk,er.past (P.fresh n0) kk ⟨o,ab,?_⟩,g2,ab,DA,qm.done.2.1,q⟩);refine fb DA λrN dR H e H=>?_;try clear DA
   exact λvs q=>by rw[e] at q;contradiction
theorem VF{cS:I (ξ Υ)}{bc:I Y}{es:I Υ}(ζ:p.Ok)(Η:lU cS bc=true)(qn:bc.Nodup)(Τ:cS.length=es.length)(a':cS.length<=15)(h:fj p A Γ l env Er es F c ρ λxs ρ c=>Q (.Ω (bc.zip xs)) ρ c):
 π p A Γ l F c ρ (eval (.Dict cS es pos) env) (aZ p Q) Er:=λs S P f=>bR (Kr Η qn Τ a' h S P f) (λu μ a4=>by
  apply vT a4;intro d ω c' aM o kvs xs dk;refine ny dk λn0 lV o4 t3 X cn dt i8 dg=>?_;try clear dk;refine lH dg λab hd cX q=>?_;try clear dg
  exact⟨_,c',aM,X.lT o4 n0,cn.lT o4 t3 ab,dt.lT o4 (P.fresh n0),i8,_,.Ω (lV▸rV ζ S) (hQ _ _ _) hd (cX.mono (.upd o4)),q⟩) λH H e=>e
theorem VG{cS:I (ξ Υ)}{bc:I Y}{es:I Υ}(ζ:p.Ok)(Η:lU cS bc=true)(qn:bc.Nodup)(Τ:cS.length=es.length)(a':cS.length<=15)(h:fj p A Γ l env Er es F c ρ λxs ρ c=>∀a,c a=none->Q (.loc a) ρ (upd c a (some (.Ω (bc.zip xs))))):
 π p A Γ l F c ρ (eval (.Dict cS es pos) env) (aZ p Q) Er:=λs S P f=>bR (Kr Η qn Τ a' h S P f) (λu μ a4=>by
  apply vT a4;intro d ω c' aM o kvs xs fh;refine ny fh λn0 lV o4 t3 X cn dt i8 f0=>?_;try clear fh;refine lH f0 λab hd cX q=>?_;try clear f0
  exact⟨ω,_,aM,X.wz n0,cn.wz o4 (lV▸rV ζ S) ab (.Ω hd cX),dt.wz (P.fresh n0),i8,_,.loc _,q d t3⟩) λH H e=>e
theorem VH(ζ:p.Ok)(h:∀a,c a=none->Q (.loc a) ρ (upd c a (some (.tab [])))):π p A Γ l F c ρ (eval (.Dict [] [] pos) env) (aZ p Q) Er:=λs S P f=>by
 refine ahF (.JW ζ S P f (hO.tab (kvs:=[]) ?_ .nil) λΘ=>⟨_,.loc _,h _ Θ⟩);exact HH #[] 0 ⟨rfl,rfl,rfl⟩ rfl (λe h=>by simp at h) .nil .nil
end
noncomputable def ho(e:Υ):aQ:=(bE e.ctorIdx 7).not
theorem VI{r:Υ}(h:ho r=true)(op:ju):behindInMarks op r=false:=by
 rcases r with ⟨⟩<;>first|rfl|contradiction
theorem DB{op:ju}{r:Υ}{t:dP Λ}(h:ho r=true):x9 [op] [r] [t]=[t]:=by
 show[ahG op r t]=[t];unfold ahG;rw[VI h]
theorem VJ{op hH:ju}{m r:Υ}{t u:dP Λ}(h:ho r=true):x9 [op,hH] [m,r] [t,u]=[t,u]:=by
 show t::x9 [hH] [r] [u]=_;rw[DB h]
noncomputable def Ks(e:Υ):aQ:=jH true (hUnaryOp:=λop H H=>match op with
 | .Not=>false
 |_=>true) (hBoolOp:=λH H H=>false) (hIfExp:=λH H H H=>false) (hCompare:=λH H H H=>false) e
set_option tactic.hygienic true in
theorem isTrue_plain{e:Υ}(h:Ks e=true)(env:bx)(whole:dP Λ):iu e env whole=(do let v <-whole;standAt e.pos;holding [v] (truthy v)):=by
 rcases e with ⟨⟩<;>first|rfl|(contradiction;done)|skip
 rename_i op x p;rcases op with ⟨⟩<;>first|rfl|contradiction
section
variable{α β:Type}{a b:O}{va c0:Λ}{fC:bo}{Pt Pf:Ο->Ι->Prop}{op:ju}{x y:Υ}{whole:dP Λ}
noncomputable def eu(Pt Pf:Ο->Ι->Prop)(_:a2)(c:Ι)(ρ:Ο)(b:aQ):Prop:=match b with
 |true=>Pt ρ c
 |false=>Pf ρ c
theorem zh{o:ξ aQ}{F₀:a2}(h:hR o (Pt ρ c) (Pf ρ c)):∃b,o=some b/\eu Pt Pf F₀ c ρ b:=by
 rcases o with _|b
 ·exact h.elim
 ·exact as b rfl (by rcases b with ⟨⟩<;>exact h)
theorem π.cmp{nO:aQ}{R:a2->Ι->Ο->Λ->Prop}(Χ:fw A l n)(am:au p.prog p.w F a va)(br:au p.prog p.w F b c0)(e:jF op a b=some nO)(h:R F c ρ (.bool nO)):π p A Γ l F c ρ (j' op va c0) R Er:=
 λs S P f=>Uj S (by have:=Χ.units;exact θ [_,_,i1] [] (.le (.a (.a (.v 0) (.c 64)) (.c 1)) (.v 2)) [(.le (.a (.a (.a (.v 0) (.m 20 (.v 1))) (.c 100)) (.c 1)) (.v 2))] [[1,1]] rfl this) am br e (.now S P f h)
theorem π.truthy{nO:aQ}{R:a2->Ι->Ο->aQ->Prop}(h:R F c ρ nO):π p A Γ l F c ρ (truthy (.bool nO)) R Er:=λs S P f=>wpAny_truthy_bool (.now S P f h)
theorem VK(h:π p A Γ l F c ρ (iu x env (eval x env)) (eu Pf Pt) Er):π p A Γ l F c ρ (iu (.UnaryOp .Not x pos) env whole) (eu Pt Pf) Er:=by
 show π p A Γ l F c ρ (iu x env (eval x env)>>= λb=>pure !b) _ _;refine .bind (h.mono (λF₁ Μ ν b le Κ H=>.pure ?_) id);rcases b with ⟨⟩<;>exact Κ
theorem VL(Ν:Ks x=true)(h:π p A Γ l F c ρ whole (aZ p λa ν Μ=>hR (Dd a) (Pt ν Μ) (Pf ν Μ)) Er):π p A Γ l F c ρ (iu x env whole) (eu Pt Pf) Er:=by
 rw[isTrue_plain Ν];refine .bind (h.mono (λF₁ Μ ν v le Φ H=>?_) id);obtain⟨a,am,Φ⟩:=Φ;refine ψ (zh (F₀:=F₁) Φ) λb e Κ=>?_;cases Tz e;rcases am.bool_inv with ⟨⟩
 exact .standAt (.holding (.truthy Κ))
theorem VM(Χ:fw A l n)(σ:ho y=true)(h:π p A Γ l F c ρ (eval x env) (aZ p λa ν Μ=>∀F₁,cr F F₁->π p A Γ l F₁ Μ ν (eval y env) (aZ p λb bg az=>hR (jF op a b) (Pt bg az) (Pf bg az)) Er) Er):
 π p A Γ l F c ρ (iu (.Compare x [op] [y] pos) env whole) (eu Pt Pf) Er:=by
 show π p A Γ l F c ρ (eval x env>>= λv=>QT pos v [op] (x9 [op] [y] [eval y env])) _ _;rw[DB σ];refine .bind (h.mono (λF₁ Μ ν va le γ H=>?_) id);obtain⟨a,am,γ⟩:=γ;show π p A Γ l F₁ Μ ν (holding [va] (eval y env)>>= λc6=>standAt pos>>= λH=>operate [va,c6] (j' op va c6)>>= λc=>holding [c] (truthy c)) _ _;refine .bind (.holding ((γ F₁ le).mono (λaY az bg c0 d3 Κ H=>?_) id));obtain⟨b,br,Κ⟩:=Κ;refine ψ (zh (F₀:=aY) Κ) λnO e Κ=>?_;exact .standAt (.bind (.operate (.cmp Χ (am.mono d3) br e λH=>.holding (.truthy Κ))))
theorem VN{hH:ju}{z:Υ}(Χ:fw A l n)(σ:ho z=true)(h:π p A Γ l F c ρ (eval x env) (aZ p λa ν Μ=>∀F₁,cr F F₁->π p A Γ l F₁ Μ ν (eval y env) (aZ p λb bg az=>
 hR (jF op a b) (∀aY,cr F aY->π p A Γ l aY az bg (eval z env) (aZ p λd hp cH=>hR (jF hH b d) (Pt hp cH) (Pf hp cH)) Er) (Pf bg az)) Er) Er):
 π p A Γ l F c ρ (iu (.Compare x [op,hH] [y,z] pos) env whole) (eu Pt Pf) Er:=by
 show π p A Γ l F c ρ (eval x env>>= λv=>QT pos v [op,hH] (x9 [op,hH] [y,z] [eval y env,eval z env])) _ _;rw[VJ σ];refine .bind (h.mono (λF₁ Μ ν va le γ H=>?_) id);obtain⟨a,am,γ⟩:=γ;show π p A Γ l F₁ Μ ν (holding [va] (eval y env)>>= λc6=>standAt pos>>= λH=>holding [va,c6] (j' op va c6)>>= λc=>release [va,c6] [c]>>= λH=>holding [c,c6] (truthy c)>>= λb=>if b then QT pos c6 [hH] [eval z env] else pure false) _ _;refine .bind (.holding ((γ F₁ le).mono (λaY az bg c0 d3 Κ H=>?_) id));obtain⟨b,br,Κ⟩:=Κ;rcases ab:jF op a b with _|nO
 ·rw[ab] at Κ;exact Κ.elim
 ·rw[ab] at Κ;refine .standAt (.bind (.holding (.cmp Χ (am.mono d3) br ab λH=>?_)));refine .release (.bind (.holding (.truthy λH=>?_)));rcases nO with _|_
  ·exact .pure Κ
  ·show π p A Γ l aY az bg (holding [c0] (eval z env)>>= λc6=>standAt pos>>= λH=>operate [c0,c6] (j' hH c0 c6)>>= λc=>holding [c] (truthy c)) _ _;refine .bind (.holding ((Κ aY (le.trans d3)).mono (λf6 cH hp aj1 t4 hd H=>?_) id));obtain⟨d,VO,hd⟩:=hd;refine ψ (zh (F₀:=f6) hd) λaj2 e hd=>?_;exact .standAt (.bind (.operate (.cmp Χ (br.mono t4) VO e λH=>.holding (.truthy hd))))
theorem VP(h:Pt ρ c):π p A Γ l F c ρ (oD .And [] env) (eu Pt Pf) Er:=.pure h
theorem VQ(h:Pf ρ c):π p A Γ l F c ρ (oD .Or [] env) (eu Pt Pf) Er:=.pure h
theorem VR(h:π p A Γ l F c ρ (iu x env (eval x env)) (eu (λν Μ=>∀F₁,cr F F₁->π p A Γ l F₁ Μ ν (oD .And es env) (eu Pt Pf) Er) Pf) Er):π p A Γ l F c ρ (oD .And (x::es) env) (eu Pt Pf) Er:=by
 show π p A Γ l F c ρ (iu x env (eval x env)>>= λb=>match ahH,b with| .And,false=>pure false| .Or,true=>pure true|_,_=>oD .And es env) _ _;refine .bind (h.mono (λF₁ Μ ν b le Κ H=>?_) id);rcases b with _|_
 ·exact .pure Κ
 ·exact Κ F₁ le
theorem VS(h:π p A Γ l F c ρ (iu x env (eval x env)) (eu Pt (λν Μ=>∀F₁,cr F F₁->π p A Γ l F₁ Μ ν (oD .Or es env) (eu Pt Pf) Er)) Er):π p A Γ l F c ρ (oD .Or (x::es) env) (eu Pt Pf) Er:=by
 show π p A Γ l F c ρ (iu x env (eval x env)>>= λb=>match BoolOp.Or,b with| .And,false=>pure false| .Or,true=>pure true|_,_=>oD .Or es env) _ _;refine .bind (h.mono (λF₁ Μ ν b le Κ H=>?_) id);rcases b with _|_
 ·exact Κ F₁ le
 ·exact .pure Κ
theorem Kt{Ku:BoolOp}(h:π p A Γ l F c ρ (oD Ku es env) (eu Pt Pf) Er):π p A Γ l F c ρ (iu (.BoolOp Ku es pos) env whole) (eu Pt Pf) Er:=h
theorem DC(Χ:fw A l n)(σ:ho y=true)(h:π p A Γ l F c ρ (eval x env) (aZ p λa ν Μ=>∀F₁,cr F F₁->π p A Γ l F₁ Μ ν (eval y env) (aZ p λb bg az=>hR (jF op a b) (Pt bg az) (Pf bg az)) Er) Er):
 π p A Γ l F c ρ (eval (.Compare x [op] [y] pos) env) (λF c ρ v=>∃b,v= .bool b/\eu Pt Pf F c ρ b) Er:=by
 rw[arm_eval_Compare];show π p A Γ l F c ρ (eval x env>>= λv=>compareChain pos v [op] (x9 [op] [y] [eval y env])) _ _;rw[DB σ];refine .bind (h.mono (λF₁ Μ ν va le γ H=>?_) id);obtain⟨a,am,γ⟩:=γ;show π p A Γ l F₁ Μ ν (holding [va] (eval y env)>>= λc6=>standAt pos>>= λH=>operate [va,c6] (j' op va c6)) _ _;refine .bind (.holding ((γ F₁ le).mono (λaY az bg c0 d3 Κ H=>?_) id));obtain⟨b,br,Κ⟩:=Κ;refine ψ (zh (F₀:=aY) Κ) λnO e Κ=>?_;exact .standAt (.operate (.cmp Χ (am.mono d3) br e ⟨nO,rfl,Κ⟩))
theorem Kv{t:dP Λ}(h:π p A Γ l F c ρ t (λF c ρ v=>∃b,v= .bool b/\eu (Q (.bool true)) (Q (.bool false)) F c ρ b) Er):π p A Γ l F c ρ t (aZ p Q) Er:=
 h.mono (λF₁ Μ ν v le Φ=>by
  apply mz Φ;intro b Κ;refine⟨_,.bool b,?_⟩;rcases b with ⟨⟩<;>exact Κ) id
theorem VT{DD DE:Υ}(h:π p A Γ l F c ρ (eval DD env) (λF₀ c ρ v=>∃b,v= .bool b/\eu (λν Μ=>∀F₁,cr F F₁->π p A Γ l F₁ Μ ν (eval DE env) (λF c ρ v=>∃b,v= .bool b/\eu Pt Pf F c ρ b) Er) Pf F₀ c ρ b) Er):
 π p A Γ l F c ρ (eval (.BoolOp .And [DD,DE] pos) env) (λF c ρ v=>∃b,v= .bool b/\eu Pt Pf F c ρ b) Er:=by
 rw[arm_eval_BoolOp];show π p A Γ l F c ρ (eval DD env>>= λv=>standAt pos>>= λH=>holding [v] (truthy v)>>= λt=>match ahH,t with| .And,false| .Or,true=>pure v|_,_=>boolOp pos .And [eval DE env]) _ _;refine .bind (h.mono (λF₁ Μ ν v le Φ H=>?_) id);apply mz Φ;intro b Κ;refine .standAt (.bind (.holding (.truthy λH=>?_)));rcases b with _|_
 ·exact .pure ⟨false,rfl,Κ⟩
 ·exact Κ F₁ le
noncomputable def t5(o:ξ Υ):ξ (ξ J):=match o with
 |none=>some none
 |some e=>jH none (hConstant:=λv H H=>match v with
  | .int n=>some (some n)
  |_=>none) (hUnaryOp:=λop x H=>match op with
  | .USub=>jH none (hConstant:=λv H H=>match v with
   | .int n=>some (some (-n))
   |_=>none) x
  |_=>none) e
noncomputable def zi:ξ J->ξ J->aQ
 |none,some (.ofNat _)=>true
 |some (.ofNat _),none=>true
 |none,some (.negSucc _)=>true
 |_,_=>false
theorem VU{P:ξ Υ->ξ J->Prop}(ch:P none none)(c5:∀n a b,P (some (.Constant (.int n) a b)) (some n))(fy:∀n a b c,P (some (.UnaryOp .USub (.Constant (.int n) a b) c)) (some (-n))){e:ξ Υ}{k:ξ J}(h:t5 e=some k):P e k:=by
 rcases e with _|e
 ·exact bQ h▸ch
 ·cases e with
  |Constant v a b=>
   cases v with
   |int n=>exact bQ h▸c5 n a b
   |_=>exact d6 h
  |UnaryOp op e c=>
   cases op with
   |USub=>
    cases e with
    |Constant v a b=>
     cases v with
     |int n=>exact bQ h▸fy n a b c
     |_=>exact d6 h
    |_=>exact d6 h
   |_=>exact d6 h
  |_=>exact d6 h
theorem Kw{e:ξ Υ}{k:ξ J}(h:t5 e=some k){E:Λ->ah->Prop}{Qv:Λ->ah->Prop}(av:∀v tk,IsPart v k->Qv v {s with toks:=tk}):aB p.M A (evalPart e env) Qv E s:=by
 revert av;refine VU (P:=λe k=>(∀v tk,IsPart v k->Qv v {s with toks:=tk})->aB p.M A (evalPart e env) Qv E s) (λav=>cy (av _ _ .none)) (λn a b av=>QR (av _ _ (.int _ _))) (λn jC VV VW av=>?_) h;show aB p.M A (eval (.UnaryOp .USub (.Constant (.int n) jC VV) VW) env) Qv E s;rw[ahC];exact aI (QR (aI (mr (oB (ahD (av _ _ (.int _ _)))))))
theorem bA.take{xs:I O}:∀{vs:I Λ} (k:Y),bA p.prog p.w F xs vs->bA p.prog p.w F (xs.take k) (vs.take k):=by
 induction xs with
 |nil=>intro vs k h;rcases h with ⟨⟩;simp;exact .nil
 |cons x xs Ξ=>
  intro vs k h;cases h with
  |cons r rs=>
   rcases k with _|k
   ·exact .nil
   ·exact .cons r (Ξ k rs)
theorem bA.drop{xs:I O}:∀{vs:I Λ} (k:Y),bA p.prog p.w F xs vs->bA p.prog p.w F (xs.drop k) (vs.drop k):=by
 induction xs with
 |nil=>intro vs k h;rcases h with ⟨⟩;simp;exact .nil
 |cons x xs Ξ=>
  intro vs k h;cases h with
  |cons r rs=>
   rcases k with _|k
   ·exact .cons r rs
   ·exact Ξ k rs
theorem VX{P:ξ J->ξ J->Prop}(ch:∀k:Y,P none (some (.ofNat k)))(c5:∀k:Y,P (some (.ofNat k)) none)(fy:∀k:Y,P none (some (.negSucc k))){lo hi:ξ J}(h:zi lo hi=true):P lo hi:=by
 cases lo with
 |none=>cases hi with
  |none=>exact hE h
  |some i=>cases i with
   |ofNat k=>exact ch k
   |negSucc k=>exact fy k
 |some i=>cases hi with
  |none=>cases i with
   |ofNat k=>exact c5 k
   |negSucc k=>exact hE h
  |some j=>cases i<;>exact hE h
theorem VY{xs:I O}{vs:I Λ}{lo hi:ξ J}(r:bA p.prog p.w F xs vs)(h:zi lo hi=true):∃gn,slicePick vs.toArray lo hi none=gn.toArray/\bA p.prog p.w F (wc xs lo hi) gn:=by
 refine VX (P:=λlo hi=>∃gn,slicePick vs.toArray lo hi none=gn.toArray/\bA p.prog p.w F (wc xs lo hi) gn) (λk=>⟨_,slicePick_upto' _ k,r.take k⟩) (λk=>⟨_,slicePick_from' _ k,r.drop k⟩) (λk=>?_) h;refine as _ (slicePick_butLast vs.toArray (k+1) (tE)) ?_;show bA _ _ _ (xs.take (xs.length - (k+1))) _;rw[<-r.length];have:=r.take (vs.length - (k+1));simpa using this
theorem VZ{r' sa:ξ J}{K:O->Prop}(h:De a r' sa K):∃xs,a= .lst xs/\xs.length<=10000/\K (.lst (wc xs r' sa)):=by
 rcases a with ⟨⟩<;>first|exact h.elim|exact dj _ rfl h.1 h.2
theorem V0{lo hi:ξ Υ}{r' sa:ξ J}{V1:bo}(Α:t5 lo=some r')(Δ:t5 hi=some sa)(κ:zi r' sa=true)(h:π p A Γ l F c ρ (eval x env) (aZ p λa ν Μ=>De a r' sa λv=>Q v ν Μ) Er)(δ:∀o r,ahI x o r=pure ()):π p A Γ l F c ρ (eval (.Subscript x (.Slice lo hi none V1) pos) env) (aZ p Q) Er:=λs S P f=>by
 refine wpAny_Subscript_list_slice (bR (h s S P f) (λv s₁ bG=>?_) λH H e=>e) δ;obtain⟨F₁,Μ,ν,X,dS,er,g2,a,am,γ⟩:=bG;refine Kw Α λhT aj3 c5=>Kw Δ λmR aj4 fy=>?_
 ·refine ix (VZ γ) λxs bM a' q=>?_;rcases bM with rfl
  apply gk am.lst_inv;intro vs bm m o5 de;refine ψ (VY de κ) λgn e ww=>?_;refine yx bm vs.toArray r' sa rfl ⟨_,dS.frozen _ _ o5,rfl,m,rfl⟩ (by rw[hC];simp only[i3];exact cJ de.length a' rfl) c5 ⟨fy,?_⟩;have f4:∀b o,s₁.heap.get? b=some o->(s₁.heap.push {cls:=.type "slice",data:=.fields #[hT,mR,.none]}).get? b=some o:=λH H e=>hg _ e;have wt:cf (λH=>aK) F₁ Μ s₁.heap F₁ Μ (s₁.heap.push {cls:=.type "slice",data:=.fields #[hT,mR,.none]}):=.grow f4;have z:(s₁.heap.push {cls:=.type "slice",data:=.fields #[hT,mR,.none]}).objs.size=s₁.heap.objs.size+1:=QJ ..;rw[e,<-z];refine dm.after (s₁:={s₁ with heap:=s₁.heap.push {cls:=.type "slice",data:=.fields #[hT,mR,.none]}}) (X.trans (wt.weaken λ_ (z:aK)=>z.elim)) ?_;exact dm.wj (s:={s₁ with heap:=s₁.heap.push {cls:=.type "slice",data:=.fields #[hT,mR,.none]}}) (o:=listOf gn.toArray 0) (dS.grow f4) (er.ext wt) g2 rfl λle=>⟨_,.lst (n:=0) (hQ _ _ _) (ww.mono le),q⟩
end
section
variable{α β:Type}{a b:O}{va c0:Λ}{fC:bo}{x y:Υ}{ns:I (φ×ez)}{sc:I (φ×Y)}
theorem DF{x:φ}{i:Y}{v:O}{u:Λ}{R:a2->Ι->Ο->gx->Prop}(bt:dK p env Γ ns sc)(Ν:sc.lookup x=some i)(r:au p.prog p.w F v u)(h:R F c (eU ρ i (some v)) ()):π p A Γ l F c ρ (storeName env x u) R Er:=λs S P f=>by
 rcases((bt.places x i Ν)).2 with ⟨Η,dL⟩|⟨Η,a,Θ,dL⟩
 ·have hm:∃m,s.heap.Ns env.locals m:=by
   have:=(P.places i _ dL).place;exact this
  refine a8 hm λm hm=>?_;refine wpAny_storeName_local (by unfold ms;rw[bt.names];exact Η) hm (λh' d2 σ=>?_) (by rw[bt.kind];rfl);refine e7 (P.store S dL r (h':=h') σ ⟨m,hm,d2⟩) λcn X dt=>?_;exact⟨F,c,_,X,cn,dt,f,h⟩
 ·have hm:∃Kx,s.heap.IsCell a Kx:=by
   have:=P.places i _ dL;rcases q:hN ρ i with _|ek
   ·rw[q] at this;exact this
   ·rw[q] at this;(refine ψ this λv Ε H=>?_;try clear this);exact⟨_,Ε⟩
  refine a8 hm λKx hm=>?_;refine wpAny_storeName_cell bt.kind (by unfold ms;rw[bt.names];exact Η) Θ hm λh' d2 σ=>?_;refine e7 (P.store S dL r (h':=h') σ d2) λcn X dt=>?_;exact⟨F,c,_,X,cn,dt,f,h⟩
theorem DG{x:φ}{i:Y}{v:O}{u:Λ}{R:a2->Ι->Ο->gx->Prop}(bt:dK p env Γ ns sc)(Ν:sc.lookup x=some i)(r:au p.prog p.w F v u)(h:R F c (eU ρ i (some v)) ()):π p A Γ l F c ρ (hD (.Name x pos) env u) R Er:=λs S P f=>
 aI (mr (QU (DF bt Ν r h s S P f)))
noncomputable def k2:I Υ->I (φ×Y)->I Y->aQ
 |[],_,is=>is.isEmpty
 |e::r,sc,is=>jH false (hName:=λx H=>match is with
  |[]=>false
  |i::is=>sc.lookup x==some i&&k2 r sc is) e
theorem V2{P:Υ->I Y->Prop}{r:I Υ}(ch:∀x ec i jK,sc.lookup x=some i->k2 r sc jK=true->P (.Name x ec) (i::jK)){e:Υ}{is:I Y}(h:k2 (e::r) sc is=true):P e is:=by
 cases e with
 |Name x ec=>
  rcases is with _|⟨i,is⟩
  ·exact hE h
  ·exact have h:=e5.mp h;ch _ _ _ _ (d5.mp h.1) h.2
 |_=>exact hE h
theorem DH{e:Υ}{r:I Υ}{is:I Y}(h:k2 (e::r) sc is=true):∃x ec i jK,e= .Name x ec/\is=i::jK/\sc.lookup x=some i/\k2 r sc jK=true:=
 V2 (P:=λe is=>∃x ec i jK,e= .Name x ec/\is=i::jK/\sc.lookup x=some i/\k2 r sc jK=true) (λx ec i jK Α Δ=>⟨x,ec,i,jK,rfl,rfl,Α,Δ⟩) h
theorem V3{is:I Y}(h:k2 [] sc is=true):is=[]:=by
 rcases is with _|⟨_,_⟩
 ·rfl
 ·contradiction
theorem V4{es:I Υ}:∀{is:I Y},k2 es sc is=true->(nu es env).map (·.1)=es.map λH=>false:=by
 induction es with
 |nil=>intro _ _;rfl
 |cons e r Ξ=>
  intro is h;apply Cj (DH h);intro x ec i jK aW _ Δ;rcases aW with rfl
  show false::(nu _ env).map (·.1)=_;rw[Ξ Δ];rfl
theorem Ky:∀{es:I Υ} {is:I Y},k2 es sc is=true->(nu es env).length=es.length/\(nu es env).findIdx? (·.1)=none:=by
 intro es is h;have Α:=V4 (env:=env) h;refine⟨by have:=cE mu Α;simpa using this,?_⟩;rw[List.findIdx?_eq_none_iff];intro q av;have:q.1∈(nu es env).map (·.1):=vw av;rw[Α] at this;simp at this;exact this.2
theorem V5:∀{es:I Υ} {is:I Y} {xs:I O} {vs:I Λ} {ρ:Ο} {K:Ο->Prop},dK p env Γ ns sc->k2 es sc is=true->bA p.prog p.w F xs vs->hk.go is xs ρ K->
 π p A Γ l F c ρ (BN ((nu es env).map (·.2)) vs) (λω c' aM H=>c'=c/\K aM) Er:=by
 intro es
 induction es with
 |nil=>
  intro is xs vs ρ K bt h r aO;cases is with
  |cons _ _=>contradiction
  |nil=>
   cases xs with
   |cons _ _=>exact aO.elim
   |nil=>rcases r with ⟨⟩;exact .pure ⟨rfl,aO⟩
 |cons e es Ξ=>
  intro is xs vs ρ K bt h r aO;apply Cj (DH h);intro x ec i jK aW Α Δ;rcases aW with rfl
  rcases xs with _|⟨v,xs⟩
  ·exact aO.elim
  ·cases r with
   |@cons _ u _ vs c6 V6=>
    show π p A Γ l F c ρ (holding vs (hD (.Name x ec) env u)>>= λH=>BN ((nu es env).map (·.2)) vs) _ _;refine .bind (.holding (DG bt Α c6 (R:=λω c' aM H=>cr F ω->π p A Γ l ω c' aM (BN ((nu es env).map (·.2)) vs) (λω c' aM H=>c'=c/\K aM) Er) λH=>?_));exact Ξ bt Δ V6 aO
noncomputable def zj(sc:I (φ×Y))(e:Υ):ξ Y:=jH none (hName:=λx H=>sc.lookup x) e
noncomputable def k3(sc:I (φ×Y))(e:Υ):ξ ki:=jH none (hName:=λx H=>(sc.lookup x).map .var) (hTuple:=λes H H=>(es.mapM (zj sc)).map .tup) e
theorem V7{P:Υ->Prop}{i:Y}(ch:∀x ec,sc.lookup x=some i->P (.Name x ec)){e:Υ}(h:zj sc e=some i):P e:=by
 cases e with
 |Name x ec=>exact ch x ec h
 |_=>exact d6 h
theorem V8{es:I Υ}:∀{is:I Y},(es.mapM (zj sc))=some is->k2 es sc is=true:=by
 induction es with
 |nil=>intro is h;obtain rfl:=bQ h;rfl
 |cons e r Ξ=>
  intro is h;rw[List.mapM_cons] at h;refine ψ (ahJ.mp h) λi Α Δ=>ψ (ahJ.mp Δ) λjK κ ay=>?_;cases bQ ay;exact V7 (P:=λe=>k2 (e::r) sc (i::jK)=true) (λx ec h=>e5.mpr ⟨d5.mpr h,Ξ κ⟩) Α
theorem V9{P:Υ->ki->Prop}(ch:∀x p i,sc.lookup x=some i->P (.Name x p) (.var i))(c5:∀es Β ec is,es.mapM (zj sc)=some is->P (.Tuple es Β ec) (.tup is)){tgt:Υ}{tg:ki}(h:k3 sc tgt=some tg):P tgt tg:=by
 cases tgt with
 |Name x p=>exact(mq.mp h).elim λi q=>q.2▸ch x p i q.1
 |Tuple es Β ec=>exact(mq.mp h).elim λi q=>q.2▸c5 es Β ec i q.1
 |_=>exact d6 h
theorem t6{tgt:Υ}{tg:ki}{v:O}{u:Λ}{K:Ο->Prop}(bt:dK p env Γ ns sc)(bJ:A.handled=none)(δ:k3 sc tgt=some tg)(r:au p.prog p.w F v u)(h:hk tg v ρ K):
 π p A Γ l F c ρ (hD tgt env u) (λω c' aM H=>c'=c/\K aM) Er:=by
 revert h;refine V9 (P:=λtgt tg=>hk tg v ρ K->π p A Γ l F c ρ (hD tgt env u) (λω c' aM H=>c'=c/\K aM) Er) (λx ec i Ν h=>DG bt Ν r ⟨rfl,h⟩) (λes Β ec is hm h=>?_) δ
 ·skip
  cases v with
  |tup xs=>
   apply gk r.mK;intro vs V' m γ de;have Ζ:=V8 hm;intro s S P f;have a':es.length=vs.length:=by
    rw[de.length];have:∀{es:I Υ} {is:I Y} {xs:I O} {ρ:Ο},k2 es sc is=true->hk.go is xs ρ K->es.length=xs.length:=by
     intro es
     induction es with
     |nil=>
      intro is xs ρ Ζ aO;cases V3 Ζ;cases xs with
      |cons _ _=>exact aO.elim
      |nil=>rfl
     |cons e es Ξ=>
      intro is xs ρ Ζ aO;apply Cj (DH Ζ);intro x ec i jK dk _ Δ;rcases dk with rfl
      rcases xs with _|⟨x,xs⟩
      ·exact aO.elim
      ·simp[Ξ Δ aO]
    exact this Ζ h
   refine wpAny_assign_Tuple bJ (Dj S γ) (by rw[((Ky (env:=env) Ζ)).1,a'];simp) ((Ky (env:=env) Ζ)).2 λh' Ν=>?_;have k:∀b o,s.heap.get? b=some o->h'.get? b=some o:=λb o e=>Ν b o (vy (jv e)) e;refine bR (V5 (es:=es) (vs:=vs) bt Ζ de h {s with heap:=h'} (S.grow k) (P.ext (.grow k)) f) (λH s₁ bG=>?_) λH H e=>e.after (F:=F) (F₁:=F) (s₁:={s with heap:=h'}) (.grow k);exact bG.after (s₁:={s with heap:=h'}) (.grow k)
  |_=>exact h.elim
end
noncomputable def t7(e:Υ):aQ:=bE e.ctorIdx 25
noncomputable def Off(bD:I ε)(F:a2)(c:Ι):Prop:=∀b∈bD,F b=none/\c b=none
structure lW(p:bP)(A:gh)(tgt:Υ)(aG:ε)(bD:I ε)(St:I O->a2->bK->Prop):Prop where
 frame:∀xs F h ω h',St xs F h->cr F ω->(∀a o,ω a=some o->h'.get? a=some o)->(∀b∈bD,∀o,h.get? b=some o->h'.get? b=some o)->St xs ω h'
 there:∀xs F h,St xs F h->∀b∈bD,∃o,h.get? b=some o
 item:∀x xs F c (s:ah) (E:Λ->ah->Prop),St (x::xs) F s.heap->a0 p.prog p.w p.B F c s.heap->Off bD F c->cu p s->
  aB p.M A (BO (.ref aG)) (λr s₁=>∃v,r=some v/\aB p.M A (rv tgt (.ref aG) v) (λH μ=>∃ω,au p.prog p.w ω x v/\St xs ω μ.heap/\a0 p.prog p.w p.B ω c μ.heap/\cf (·∈bD) F c s.heap ω c μ.heap/\Off bD ω c/\cu p μ) E s₁) E s
 done:∀F c (s:ah) (E:Λ->ah->Prop),St [] F s.heap->a0 p.prog p.w p.B F c s.heap->Off bD F c->cu p s->
  aB p.M A (BO (.ref aG)) (λr μ=>r=none/\a0 p.prog p.w p.B F c μ.heap/\(∀b o,b∉bD->s.heap.get? b=some o->μ.heap.get? b=some o)/\cu p μ) E s
 self:∀xs F (s:ah) (Q:Λ->ah->Prop) (E:Λ->ah->Prop),St xs F s.heap->Q (.ref aG) s->aB p.M A (oE (.ref aG)) Q E s
section
variable{α β:Type}{a b:O}{va c0:Λ}{fC:bo}{x y tgt:Υ}{ns:I (φ×ez)}{sc:I (φ×Y)}{h h':bK}{W:ε->Prop}
theorem bI.Kz{prog:he}{w:e4}{B:bK}(P:bI prog w B Γ l F c ρ h)(X:cf W F c h ω c' h')(qo:∀p∈Γ,¬W p.addr):bI prog w B Γ l ω c' ρ h':=by
 have at_:∀p∈Γ,∃o,h.get? p.addr=some o:=λp ζ=>by
  refine a8 (s7 ζ) λi hi=>?_;refine ψ ((P.places i p hi).there) λo e H=>?_;exact⟨o,e⟩
 refine⟨P.len,λi p hi=>?_,P.nodup,λp ζ=>?_,FunFrames.ext X.c4 P.frames⟩
 ·have ζ:=j8 hi;refine a8 (at_ p ζ) λo e=>?_;exact(P.places i p hi).mono X.le e (X.keep _ _ e (P.hP p ζ).2 (qo p ζ))
 ·refine a8 (at_ p ζ) λo e=>?_;refine aa (P.hP p ζ) λkd bq=>?_;constructor
  ·rcases q:ω p.addr with _|_
   ·rfl
   ·rcases X.kT p.addr (by rw[q];rfl) with r|r|r
    ·rw[kd] at r;contradiction
    ·rw[e] at r;contradiction
    ·rw[bq] at r;contradiction
  ·exact X.yO e bq
noncomputable def DI(M:rj)(A:gh)(aG:ε)(v:Λ)(Q:gx->ah->Prop)(E:Λ->ah->Prop)(s:ah)(tgt:Υ):Prop:=aB M A (rv tgt (.ref aG) v) Q E s
theorem Wa{P:Υ->Prop}{it v:Λ}(ch:∀es k cw,P (.Tuple es k cw))(c5:∀es cw,P (.List es cw))(fy:∀e,rv e it v=pure ()->P e)(e:Υ):P e:=by
 cases e with
 |Tuple es k cw=>exact ch es k cw
 |List es cw=>exact c5 es cw
 |_=>exact fy _ rfl
theorem Wb{T:hh}{aG:ε}{v:Λ}{o:cU}{M:rj}{sb:gx->ah->Prop}{E:Λ->ah->Prop}(ab:s.heap.get? aG=some o)(Θ:o.cls= .type T)(Ζ:["enumerate","zip","dict_itemiterator","dict_reverseitemiterator","odict_iterator","itertools.zip_longest","itertools.pairwise"].contains T=false)(h:sb () s):aB M A (rv tgt (.ref aG) v) sb E s:=by
 have KA:∀a:ε,aB M A (do
  let o <-load aG
  match o.cls,o.data with
  | .type n,.fields vs=>
   if ["enumerate","zip","dict_itemiterator","dict_reverseitemiterator","odict_iterator","itertools.zip_longest","itertools.pairwise"].contains n&&vs[0]?==some (gi a) then
    rule "for.unpacks-the-owned-tuple"
    updateField aG 0 .none
  |_,_=>pure ()) sb E s:=λa=>by
  refine aI (wpAny_load ab ?_);rw[Θ];cases o.data with
  |fields vs=>
   dsimp only;rw[Ζ];exact cy h
  |_=>exact cy h
 have two:∀es k cw rN KC,DI M A aG v sb E s (.Tuple es k cw)/\DI M A aG v sb E s (.List rN KC):=λes k cw rN KC=>by
  cases v with
  |ref a=>exact⟨KA a,KA a⟩
  |_=>exact⟨cy h,cy h⟩
 exact Wa (P:=DI M A aG v sb E s) (λes k cw=>(two es k cw es cw).1) (λes cw=>(two es 0 cw es cw).2) (λe aH=>by show aB M A (rv e (.ref aG) v) sb E s;rw[aH];exact cy h) tgt
theorem lW.turn{aG:ε}{bD:I ε}{St:I O->a2->bK->Prop}(W:lW p A tgt aG bD St){items:I O}{K:ξ Λ->ah->Prop}{E:Λ->ah->Prop}(st:St items F s.heap)(S:a0 p.prog p.w p.B F c s.heap)(bX:Off bD F c)(Ψ:cu p s)(h0:items=[]->∀μ,a0 p.prog p.w p.B F c μ.heap->(∀b o,b∉bD->s.heap.get? b=some o->μ.heap.get? b=some o)->cu p μ->K none μ)(Α:∀x xs,items=x::xs->∀v s₁,aB p.M A (rv tgt (.ref aG) v) (λH μ=>∃ω,au p.prog p.w ω x v/\St xs ω μ.heap/\a0 p.prog p.w p.B ω c μ.heap/\cf (·∈bD) F c s.heap ω c μ.heap/\Off bD ω c/\cu p μ) E s₁->K (some v) s₁):
 aB p.M A (BO (.ref aG)) K E s:=by
 rcases items with _|⟨x,xs⟩
 ·exact bR (W.done F c s E st S bX Ψ) (λr μ h=>lH h λe a b d=>e▸h0 rfl μ a b d) λH H e=>e
 ·exact bR (W.item x xs F c s E st S bX Ψ) (λr μ h=>ψ h λv e h=>e▸Α x xs rfl v μ h) λH H e=>e
theorem cf.kept{W:ε->Prop}{F₀ F₁:a2}{wA Μ:Ι}{ia bG c9:bK}{bD:I ε}(X:cf W F₀ wA ia F₁ Μ bG)(f5:∀b∈bD,ia.get? b=none)(keep:∀b o,b∉bD->bG.get? b=some o->c9.get? b=some o):cf W F₀ wA ia F₁ Μ c9:=
 ⟨X.le,λb o e Θ bC=>keep b o (λΚ=>d6 ((f5 b Κ).symm.trans e)) (X.keep b o e Θ bC),λb o e=>ψ (X.c4 b o e) λaU aT n=>⟨aU,keep b aU (λΚ=>d6 ((f5 b Κ).symm.trans e)) aT,n⟩,X.i9,X.kT⟩
theorem lW.ofWalks{aG:ε}{KD:I ε}{P:Y->Λ->Prop}{St:Y->bK->Prop}{items:I O}{T:hh}{F₀:a2}(W:Walks p.prog p.w A aG KD [aG] n P St)(Ζ:items.length=n)(jL:∀i v,P i v->∃x,items[i]?=some x/\au p.prog p.w F₀ x v)(dn:∀i h,St i h->∃o vs,h.get? aG=some o/\o.cls= .type T/\o.data= .fields vs)(Wc:∀b∈KD,b=aG∨∃o,F₀ b=some o)(cj:["enumerate","zip","dict_itemiterator","dict_reverseitemiterator","odict_iterator","itertools.zip_longest","itertools.pairwise"].contains T=false):
 lW p A tgt aG [aG] (λxs F h=>cr F₀ F/\(∀a o,F a=some o->h.get? a=some o)/\∃i,i<=n/\xs=items.drop i/\St i h):=by
 refine⟨λxs F h ω h' st le i' k=>?_,λxs F h st b Κ=>?_,λx xs F c s E st S bX Ψ=>?_,λF c s E st S bX Ψ=>?_,λxs F s Q E st q=>?_⟩
 ·refine e7 st λdI nP aV=>?_;try clear st;refine ix aV λi hi Ν st=>?_;try clear aV
  refine ft (dI.trans le) i' ⟨i,hi,Ν,W.frame i h h' st λb Κ o e=>?_⟩;rcases Wc b Κ with rfl|⟨aU,aT⟩
  ·exact k b (by simp) o e
  ·have bd:=nP b aU (dI _ _ aT);rw[e] at bd;obtain rfl:=bQ bd;exact i' b o (le _ _ (dI _ _ aT))
 ·refine e7 st λH H aW=>?_;try clear st;refine ix aW λi H H st=>?_;try clear aW
  refine gy (dn i h st) λo vs e H=>?_;simp at Κ;subst Κ;exact⟨o,e⟩
 ·refine e7 st λdI nP bM=>?_;try clear st;refine ix bM λi hi Ν st=>?_;try clear bM
  have dh:i<n:=by
   rcases oF i n with h|h
   ·exact h
   ·rw[List.drop_eq_nil_of_le (Jj Ζ h)] at Ν;contradiction
  have Wd:items[i]?=some x:=by
   have:=cE (·[0]?) Ν;simpa using this.symm
  refine W.item i s _ E dh st λv h' tk We KE k=>⟨v,rfl,?_⟩;refine ψ (jL i v We) λqk qp r=>?_;rw[Wd] at qp;obtain rfl:=bQ qp;refine fb (dn _ _ KE) λo vs bd bk du=>?_;refine fb (dn _ _ st) λWf Wg Wh KG Wi=>?_;have kk:∀b,b≠aG->∀o,s.heap.get? b=some o->h'.get? b=some o:=λb Κ o e=>k b o (by simpa using Κ) e;have KH:=bX aG (by simp);have cn:=S.past (h':=h') KH.1 KH.2 kk;refine Wb (s:={s with heap:=h',toks:=tk}) bd bk cj ⟨F,r.mono dI,⟨dI,cn.frozen,i+1,dh,?_,KE⟩,cn,⟨.refl _,λb o e H Κ=>k b o Κ e,λb o e=>?_,λH e=>.inr e,λH e=>.inl e⟩,bX,Ψ⟩
  ·rw[<-ahK,<-Ν];rfl
  ·by_cases q:b=aG
   ·subst q;rw[Wh] at e;obtain rfl:=bQ e;exact as o bd (λiC=>absurd Wi (iC Wg))
   ·exact as o (kk b q o e) id
 ·refine e7 st λdI nP cN=>?_;try clear st;refine ix cN λi hi Ν st=>?_;try clear cN
  have o6:i=n:=by
   rcases oF i n with h|h
   ·have:=cE mu Ν;simp at this;omega
   ·exact vn hi h
  subst o6;refine W.done s _ E st λh' tk k=>⟨rfl,S.past (bX aG (by simp)).1 (bX aG (by simp)).2 λb Κ o e=>k b o (by simpa using Κ) e,k,Ψ⟩
 ·refine e7 st λdI nP dk=>?_;try clear st;refine ix dk λi hi Ν st=>?_;try clear dk
  exact W.self i s Q E st q
theorem KI{l:I O}{vs:I Λ}(r:bA p.prog p.w F l vs){i:Y}{v:Λ}(h:vs[i]?=some v):∃x,l[i]?=some x/\au p.prog p.w F x v:=by
 induction l generalizing vs i with
 |nil=>rcases r with ⟨⟩;simp at h
 |cons y l Ξ=>
  cases r with
  |cons r rs=>
   rcases i with _|i
   ·simp at h;subst h;exact as y rfl r
   ·simp at h;simpa using Ξ rs h
noncomputable def k4(p:bP)(A:gh)(tgt:Υ)(Γ:I Place)(l:I bx)(F:a2)(c:Ι)(s:ah)(R:I O->Ο->Ι->Prop)(it:Λ)(μ:ah):Prop:=
 ∃ω c' aM aG bD St items,it= .ref aG/\cf (ee Γ) F c s.heap ω c' μ.heap/\a0 p.prog p.w p.B ω c' μ.heap/\bI p.prog p.w p.B Γ l ω c' aM μ.heap/\cu p μ/\lW p A tgt aG bD St/\St items ω μ.heap/\Off bD ω c'/\(∀b∈bD,s.heap.get? b=none)/\items.length<=20000/\R items aM c'
noncomputable def eZ(p:bP)(A:gh)(tgt:Υ)(Γ:I Place)(l:I bx)(F:a2)(c:Ι)(ρ:Ο)(t:dP Λ)(R:I O->Ο->Ι->Prop)(Er:Prop):Prop:=
 ∀s,a0 p.prog p.w p.B F c s.heap->bI p.prog p.w p.B Γ l F c ρ s.heap->cu p s->aB p.M A t (λv s₁=>aB p.M A (oE v) (k4 p A tgt Γ l F c s R) (cZ p Γ l c s Er) s₁) (cZ p Γ l c s Er) s
theorem eZ.list{t:dP Λ}{R:I O->Ο->Ι->Prop}(bJ:A.handled=none)(h:π p A Γ l F c ρ t (aZ p λv ν Μ=>Df v λxs=>xs.length<=20000/\R xs ν Μ) Er):eZ p A tgt Γ l F c ρ t R Er:=λs S P f=>by
 refine bR (h s S P f) (λv s₁ bG=>?_) λH H e=>e;obtain⟨F₁,Μ,ν,X,dS,er,g2,a,am,γ⟩:=bG;have n0:=ja s₁.heap;have KJ:s.heap.get? s₁.heap.objs.size=none:=by
  rcases q:s.heap.get? s₁.heap.objs.size with _|o
  ·rfl
  ·(refine ψ (X.c4 _ _ q) λaU aT H=>?_);rw[n0] at aT;contradiction
 have z:=dS.none_of n0;revert am;refine TG (P:=λa=>au p.prog p.w F₁ a v->aB p.M A (oE v) (k4 p A tgt Γ l F c s R) (cZ p Γ l c s Er) s₁) (λl γ am=>?_) (λl γ am=>?_) γ
 ·refine aa γ λa' q=>?_;try clear γ
  apply gk am.lst_inv;intro vs bm m o5 de;have Τ:=lP dS o5;refine wpAny_pyIter_list Τ ?_;have k:∀b o,s₁.heap.get? b=some o->(s₁.heap.push {cls:=.type "list_iterator",data:=.fields #[.ref bm,.int 0 0]}).get? b=some o:=λH H e=>hg _ e;refine nB F₁ Μ ν s₁.heap.objs.size [s₁.heap.objs.size] _ _ rfl (⟨X.trans (.grow k),dS.grow k,er.ext (.grow k),g2,lW.ofWalks (T:="list_iterator") (F₀:=F₁) (Walks.list bJ s₁.heap.objs.size bm (λe=>by have:=dS.frozen _ _ o5;rw[e,n0] at this;contradiction) vs.toArray) (by simp[de.length]) (λi v Φ=>KI de (by simpa using Φ)) (λi h st=>?_) (λb Κ=>?_) (by decide),⟨.refl _,(dS.grow k).frozen,0,mv _,rfl,⟨_,kO _ rfl,rfl,rfl⟩,Τ.at λo e=>k _ o e⟩,λb Κ=>?_,λb Κ=>?_,a',q⟩)
  ·(refine aa st λeV H=>?_;try clear st;refine ψ eV λo e r=>?_;try clear eV);exact nz o _ e r
  ·simp at Κ;exact Κ.elim .inl λe=>.inr ⟨_,e▸o5⟩
  ·simp at Κ;subst Κ;exact z
  ·simp at Κ;subst Κ;exact KJ
 ·refine aa γ λa' q=>?_;try clear γ
  apply gk am.mK;intro vs bm m o5 de;have Τ:=Dj dS o5;refine wpAny_pyIter_tuple Τ ?_;have k:∀b o,s₁.heap.get? b=some o->(s₁.heap.push {cls:=.type "tuple_iterator",data:=.fields #[.ref bm,.int 0 0]}).get? b=some o:=λH H e=>hg _ e;refine nB F₁ Μ ν s₁.heap.objs.size [s₁.heap.objs.size] _ _ rfl (⟨X.trans (.grow k),dS.grow k,er.ext (.grow k),g2,lW.ofWalks (T:="tuple_iterator") (F₀:=F₁) (Walks.tuple bJ s₁.heap.objs.size bm (λe=>by have:=dS.frozen _ _ o5;rw[e,n0] at this;contradiction) vs.toArray) (by simp[de.length]) (λi v Φ=>KI de (by simpa using Φ)) (λi h st=>?_) (λb Κ=>?_) (by decide),⟨.refl _,(dS.grow k).frozen,0,mv _,rfl,⟨_,kO _ rfl,rfl,rfl⟩,Τ.at λo e=>k _ o e⟩,λb Κ=>?_,λb Κ=>?_,a',q⟩)
  ·(refine aa st λf0 H=>?_;try clear st;refine ψ f0 λo e r=>?_;try clear f0);exact nz o _ e r
  ·simp at Κ;exact Κ.elim .inl λe=>.inr ⟨_,e▸o5⟩
  ·simp at Κ;subst Κ;exact z
  ·simp at Κ;subst Κ;exact KJ
end
section
variable{α β:Type}{a b:O}{va c0:Λ}{fC:bo}{x y tgt:Υ}{ns:I (φ×ez)}{sc:I (φ×Y)}{h h':bK}{W:ε->Prop}
theorem KL(a c:J):∀n,(fP a c n).length=n:=λn=>by
 induction n generalizing a with
 |zero=>rfl
 |succ n Ξ=>exact cE (·+1) (Ξ _)
theorem Wj(a c:J):∀{n i},i<n->(fP a c n)[i]?=some (.int (a+i*c)):=λ{n i} h=>by
 induction n generalizing a i with
 |zero=>omega
 |succ n Ξ=>
  rcases i with _|i
  ·exact cE (λz=>some (O.int z)) (by simp)
  ·change(fP (a+c) c n)[i]?=_;rw[Ξ (a+c) (pV h)];congr 2
   push_cast
   rw[Bx,rh];exact(by simp+arith)
theorem KN{a c:J}{n:Y}{R:I O->Ο->Ι->Prop}(bJ:A.handled=none)(S:a0 p.prog p.w p.B F c' s.heap)(P:bI p.prog p.w p.B Γ l F c' ρ s.heap)(f:cu p s)(Ζ:n<=20000)(h:R (fP a c n) ρ c'):
 k4 p A tgt Γ l F c' s R (.ref s.heap.objs.size) {s with heap:=s.heap.push {cls:=.type "range_iterator",data:=.fields #[gi a,gi (n:J),gi c]}}:=by
 have n0:=ja s.heap;have k:∀b o,s.heap.get? b=some o->(s.heap.push {cls:=.type "range_iterator",data:=.fields #[gi a,gi (n:J),gi c]}).get? b=some o:=λH H e=>hg _ e;refine nB F c' ρ s.heap.objs.size [s.heap.objs.size] _ (fP a c n) rfl (⟨.grow k,S.grow k,P.ext (.grow k),f,lW.ofWalks (T:="range_iterator") (F₀:=F) (Walks.range bJ s.heap.objs.size a c n).bound (KL a c n) (λi v Φ=>?_) (λi h st=>⟨_,_,st,rfl,rfl⟩) (λb Κ=>?_) (by decide),⟨.refl _,(S.grow k).frozen,0,mv _,rfl,?_⟩,λb Κ=>?_,λb Κ=>?_,by rw[KL];exact Ζ,h⟩)
 ·refine aa Φ λhi aV=>?_;try clear Φ;apply dG aV;intro t
  exact as _ (Wj a c hi) (.int _ t)
 ·simp at Κ;exact .inl Κ
 ·show IsRangeIter _ _ _ _ _;have:IsRangeIter (s.heap.push {cls:=.type "range_iterator",data:=.fields #[gi a,gi (n:J),gi c]}) s.heap.objs.size a n c:=kO _ rfl;simpa using this
 ·simp at Κ;subst Κ;exact(S.none_of n0)
 ·simp at Κ;subst Κ;exact n0
theorem KO{a b c:J}(Θ:0<c):QV a b c=(fQ a b c:Y):=by
 unfold QV fQ;rw[cz Θ];split
 ·rename_i h;have e:(b - a - 1) / c+1=(b - a+c - 1) / c:=by
   have:b - a+c - 1=(b - a - 1)+1*c:=(by simp+arith);rw[this,Int.add_mul_ediv_right _ _ (tB Θ)]
  rw[e];have:0<=(b - a+c - 1) / c:=x' (θ [] [_,_,_] (.ι (.c 0) (.s (.a (.s (.v 2) (.v 1)) (.v 0)) (.c 1))) [(.ι (.a (.c 0) (.c 1)) (.v 0)),(.ι (.a (.v 1) (.c 1)) (.v 2))] [[1,1,1]] rfl Θ h) (tA Θ);exact(GG this).symm
 ·rename_i h;have:(b - a+c - 1) / c<=0:=by
   have:(b - a+c - 1) / c<1:=ahL Θ (θ [] [_,_,_] (.ι (.a (.s (.a (.s (.v 1) (.v 0)) (.v 2)) (.c 1)) (.c 1)) (.m 1 (.v 2))) [(.ι (.v 1) (.v 0))] [[1,1]] rfl (ly.mp h));exact θ [] [((((((_-_)+_)-(1:J)))/_):J)] (.ι (.v 0) (.c 0)) [(.ι (.a (.v 0) (.c 1)) (.c 1))] [[1,1]] rfl this
  exact(cE ri (Int.toNat_of_nonpos this)).symm
theorem KP{a b c:J}(Θ:0<c)(g1:b - a<=20000):fQ a b c<=20000:=by
 unfold fQ;have:(b - a+c - 1) / c<=20000:=by
  have:(b - a+c - 1) / c<20001:=ahL Θ (by
   have:c<=c*20000:=θ [] [_] (.ι (.v 0) (.r (.v 0) 20000)) [(.ι (.a (.c 0) (.c 1)) (.v 0))] [[1,19999]] rfl Θ;exact θ [] [_,_,_] (.ι (.a (.s (.a (.s (.v 0) (.v 1)) (.v 2)) (.c 1)) (.c 1)) (.m 20001 (.v 2))) [(.ι (.s (.v 0) (.v 1)) (.c 20000)),(.ι (.a (.c 0) (.c 1)) (.v 2))] [[1,1,20000]] rfl g1 Θ)
  exact θ [] [((((((_-_)+_)-(1:J)))/_):J)] (.ι (.v 0) (.c 20000)) [(.ι (.a (.v 0) (.c 1)) (.c 20001))] [[1,1]] rfl this
 exact Qs.mpr this
theorem Wk{a b c:J}(Θ:0<c)(eY:c<1000)(γ: -(2^60)<a)(wn:a<2^60)(Κ: -(2^60)<b)(qj:b<2^60)(g1:b - a<=20000):ahM a b c=true:=by
 unfold ahM;rw[KO Θ];have:=KP Θ g1;simp only[ti,e6,G7,vv,d5,Θ,rr];refine⟨⟨⟨⟨⟨?_,?_⟩,⟨?_,?_⟩⟩,⟨?_,?_⟩⟩,⟨?_,?_⟩⟩,.inr ?_⟩<;>omega
theorem DJ{a b c:J}{t u v:nt}{R:I O->Ο->Ι->Prop}(bJ:A.handled=none)(S:a0 p.prog p.w p.B F c' s.heap)(P:bI p.prog p.w p.B Γ l F c' ρ s.heap)(f:cu p s)(Κ:0<c/\c<1000∧-(2^60)<a/\a<2^60∧-(2^60)<b/\b<2^60/\b - a<=20000)(h:R (fP a c (fQ a b c)) ρ c'){tk:Y}:
 aB p.M A (oE (.ref s.heap.objs.size)) (k4 p A tgt Γ l F c' s R) (cZ p Γ l c' s Er) {s with heap:=s.heap.push {cls:=.type "range",data:=.fields #[.int a t,.int b u,.int c v]},toks:=tk}:=by
 refine R1 Κ λΑ Δ κ ay cc d' kb=>?_;try clear Κ
 have k:∀cv o,s.heap.get? cv=some o->(s.heap.push {cls:=.type "range",data:=.fields #[.int a t,.int b u,.int c v]}).get? cv=some o:=λH H e=>hg _ e;refine wpAny_pyIter_range (ahN _ a b c t u v) (Wk Α Δ κ ay cc d' kb) ?_;rw[KO Α];refine vP (KN (s:={s with heap:=s.heap.push {cls:=.type "range",data:=.fields #[.int a t,.int b u,.int c v]},toks:=tk}) (tgt:=tgt) bJ (S.grow k) (P.ext (.grow k)) f (KP Α kb) h) λω az aM aG bD St items e bM=>?_;refine ny bM λX cn dt i8 W st bX Ζ cN=>?_;try clear bM;refine aa cN λΤ q=>?_;try clear cN
 refine nB ω az aM aG bD St items e ⟨(cf.grow k).trans X,cn,dt,i8,W,st,bX,λcv Κ=>?_,Τ,q⟩;have:=Ζ cv Κ;rcases q:s.heap.get? cv with _|o
 ·rfl
 ·rw[k cv o q] at this;contradiction
noncomputable def sd(a b c:J):Prop:=0<c/\c<1000∧-(2^60)<a/\a<2^60∧-(2^60)<b/\b<2^60/\b - a<=20000
theorem k4.after{s₁:ah}{F₁:a2}{Μ:Ι}{R:I O->Ο->Ι->Prop}{it:Λ}(X:cf (ee Γ) F c s.heap F₁ Μ s₁.heap)(h:k4 p A tgt Γ l F₁ Μ s₁ R it μ):k4 p A tgt Γ l F c s R it μ:=by
 refine vP h λω az aM aG bD St items e dk=>?_;try clear h;refine ny dk λiE cn dt i8 W st bX Ζ dg=>?_;try clear dk;refine aa dg λΤ q=>?_;try clear dg
 refine nB ω az aM aG bD St items e ⟨X.trans iE,cn,dt,i8,W,st,bX,λb Κ=>?_,Τ,q⟩;have:=Ζ b Κ;rcases q:s.heap.get? b with _|o
 ·rfl
 ·(refine ψ (X.c4 b o q) λaU aT H=>?_);rw[this] at aT;contradiction
theorem eZ.call{func:Υ}{T:hh}{R:I O->Ο->Ι->Prop}(ζ:p.Ok)(b0:el es=true)(aH:eval (.Call func es [] pos) env=(eval func env>>= λf=>td pos f [] (ru pos (oC es env)) (te pos (tf [] env))))(hf:∀s E (Qv:Λ->ah->Prop),a0 p.prog p.w p.B F c s.heap->Qv (.type T) s->aB p.M A (eval func env) Qv E s)(h:π p A Γ l F c ρ (spliced (gF es env)) (jD p λxs ν Μ=>∀F₁ vs,bA p.prog p.w F₁ xs vs->∀s,a0 p.prog p.w p.B F₁ Μ s.heap->bI p.prog p.w p.B Γ l F₁ Μ ν s.heap->cu p s->
 aB p.M A (ya (.type T) vs) (λv s₁=>aB p.M A (oE v) (k4 p A tgt Γ l F₁ Μ s R) (cZ p Γ l Μ s Er) s₁) (cZ p Γ l Μ s Er) s) Er):
 eZ p A tgt Γ l F c ρ (eval (.Call func es [] pos) env) R Er:=λs S P f=>by
 rw[aH];refine aI (hf s _ _ S ?_);rw[mM b0];refine QW (by rw[r3]) (r4 (bR (h s S P f) (λvs s₁ bG=>?_) λH H e=>e));obtain⟨F₁,Μ,ν,X,dS,er,g2,xs,ba,Ν⟩:=bG;exact bR (Ν F₁ vs ba s₁ dS er g2) (λv a5 c9=>bR c9 (λit gM g3=>g3.after X) λH H e=>e.after X) λH H e=>e.after X
noncomputable def DK(R:I O->Ο->Ι->Prop)(xs:I O)(ρ:Ο)(c:Ι):Prop:=match xs with
 |[]=>aK
 |x::l=>lN x λi=>match l with
  |[]=>sd 0 i 1/\R (fP 0 1 (fQ 0 i 1)) ρ c
  |y::l=>lN y λj=>match l with
   |[]=>sd i j 1/\R (fP i 1 (fQ i j 1)) ρ c
   |z::l=>lN z λd=>match l with
    |[]=>sd i j d/\R (fP i d (fQ i j d)) ρ c
    |_::_=>aK
theorem Wl{xs:I O}{R:I O->Ο->Ι->Prop}{P:I O->Prop}(ch:∀b,sd 0 b 1/\R (fP 0 1 (fQ 0 b 1)) ρ c->P [.int b])(c5:∀a b,sd a b 1/\R (fP a 1 (fQ a b 1)) ρ c->P [.int a,.int b])(fy:∀a b d,sd a b d/\R (fP a d (fQ a b d)) ρ c->P [.int a,.int b,.int d])(h:DK R xs ρ c):P xs:=by
 rcases xs with _|⟨x,l⟩
 ·exact h.elim
 ·refine ψ (qi h) λi Ν h=>Ν▸?_;rcases l with _|⟨y,l⟩
  ·exact ch i h
  ·refine ψ (qi h) λj aX h=>aX▸?_;rcases l with _|⟨z,l⟩
   ·exact c5 i j h
   ·refine ψ (qi h) λd Ρ h=>Ρ▸?_;rcases l with _|_
    ·exact fy i j d h
    ·exact h.elim
theorem Wm{xs:I O}{vs:I Λ}{R:I O->Ο->Ι->Prop}(bJ:A.handled=none)(ba:bA p.prog p.w F xs vs)(h:DK R xs ρ c)(S:a0 p.prog p.w p.B F c s.heap)(P:bI p.prog p.w p.B Γ l F c ρ s.heap)(f:cu p s):
 aB p.M A (ya (.type "range") vs) (λv s₁=>aB p.M A (oE v) (k4 p A tgt Γ l F c s R) (cZ p Γ l c s Er) s₁) (cZ p Γ l c s Er) s:=by
 revert ba;refine Wl (P:=λxs=>bA p.prog p.w F xs vs->aB p.M A (ya (.type "range") vs) (λv s₁=>aB p.M A (oE v) (k4 p A tgt Γ l F c s R) (cZ p Γ l c s Er) s₁) (cZ p Γ l c s Er) s) (λb h ba=>?_) (λa b h ba=>?_) (λa b d h ba=>?_) h
 ·apply mz ba.one;intro u ag;apply dG ag.int_inv;intro t;exact call_range_1 (DJ bJ S P f h.1 h.2)
 ·apply yy ba.two;intro u v ag dJ;apply dG ag.int_inv;intro t;apply dG dJ.int_inv;intro χ;exact call_range_2 (DJ bJ S P f h.1 h.2)
 ·cases ba with
  |cons ag rs=>
   apply yy rs.two;intro u v dJ mS;apply dG ag.int_inv;intro t;apply dG dJ.int_inv;intro χ;apply dG mS.int_inv;intro b9;exact call_range_3 (by have:=h.1.1;exact tB this) (DJ bJ S P f h.1 h.2) (.inl (PyProof.noPylong_small (by have:=h.1.1;have:=h.1.2.1;exact So ‹_› this)))
inductive Wn(p:bP)(z TI hI g5 g6 cY fM:ε)(xs bj:I Λ)(mL kZ:Y)(items:I O)(F:a2)(h:bK):Prop
 |mk (k:Y) (dz bs:I O) (a b:Λ) (Α:F cY=some (listOf xs.toArray mL)) (Δ:F fM=some (listOf bj.toArray kZ)) (i':∀a o,F a=some o->h.get? a=some o) (am:bA p.prog p.w F dz (xs.drop k)) (br:bA p.prog p.w F bs (bj.drop k))
  (e:items=kj dz bs) (Ρ:IsZip h z TI hI .none) (k5:yb h TI (.ref g5) (.ref g6)) (lX:yb h hI a b) (jM:h.IsListIter g5 cY k) (lY:h.IsListIter g6 fM k)
theorem Wo{xs:I Λ}{k:Y}{v:Λ}{r:I Λ}(h:xs.drop k=v::r):xs[k]?=some v/\xs.drop (k+1)=r:=by
 refine⟨?_,?_⟩
 ·have:=cE (·[0]?) h;simpa using this
 ·rw[<-ahK,h];rfl
theorem Wp{xs:I Λ}{k:Y}(h:xs.drop k=[]):xs[k]?=none:=by
 have:=cE (·[0]?) h;simpa using this
theorem Wq{P:Υ->Prop}(ch:∀es k cw,P (.Tuple es k cw)){e:Υ}(h:t7 e=true):P e:=by
 cases e with
 |Tuple es k cw=>exact ch es k cw
 |_=>exact hE h
theorem KQ{a:O}{dz:I O}{xs:I Λ}{k:Y}(h:bA p.prog p.w F (a::dz) (xs.drop k)):∃v,xs[k]?=some v/\au p.prog p.w F a v/\bA p.prog p.w F dz (xs.drop (k+1)):=by
 rcases Ν:xs.drop k with _|⟨v,r⟩
 ·rw[Ν] at h;contradiction
 ·rw[Ν] at h;have d:=Wo Ν;cases h with|cons Α Δ=>exact dj v d.1 Α (d.2.symm▸Δ)
theorem KR{xs:I Λ}{k:Y}(h:bA p.prog p.w F [] (xs.drop k)):xs.toArray[k]?=none:=by
 rcases Ν:xs.drop k with _|⟨_,_⟩
 ·simpa using Wp Ν
 ·rw[Ν] at h;contradiction
theorem Wr{x:O}{items dz bs:I O}(e:x::items=kj dz bs):∃a zk b zl,dz=a::zk/\bs=b::zl/\x= .tup [a,b]/\items=kj zk zl:=by
 rcases dz with _|⟨a,dz⟩
 ·rcases e with ⟨⟩
 ·cases bs with
   |nil=>cases e
   |cons b bs=>exact R' a dz b bs rfl rfl ((vz e).1) ((vz e).2)
theorem DL{P:ε->Prop}{b z TI hI g5 g6:ε}(h:b∈[z,TI,hI,g5,g6])(ch:P z)(c5:P TI)(fy:P hI)(kU:P g5)(rT:P g6):P b:=by
 simp at h;rcases h with rfl|rfl|rfl|rfl|rfl
 ·exact ch
 ·exact c5
 ·exact fy
 ·exact kU
 ·exact rT
theorem KS{b z TI hI g5 g6:ε}(h:b∉[z,TI,hI,g5,g6]):b≠z/\b≠TI/\b≠hI/\b≠g5/\b≠g6:=by
 simp at h;exact h
theorem a0.kept{F:a2}{c:Ι}{h h':bK}{bD:I ε}(S:a0 p.prog p.w p.B F c h)(bX:Off bD F c)(keep:∀b o,b∉bD->h.get? b=some o->h'.get? b=some o):a0 p.prog p.w p.B F c h':=
 ⟨S.base,λa o e=>keep a o (λΚ=>d6 ((bX a Κ).1.symm.trans e)) (S.frozen a o e),λa y e=>aa (S.cells a y e) λf r=>ψ r λo ab r=>⟨f,o,keep a o (λΚ=>d6 ((bX a Κ).2.symm.trans e)) ab,r⟩,S.nm⟩
theorem Ws{h h':bK}{z TI hI:ε}{o:cU}(Ρ:IsZip h z TI hI .none)(gc:IsZip h' z TI hI .none)(e:h.get? z=some o):∃aU,h'.get? z=some aU/\(gZ o->gZ aU):=by
 rw[Ρ] at e;obtain rfl:=bQ e;exact as _ gc (λiC=>absurd rfl (iC _))
theorem KU{h h':bK}{t:ε}{a b dU cv:Λ}{o:cU}(Ρ:yb h t a b)(gc:yb h' t dU cv)(e:h.get? t=some o):∃aU,h'.get? t=some aU/\(gZ o->gZ aU):=by
 rw[Ρ] at e;rcases e with ⟨⟩;exact as _ gc (λH vs q=>by rcases q with ⟨⟩)
theorem KV{h h':bK}{i l:ε}{k jC:Y}{o:cU}(Ρ:h.IsListIter i l k)(gc:h'.IsListIter i l jC)(e:h.get? i=some o):∃aU,h'.get? i=some aU/\(gZ o->gZ aU):=
 ψ Ρ λzm bd fB=>ψ gc λmO bk H=>⟨mO,bk,λiC=>absurd (bQ (bd.symm.trans e)▸fB.2) (iC _)⟩
theorem Wt{z TI hI g5 g6 cY fM:ε}(bJ:A.handled=none)(D:ZipApart z TI hI g5 g6 cY fM)(δ:t7 tgt=true){xs bj:I Λ}{mL kZ:Y}:
 lW p A tgt z [z,TI,hI,g5,g6] (Wn p z TI hI g5 g6 cY fM xs bj mL kZ):=by
 refine⟨λitems F h ω h' st le i' k=>?_,λitems F h st b Κ=>?_,λx items F c s E st S bX Ψ=>?_,λF c s E st S bX Ψ=>?_,λitems F s Q E st q=>?_⟩
 ·rcases st with ⟨kk,dz,bs,a,b,Α,Δ,_,am,br,e,Ρ,k5,lX,jM,lY⟩
  exact⟨kk,dz,bs,a,b,le _ _ Α,le _ _ Δ,i',am.mono le,br.mono le,e,k z (by simp) _ Ρ,k TI (by simp) _ k5,k hI (by simp) _ lX,jM.at λo e=>k g5 (by simp) o e,lY.at λo e=>k g6 (by simp) o e⟩
 ·rcases st with ⟨kk,dz,bs,a,b,Α,Δ,i',am,br,e,Ρ,k5,lX,jM,lY⟩
  exact DL (P:=λb=>∃o,h.get? b=some o) Κ ⟨_,Ρ⟩ ⟨_,k5⟩ ⟨_,lX⟩ (ψ jM λo e H=>⟨o,e⟩) (ψ lY λo e H=>⟨o,e⟩)
 ·rcases st with ⟨kk,dz,bs,a,cv,Α,Δ,nP,am,br,e,Ρ,k5,lX,jM,lY⟩
  refine R3 (Wr e) λhq zk dv zl lJ zn ex zo=>?_;clear e;subst lJ zn ex zo;refine ix (KQ am) λkp Wu Wv am=>?_;refine ix (KQ br) λhT Ww Wx br=>?_;have DM:s.heap.IsList cY xs.toArray:=⟨_,nP _ _ Α,rfl,_,rfl⟩;have DN:s.heap.IsList fM bj.toArray:=⟨_,nP _ _ Δ,rfl,_,rfl⟩;refine wpAny_pyNext_zip_item D Ρ k5 lX jM lY DM DN (x:=kp) (y:=hT) (by simpa using Wu) (by simpa using Ww) λh' Wy gP jf lZ qq t8 Η=>⟨_,rfl,?_⟩;refine Wq (P:=λtgt=>aB p.M A (rv tgt (.ref z) _) _ _ _) (λaj5 Β cw=>?_) δ;refine wpAny_letOwnedTupleGo_zip (s:={s with heap:=h'}) Wy λnQ gc se=>?_;have n0:=ja s.heap;have nM:=S.none_of n0;have t9:∀b,b≠z->∀o,h'.get? b=some o->nQ.get? b=some o:=λb Κ o e=>(se.2 b Κ).trans e;have Wz:s.heap.objs.size≠z:=GH (jv Ρ);have WA:nQ.get? s.heap.objs.size=some (vZ [kp,hT].toArray 0):=t9 _ Wz _ qq;have keep:∀b o,b∉[z,TI,hI,g5,g6]->s.heap.get? b=some o->nQ.get? b=some o:=λb o Κ e=>
   yu (KS Κ) λmL kZ o7 DO DP=>t9 b mL o (Η b o mL o7 DO DP e)
  have y9:=(S.kept bX keep).lT nM.1 nM.2 WA;have le:cr F (g0 F s.heap.objs.size (vZ [kp,hT].toArray 0)):=.upd nM.1;have KW:yb nQ TI (.ref g5) (.ref g6):=t9 _ D.TIz _ (Η _ _ D.TIz D.TITO D.TIi1 D.TIi2 k5);have KX:yb nQ hI kp hT:=t9 _ D.TOz _ gP;have KY:nQ.IsListIter g5 cY (kk+1):=jf.at λo e=>t9 _ D.i1z o e;have KZ:nQ.IsListIter g6 fM (kk+1):=lZ.at λo e=>t9 _ D.i2z o e;refine R9 _ (.tup (hQ _ _ _) (.cons (Wv.mono le) (.cons (Wx.mono le) .nil))) ⟨kk+1,zk,zl,kp,hT,le _ _ Α,le _ _ Δ,y9.frozen,am.mono le,br.mono le,rfl,gc,KW,KX,KY,KZ⟩ y9 ⟨le,λb o e H Κ=>keep b o Κ e,λb o e=>?_,λH e=>.inr e,λb e=>?_⟩ (λb Κ=>⟨?_,(bX b Κ).2⟩) Ψ
  ·by_cases Κ:b∈[z,TI,hI,g5,g6]
   ·revert e;exact DL (P:=λb=>s.heap.get? b=some o->∃aU,nQ.get? b=some aU/\(gZ o->gZ aU)) Κ (Ws Ρ gc) (KU k5 KW) (KU lX KX) (KV jM KY) (KV lY KZ)
   ·exact as o (keep b o Κ e) id
  ·by_cases q:b=s.heap.objs.size
   ·subst q;exact .inr (.inl n0)
   ·rw[ke _ _ q] at e;exact .inl e
  ·have wB:∀{c o},s.heap.get? c=some o->c≠s.heap.objs.size:=λe=>vy (jv e);rw[ke _ _ (DL (P:=λb=>b≠s.heap.objs.size) Κ (wB Ρ) (wB k5) (wB lX) (ψ jM λo e H=>wB e) (ψ lY λo e H=>wB e))];exact(bX b Κ).1
 ·rcases st with ⟨kk,dz,bs,a,cv,Α,Δ,nP,am,br,e,Ρ,k5,lX,jM,lY⟩
  have DM:s.heap.IsList cY xs.toArray:=⟨_,nP _ _ Α,rfl,_,rfl⟩;have DN:s.heap.IsList fM bj.toArray:=⟨_,nP _ _ Δ,rfl,_,rfl⟩;have WB:xs.toArray[kk]?=none∨bj.toArray[kk]?=none:=by
   rcases dz with _|⟨_,_⟩
   ·exact .inl (KR am)
   ·rcases bs with _|⟨_,_⟩
    ·exact .inr (KR br)
    ·contradiction
  refine wpAny_pyNext_zip_end bJ D Ρ k5 lX jM lY DM DN WB λh' Η=>?_;have keep:∀b o,b∉[z,TI,hI,g5,g6]->s.heap.get? b=some o->h'.get? b=some o:=λb o Κ e=>
   yu (KS Κ) λmL H o7 DO DP=>Η b o mL o7 DO DP e
  exact p7 rfl (S.kept bX keep) keep Ψ
 ·rcases st with ⟨_,_,_,_,_,_,_,_,_,_,_,Ρ⟩
  exact ahO Ρ q
theorem WC(N cY fM:Y)(Α:cY<N)(Δ:fM<N):ZipApart (N+4) (N+2) (N+3) N (N+1) cY fM:=by
 have key:∀{a b:Y},(a<b∨b<a)->@Ne ε a b:=λh e=>by
  have e:(_:Y)=_:=e;omega
 constructor<;>exact key (by omega)
theorem WD(N b:Y)(h:b=N+4∨b=N+2∨b=N+3∨b=N∨b=N+1):N<=b:=h.elim (·▸io _ _) λh=>h.elim (·▸io _ _) λh=>h.elim (·▸io _ _) λh=>h.elim (·▸i2 _) (·▸io _ _)
theorem K0:∀(dz bs:I O),(kj dz bs).length<=dz.length
 |[],bs=>by rcases bs with ⟨⟩<;>exact i2 _
 |a::dz,[]=>mv _
 |a::dz,b::bs=>tj (K0 dz bs)
noncomputable def DQ(R:I O->Ο->Ι->Prop)(xs:I O)(ρ:Ο)(c:Ι):Prop:=match xs with
 |[]=>aK
 |x::l=>qh x λdz=>match l with
  |[]=>aK
  |y::l=>qh y λbs=>match l with
   |[]=>dz.length<=20000/\R (kj dz bs) ρ c
   |_::_=>aK
theorem WE{xs:I O}{R:I O->Ο->Ι->Prop}{P:I O->Prop}(ch:∀dz bs,dz.length<=20000->R (kj dz bs) ρ c->P [.lst dz,.lst bs])(h:DQ R xs ρ c):P xs:=by
 rcases xs with _|⟨x,l⟩
 ·exact h.elim
 ·refine ψ (wd h) λdz Ν h=>Ν▸?_;rcases l with _|⟨y,l⟩
  ·exact h.elim
  ·refine ψ (wd h) λbs aX h=>aX▸?_;rcases l with _|_
   ·exact ch dz bs h.1 h.2
   ·exact h.elim
theorem WF{xs:I O}{vs:I Λ}{R:I O->Ο->Ι->Prop}(bJ:A.handled=none)(δ:t7 tgt=true)(ba:bA p.prog p.w F xs vs)(h:DQ R xs ρ c)(S:a0 p.prog p.w p.B F c s.heap)(P:bI p.prog p.w p.B Γ l F c ρ s.heap)(f:cu p s):
 aB p.M A (ya (.type "zip") vs) (λv s₁=>aB p.M A (oE v) (k4 p A tgt Γ l F c s R) (cZ p Γ l c s Er) s₁) (cZ p Γ l c s Er) s:=by
 revert ba;refine WE (P:=λxs=>bA p.prog p.w F xs vs->aB p.M A (ya (.type "zip") vs) (λv s₁=>aB p.M A (oE v) (k4 p A tgt Γ l F c s R) (cZ p Γ l c s Er) s₁) (cZ p Γ l c s Er) s) (λdz bs Τ q ba=>?_) h
 ·skip
  apply yy ba.two;intro u v ag dJ;apply gk ag.lst_inv;intro xs cY mL Α am;apply gk dJ.lst_inv;intro bj fM kZ Δ br;refine call_zip_2 (lP S Α) (lP S Δ) λh' Ρ k5 lX jM lY hsz k=>?_;refine ahO (s:={s with heap:=h'}) Ρ ?_;have WG:∀b:ε,(s.heap.objs.size:Y)<=(b:Y)->s.heap.get? b=none:=λb Κ=>by
   rcases q:s.heap.get? b with _|o
   ·rfl
   ·exact absurd (jv q) (BP.mpr Κ)
  have K1:∀b∈[s.heap.objs.size+4,s.heap.objs.size+2,s.heap.objs.size+3,s.heap.objs.size,s.heap.objs.size+1],s.heap.get? b=none:=λb Κ=>WG b (WD _ _ (by simpa using Κ));exact nB F c ρ _ _ _ (kj dz bs) rfl (⟨.grow k,S.grow k,P.ext (.grow k),f,Wt bJ (WC s.heap.objs.size cY fM (jv (S.frozen _ _ Α)) (jv (S.frozen _ _ Δ))) δ,⟨0,dz,bs,_,_,Α,Δ,(S.grow k).frozen,am,br,rfl,Ρ,k5,lX,jM,lY⟩,λb Κ=>S.none_of (K1 b Κ),K1,aP (K0 dz bs) Τ,q⟩)
end
theorem WH:isSubtype (.type "range_iterator") (.type "reversed")=pure false:=by rw[ahP];kernel_rfl
section
variable{α β:Type}{a b:O}{va c0:Λ}{fC:bo}{x y tgt:Υ}{prog:he}{w:e4}{E:Λ->ah->Prop}
theorem WI{r:ε}{k:J}{t u v:nt}{Qv:Λ->ah->Prop}(Χ:QX s.heap r 0 k 1 t u v)(Η:0<=k/\k<1000)(h:Qv (.ref s.heap.objs.size) {s with heap:=s.heap.push {cls:=.type "range_iterator",data:=.fields #[gi (k - 1),gi k,gi (-1)]}}):aB (kM prog w) A (call (.builtin "range.__reversed__") [.ref r]) Qv E s:=by
 have cj:s.TypeIs (.ref r) "range":=⟨_,Χ,rfl⟩;refine aho QY cj PySem.F.entry_range_reversed ?_ (PySem.F.args_range_reversed_1 _);unfold G8.«range.__reversed__»;refine aI (jx (a:=th r) rfl ?_);unfold alg;refine aI (aI (pY Χ rfl (x:=.int 0 t) rfl (aI (jx (a:=some 0) rfl (aI (pY Χ rfl (x:=.int k u) rfl (aI (jx (a:=some k) rfl (aI (pY Χ rfl (x:=.int 1 v) rfl (aI (jx (a:=some 1) rfl (cy ?_)))))))))))));have e:QV 0 k 1=k:=by rw[rangeSize_one];split<;>omega
 dsimp only;rw[e];have DR:(ti 0&&ti k&&ti 1&&ti (-1)&&ti (0 - 1)&&ti k)=true:=by
  simp[ti];exact⟨hc (by decide) Η.1,hc Η.2 (by decide)⟩
 simp only[DR,Bool.not_true,vt,ta,rr];have bk:(0:J)+(k - 1)*1=k - 1:=(by simp);rw[bk];unfold newFields;refine aI ?_;refine ahQ ?_;exact cy ⟨_,rfl,h⟩
theorem WJ{r:ε}{k:J}{t u v:nt}{Q₁:Λ->ah->Prop}(Χ:QX s.heap r 0 k 1 t u v)(Η:0<=k/\k<1000)(h:Q₁ (.ref s.heap.objs.size) {s with heap:=s.heap.push {cls:=.type "range_iterator",data:=.fields #[gi (k - 1),gi k,gi (-1)]}}):
 ip (kM prog w) A (.call (.builtin "reversed.__new__") ⟨[.type "reversed",.ref r],[]⟩) (wants Q₁ E) s:=by
 refine QZ ?_;show aB _ A.in1 (do ahR "reversed.__new__" ⟨[.type "reversed",.ref r],[]⟩;again (.builtin "reversed.__new__" ⟨[.type "reversed",.ref r],[]⟩)) _ _ s;refine aI (jx (PySem.F.newCall_reversed_1 _) (cy ⟨Q1 ahS _,ahT PySem.F.entry_reversed_new ?_⟩));rw[ahU ahS _];unfold G8.«reversed.__new__»;refine aI (jx (newClass_reversed _) ?_)
 try dsimp only
 refine aI (jx (a:=()) (by first|rfl|kernel_rfl) ?_);refine aI (jx (a:=()) (by first|rfl|kernel_rfl) ?_)
 try dsimp only
 refine aI (Q3 (⟨_,Χ,rfl⟩) QY.lookup ?_)
 try dsimp only
 refine aI (jx (QY.bind _) ?_)
 try dsimp only
 first
 |rw[bL (show ¬((Q4 "range.__reversed__"==tl)=true) from Qc)]
 |(show aB _ _ (if (Q4 "range.__reversed__"==tl)=true then _ else _) _ _ _;rw[bL (show ¬((Q4 "range.__reversed__"==tl)=true) from Qc)])
 refine aI (Q5 ?_);refine aI (m:=runValue (.call (.builtin "range.__reversed__") ⟨[.ref r],[]⟩)) (show aB _ _ (call (.builtin "range.__reversed__") [.ref r]) _ _ _ from WI Χ Η ?_)
 first
 |exact cy h
 |exact aI (cy (cy h))
theorem WK{r:ε}{k:J}{t u v:nt}{Qv:Λ->ah->Prop}(Χ:QX s.heap r 0 k 1 t u v)(Η:0<=k/\k<1000)(h:Qv (.ref s.heap.objs.size) {s with heap:=s.heap.push {cls:=.type "range_iterator",data:=.fields #[gi (k - 1),gi k,gi (-1)]}}):aB (kM prog w) A (call (.type "reversed") [.ref r]) Qv E s:=by
 refine callType_other (U:="range_iterator") (Q₁:=λobj s₁=>obj= .ref s.heap.objs.size/\s₁={s with heap:=s.heap.push {cls:=.type "range_iterator",data:=.fields #[gi (k - 1),gi k,gi (-1)]}}) (by decide+kernel) PySem.F.create_reversed ⟨_,_,PySem.F.mro_reversed⟩ PySem.F.made_reversed WH (PySem.F.typeCall_reversed_1 _) (WJ Χ Η ⟨rfl,rfl⟩) ?_;rintro obj s₁ ⟨rfl,rfl⟩;exact⟨⟨_,kO _ rfl,rfl⟩,h⟩
end
theorem WL{env K2:bx}(h:env.frame=K2.frame)(x:Λ):pZ x env=pZ x K2:=by
 unfold pZ PySem.frameOf;rw[h]
noncomputable def l0(p:bP)(l:I bx)(e:Λ)(h:bK):Prop:=
 ∃a eA f1,e= .ref a/\p.B.StaysIn h/\p.B.get? a=none/\h.FunFrames p.B l/\h.TracedAtW p.B a (.ref p.exc) eA f1
theorem l0.thrown{p:bP}{l:I bx}{e:Λ}{h:bK}(T:l0 p l e h):rO p l e h:=
 lI T λa eA f1 bd bk du l1 t'=>⟨a,eA,bd,bk,du,l1,.inl ⟨f1,t'⟩⟩
section
variable{ib:I bx}{gG:bx}{L:ε}{e:Λ}{M:rj}{E:Λ->ah->Prop}
theorem WM{base:bK}{a:ε}{cls eA f1:Λ}{Q:gx->ah->Prop}(fR:(f1==gi L)=false)(iJ:A.frames=some (env::ib))(Τ:s.heap.FunFrames base (env::ib))(hf:env.frame=some L)(δ:s.heap.TracedAtW base a cls eA f1)(kq:base.StaysIn s.heap)(k6:base.get? a=none)(h:∀h',Heap.NotedW base (env::ib) a cls eA (gi L) s.heap h'->Q () {s with heap:=h'}):aB M A (pZ (.ref a) env) Q E s:=by
 refine vO δ λjB vs T wC f7 aH aV hd aW=>?_;try clear δ;refine aa aV λqr h0=>?_;try clear aV;refine rF aW λΑ ua ub cj dw κ=>?_;try clear aW
 subst qr;unfold pZ;simp only[hf];refine aI (pY aH hd Α ?_);rw[cz (show(th T != tl)=true from by simp)];refine aI (pY cj dw κ ?_);rw[bL (by rw[fR];decide)];refine aI (Q6 cj dw (BQ.mp κ).1 ?_);have b':∀b,b≠T->(s.heap.update T (ahV (·.setIfInBounds 3 tl))).get? b=s.heap.get? b:=λb Κ=>yc _ _ (oG Κ);have wD:∀b o,s.heap.get? b=some o->(∀vs,o.data≠.fields vs)->b≠T:=λb o Κ l2 q=>by
  rw[q,cj] at Κ;injection Κ with Κ;subst Κ;exact l2 f7 dw
 refine wpAny_entryW iJ (Τ.of_keeps λb o Κ l2=>⟨o,(b' b (wD b o Κ l2)).trans Κ,rfl⟩) hf ((b' a (oG ub)).trans aH)
  (λb o wE=>(b' b λq=>by rw[q,ua] at wE;contradiction).trans (kq b o wE)) k6 hd (BQ.mp Α).1 h0
  λh' ⟨Β,x2,x3,x4⟩=>h h' ⟨Β,x2,x3,λb o Κ l2=>x4 b o ((b' b (wD b o Κ l2)).trans Κ) l2⟩
theorem K3{Q:gx->ah->Prop}(iJ:A.frames=some (gG::ib))(hf:gG.frame=some L)(T:rO p (gG::ib) e s.heap)(h:∀h' a eA,e= .ref a->Heap.HeldW p.B (gG::ib) a (.ref p.exc) eA L h'->s.heap.UpToSlots h'->Q () {s with heap:=h'}):aB M A (pZ e gG) Q E s:=by
 obtain⟨a,eA,rfl,kq,k6,Τ,δ⟩:=T;rcases δ with ⟨f1,δ⟩|⟨jB,vs,aH,Θ,hd,h0,Α⟩
 ·cases fR:(f1==gi L) with
  |true=>
   have:=d5.mp fR;subst this;exact wpAny_noteFrame_againW hf δ (h s.heap a eA rfl ⟨kq,k6,Τ,δ⟩ (.refl _))
  |false=>exact WM fR iJ Τ hf δ kq k6 λh' ⟨f4,gN,ev,nR⟩=>h h' a eA rfl ⟨f4,k6,gN,ev⟩ nR
 ·unfold pZ;simp only[hf];refine aI (pY aH hd Α ?_);rw[bL (by decide)];refine wpAny_entryW (head:=.none) iJ Τ hf aH kq k6 hd (BQ.mp Α).1 h0 λh' ⟨f4,gN,ev,nR⟩=>h h' a eA rfl ⟨f4,k6,gN,?_⟩ nR;rw[<-Θ];exact ev
theorem K4{Q:gx->ah->Prop}(iJ:A.frames=some (gG::ib))(hf:gG.frame=some L)(aH:env.frame=gG.frame)(T:rO p (gG::ib) e s.heap)(h:∀h',l0 p (gG::ib) e h'->s.heap.UpToSlots h'->Q () {s with heap:=h'}):aB M A (pZ e env) Q E s:=by
 rw[WL aH];exact K3 iJ hf T λh' a eA bd ⟨f4,gN,ev,nR⟩ u=>h h' ⟨a,eA,_,bd,f4,gN,ev,nR⟩ u
theorem WN{Q:gx->ah->Prop}(iJ:A.frames=some (gG::ib))(hf:gG.frame=some L)(T:rO p (gG::ib) e s.heap)(h:∀h',l0 p ib e h'->s.heap.UpToSlots h'->Q () {s with heap:=h'}):aB M A (G9 gG e) Q E s:=by
 unfold G9;refine aI (K3 iJ hf T λh' a eA bd Ε u=>?_);subst bd;refine wpAny_landsW (s:={s with heap:=h'}) Ε λoQ ⟨f4,gN,⟨_,_,ev⟩,nR⟩ DS=>?_;exact h oQ ⟨a,eA,_,rfl,f4,gN,ev,nR⟩ (u.trans DS)
theorem DT{fr:ξ ε}{Q:gx->ah->Prop}(T:l0 p l e s.heap)(h:∀h',l0 p l e h'->s.heap.UpToSlots h'->Q () {s with heap:=h'}):aB M A (Q7 e fr) Q E s:=by
 refine lI T λa eA f1 bM kq k6 Τ cN=>?_;try clear T;rcases bM with rfl;refine vO cN λjB vs T wC f7 aH qr hd dk=>?_;try clear cN;refine rF dk λΑ ua ub cj dw κ=>?_;try clear dk
 have K5:3<f7.size:=(BQ.mp κ).1;have b':∀b,b≠T->(s.heap.update T (ahV (·.setIfInBounds 3 (fr.elim tl λf=>gi f)))).get? b=s.heap.get? b:=
  λb Κ=>yc _ _ (oG Κ)
 have wD:∀b o,s.heap.get? b=some o->(∀vs,o.data≠.fields vs)->b≠T:=λb o Κ l2 q=>by
  rw[q,cj] at Κ;injection Κ with Κ;subst Κ;exact l2 f7 dw
 unfold Q7;refine aI (pY aH hd Α ?_);rw[cz (show(th T != tl)=true from by simp)];refine Q6 cj dw K5 (h _ ⟨a,eA,fr.elim tl (λf=>gi f),rfl,λb o wE=>(b' b λq=>by rw[q,ua] at wE;contradiction).trans (kq b o wE),k6,
  Τ.of_keeps λb o Κ l2=>⟨o,(b' b (wD b o Κ l2)).trans Κ,rfl⟩,?_⟩ λb o Κ l2=>⟨o.slots,(b' b (wD b o Κ l2)).trans Κ⟩)
 exact Sb jB vs T _ _ ((b' a (oG ub)).trans aH) qr hd ⟨Α,ua,ub,tc _ cj (Obj.isFreed_of_fields (ahW dw _)),ahW dw _,by simp[K5]⟩
theorem WO{α:Type}{WP:hh}{Q:α->ah->Prop}(T:l0 p l e s.heap)(h:∀h',l0 p l e h'->s.heap.UpToSlots h'->E e {s with heap:=h'}):aB M A (Q8 WP e env:dP α) Q E s:=by
 unfold Q8;have o8:=T;refine lI o8 λa eA f1 dg kq k6 Τ eV=>?_;try clear o8;rcases dg with rfl;refine vO eV λjB vs wF wC f7 aH qr hd fh=>?_;try clear eV;refine aa fh λΑ H=>?_;try clear fh
 refine aI (pY aH hd Α ?_);rw[bL (by simp)];exact aI (DT T λh' o8 u=>wpAny_throw (h h' o8 u))
end
structure fk(env:bx)(l:I bx):Prop where
 fr:∃gG ib L,l=gG::ib/\gG.frame=some L/\env.frame=gG.frame
noncomputable abbrev o9(cL:I Υ)(env:bx):dP aQ:=forIn cL true λc r=>if r=true then do let ok <-iu c env (eval c env);pure (G' ok) else pure (G' r)
theorem cf.over{W fN:ε->Prop}{F c h F₁ Μ bG aY az c9}(X:cf W F c h F₁ Μ bG)(hU:cf fN F₁ Μ bG aY az c9)(qo:∀b,fN b->W b∨h.get? b=none):cf W F c h aY az c9:=by
 have kc:∀b,bG.get? b=none->h.get? b=none:=λb e=>by
  rcases q:h.get? b with _|o
  ·rfl
  ·(refine ψ (X.c4 b o q) λaU aT H=>?_);rw[e] at aT;contradiction
 refine⟨X.le.trans hU.le,λb o e Θ bC=>hU.keep b o (X.keep b o e Θ bC) (X.yO e Θ) λqs=>?_,λb o e=>?_,λb e=>?_,λb e=>?_⟩
 ·rcases qo b qs with r|r
  ·exact bC r
  ·rw[e] at r;contradiction
 ·refine ψ (X.c4 b o e) λaU aT dy=>?_;refine ψ (hU.c4 b aU aT) λCW CX CY=>?_;exact as CW CX (λz=>CY (dy z))
 ·rcases hU.i9 b e with r|r
  ·exact .inl (kc b r)
  ·exact X.i9 b r
 ·rcases hU.kT b e with r|r|r
  ·exact X.kT b r
  ·exact .inr (.inl (kc b r))
  ·exact .inr (X.i9 b r)
section
variable{R:j9->ah->Prop}
noncomputable def uc(wG:bo)(ud:Υ)(it:Λ)(cL:I Υ)(env:bx)(act:dP gx)(c:Code):dP Fin:=do
 standAt wG
 match <-BO it with
 |none=>pure (.done .next)
 |some v=>
  rv ud it v
  hD ud env v
  let ok <-o9 cL env
  if ok=true then do
   act
   again c
  else again c
theorem WQ{aN ud:Υ}{gens:I rq}{d:Y}{wG:bo}{cL:I Υ}{scope:fX}{pos:bo}{it acc:Λ}{env:bx}{act:dP gx}(δ:vA (.ListComp aN gens scope pos) d it acc env=uc wG ud it cL env act (.compLoop (.ListComp aN gens scope pos) d it acc env))(aG:Y->ah->Prop)(turn:∀n s,aG n s->aB p.M A (BO it) (λr s₁=>match r with
 |none=>R (.ok .next) s₁
 |some v=>aB p.M A (rv ud it v) (λH K6=>aB p.M A (hD ud env v) (λH a5=>
  aB p.M A (o9 cL env) (λok gM=>
   if ok=true then aB p.M A act (λH zp=>∃m,m<n/\aG m zp) (p0 p.M A env λe μ=>R (.error e) μ) gM
   else ∃m,m<n/\aG m gM) (p0 p.M A env λe μ=>R (.error e) μ) a5) (p0 p.M A env λe μ=>R (.error e) μ) K6) (p0 p.M A env λe μ=>R (.error e) μ) s₁) (p0 p.M A env λe μ=>R (.error e) μ) s)(n:Y)(h:aG n s):ip p.M A (.compLoop (.ListComp aN gens scope pos) d it acc env) R s:=by
 refine codeAny_loop rfl aG (λn s dn=>?_) n h;show aB _ A ((vA (.ListComp aN gens scope pos) d it acc env).onRaise (λx=>do pZ x env;theTreesLotGoes x)) _ _ s;refine wpAny_noted ?_;rw[δ];refine aI (mr (aI (bR (turn n s dn) (λr s₁ bG=>?_) λH H h'=>h')));rcases r with _|v
 ·exact cy bG
 ·refine aI (bR bG (λH K6 WR=>?_) λH H h'=>h');refine aI (bR WR (λH a5 c9=>aI (bR c9 (λok gM g3=>?_) λH H h'=>h')) λH H h'=>h');rcases ok with _|_
  ·exact cy ⟨rfl,g3⟩
  ·exact aI (bR g3 (λx l3 qt=>cy ⟨rfl,qt⟩) λH H h'=>h')
end
noncomputable def zq(p:bP)(Γ Γ':I Place)(l:I bx)(F:a2)(c:Ι)(s₀:ah)(D:ε)(Qf:I O->Ο->Ι->Prop)(μ:ah):Prop:=
 ∃acc bj F₁ Μ ν cR,cf (ee Γ) F c s₀.heap F₁ Μ μ.heap/\a0 p.prog p.w p.B F₁ Μ μ.heap/\bI p.prog p.w p.B Γ' l F₁ Μ ν μ.heap/\cu p μ/\μ.heap.get? D=some (listOf bj.toArray cR)/\F₁ D=none/\Μ D=none/\bA p.prog p.w F₁ acc bj/\Qf acc ν Μ
noncomputable def ue(p:bP)(Γ Γ':I Place)(l:I bx)(c:Ι)(s₀:ah)(e:Λ)(μ:ah):Prop:=
 l0 p l e μ.heap/\cu p μ/\JD (ee Γ) c s₀.heap μ.heap/\∀pl∈Γ',nE μ.heap pl
section
variable{Γ':I Place}{F₁:a2}{Μ:Ι}{ν:Ο}{s₀:ah}{aA:bx}{fC:bo}{x y tgt:Υ}{aG D C:ε}{bD:I ε}{St:I O->a2->bK->Prop}{R:j9->ah->Prop}
theorem nE.up{h h':bK}{pl:Place}(Ε:nE h pl)(u:h.UpToSlots h'):nE h' pl:=Ε.slots λo e n=>u _ o e n
theorem DU{e:Λ}(hf:fk aA l)(mT:A.frames=some l)(X:cf (ee Γ) F c s₀.heap F₁ Μ s.heap)(dL:∀b,ee Γ' b->ee Γ b∨s₀.heap.get? b=none)(h:cZ p Γ' l Μ s Er e μ)(gE:∀μ,Er->ue p Γ Γ' l c s₀ e μ->R (.error e) μ):
 p0 p.M A aA (λe μ=>R (.error e) μ) e μ:=by
 refine gz hf.fr λgG ib L aV h0 Α=>?_;rcases aV with rfl
 obtain⟨cK,T,Ψ,wH,zr⟩:=h;refine K4 mT h0 Α T λh' o8 u=>gE _ cK ⟨o8,Ψ,λb o e Θ bC iC=>?_,λpl ζ=>(zr pl ζ).up u⟩;refine a8 (wH b o (X.keep b o e Θ bC) (X.yO e Θ) (λqs=>by rcases dL b qs with r|r;exact bC r;rw[e] at r;contradiction) iC) λf2 bk=>?_;refine a8 (u b _ bk iC) λwI du=>?_;exact⟨wI,du⟩
theorem WS{bj:I Λ}{cR:Y}{v:Λ}{Qv:Λ->ah->Prop}{E:Λ->ah->Prop}(ab:s.heap.get? D=some (listOf bj.toArray cR))(a':bj.length<=30000)(h:∀dy h',h'.get? D=some (listOf (bj++[v]).toArray dy)->vp D s.heap h'->Qv .none {s with heap:=h'}):aB p.M A (call (.builtin "list.append") [.ref D,v]) Qv E s:=by
 refine BI QK ⟨_,ab,rfl⟩ ahr (ahs _ _) (aht D bj.toArray cR v (by rw[hC];simp only[i3];exact aR a' rfl)) ⟨ab,?_⟩;have aO:(s.heap.update D (pX λx=>x.push v)).get? D=some (pX (λx=>x.push v) (listOf bj.toArray cR)):=tc _ ab rfl;refine a8 (y3 bj.toArray cR (λx=>x.push v)) λdy d2=>?_;rw[d2,(by simp:(bj.toArray).push v=(bj++[v]).toArray)] at aO;exact h dy _ aO (ahp ..)
structure hJ(p:bP)(Γ Γ':I Place)(l:I bx)(F:a2)(c:Ι)(s₀:ah)(D:ε)(Kp:a2->Ι->bK->Prop)(acc:I O)(F₁:a2)(Μ:Ι)(ν:Ο)(s:ah):Prop where
 X:cf (ee Γ) F c s₀.heap F₁ Μ s.heap
 S:a0 p.prog p.w p.B F₁ Μ s.heap
 P:bI p.prog p.w p.B Γ' l F₁ Μ ν s.heap
 Ψ:cu p s
 eI:∃bj cR,s.heap.get? D=some (listOf bj.toArray cR)/\bA p.prog p.w F₁ acc bj
 qu:F₁ D=none
 nS:Μ D=none
 hn:Kp F₁ Μ s.heap
noncomputable def uf(p:bP)(Γ':I Place)(bD:I ε)(D:ε)(Kp:a2->Ι->bK->Prop):Prop:=
 ∀(W:ε->Prop) f6 cH (g3:bK) hr e0 (qt:bK),(∀b,W b->ee Γ' b∨b∈bD∨b=D)->cr f6 hr->(∀b o,g3.get? b=some o->cH b=none->¬W b->qt.get? b=some o)->
  (∀b o,g3.get? b=some o->f6 b=none->cH b=none->hr b=none/\e0 b=none)->a0 p.prog p.w p.B hr e0 qt->Kp f6 cH g3->Kp hr e0 qt
theorem bI.moved{prog:he}{w:e4}{B:bK}{h h':bK}(P:bI prog w B Γ l F c ρ h)(k:∀pl∈Γ,∀o,h.get? pl.addr=some o->h'.get? pl.addr=some o)(fr:h'.FunFrames B l):bI prog w B Γ l F c ρ h':=
 ⟨P.len,λi pl hi=>by
  refine ψ ((P.places i pl hi).there) λo e H=>?_;exact(P.places i pl hi).mono (.refl _) e (k pl (j8 hi) o e),P.nodup,P.hP,fr⟩
theorem hJ.weak{Kp K7:a2->Ι->bK->Prop}{acc:I O}(L:hJ p Γ Γ' l F c s₀ D Kp acc F₁ Μ ν s)(h:Kp F₁ Μ s.heap->K7 F₁ Μ s.heap):hJ p Γ Γ' l F c s₀ D K7 acc F₁ Μ ν s:=⟨L.X,L.S,L.P,L.Ψ,L.eI,L.qu,L.nS,h L.hn⟩
theorem hJ.step{Kp:a2->Ι->bK->Prop}{acc:I O}{aY:a2}{az:Ι}{bg:Ο}{a5:ah}(L:hJ p Γ Γ' l F c s₀ D Kp acc F₁ Μ ν s)(aC:uf p Γ' bD D Kp)(dL:∀b,ee Γ' b->ee Γ b∨s₀.heap.get? b=none)(hV:∀pl∈Γ',pl.addr≠D)(hU:cf (ee Γ') F₁ Μ s.heap aY az a5.heap)(S:a0 p.prog p.w p.B aY az a5.heap)(P:bI p.prog p.w p.B Γ' l aY az bg a5.heap)(Ψ:cu p a5):hJ p Γ Γ' l F c s₀ D Kp acc aY az bg a5:=by
 refine gy L.eI λbj cR eI am=>?_;have z:=hU.none_of L.S eI L.qu L.nS;exact⟨L.X.over hU dL,S,P,Ψ,⟨bj,cR,hU.keep D _ eI L.nS (λbe=>by(refine ψ be λpl ζ e=>?_;try clear be);exact hV pl ζ e),am.mono hU.le⟩,z.1,z.2,aC _ _ _ _ _ _ _ (λb Κ=>.inl Κ) hU.le hU.keep (λb o e Α Δ=>hU.none_of L.S e Α Δ) S L.hn⟩
theorem zt{xs:I O}{ug:I ε}(W:lW p A tgt aG bD St)(kr:D∉bD)(jN:∀pl∈Γ',pl.addr∉bD)(hd:∀b∈bD,b∉ug):uf p Γ' ug D λF c h=>St xs F h/\Off bD F c:=λU f6 cH g3 hr e0 qt mU le keep mV jJ ⟨st,bX⟩=>by
 have bH:∀b∈bD,¬U b:=λb Κ a4=>by
  rcases mU b a4 with ⟨pl,ζ,e⟩|h|h
  ·exact jN pl ζ (e▸Κ)
  ·exact hd b Κ h
  ·exact kr (h▸Κ)
 exact⟨W.frame _ _ _ _ _ st le jJ.frozen λb Κ o e=>keep b o e (bX b Κ).2 (bH b Κ),λb Κ=>by
  refine a8 (W.there _ _ _ st b Κ) λo e=>?_;exact mV b o e (bX b Κ).1 (bX b Κ).2⟩
noncomputable def WT(p:bP)(Γ':I Place)(D:ε)(Kp:a2->Ι->bK->Prop):Prop:=
 ∃DV:I ε,(∀F c h,Kp F c h->∀b∈DV,∃o,h.get? b=some o)/\∀ug,(∀b∈DV,b∉ug)->uf p Γ' ug D Kp
inductive DW(p:bP)(Γ Γ':I Place)(l:I bx)(F:a2)(c:Ι)(s₀:ah)(D:ε)(Kp:a2->Ι->bK->Prop)(Bd:I O->I O->Prop)(St:I O->a2->bK->Prop)(bD:I ε)(G:I O->I O->Ο->Ι->Prop)(m:Y)(μ:ah):Prop
 |mk (items acc F₁ Μ ν) (n:items.length=m) (Κ:Bd items acc) (L:hJ p Γ Γ' l F c s₀ D Kp acc F₁ Μ ν μ) (st:St items F₁ μ.heap) (bX:Off bD F₁ Μ) (q:G items acc ν Μ):DW p Γ Γ' l F c s₀ D Kp Bd St bD G m μ
theorem DX{aN:Υ}{gens:I rq}{d:Y}{wG:bo}{cL:I Υ}{scope:fX}{items acc₀:I O}{act:dP gx}{Kp:a2->Ι->bK->Prop}{tgtF:O->Ο->(Ο->Prop)->Prop}{testsF:Ο->Ι->(Ο->Ι->Prop)->(Ο->Ι->Prop)->Prop}{actF:I O->Ο->Ι->(I O->Ο->Ι->Prop)->Prop}{G:I O->I O->Ο->Ι->Prop}{Bd:I O->I O->Prop}(δ:vA (.ListComp aN gens scope pos) d (.ref aG) (.ref D) aA=uc wG tgt (.ref aG) cL aA act (.compLoop (.ListComp aN gens scope pos) d (.ref aG) (.ref D) aA))(hf:fk aA l)(mT:A.frames=some l)(W:lW p A tgt aG bD St)(aC:uf p Γ' bD D Kp)(dL:∀b,ee Γ' b->ee Γ b∨s₀.heap.get? b=none)(f5:∀b∈bD,s₀.heap.get? b=none)(kr:D∉bD)(hV:∀pl∈Γ',pl.addr≠D)(jN:∀pl∈Γ',pl.addr∉bD)(DY:s₀.heap.FunFrames p.B l)(cj:∀v u ρ F c K,au p.prog p.w F v u->tgtF v ρ K->π p A Γ' l F c ρ (hD tgt aA u) (λω c' aM H=>c'=c/\K aM) Er)(mW:∀F c ρ P N,testsF ρ c P N->π p A Γ' l F c ρ (o9 cL aA) (eu P N) Er)(DZ:∀x xs acc,Bd (x::xs) acc->Bd xs acc)(D0:∀x xs acc F₁ Μ ν s K,Bd (x::xs) acc->hJ p Γ Γ' l F c s₀ D (λω c' h=>Kp ω c' h/\St xs ω h/\Off bD ω c') acc F₁ Μ ν s->actF acc ν Μ K->aB p.M A act (λH μ=>∃di aY az bg,Bd xs di/\hJ p Γ Γ' l F c s₀ D (λω c' h=>Kp ω c' h/\St xs ω h/\Off bD ω c') di aY az bg μ/\K di bg az) (p0 p.M A aA λe μ=>R (.error e) μ) s)(gE:∀acc F₁ Μ ν μ,Bd [] acc->hJ p Γ Γ' l F c s₀ D Kp acc F₁ Μ ν μ->G [] acc ν Μ->R (.ok .next) μ)(aL:∀e μ,Er->ue p Γ Γ' l c s₀ e μ->R (.error e) μ)(D1:∀x xs acc ρ c,G (x::xs) acc ρ c->tgtF x ρ λρ=>testsF ρ c (λρ c=>actF acc ρ c λacc ρ c=>G xs acc ρ c) (λρ c=>G xs acc ρ c))(wJ:hJ p Γ Γ' l F c s₀ D Kp acc₀ F₁ Μ ν s)(st:St items F₁ s.heap)(bX:Off bD F₁ Μ)(Κ:Bd items acc₀)(av:G items acc₀ ν Μ):
 ip p.M A (.compLoop (.ListComp aN gens scope pos) d (.ref aG) (.ref D) aA) R s:=by
 refine WQ δ (DW p Γ Γ' l F c s₀ D Kp Bd St bD G) ?_ items.length ⟨items,acc₀,F₁,Μ,ν,rfl,Κ,wJ,st,bX,av⟩;clear av bX st wJ Κ;intro m s be;rcases be with ⟨items,acc,F₁,Μ,ν,aV,Κ,L,st,bX,av⟩
 subst aV;refine W.turn st L.S bX L.Ψ (λe μ cn keep l4=>?_) (λx xs e v s₁ h=>?_)
 ·subst e;have iE:=L.X.kept f5 keep;refine gy L.eI λbj cR eI am=>?_;refine gE acc F₁ Μ ν μ Κ ⟨iE,cn,L.P.moved (λpl ζ o e=>keep _ o (jN pl ζ) e) (FunFrames.ext iE.c4 DY),l4,⟨bj,cR,keep D _ kr eI,am⟩,L.qu,L.nS,aC (·∈bD) _ _ _ _ _ _ (λb Κ=>.inr (.inl Κ)) (.refl _) (λb o e H Κ=>keep b o Κ e) (λb o e Α Δ=>⟨Α,Δ⟩) cn L.hn⟩ av
 ·subst e;refine bR h (λH a5 h=>?_) λH H e=>e;refine HB h λaY c6 uh d7 eW ui fl=>?_;try clear h
  refine gy L.eI λbj cR eI am=>?_;have z:=eW.none_of L.S eI L.qu L.nS;have D2:hJ p Γ Γ' l F c s₀ D (λω c' h=>Kp ω c' h/\St xs ω h/\Off bD ω c') acc aY Μ ν a5:=
   ⟨L.X.over eW λb Κ=>.inr (f5 b Κ),d7,L.P.Kz eW jN,fl,⟨bj,cR,eW.keep D _ eI L.nS kr,am.mono eW.le⟩,z.1,z.2,
    aC (·∈bD) _ _ _ _ _ _ (λb Κ=>.inr (.inl Κ)) eW.le eW.keep (λb o e Α Δ=>eW.none_of L.S e Α Δ) d7 L.hn,uh,ui⟩
  have K8:uf p Γ' [] D λω c' h=>Kp ω c' h/\St xs ω h/\Off bD ω c':=λU f6 cH g3 hr e0 qt mU le keep mV jJ ⟨f4,gN⟩=>
   ⟨aC U _ _ _ _ _ _ (λb Κ=>(mU b Κ).imp id (Or.imp (λh=>absurd h vB) id)) le keep mV jJ f4,zt W kr jN (λb H=>vB) U _ _ _ _ _ _ mU le keep mV jJ gN⟩
  refine bR (cj x v ν aY Μ _ c6 (D1 x xs acc ν Μ av) a5 d7 D2.P fl) (λH gM h=>?_) λe μ h=>DU hf mT D2.X dL h λμ=>aL e μ;obtain⟨f6,cH,hp,nT,gQ,mX,k7,rfl,D3⟩:=h;have K9:=D2.step K8 dL hV nT gQ mX k7;refine bR (mW f6 cH hp _ _ D3 gM gQ mX k7) (λok l3 h=>?_) λe μ h=>DU hf mT K9.X dL h λμ=>aL e μ;obtain⟨hr,e0,wK,wL,uj,zu,uk,sf⟩:=h;have K':=K9.step K8 dL hV wL uj zu uk;have kc:∀{di ω c' aM μ},hJ p Γ Γ' l F c s₀ D (λω c' h=>Kp ω c' h/\St xs ω h/\Off bD ω c') di ω c' aM μ->Bd xs di->G xs di aM c'->
   ∃m,m<(x::xs).length/\DW p Γ Γ' l F c s₀ D Kp Bd St bD G m μ:=λ{di ω c' aM μ} mC cv fi=>
   ⟨xs.length,yd _,⟨xs,di,ω,c',aM,rfl,cv,mC.weak λk=>k.1,mC.hn.2.1,mC.hn.2.2,fi⟩⟩
  rcases ok with _|_
  ·exact kc K' (DZ x xs acc Κ) sf
  ·exact bR (D0 x xs acc hr e0 wK l3 _ Κ K' sf) (λH zp fv=>by(refine oL fv λdi La nU Lb WU o' WV=>?_;try clear fv);exact kc o' WU WV) λH H e=>e
theorem D4{aN:Υ}{eltF:Ο->Ι->(O->Ο->Ι->Prop)->Prop}{Kp:a2->Ι->bK->Prop}{acc:I O}{K:I O->Ο->Ι->Prop}(hf:fk aA l)(mT:A.frames=some l)(aC:uf p Γ' [] D Kp)(dL:∀b,ee Γ' b->ee Γ b∨s₀.heap.get? b=none)(wM:s₀.heap.get? D=none)(hV:∀pl∈Γ',pl.addr≠D)(mY:∀F c ρ Q,eltF ρ c Q->π p A Γ' l F c ρ (eval aN aA) (aZ p Q) Er)(aL:∀e μ,Er->ue p Γ Γ' l c s₀ e μ->R (.error e) μ)(L:hJ p Γ Γ' l F c s₀ D Kp acc F₁ Μ ν s)(Τ:acc.length<=30000)(av:eltF ν Μ λv ρ c=>K (acc++[v]) ρ c):
 aB p.M A (eval aN aA>>= λx=>call (.builtin "list.append") [.ref D,x]>>= λH=>pure ()) (λH μ=>∃di aY az bg,di.length=acc.length+1/\hJ p Γ Γ' l F c s₀ D Kp di aY az bg μ/\K di bg az) (p0 p.M A aA λe μ=>R (.error e) μ) s:=by
 refine aI (bR (mY F₁ Μ ν _ av s L.S L.P L.Ψ) (λv zp h=>?_) λe μ h=>DU hf mT L.X dL h λμ=>aL e μ);obtain⟨La,nU,Lb,WW,Lc,Ld,Le,y,wu,WX⟩:=h;have o':=L.step aC dL hV WW Lc Ld Le;refine gy o'.eI λbj cR WY Lf=>?_;refine aI (WS WY (cJ Lf.length Τ rfl) λdy h' fu σ=>cy ?_);have kk:∀b,b≠D->∀o,zp.heap.get? b=some o->h'.get? b=some o:=λb Κ o e=>(σ.2 b Κ).trans e;have wN:=Lc.past (h':=h') o'.qu o'.nS kk;exact vR (acc++[y]) La nU Lb (by simp) (⟨o'.X.past wM kk,wN,Ld.past hV kk ⟨_,fu,λvs q=>by cases q⟩,Le,⟨bj++[v],dy,fu,Lf.append (.cons wu .nil)⟩,o'.qu,o'.nS,
  aC (·=D) _ _ _ _ _ _ (λb Κ=>.inr (.inr Κ)) (.refl _) (λb o e H Κ=>kk b Κ o e) (λb o H Α Δ=>⟨Α,Δ⟩) wN o'.hn⟩) WX
theorem aj6{aN bN:Υ}{cL:I Υ}{scope:fX}{items:I O}{m₀:Y}{tgtF:O->Ο->(Ο->Prop)->Prop}{testsF:Ο->Ι->(Ο->Ι->Prop)->(Ο->Ι->Prop)->Prop}{eltF:Ο->Ι->(O->Ο->Ι->Prop)->Prop}{Qf:I O->Ο->Ι->Prop}(hf:fk aA l)(mT:A.frames=some l)(W:lW p A tgt aG bD St)(dL:∀b,ee Γ' b->ee Γ b∨s₀.heap.get? b=none)(f5:∀b∈bD,s₀.heap.get? b=none)(eI:s₀.heap.get? D=none)(kr:D∉bD)(hV:∀pl∈Γ',pl.addr≠D)(jN:∀pl∈Γ',pl.addr∉bD)(DY:s₀.heap.FunFrames p.B l)(cj:∀v u ρ F c K,au p.prog p.w F v u->tgtF v ρ K->π p A Γ' l F c ρ (hD tgt aA u) (λω c' aM H=>c'=c/\K aM) Er)(mW:∀F c ρ P N,testsF ρ c P N->π p A Γ' l F c ρ (o9 cL aA) (eu P N) Er)(mY:∀F c ρ Q,eltF ρ c Q->π p A Γ' l F c ρ (eval aN aA) (aZ p Q) Er)(gE:∀μ,zq p Γ Γ' l F c s₀ D Qf μ->R (.ok .next) μ)(aL:∀e μ,Er->ue p Γ Γ' l c s₀ e μ->R (.error e) μ)(X:cf (ee Γ) F c s₀.heap F₁ Μ s.heap)(S:a0 p.prog p.w p.B F₁ Μ s.heap)(P:bI p.prog p.w p.B Γ' l F₁ Μ ν s.heap)(Ψ:cu p s)(st:St items F₁ s.heap)(bX:Off bD F₁ Μ)(ab:s.heap.get? D=some (listOf (([]:I Λ)).toArray m₀))(WZ:F₁ D=none)(r1:Μ D=none)(a':items.length<=20000)(av:dT tgtF testsF eltF items [] ν Μ Qf):
 ip p.M A (.compLoop (.ListComp aN [⟨tgt,bN,cL,0⟩] scope pos) 0 (.ref aG) (.ref D) aA) R s:=by
 refine DX (Kp:=λH H H=>rl) (G:=λxs acc ρ c=>dT tgtF testsF eltF xs acc ρ c Qf) (Bd:=λxs acc=>acc.length+xs.length<=20000) (actF:=λacc ρ c K=>eltF ρ c λv ρ c=>K (acc++[v]) ρ c) (acc₀:=[])
  (compTurn_list aN tgt bN cL scope pos (.ref aG) (.ref D) aA) hf mT W (λH H H H H H H H H H H H H=>trivial) dL f5 kr hV jN DY cj mW (λx xs acc b=>by simp at b ⊢;exact IY b) (λx xs acc F₁ Μ ν s K b L q=>?_) (λacc F₁ Μ ν μ H L q=>?_) aL
  (λx xs acc ρ c q=>q) ⟨X,S,P,Ψ,⟨[],m₀,ab,.nil⟩,WZ,r1,trivial⟩ st bX (by simpa using a') av
 ·refine bR (D4 hf mT (λU H H H H H H mU le keep mV jJ sg=>by(refine aa sg λH gN=>?_;try clear sg);exact⟨trivial,zt W kr jN (λb H=>vB) U _ _ _ _ _ _ mU le keep mV jJ gN⟩) dL eI hV mY aL L (IZ b) q) (λH μ sh=>by(refine oL sh λdi aY az bg e mC fi=>?_;try clear sh);exact vR di aY az bg (Ji e b) mC fi) λH H e=>e
 ·refine gy L.eI λbj cR D5 am=>?_;exact gE μ ⟨acc,bj,F₁,Μ,ν,cR,L.X,L.S,L.P,L.Ψ,D5,L.qu,L.nS,am,q⟩
end
noncomputable def ks(cells:I (φ×ε)):I (φ×ez)->I (φ×ε)->I (φ×ε)
 |[],acc=>acc
 |(n,k)::r,acc=>if k==.free then ks cells r ((n,(cells.lookup n).getD 0)::acc) else ks cells r acc
theorem zv(cells:I (φ×ε))(n:φ)(k:ez)(r:I (φ×ez))(acc:I (φ×ε)):ks cells ((n,k)::r) acc=if k==.free then ks cells r ((n,(cells.lookup n).getD 0)::acc) else ks cells r acc:=rfl
theorem W0{cells:I (φ×ε)}{names:I (φ×ez)}:∀{acc:I (φ×ε)},(∀y a,acc.lookup y=some a->a=(cells.lookup y).getD 0)->∀y a,(ks cells names acc).lookup y=some a->a=(cells.lookup y).getD 0:=by
 induction names with
 |nil=>
  exact λ{_} h=>h
 |cons hd r Ξ=>
  obtain⟨n,k⟩:=hd;exact λ{acc} h=>by
   rw[zv];split
   ·refine Ξ λy a e=>?_;rw[tm] at e;cases q:y==n with
    |true=>rw[q] at e;obtain rfl:=bQ e;rw[d5.mp q]
    |false=>rw[q] at e;exact h y a e
   ·exact Ξ h
theorem W1{cells:I (φ×ε)}{x:φ}{names:I (φ×ez)}:∀{acc:I (φ×ε)},(acc.lookup x).isSome=true->((ks cells names acc).lookup x).isSome=true:=by
 induction names with
 |nil=>
  exact λ{_} h=>h
 |cons hd r Ξ=>
  obtain⟨n,k⟩:=hd;exact λ{acc} h=>by
   rw[zv];split
   ·refine Ξ ?_;rw[tm];cases x==n with
    |true=>rfl
    |false=>exact h
   ·exact Ξ h
theorem W2{cells:I (φ×ε)}{x:φ}{names:I (φ×ez)}:∀{acc:I (φ×ε)},(x,vC)∈names->((ks cells names acc).lookup x).isSome=true:=by
 induction names with
 |nil=>exact λ{h0} Α=>by simp_all
 |cons hd r Ξ=>
  obtain⟨n,k⟩:=hd;exact λ{acc} h=>by
   rw[zv];rcases eR.mp h with e|h
   ·rcases e with ⟨⟩
    rw[cz (by decide)];exact W1 (by rw[tm];simp)
   ·split
    ·exact Ξ h
    ·exact Ξ h
theorem W3{env:bx}(names:I (φ×ez)):∀(acc:I (φ×ε)),(∀n,(n,vC)∈names->(env.cells.lookup n).isSome=true)->(forIn (m:=dP) names acc λx r=>match x with|(name,kind)=>if (kind==vC)=true then do let a <-cellOf env name;pure (G' ((name,a)::r)) else pure (G' r))=pure (ks env.cells names acc):=by
 induction names with
 |nil=>
  exact λacc H=>by rw[Q9];rfl
 |cons hd r Ξ=>
  obtain⟨n,k⟩:=hd;exact λacc h=>by
   rw[List.forIn_cons];rw[zv];by_cases q:(k==vC)=true
   ·have Η:=d5.mp q;subst Η;have:=h n (.head _);refine a8 (tn.mp this) λa γ=>?_;simp only[q,rr,(by unfold cellOf;rw[γ]:cellOf env n=pure a),pure_bind,γ,Q'];exact Ξ _ λm hm=>h m (.tail _ hm)
   ·simp only[q,ta,pure_bind,vt];exact Ξ _ λm hm=>h m (.tail _ hm)
theorem W4{scope:fX}{env:bx}(h:∀n,(n,vC)∈scope.names->(env.cells.lookup n).isSome=true):closureFor scope env=pure (ks env.cells scope.names []):=by
 unfold closureFor;have:=W3 scope.names [] h;simp only[bind_pure];exact this
noncomputable def gq(ns names:I (φ×ez)):I (φ×ez):=names.map λ(n,k)=>if (k==.free&&ns.lookup n==some .cell) then (n,.cell) else (n,k)
noncomputable def bY(names:I (φ×ez)):I φ:=(names.filter λx=>x.2==.local&&x.1 != (".0":φ)).map (·.1)
noncomputable def l5(ns:I (φ×ez))(sc:I (φ×Y))(names:I (φ×ez))(base:Y)(f8:I (φ×Y)):aQ:=
 names.all (λx=>x.2 != .cell)&&names.all (λx=>x.2 != .local||names.lookup x.1==some .local)&&
 names.all (λx=>x.2 != .free||((sc.lookup x.1).isSome&&ns.lookup x.1==some .cell))&&decide (bY names).Nodup&& !(bY names).isEmpty&&
 f8.all (λx=>x.1 != ("__debug__":φ)&&(((gq ns names).lookup x.1==some .local&&decide (base<=x.2)&&(bY names)[x.2 - base]?==some x.1)||
  ((gq ns names).lookup x.1==some .cell&&sc.lookup x.1==some x.2&&ns.lookup x.1==some .cell&&names.contains (x.1,.free))))
section
variable{Γ':I Place}{F₁:a2}{Μ:Ι}{ν:Ο}{s₀:ah}{aA:bx}{fC:bo}{x y tgt:Υ}{aG D C:ε}{bD:I ε}{St:I O->a2->bK->Prop}{R:j9->ah->Prop}{ns:I (φ×ez)}{sc f8:I (φ×Y)}{scope:fX}{h h':bK}{B:bK}{prog:he}{w:e4}
theorem W5(bt:dK p env Γ ns sc):(relabel scope env).names=gq ns scope.names:=by
 unfold relabel gq;refine BR λx H=>?_;obtain⟨n,k⟩:=x;simp only[(by rw[bt.kind];rfl:(env.scope.kind==vD)=true),(by unfold ms;rw[bt.names]:env.kindOf n=ns.lookup n),Qz]
theorem W6{α:Type}{P:φ×α->aQ}{l:I (φ×α)}:∀{x:φ} {i:α},l.all P=true->l.lookup x=some i->P (x,i)=true:=by
 induction l with
 |nil=>exact λ{h0} {Α} Δ κ=>by simp_all
 |cons hd r Ξ=>
  obtain⟨k,v⟩:=hd;exact λ{x} {i} h e=>by
   rw[List.all_cons,e6] at h;rw[tm] at e;cases q:x==k with
   |true=>rw[q] at e;obtain rfl:=bQ e;rw[d5.mp q];exact h.1
   |false=>rw[q] at e;exact Ξ h.2 e
theorem zw(bt:dK p env Γ ns sc)(Η:scope.kind= .function)(dL:Γ.length=n)(g7:l5 ns sc scope.names n f8=true):
 dK p (Ra scope (ks env.cells scope.names []) C env) (Γ++(bY scope.names).map (Place.loc C)) (gq ns scope.names) f8/\(∀m,(m,vC)∈scope.names->(env.cells.lookup m).isSome=true)/\(∀x∈scope.names,x.2≠.cell)/\
  (∀x∈scope.names,x.2= .local->scope.names.lookup x.1=some .local)/\(bY scope.names).Nodup/\bY scope.names≠[]:=by
 unfold l5 at g7;simp only[e6,kL,vv] at g7;refine aa g7 λaV d'=>?_;try clear g7;refine aa aV λaW cc=>?_;try clear aV;refine aa aW λbM ay=>?_;try clear aW;refine aa bM λcN κ=>?_;try clear bM;refine aa cN λΑ Δ=>?_;try clear cN
 have free:∀m,(m,vC)∈scope.names->(env.cells.lookup m).isSome=true:=λm hm=>by
  have:=κ _ hm;simp only[ahX,Bool.false_or,e6,d5] at this;refine a8 (tn.mp this.1) λi hi=>?_;refine aa (bt.places m i hi) λH r=>?_;rcases r with ⟨r,_⟩|⟨_,a,r,_⟩
  ·rw[this.2] at r;contradiction
  ·rw[r];rfl
 refine R7 ⟨Η,W5 bt,bt.glob,bt.blt,λx i Ν=>?_⟩ free (λx Ν=>by simpa using Α x Ν) (λx Ν e=>by have:=Δ x Ν;simpa[e] using this) ay (by simpa using cc);have:=W6 (P:=λx=>x.1 != ("__debug__":φ)&&(((gq ns scope.names).lookup x.1==some .local&&decide (n<=x.2)&&(bY scope.names)[x.2 - n]?==some x.1)||
  ((gq ns scope.names).lookup x.1==some .cell&&sc.lookup x.1==some x.2&&ns.lookup x.1==some .cell&&scope.names.contains (x.1,.free)))) (kL.mpr λy aX=>by have:=d' y aX;simpa using this) Ν
 simp only[e6,G7,vv,d5,bne_iff_ne,ne_eq] at this;refine aa this λhd r=>?_;try clear this
 refine⟨by simpa using hd,?_⟩;rcases r with ⟨⟨ag,dJ⟩,mS⟩|⟨⟨⟨ag,dJ⟩,mS⟩,wO⟩
 ·refine .inl ⟨ag,?_⟩;rw[to (Jj dL dJ),dL,p1,mS];rfl
 ·refine .inr ⟨ag,?_⟩;refine aa (bt.places x i dJ) λH q=>?_;rcases q with ⟨q,_⟩|⟨_,a,fB,e8⟩
  ·rw[mS] at q;contradiction
  ·refine a8 (tn.mp (W2 (cells:=env.cells) (acc:=[]) (by simpa using wO))) λdU wn=>?_;have:=W0 (cells:=env.cells) (names:=scope.names) (acc:=[]) (λy a e=>by simp at e) x dU wn;rw[fB] at this;have e:dU=a:=this;subst e;exact as _ wn (by rw[rx (j7.mp e8).1];exact e8)
theorem Lg:∀{ρ aM:Ο} {i:Y},i<ρ.length->hN (ρ++aM) i=hN ρ i
 |x::r,aM,0,_=>rfl
 |x::r,aM,i+1,h=>Lg (ρ:=r) (BC h)
theorem D6:∀(k i:Y),hN (fz k) i=none
 |0,i=>by rcases i with ⟨⟩<;>rfl
 |k+1,0=>rfl
 |k+1,i+1=>D6 k i
theorem Lh:∀{ρ:Ο} {k i:Y},ρ.length<=i->hN (ρ++fz k) i=none
 |[],k,i,_=>D6 k i
 |x::r,k,0,h=>absurd h (by simp)
 |x::r,k,i+1,h=>Lh (ρ:=r) (pV h)
theorem zx:∀k,(fz k).length=k
 |0=>rfl
 |k+1=>cE (·+1) (zx k)
theorem Li:∀{ρ:Ο} {k i:Y},i<k->hN (ρ.take k) i=hN ρ i
 |[],k,i,_=>by simp
 |x::r,0,i,h=>absurd h (by omega)
 |x::r,k+1,0,_=>rfl
 |x::r,k+1,i+1,h=>Li (ρ:=r) (BC h)
theorem bI.extend{vs:I φ}{m:φ->ξ Λ}(P:bI prog w B Γ l F c ρ h)(iK:∀pl∈Γ,pl.addr≠C)(Ζ:h.Ns C m)(dH:F C=none)(Θ:c C=none)(nd:vs.Nodup):bI prog w B (Γ++vs.map (Place.loc C)) l F c (ρ++fz vs.length) h:=by
 refine⟨by simp[P.len,zx],λi pl hi=>?_,?_,λpl ζ=>?_,P.frames⟩
 ·rcases oF i Γ.length with dh|qv
  ·rw[rx dh] at hi;rw[Lg (by rw[P.len];exact dh)];exact P.places i pl hi
  ·rw[to qv,p1] at hi;rw[Lh (by rw[P.len];exact qv)];apply iB (mq.mp hi);intro y _;exact⟨m,Ζ⟩
 ·rw[Ha];refine ft P.nodup ?_ (λa γ b Κ e=>?_)
  ·refine alh _ (λa b (h:a≠b) e=>h (by rcases e with ⟨⟩;rfl)) nd
  ·refine ψ (i5.mp Κ) λy H dg=>?_;rcases dg with rfl
   exact iK a γ (by rw[e];rfl)
 ·rcases hA.mp ζ with ζ|ζ
  ·exact P.hP pl ζ
  ·apply iB (i5.mp ζ);intro y _;exact⟨dH,Θ⟩
theorem bI.restrict{W7:I Place}{ρ:Ο}(P:bI prog w B (Γ++W7) l F c ρ h):bI prog w B Γ l F c (ρ.take Γ.length) h:=by
 have Τ:=P.len;refine⟨by simp at Τ ⊢;exact ahY (Τ▸io _ _),λi pl hi=>?_,(Ha.mp P.nodup).1,λpl ζ=>P.hP pl (ye _ ζ),P.frames⟩;have dh:=(j7.mp hi).1;rw[Li dh];exact P.places i pl (by rw[rx dh];exact hi)
theorem D7{ia:bK}{l:I bx}(Ε:h.FunFrames B l)(W8:ia.FunFrames B l)(iK:ia.get? C=none)(k:∀b,b≠C->∀o,h.get? b=some o->h'.get? b=some o):h'.FunFrames B l:=by
 induction l with
 |nil=>trivial
 |cons env r Ξ=>
  refine e7 Ε λΗ κ Χ=>e7 W8 λH ay Lj=>oJ κ λL o hf Ζ ab hd=>oJ ay λmC aU jO H fZ H=>?_;cases bQ (hf.symm.trans jO);exact⟨Η,⟨L,o,hf,Ζ,k L (λq=>d6 ((q▸iK:ia.get? L=none).symm.trans fZ)) o ab,hd⟩,Ξ Χ Lj⟩
theorem l0.move{e:Λ}{ia:bK}{m:φ->ξ Λ}(T:l0 p l e h)(σ:vp C h h')(Ζ:h.Ns C m)(gR:ia.get? C=none)(W9:p.B.StaysIn ia)(hf:ia.FunFrames p.B l):l0 p l e h':=by
 refine lI T λa eA f1 bd kq k6 Τ fh=>?_;try clear T;refine vO fh λjB vs wF wC f7 aH qr hd f0=>?_;try clear fh;refine rF f0 λΑ ua ub cj dw κ=>?_;try clear f0
 refine gz Ζ λD8 aj7 aj8 jP zy H=>?_;try clear Ζ
 have kk:∀b,b≠C->∀o,h.get? b=some o->h'.get? b=some o:=λb Κ o e=>(σ.2 b Κ).trans e;exact HI a eA f1 bd (λb o e=>kk b (λq=>by subst q;have:=W9 _ o e;rw[gR] at this;contradiction) o (kq b o e)) k6 (D7 Τ hf gR kk) ⟨jB,vs,wF,wC,f7,kk a (λq=>by subst q;rw[aH] at jP;rcases jP with ⟨⟩;rw[hd] at zy;rcases zy with ⟨⟩) _ aH,qr,hd,Α,ua,ub,kk wF (λq=>by subst q;rw[cj] at jP;rcases jP with ⟨⟩;rw[dw] at zy;rcases zy with ⟨⟩) _ cj,dw,κ⟩
end
section
variable{F₁:a2}{Μ:Ι}{ν:Ο}{s₀:ah}{aA:bx}{fC:bo}{x y tgt:Υ}{aG D C:ε}{bD:I ε}{St:I O->a2->bK->Prop}{R:j9->ah->Prop}{ns:I (φ×ez)}{sc f8:I (φ×Y)}{scope:fX}{h h':bK}
theorem Lk{aN bN:Υ}{cL:I Υ}{rest:I rq}{act:Λ->bx->dP gx}{actF:I O->Ο->Ι->(I O->Ο->Ι->Prop)->Prop}{G:I O->I O->Ο->Ι->Prop}{Bd:I O->I O->Prop}{d8 D9:bo}{use:ξ (Λ->dP gx)}{Qv:Λ->ah->Prop}{tgtF:O->Ο->(Ο->Prop)->Prop}{testsF:Ο->Ι->(Ο->Ι->Prop)->(Ο->Ι->Prop)->Prop}(ζ:p.Ok)(bt:dK p env Γ ns sc)(hf:fk env l)(Χ:fw A l n)(Η:scope.kind= .function)(mZ:∀x,ry bN env x=pure x)(g7:l5 ns sc scope.names Γ.length f8=true)(cj:∀C aA,dK p aA (Γ++(bY scope.names).map (Place.loc C)) (gq ns scope.names) f8->fk aA l->∀v u ρ F c K,au p.prog p.w F v u->tgtF v ρ K->π p A (Γ++(bY scope.names).map (Place.loc C)) l F c ρ (hD tgt aA u) (λω c' aM H=>c'=c/\K aM) Er)(mW:∀C aA,dK p aA (Γ++(bY scope.names).map (Place.loc C)) (gq ns scope.names) f8->fk aA l->∀F c ρ P N,testsF ρ c P N->π p A (Γ++(bY scope.names).map (Place.loc C)) l F c ρ (o9 cL aA) (eu P N) Er)(W':∀D aA aG,vA (.ListComp aN (⟨tgt,bN,cL,0⟩::rest) scope d8) 0 (.ref aG) (.ref D) aA=uc bN.pos tgt (.ref aG) cL aA (act (.ref D) aA) (.compLoop (.ListComp aN (⟨tgt,bN,cL,0⟩::rest) scope d8) 0 (.ref aG) (.ref D) aA))(DZ:∀x xs acc,Bd (x::xs) acc->Bd xs acc)(D0:∀C D aA Kp (R:j9->ah->Prop),dK p aA (Γ++(bY scope.names).map (Place.loc C)) (gq ns scope.names) f8->fk aA l->WT p (Γ++(bY scope.names).map (Place.loc C)) D Kp->
 (∀b,ee (Γ++(bY scope.names).map (Place.loc C)) b->ee Γ b∨s.heap.get? b=none)->s.heap.get? D=none->(∀pl∈Γ++(bY scope.names).map (Place.loc C),pl.addr≠D)->(∀e μ,Er->ue p Γ (Γ++(bY scope.names).map (Place.loc C)) l c s e μ->R (.error e) μ)->
 ∀x xs acc F₁ Μ ν s₁ K,Bd (x::xs) acc->hJ p Γ (Γ++(bY scope.names).map (Place.loc C)) l F c s D Kp acc F₁ Μ ν s₁->actF acc ν Μ K->
  aB p.M A (act (.ref D) aA) (λH μ=>∃di aY az bg,Bd xs di/\hJ p Γ (Γ++(bY scope.names).map (Place.loc C)) l F c s D Kp di aY az bg μ/\K di bg az) (p0 p.M A aA λe μ=>R (.error e) μ) s₁)(D1:∀x xs acc ρ c,G (x::xs) acc ρ c->tgtF x ρ λρ=>testsF ρ c (λρ c=>actF acc ρ c λacc ρ c=>G xs acc ρ c) (λρ c=>G xs acc ρ c))(k8:eZ p A tgt Γ l F c ρ (eval bN env) (λitems ν Μ=>Bd items []/\G items [] (ν++fz (bY scope.names).length) Μ) Er)(S:a0 p.prog p.w p.B F c s.heap)(P:bI p.prog p.w p.B Γ l F c ρ s.heap)(Ψ:cu p s)(D':∀C D μ,s.heap.get? C=none->s.heap.get? D=none->D≠C->(∃m,μ.heap.Ns C m)->(D==mo)=false->zq p Γ (Γ++(bY scope.names).map (Place.loc C)) l F c s D (G []) μ->yf p.M A (cZ p Γ l c s Er) use Qv (.ref D) C (.ok .next) μ):
 aB p.M A (Rb (.ListComp aN (⟨tgt,bN,cL,0⟩::rest) scope d8) scope env D9 (Rc []) false (eval bN env) use) Qv (cZ p Γ l c s Er) s:=by
 refine rF (zw (C:=0) bt Η rfl g7) λH free si Xa nd bF=>?_;refine wpAny_comprehension_free (cl:=ks env.cells scope.names []) rfl mZ (W4 free) Η Xa (bR (k8 s S P Ψ) (λv s₁ bG=>bR bG (λit a5 c9=>?_) λH H e=>e) λH H e=>e);apply vT c9;intro F₁ Μ ν aG bD St items aW;refine ny aW λX d7 ef fl W st bX f5 bM=>?_;try clear aW;refine aa bM λa' av=>?_;try clear bM
 refine QS (wpAny_newFunctionEnv si (by intro y aX;simp at aX) (λbG zz zA=>?_) Η);dsimp only at zz zA ⊢;have kZ:=ja a5.heap;have gS:=d7.none_of kZ;have zB:(a5.heap.objs.size==mo)=false:=rV ζ d7;have Ea:(a5.heap.push {cls:=.type "list",dict:=none,data:=.seq (([]:I Λ)).toArray}).objs.size=a5.heap.objs.size+1:=QJ ..;generalize Xb:a5.heap.objs.size=D at kZ gS zB Ea ⊢;have kc:∀b,a5.heap.get? b=none->s.heap.get? b=none:=λb e=>by
  rcases q:s.heap.get? b with _|o
  ·rfl
  ·(refine ψ (X.c4 b o q) λaU aT H=>?_);rw[e] at aT;contradiction
 have Eb:(a5.heap.push {cls:=.type "list",dict:=none,data:=.seq (([]:I Λ)).toArray}).get? D=some (listOf (([]:I Λ)).toArray 0):=Xb▸kO _ rfl;have ev:∀b o,a5.heap.get? b=some o->(a5.heap.push {cls:=.type "list",dict:=none,data:=.seq (([]:I Λ)).toArray}).get? b=some o:=λH H e=>hg _ e;have o7:=ja (a5.heap.push {cls:=.type "list",dict:=none,data:=.seq (([]:I Λ)).toArray});generalize aj9:a5.heap.push {cls:=.type "list",dict:=none,data:=.seq (([]:I Λ)).toArray}=Ll at zz zA Eb ev o7 Ea ⊢;generalize aka:Ll.objs.size=C at zz zA o7 Ea ⊢;have qw:D≠C:=λe=>by rw[e,o7] at Eb;contradiction
 have nR:∀b o,b≠C->Ll.get? b=some o->bG.get? b=some o:=λb o Κ e=>zA.extBut b o Κ (hg _ e);have old:∀b o,a5.heap.get? b=some o->bG.get? b=some o:=λb o e=>nR b o (λq=>by rw[q] at e;have:=ev _ _ e;rw[o7] at this;contradiction) (ev b o e);have zC:a5.heap.get? C=none:=by
  rcases q:a5.heap.get? C with _|o
  ·rfl
  ·have:=ev _ _ q;rw[o7] at this;contradiction
 have pa:=d7.none_of zC;have gQ:=d7.grow old;have Lm:=ef.fresh zC;have hV:=ef.fresh kZ;have Ln:∀b∈bD,∃o,a5.heap.get? b=some o:=W.there _ _ _ st;have kr:D∉bD:=λΚ=>by(refine a8 (Ln _ Κ) λo e=>?_);rw[kZ] at e;contradiction
 have BS:∀pl∈Γ++(bY scope.names).map (Place.loc C),pl∈Γ∨pl.addr=C:=λpl ζ=>by
  rcases hA.mp ζ with ζ|ζ
  ·exact .inl ζ
  ·(apply iB (i5.mp ζ);intro y _);exact .inr rfl
 have k9:=kc C zC;have qx:=kc D kZ;have dL:∀b,ee (Γ++(bY scope.names).map (Place.loc C)) b->ee Γ b∨s.heap.get? b=none:=λb ⟨pl,ζ,e⟩=>by
  rcases BS pl ζ with h|h
  ·exact .inl ⟨pl,h,e⟩
  ·exact .inr (by rw[<-e,h];exact k9)
 refine aa (zw (C:=C) bt Η rfl g7) λpb H=>?_;have jO:fk (Ra scope (ks env.cells scope.names []) C env) l:=⟨hf.fr⟩;have Lo:St items F₁ bG:=W.frame _ _ _ _ _ st (.refl _) gQ.frozen λb Κ o e=>old b o e;have zD:∃y,Place.loc C y∈Γ++(bY scope.names).map (Place.loc C):=by
  rcases Φ:bY scope.names with _|⟨y,r⟩
  ·exact absurd Φ bF
  ·exact⟨y,Hb _ (vw (.head _))⟩
 have Lp:∀pl∈Γ++(bY scope.names).map (Place.loc C),pl.addr∉bD:=λpl ζ=>by
  rcases BS pl ζ with h|h
  ·intro Κ;exact absurd (bX _ Κ) (λo=>by obtain⟨aU,e,_⟩:∃o,s.heap.get? pl.addr=some o/\rl:=by {(refine a8 (s7 h) λi hi=>?_);(refine ψ ((P.places i pl hi).there) λo e H=>?_);exact as o e trivial};rw[f5 _ Κ] at e;contradiction)
  ·rw[h];exact(λΚ=>by(refine a8 (Ln _ Κ) λo e=>?_);rw[zC] at e;contradiction)
 have Lq:∀e μ,Er->ue p Γ (Γ++(bY scope.names).map (Place.loc C)) l c s e μ->yf p.M A (cZ p Γ l c s Er) use Qv (.ref D) C (.error e) μ:=λe μ cK f1=>by
  refine lH f1 λT l4 wH zr=>?_;try clear f1
  refine a8 zD λy aX=>?_;try clear zD
  refine a8 (zr _ aX) λm hm=>?_;have main:∃m,μ.heap.Ns C m/\∀h',vp C μ.heap h'->∀aA:bx,aA.locals=C->aB p.M A (Q8 "comprehension.variables-let-go" e aA:dP Λ) (λH H=>aK) (cZ p Γ l c s Er) {μ with heap:=h'}:=by
   refine as m hm (λh' σ aA H=>?_);have kk:∀b,b≠C->∀o,μ.heap.get? b=some o->h'.get? b=some o:=λb Κ o e=>(σ.2 b Κ).trans e;refine WO (s:={μ with heap:=h'}) (T.move σ hm k9 (λb o e=>S.frozen b o (S.base b o e)) P.frames) λoQ Xc u=>⟨cK,Xc.thrown,l4,λb o e Θ bC iC=>?_,λpl ζ=>?_⟩
   ·refine a8 (wH b o e Θ bC iC) λf2 bk=>?_;refine a8 (u b _ (kk b (λq=>by subst q;rw[k9] at e;contradiction) _ bk) iC) λwI du=>?_;exact⟨wI,du⟩
   ·refine((zr pl (ye _ ζ)).slots λo e iC=>⟨o.slots,kk _ (Lm pl ζ) o e⟩).up u
  unfold yf;rcases use with ⟨⟩<;>exact main
 have loop:∀tk,ip p.M A (.compLoop (.ListComp aN (⟨tgt,bN,cL,0⟩::rest) scope d8) 0 (.ref aG) (.ref D) (Ra scope (ks env.cells scope.names []) C env))
  (yf p.M A (cZ p Γ l c s Er) use Qv (.ref D) C) {a5 with heap:=bG,toks:=tk}:=λtk=>
  DX (s₀:=s) (Γ:=Γ) (Γ':=Γ++(bY scope.names).map (Place.loc C)) (F:=F) (c:=c) (Er:=Er) (Kp:=λH H H=>rl) (acc₀:=[]) (G:=G) (W' D _ aG) jO Χ.frames W (λH H H H H H H H H H H H H=>trivial) dL f5 kr
   (λpl ζ=>by rcases BS pl ζ with h|h;exact hV pl h;rw[h];exact λe=>qw e.symm)
   Lp
   P.frames (cj C _ pb jO) (mW C _ pb jO) DZ
   (λx xs acc F₁ Μ ν s₁ K b L q=>D0 C D _ _ _ pb jO ⟨bD,λH H H k=>W.there _ _ _ k.2.1,(λug hd U H H H H H H mU le keep mV jJ be=>by(refine aa be λH gN=>?_;try clear be);exact⟨trivial,zt W kr Lp hd U _ _ _ _ _ _ mU le keep mV jJ gN⟩)⟩ dL qx
    (λpl ζ=>by rcases BS pl ζ with h|h;exact hV pl h;rw[h];exact λe=>qw e.symm) Lq x xs acc F₁ Μ ν s₁ K b L q)
   (λacc F₁ Μ ν μ H L q=>D' C D μ k9 qx qw (by
    refine a8 zD λy aX=>?_;try clear zD
    exact L.P.there _ aX) zB (by
    refine gy L.eI λbj cR D5 am=>?_;exact Sc acc bj F₁ Μ ν cR L.X L.S ⟨L.P,L.Ψ,D5,L.qu,L.nS,am,q⟩))
   Lq D1 ⟨(X.trans (.grow old)),gQ,((ef.ext (.grow old)).extend Lm zz pa.1 pa.2 nd),fl,⟨[],0,(nR D _ qw Eb),.nil⟩,gS.1,gS.2,trivial⟩ Lo bX av.1 av.2
 exact codeAny_compStart_list (loop _) (W.self _ _ {a5 with heap:=bG,toks:=_} _ _ Lo (loop _))
theorem eZ.len{t:dP Λ}{R:I O->Ο->Ι->Prop}(h:eZ p A tgt Γ l F c ρ t R Er):eZ p A tgt Γ l F c ρ t (λitems ρ c=>ρ.length=Γ.length/\R items ρ c) Er:=λs S P f=>
 bR (h s S P f) (λv s₁ bG=>bR bG (λit a5 c9=>by
  refine vP c9 λF₁ Μ ν aG bD St items e dk=>?_;try clear c9;refine ny dk λX d7 ef fl W st bX f5 dg=>?_;try clear dk;refine aa dg λa' av=>?_;try clear dg
  exact nB F₁ Μ ν aG bD St items e ⟨X,d7,ef,fl,W,st,bX,f5,a',ef.len,av⟩) λH H e=>e) λH H e=>e
theorem eZ.mono{t:dP Λ}{R rP:I O->Ο->Ι->Prop}(h:eZ p A tgt Γ l F c ρ t R Er)(gE:∀items ρ c,R items ρ c->rP items ρ c):eZ p A tgt Γ l F c ρ t rP Er:=λs S P f=>
 bR (h s S P f) (λv s₁ bG=>bR bG (λit a5 c9=>by
  refine vP c9 λF₁ Μ ν aG bD St items e eV=>?_;try clear c9;refine ny eV λX d7 ef fl W st bX f5 fh=>?_;try clear eV;refine aa fh λa' av=>?_;try clear fh
  exact nB F₁ Μ ν aG bD St items e ⟨X,d7,ef,fl,W,st,bX,f5,a',gE _ _ _ av⟩) λH H e=>e) λH H e=>e
theorem eZ.Xd{t:dP Λ}{R:I O->Ο->Ι->Prop}(h:eZ p A tgt Γ l F c ρ t R Er):eZ p A tgt Γ l F c ρ t (λitems ρ c=>items.length<=20000/\R items ρ c) Er:=λs S P f=>
 bR (h s S P f) (λv s₁ bG=>bR bG (λit a5 c9=>by
  refine vP c9 λF₁ Μ ν aG bD St items e f0=>?_;try clear c9;refine ny f0 λX d7 ef fl W st bX f5 kf=>?_;try clear f0;refine aa kf λa' av=>?_;try clear kf
  exact nB F₁ Μ ν aG bD St items e ⟨X,d7,ef,fl,W,st,bX,f5,a',a',av⟩) λH H e=>e) λH H e=>e
theorem Lr{aN bN:Υ}{cL:I Υ}{d8 D9:bo}{use:ξ (Λ->dP gx)}{Qv:Λ->ah->Prop}{Qf:I O->Ο->Ι->Prop}{tgtF:O->Ο->(Ο->Prop)->Prop}{testsF:Ο->Ι->(Ο->Ι->Prop)->(Ο->Ι->Prop)->Prop}{eltF:Ο->Ι->(O->Ο->Ι->Prop)->Prop}(ζ:p.Ok)(bt:dK p env Γ ns sc)(hf:fk env l)(Χ:fw A l n)(Η:scope.kind= .function)(mZ:∀x,ry bN env x=pure x)(g7:l5 ns sc scope.names Γ.length f8=true)(cj:∀C aA,dK p aA (Γ++(bY scope.names).map (Place.loc C)) (gq ns scope.names) f8->fk aA l->∀v u ρ F c K,au p.prog p.w F v u->tgtF v ρ K->π p A (Γ++(bY scope.names).map (Place.loc C)) l F c ρ (hD tgt aA u) (λω c' aM H=>c'=c/\K aM) Er)(mW:∀C aA,dK p aA (Γ++(bY scope.names).map (Place.loc C)) (gq ns scope.names) f8->fk aA l->∀F c ρ P N,testsF ρ c P N->π p A (Γ++(bY scope.names).map (Place.loc C)) l F c ρ (o9 cL aA) (eu P N) Er)(mY:∀C aA,dK p aA (Γ++(bY scope.names).map (Place.loc C)) (gq ns scope.names) f8->fk aA l->∀F c ρ Q,eltF ρ c Q->π p A (Γ++(bY scope.names).map (Place.loc C)) l F c ρ (eval aN aA) (aZ p Q) Er)(k8:eZ p A tgt Γ l F c ρ (eval bN env) (λitems ν Μ=>dT tgtF testsF eltF items [] (ν++fz (bY scope.names).length) Μ Qf) Er)(S:a0 p.prog p.w p.B F c s.heap)(P:bI p.prog p.w p.B Γ l F c ρ s.heap)(Ψ:cu p s)(D':∀C D μ,s.heap.get? C=none->s.heap.get? D=none->D≠C->(∃m,μ.heap.Ns C m)->(D==mo)=false->zq p Γ (Γ++(bY scope.names).map (Place.loc C)) l F c s D Qf μ->yf p.M A (cZ p Γ l c s Er) use Qv (.ref D) C (.ok .next) μ):
 aB p.M A (Rb (.ListComp aN [⟨tgt,bN,cL,0⟩] scope d8) scope env D9 (Rc []) false (eval bN env) use) Qv (cZ p Γ l c s Er) s:=by
 refine Lk (rest:=[]) (G:=λxs acc ρ c=>dT tgtF testsF eltF xs acc ρ c Qf) (Bd:=λxs acc=>acc.length+xs.length<=20000) (actF:=λacc ρ c K=>eltF ρ c λv ρ c=>K (acc++[v]) ρ c) (act:=λD aA=>eval aN aA>>= λx=>call (.builtin "list.append") [D,x]>>= λH=>pure ())
  ζ bt hf Χ Η mZ g7 cj mW (λD aA aG=>compTurn_list aN tgt bN cL scope d8 (.ref aG) (.ref D) aA) (λx xs acc b=>by simp at b ⊢;exact IY b) (λC D aA Kp R pb jO aC dL wM hV aL x xs acc F₁ Μ ν s₁ K b L q=>?_) (λx xs acc ρ c q=>q) (k8.Xd.mono λitems ν Μ q=>⟨by simpa using q.1,q.2⟩) S P Ψ D'
 exact bR (D4 jO Χ.frames (aC.choose_spec.2 [] λH H=>vB) dL wM hV (mY C aA pb jO) aL L (IZ b) q) (λH μ fv=>by(refine oL fv λdi aY az bg e mC fi=>?_;try clear fv);exact vR di aY az bg (Ji e b) mC fi) λH H e=>e
theorem Ls(bt:dK p env Γ ns sc)(Η:scope.kind= .function)(g7:l5 ns sc scope.names Γ.length f8=true)(P:bI p.prog p.w p.B Γ l F c ρ s.heap):
 ∀C D μ,s.heap.get? C=none->s.heap.get? D=none->D≠C->(∃m,μ.heap.Ns C m)->(D==mo)=false->zq p Γ (Γ++(bY scope.names).map (Place.loc C)) l F c s D (λvs aM c=>Q (.lst vs) (aM.take Γ.length) c) μ->yf p.M A (cZ p Γ l c s Er) none (dm p Γ l F c s (aZ p Q)) (.ref D) C (.ok .next) μ:=by
 rintro C D μ k9 qx qw ⟨m,hm⟩ zB ⟨acc,bj,F₁,Μ,ν,cR,X,cn,dt,l4,eI,fd,cd,am,q⟩;refine as m hm (λh' σ=>?_);have kk:∀b,b≠C->∀o,μ.heap.get? b=some o->h'.get? b=some o:=λb Κ o e=>(σ.2 b Κ).trans e;refine rF (zw (C:=C) bt Η rfl g7) λH H H H H bF=>?_;have pa:F₁ C=none/\Μ C=none:=by
  rcases Φ:bY scope.names with _|⟨y,r⟩
  ·exact absurd Φ bF
  ·exact dt.hP (Place.loc C y) (Hb _ (by rw[Φ];exact vw (.head _)))
 exact⟨_,Μ,_,(X.past k9 kk).lT fd qx,(cn.past pa.1 pa.2 kk).lT fd cd (kk D qw _ eI),(dt.restrict.moved (h':=h') (λpl ζ o e=>kk _ (P.fresh k9 pl ζ) o e) (D7 dt.frames P.frames k9 kk)).lT fd (P.fresh qx),l4,_,.lst (hQ _ _ _) (am.mono (.upd fd)),q⟩
theorem Xe{aN bN:Υ}{cL:I Υ}{d8:bo}{tgtF:O->Ο->(Ο->Prop)->Prop}{testsF:Ο->Ι->(Ο->Ι->Prop)->(Ο->Ι->Prop)->Prop}{eltF:Ο->Ι->(O->Ο->Ι->Prop)->Prop}(ζ:p.Ok)(bt:dK p env Γ ns sc)(hf:fk env l)(Χ:fw A l n)(Η:scope.kind= .function)(mZ:∀x,ry bN env x=pure x)(g7:l5 ns sc scope.names Γ.length f8=true)(cj:∀C aA,dK p aA (Γ++(bY scope.names).map (Place.loc C)) (gq ns scope.names) f8->fk aA l->∀v u ρ F c K,au p.prog p.w F v u->tgtF v ρ K->π p A (Γ++(bY scope.names).map (Place.loc C)) l F c ρ (hD tgt aA u) (λω c' aM H=>c'=c/\K aM) Er)(mW:∀C aA,dK p aA (Γ++(bY scope.names).map (Place.loc C)) (gq ns scope.names) f8->fk aA l->∀F c ρ P N,testsF ρ c P N->π p A (Γ++(bY scope.names).map (Place.loc C)) l F c ρ (o9 cL aA) (eu P N) Er)(mY:∀C aA,dK p aA (Γ++(bY scope.names).map (Place.loc C)) (gq ns scope.names) f8->fk aA l->∀F c ρ Q,eltF ρ c Q->π p A (Γ++(bY scope.names).map (Place.loc C)) l F c ρ (eval aN aA) (aZ p Q) Er)(k8:eZ p A tgt Γ l F c ρ (eval bN env) (λitems ν Μ=>dT tgtF testsF eltF items [] (ν++fz (bY scope.names).length) Μ λvs aM c=>Q (.lst vs) (aM.take ν.length) c) Er):
 π p A Γ l F c ρ (eval (.ListComp aN [⟨tgt,bN,cL,0⟩] scope d8) env) (aZ p Q) Er:=λs S P Ψ=>by
 rw[eval_ListComp];refine Lr (Qf:=λvs aM c=>Q (.lst vs) (aM.take Γ.length) c) ζ bt hf Χ Η mZ g7 cj mW mY (k8.len.mono λitems ν Μ h=>by rw[h.1] at h;exact h.2) S P Ψ (Ls bt Η g7 P)
theorem Xf{aN bN:Υ}{cL:I Υ}{d8 nV fC:bo}{y:φ}{i:Y}{K:Ο->Ι->Prop}{tgtF:O->Ο->(Ο->Prop)->Prop}{testsF:Ο->Ι->(Ο->Ι->Prop)->(Ο->Ι->Prop)->Prop}{eltF:Ο->Ι->(O->Ο->Ι->Prop)->Prop}(ζ:p.Ok)(bt:dK p env Γ ns sc)(hf:fk env l)(Χ:fw A l n)(Η:scope.kind= .function)(mZ:∀x,ry bN env x=pure x)(g7:l5 ns sc scope.names Γ.length f8=true)(pc:p2 (.ListComp aN [⟨tgt,bN,cL,0⟩] scope d8) (some (.Name y nV)) fC.line env=pure true)(aX:sc.lookup y=some i)(cj:∀C aA,dK p aA (Γ++(bY scope.names).map (Place.loc C)) (gq ns scope.names) f8->fk aA l->∀v u ρ F c K,au p.prog p.w F v u->tgtF v ρ K->π p A (Γ++(bY scope.names).map (Place.loc C)) l F c ρ (hD tgt aA u) (λω c' aM H=>c'=c/\K aM) Er)(mW:∀C aA,dK p aA (Γ++(bY scope.names).map (Place.loc C)) (gq ns scope.names) f8->fk aA l->∀F c ρ P N,testsF ρ c P N->π p A (Γ++(bY scope.names).map (Place.loc C)) l F c ρ (o9 cL aA) (eu P N) Er)(mY:∀C aA,dK p aA (Γ++(bY scope.names).map (Place.loc C)) (gq ns scope.names) f8->fk aA l->∀F c ρ Q,eltF ρ c Q->π p A (Γ++(bY scope.names).map (Place.loc C)) l F c ρ (eval aN aA) (aZ p Q) Er)(k8:eZ p A tgt Γ l F c ρ (eval bN env) (λitems ν Μ=>dT tgtF testsF eltF items [] (ν++fz (bY scope.names).length) Μ λvs aM c=>K (eU (aM.take ν.length) i (some (.lst vs))) c) Er):
 π p A Γ l F c ρ (exec (.Assign [.Name y nV] (.ListComp aN [⟨tgt,bN,cL,0⟩] scope d8) fC) env) (λH c' aM f=>f= .next/\K aM c') Er:=λs S P Ψ=>by
 rw[exec_Assign_Name_used _ _ _ _ pc];refine aI (mr (aI ?_));show aB _ A (do let _ <-Rb (.ListComp aN [⟨tgt,bN,cL,0⟩] scope d8) scope env _ (Rc []) false (eval bN env) (some (hD (.Name y nV) env))) _ _ s;refine aI (bR (Lr (use:=some (hD (.Name y nV) env)) (Qv:=λH μ=>dm p Γ l F c s (λ_ c' aM (f:tp)=>f= .next/\K aM c') .next μ) (Qf:=λvs aM c=>K (eU (aM.take Γ.length) i (some (.lst vs))) c) ζ bt hf Χ Η mZ g7 cj mW mY (k8.len.mono λitems ν Μ h=>by rw[h.1] at h;exact h.2) S P Ψ ?_)
  (λH μ av=>cy (cy av)) λH H e=>e)
 rintro C D μ k9 qx qw ⟨m,hm⟩ zB ⟨acc,bj,F₁,Μ,ν,cR,X,cn,dt,l4,eI,fd,cd,am,q⟩;refine rF (zw (C:=C) bt Η rfl g7) λH H H H H bF=>?_;have pa:F₁ C=none/\Μ C=none:=by
  rcases Φ:bY scope.names with _|⟨y,r⟩
  ·exact absurd Φ bF
  ·exact dt.hP (Place.loc C y) (Hb _ (by rw[Φ];exact vw (.head _)))
 have wN:=cn.lT fd cd eI;have Lu:cf (ee Γ) F c s.heap (g0 F₁ D (listOf bj.toArray cR)) Μ μ.heap:=X.lT fd qx;refine bR (DG (R:=λH c' aM H=>c'=Μ/\aM=eU (ν.take Γ.length) i (some (.lst acc))) bt aX (au.lst (hQ F₁ D (listOf bj.toArray cR)) (am.mono (.upd fd))) ⟨rfl,rfl⟩ μ wN (dt.restrict.lT (o:=listOf bj.toArray cR) fd (P.fresh qx)) l4) (λH a5 c9=>?_) λH H e=>cZ.after Lu e;obtain⟨aY,az,bg,eW,d7,ef,fl,rfl,rfl⟩:=c9;refine rE hm λD8 es dR jP r=>?_;try clear hm
 have gS:=eW.none_of wN jP (by rw[ke _ _ λe=>qw e.symm];exact pa.1) pa.2;refine as m (⟨D8,es,dR,eW.keep C D8 jP pa.2 ((λsg=>by(refine ψ sg λpl ζ e=>?_;try clear sg);exact P.fresh k9 pl ζ e)),r⟩) (λh' σ=>?_);have kk:∀b,b≠C->∀o,a5.heap.get? b=some o->h'.get? b=some o:=λb Κ o e=>(σ.2 b Κ).trans e;exact⟨aY,_,_,(Lu.trans eW).past k9 kk,d7.past gS.1 gS.2 kk,ef.moved (h':=h') (λpl ζ o e=>kk _ (P.fresh k9 pl ζ) o e) (D7 ef.frames P.frames k9 kk),fl,rfl,q⟩
noncomputable def zE(aN bN fS eg tgt:Υ)(scope:fX)(d8:bo)(D:Λ)(aA:bx):dP gx:=
 eval eg aA>>= λx=>standAt eg.pos>>= λH=>ry eg aA x>>= λx=>holding [x] (oE x)>>= λit=>runOwn (.compStart (.ListComp aN [⟨tgt,bN,[],0⟩,⟨fS,eg,[],0⟩] scope d8) 1 it D aA) aA>>= λH=>pure ()
theorem Xg(aN bN eg:Υ)(scope:fX)(d8:bo)(it D:Λ)(aA:bx):
 vA (.ListComp aN [⟨tgt,bN,[],0⟩,⟨fS,eg,[],0⟩] scope d8) 0 it D aA=uc bN.pos tgt it [] aA (zE aN bN fS eg tgt scope d8 D aA) (.compLoop (.ListComp aN [⟨tgt,bN,[],0⟩,⟨fS,eg,[],0⟩] scope d8) 0 it D aA):=by
 unfold vA uc zE;simp only[List.getElem?_cons_zero,Rd,ahX,vt,ta,Q9,pure_bind,rr,bind_assoc];rfl
theorem Xh(aN bN eg:Υ)(scope:fX)(d8:bo)(it D:Λ)(aA:bx):
 vA (.ListComp aN [⟨tgt,bN,[],0⟩,⟨fS,eg,[],0⟩] scope d8) 1 it D aA=uc eg.pos fS it [] aA (eval aN aA>>= λx=>call (.builtin "list.append") [D,x]>>= λH=>pure ()) (.compLoop (.ListComp aN [⟨tgt,bN,[],0⟩,⟨fS,eg,[],0⟩] scope d8) 1 it D aA):=by rfl
theorem Xi{aN bN eg:Υ}{d8:bo}{it acc:Λ}(h0:ip p.M A (.compLoop (.ListComp aN [⟨tgt,bN,[],0⟩,⟨fS,eg,[],0⟩] scope d8) 1 it acc env) R s)(h:aB p.M A (oE it) (λLv μ=>ip p.M A (.compLoop (.ListComp aN [⟨tgt,bN,[],0⟩,⟨fS,eg,[],0⟩] scope d8) 1 Lv acc env) R μ)
 (p0 p.M A env λx μ=>R (.error x) μ) s):
 ip p.M A (.compStart (.ListComp aN [⟨tgt,bN,[],0⟩,⟨fS,eg,[],0⟩] scope d8) 1 it acc env) R s:=by
 refine QZ ?_;show aB _ A ((compStart (.ListComp aN [⟨tgt,bN,[],0⟩,⟨fS,eg,[],0⟩] scope d8) 1 it acc env).onRaise _) _ _ s;refine wpAny_notedAt ?_;unfold compStart;show aB _ _ (ask>>= _) _ _ s;refine aI (wpAny_askSetting (wpAny_ite ?_));split
 ·first
   |exact aI (cy (cy (Rf rfl h0)))
   |exact cy (Rf rfl h0)
 ·refine aI (Q5 ?_);show aB _ _ (standAt eg.pos>>= _) _ _ s;exact aI (mr (aI (bR h (λLv μ h'=>cy (Rf rfl h')) λH H x=>x)))
noncomputable def Lw(P:ah->Prop):j9->ah->Prop
 | .ok _,s=>P s
 | .error _,_=>aK
theorem Xj{aN bN eg:Υ}{d8:bo}{tgtF tgtF2:O->Ο->(Ο->Prop)->Prop}{it2F:Ο->Ι->(I O->Ο->Ι->Prop)->Prop}{eltF:Ο->Ι->(O->Ο->Ι->Prop)->Prop}(ζ:p.Ok)(bt:dK p env Γ ns sc)(hf:fk env l)(Χ:fw A l n)(Η:scope.kind= .function)(mZ:∀x,ry bN env x=pure x)(Xk:∀aA x,ry eg aA x=pure x)(g7:l5 ns sc scope.names Γ.length f8=true)(cj:∀C aA Er,dK p aA (Γ++(bY scope.names).map (Place.loc C)) (gq ns scope.names) f8->fk aA l->∀v u ρ F c K,au p.prog p.w F v u->tgtF v ρ K->π p A (Γ++(bY scope.names).map (Place.loc C)) l F c ρ (hD tgt aA u) (λω c' aM H=>c'=c/\K aM) Er)(Ec:∀C aA,dK p aA (Γ++(bY scope.names).map (Place.loc C)) (gq ns scope.names) f8->fk aA l->∀v u ρ F c K,au p.prog p.w F v u->tgtF2 v ρ K->π p A (Γ++(bY scope.names).map (Place.loc C)) l F c ρ (hD fS aA u) (λω c' aM H=>c'=c/\K aM) aK)(Xl:∀C aA,dK p aA (Γ++(bY scope.names).map (Place.loc C)) (gq ns scope.names) f8->fk aA l->∀F c ρ R,it2F ρ c R->eZ p A fS (Γ++(bY scope.names).map (Place.loc C)) l F c ρ (eval eg aA) R aK)(mY:∀C aA,dK p aA (Γ++(bY scope.names).map (Place.loc C)) (gq ns scope.names) f8->fk aA l->∀F c ρ Q,eltF ρ c Q->π p A (Γ++(bY scope.names).map (Place.loc C)) l F c ρ (eval aN aA) (aZ p Q) aK)(k8:eZ p A tgt Γ l F c ρ (eval bN env) (λitems ν Μ=>items.length<=100/\wg tgtF (λacc ρ c K=>it2F ρ c λitems ρ c=>items.length<=100/\dT tgtF2 (λρ c P H=>P ρ c) eltF items acc ρ c K) items [] (ν++fz (bY scope.names).length) Μ λvs aM c=>Q (.lst vs) (aM.take ν.length) c) Er):
 π p A Γ l F c ρ (eval (.ListComp aN [⟨tgt,bN,[],0⟩,⟨fS,eg,[],0⟩] scope d8) env) (aZ p Q) Er:=λs S P Ψ=>by
 rw[eval_ListComp];refine Lk (rest:=[⟨fS,eg,[],0⟩]) (testsF:=λρ c P H=>P ρ c) (tgtF:=tgtF) (G:=λxs acc ρ c=>wg tgtF (λacc ρ c K=>it2F ρ c λitems ρ c=>items.length<=100/\dT tgtF2 (λρ c P H=>P ρ c) eltF items acc ρ c K) xs acc ρ c λvs aM c=>Q (.lst vs) (aM.take Γ.length) c) (Bd:=λxs acc=>acc.length+100*xs.length<=15000)
  (actF:=λacc ρ c K=>it2F ρ c λitems ρ c=>items.length<=100/\dT tgtF2 (λρ c P H=>P ρ c) eltF items acc ρ c K) (act:=zE aN bN fS eg tgt scope d8)
  ζ bt hf Χ Η mZ g7 (λC aA bt hf=>cj C aA Er bt hf) (λC aA bt hf F c ρ P N h s S dt f=>Rg (.now S dt f h)) (λD aA aG=>Xg aN bN eg scope d8 (.ref aG) (.ref D) aA) (λx xs acc b=>by simp at b ⊢;exact θ [_,_] [] (.le (.a (.v 0) (.m 100 (.v 1))) (.c 15000)) [(.le (.a (.v 0) (.m 100 (.a (.v 1) (.c 1)))) (.c 15000))] [[1,1]] rfl b)
  (λC D aA Kp R pb jO aC dL wM hV aL x xs acc F₁ Μ ν s₁ K b L q=>?_) (λx xs acc ρ c q=>q) (k8.len.mono λitems ν Μ h=>⟨by have:=h.2.1;simp;exact qa this rfl,by have:=h.2.2;rw[h.1] at this;exact this⟩) S P Ψ (Ls bt Η g7 P)
 ·unfold zE;refine aI (bR (Xl C aA pb jO F₁ Μ ν _ q s₁ L.S L.P L.Ψ) (λv a5 c9=>?_) (λH H e=>e.cK.elim));refine aI (mr (aI (jx (Xk aA v) (aI (oB (bR c9 (λit gM g3=>?_) (λH H e=>e.cK.elim)))))));apply vT g3;intro f6 cH hp aG bD St items lQ;refine ny lQ λX gQ mX k7 W st bX f5 jG=>?_;try clear lQ;refine e7 jG λa' sj av=>?_;try clear jG
  refine ψ aC λDV Xm nW=>?_;try clear aC
  have Lx:=nW [] λH H=>vB;have Xn:∀b∈bD,s.heap.get? b=none:=λb Κ=>by
   rcases q:s.heap.get? b with _|o
   ·rfl
   ·(refine ψ (L.X.c4 b o q) λaU aT H=>?_);rw[f5 b Κ] at aT;contradiction
  have kr:D∉bD:=λΚ=>by(refine gy L.eI λbj cR eI H=>?_);rw[f5 D Κ] at eI;contradiction
  have jN:∀pl∈Γ++(bY scope.names).map (Place.loc C),pl.addr∉bD:=λpl ζ Κ=>L.P.fresh (f5 _ Κ) pl ζ rfl;have loop:ip p.M A (.compLoop (.ListComp aN [⟨tgt,bN,[],0⟩,⟨fS,eg,[],0⟩] scope d8) 1 (.ref aG) (.ref D) aA) (Lw λμ=>∃di aY az bg,di.length+100*xs.length<=15000/\hJ p Γ (Γ++(bY scope.names).map (Place.loc C)) l F c s D Kp di aY az bg μ/\K di bg az) gM:=
   DX (s₀:=s) (Γ:=Γ) (Er:=aK) (Kp:=Kp) (G:=λxs acc ρ c=>dT tgtF2 (λρ c P H=>P ρ c) eltF xs acc ρ c K) (Bd:=λbj acc=>acc.length+bj.length+100*xs.length<=15000) (actF:=λacc ρ c K=>eltF ρ c λv ρ c=>K (acc++[v]) ρ c) (testsF:=λρ c P H=>P ρ c) (tgtF:=tgtF2)
    (Xh aN bN eg scope d8 (.ref aG) (.ref D) aA) jO Χ.frames W (nW bD (λb Κ qj=>by(refine a8 (Xm _ _ _ L.hn b Κ) λo e=>?_);rw[f5 b qj] at e;contradiction)) dL Xn kr hV jN P.frames (Ec C aA pb jO) (λF c ρ P N h s S dt f=>Rg (.now S dt f h)) (λx xs acc b=>by simp at b ⊢;exact θ [_,_,_] [] (.le (.a (.a (.v 0) (.v 1)) (.m 100 (.v 2))) (.c 15000)) [(.le (.a (.a (.v 0) (.a (.v 1) (.c 1))) (.m 100 (.v 2))) (.c 15000))] [[1,1]] rfl b)
    (λx bj acc F₁ Μ ν s₁ wP b L q=>bR (D4 (R:=Lw λμ=>∃di aY az bg,di.length+100*xs.length<=15000/\hJ p Γ (Γ++(bY scope.names).map (Place.loc C)) l F c s D Kp di aY az bg μ/\K di bg az) jO Χ.frames (λU f6 cH g3 hr e0 qt mU le keep mV jJ sh=>by(refine aa sh λf4 gN=>?_;try clear sh);exact⟨Lx U _ _ _ _ _ _ mU le keep mV jJ f4,zt W kr jN (λb H=>vB) U _ _ _ _ _ _ mU le keep mV jJ gN⟩) dL wM hV (mY C aA pb jO) (λe μ f H=>f.elim) L (by simp at b;exact θ [_,_,_] [] (.le (.v 0) (.c 30000)) [(.le (.a (.a (.v 0) (.a (.v 1) (.c 1))) (.m 100 (.v 2))) (.c 15000))] [[1,1]] rfl b) q) (λH μ zF=>by(refine oL zF λdi aY az bg e mC fi=>?_;try clear zF);exact vR di aY az bg (by simp at b ⊢;exact θ [_,_,_,_] [] (.le (.a (.a (.v 0) (.v 2)) (.m 100 (.v 3))) (.c 15000)) [(.eq (.v 0) (.a (.v 1) (.c 1))),(.le (.a (.a (.v 1) (.a (.v 2) (.c 1))) (.m 100 (.v 3))) (.c 15000))] [[1,1,0,1]] rfl e b) mC fi) λH H e=>e)
    (λacc F₁ Μ ν μ b L q=>⟨acc,F₁,Μ,ν,by simpa using b,L,q⟩) (λe μ f H=>f.elim) (λx xs acc ρ c q=>q) (L.step Lx dL hV X gQ mX k7) st bX (θ [_,_,_] [] (.le (.a (.a (.v 0) (.v 2)) (.m 100 (.v 1))) (.c 15000)) [(.le (.a (.v 0) (.m 100 (.a (.v 1) (.c 1)))) (.c 15000)),(.le (.v 2) (.c 100))] [[1,1,1]] rfl b sj) av
  refine aI (bR (wpAny_runOwn (h:=none) (Q:=λH μ=>∃di aY az bg,di.length+100*xs.length<=15000/\hJ p Γ (Γ++(bY scope.names).map (Place.loc C)) l F c s D Kp di aY az bg μ/\K di bg az) (GL (Xi loop (W.self _ _ _ _ _ st loop)) λr μ h=>?_)) (λH μ h=>cy h) λH H e=>e);cases r with
  |ok f=>exact h
  |error e=>exact h.elim
end
noncomputable def fm(p:bP)(Q:Ο->Ι->Prop)(R:O->Ο->Ι->Prop)(F:a2)(c:Ι)(ρ:Ο):tp->Prop
 | .next=>Q ρ c
 | .ret v=>aZ p R F c ρ v
 |_=>aK
noncomputable def Ed(e:Υ):aQ:=(hB 8 e.ctorIdx&&hB e.ctorIdx 10).not
noncomputable def sk(e:Υ):aQ:=(bE e.ctorIdx 25).not
theorem Ee{e:Υ}(h:Ed e=true)(t:ξ Υ)(line:Y)(env:bx):p2 e t line env=pure false:=by
 rcases e with ⟨⟩<;>first|rfl|contradiction
theorem Xo{t value:Υ}{env:bx}(h:sk value=true∨sk t=true)(Τ:∀es p,t≠.List es p):Hc [t] value env=pure none:=by
 rcases t with ⟨⟩<;>first|rfl|(exact absurd rfl (Τ _ _))|skip
 rcases h with h|h
 ·rcases value with ⟨⟩<;>first|rfl|contradiction
 ·contradiction
section
variable{F₁:a2}{Μ:Ι}{ν:Ο}{s₀:ah}{aA:bx}{fC:bo}{x y o tgt value:Υ}{ns:I (φ×ez)}{sc:I (φ×Y)}{Q:Ο->Ι->Prop}{R:O->Ο->Ι->Prop}{st:ed}{rest:I ed}
theorem execs_nil(h:Q ρ c):π p A Γ l F c ρ (iv [] env) (fm p Q R) Er:=.pure h
theorem execs_cons(h:π p A Γ l F c ρ (exec st env) (fm p (λν Μ=>∀F₁,cr F F₁->π p A Γ l F₁ Μ ν (iv rest env) (fm p Q R) Er) R) Er):π p A Γ l F c ρ (iv (st::rest) env) (fm p Q R) Er:=by
 show π p A Γ l F c ρ (exec st env>>= λf=>match f with| .next=>iv rest env|f=>pure f) _ _;refine .bind (h.mono (λF₁ Μ ν f le hf H=>?_) id);cases f with
 |next=>exact hf F₁ le
 |ret v=>exact .pure hf
 |brk=>exact hf.elim
 |cont=>exact hf.elim
theorem Xp(h:π p A Γ l F c ρ (eval x env) (aZ p R) Er):π p A Γ l F c ρ (exec (.Return (some x) pos) env) (fm p Q R) Er:=by
 rw[exec_Return_some];exact .standAt (.bind (h.mono (λF₁ Μ ν v le Φ H=>.pure Φ) id))
theorem Xq{t:Υ}{dz bs:I ed}(h:π p A Γ l F c ρ (iu t env (eval t env)) (eu (λν Μ=>∀F₁,cr F F₁->π p A Γ l F₁ Μ ν (iv dz env) (fm p Q R) Er) (λν Μ=>∀F₁,cr F F₁->π p A Γ l F₁ Μ ν (iv bs env) (fm p Q R) Er)) Er):
 π p A Γ l F c ρ (exec (.If t dz bs pos) env) (fm p Q R) Er:=by
 rw[exec_If];refine .standAt (.bind (h.mono (λF₁ Μ ν b le Κ H=>?_) id));rcases b with ⟨⟩
 ·exact Κ F₁ le
 ·exact Κ F₁ le
noncomputable def Xr(tgt:Υ)(env:bx):Prop:=(nu [tgt] env).map (·.2)=[λv=>hD tgt env v]
theorem Xs{tgt:Υ}{env:bx}(σ:∀e p,tgt≠.Starred e p):Xr tgt env:=by
 rcases tgt with ⟨⟩<;>first|exact rfl|exact absurd rfl (σ _ _)
noncomputable def Ef(value tgt:Υ)(line:Y)(env:bx):Prop:=p2 value (some tgt) line env=pure false
theorem Xu(value:Υ)(f7:I Υ)(k:Y)(cw:bo)(line:Y)(env:bx):Ef value (.Tuple f7 k cw) line env:=by rcases value with ⟨⟩<;>exact rfl
theorem Xv(value o i:Υ)(cw:bo)(line:Y)(env:bx):Ef value (.Subscript o i cw) line env:=by rcases value with ⟨⟩<;>exact rfl
theorem Xw(value o:Υ)(name:φ)(cw:bo)(line:Y)(env:bx):Ef value (.Attribute o name cw) line env:=by rcases value with ⟨⟩<;>exact rfl
noncomputable def Xx(o:Υ)(kt:bo)(env:bx)(u:Λ)(i:Υ):Prop:=
 hD (.Subscript o i kt) env u=(holding [u] (eval o env)>>= λcs=>holding [u,cs] (eval i env)>>= λkX=>standAt kt>>= λH=>holding [u,cs,kX] (setItem cs kX u)>>= λH=>release [u,cs,kX] [])
theorem Xy{o:Υ}{kt:bo}{env:bx}{u:Λ}{i:Υ}(hi:rY i=true):Xx o kt env u i:=by
 rcases i with ⟨⟩<;>first|exact rfl|exact hE hi
theorem zG(Φ:p2 value (some tgt) pos.line env=pure false)(bC:sk value=true∨sk tgt=true)(Τ:∀es p,tgt≠.List es p)(σ:∀e p,tgt≠.Starred e p):
 exec (.Assign [tgt] value pos) env=(standAt pos>>= λH=>eval value env>>= λv=>hD tgt env v>>= λH=>pure .next):=by
 have e:exec (.Assign [tgt] value pos) env=(standAt pos>>= λH=>swapsWithSole [tgt] value pos.line env>>= λb=>if b then (evalThenUse value env λv=>assignAll v ((nu [tgt] env).map (·.2)))>>= λH=>pure .next else
  eval value env>>= λv=>Hc [tgt] value env>>= λw=>assignStores env v w ((nu [tgt] env).map (·.2))):=rfl
 have bk:swapsWithSole [tgt] value pos.line env=pure false:=Φ;have du:(nu [tgt] env).map (·.2)=[λv=>hD tgt env v]:=Xs σ;rw[e,bk,Xo bC Τ,du];simp only[pure_bind,vt,ta];rfl
theorem Ly{tg:ki}(bt:dK p env Γ ns sc)(Χ:fw A l n)(Φ:p2 value (some tgt) pos.line env=pure false)(bC:sk value=true∨sk tgt=true)(δ:k3 sc tgt=some tg)(h:π p A Γ l F c ρ (eval value env) (aZ p λv ν Μ=>hk tg v ν λbg=>Q bg Μ) Er):π p A Γ l F c ρ (exec (.Assign [tgt] value pos) env) (fm p Q R) Er:=by
 rw[zG Φ bC (λes p e=>by subst e;contradiction) (λes p e=>by subst e;contradiction)];refine .standAt (.bind (h.mono (λF₁ Μ ν u le a4 H=>?_) id));obtain⟨v,c6,av⟩:=a4;exact .bind ((t6 bt Χ.handled δ c6 av).mono (λaY az bg H d3 Δ H=>.pure (by obtain⟨rfl,q⟩:=Δ;exact q)) id)
theorem Xz{υ:et}{k:Y}{name:φ}{kt:bo}(ζ:p.Ok)(T:iH p υ)(r8:name=b6 k)(h:π p A Γ l F c ρ (eval value env) (aZ p λv ν Μ=>∀F₁,cr F F₁->π p A Γ l F₁ Μ ν (eval o env) (aZ p λcs bg az=>yV υ az k v cs λcH=>Q bg cH) Er) Er):
 π p A Γ l F c ρ (exec (.Assign [.Attribute o name kt] value pos) env) (fm p Q R) Er:=by
 rw[zG (Xw ..) (.inr rfl) (λes p e=>by contradiction) (λes p e=>by contradiction)];refine .standAt (.bind (h.mono (λF₁ Μ ν u le a4 H=>?_) id));obtain⟨v,c6,av⟩:=a4;subst r8;show π p A Γ l F₁ Μ ν ((holding [u] (eval o env)>>= λcs=>standAt kt.atName>>= λH=>holding [u,cs] (setAttr cs (b6 k) u)>>= λH=>release [u,cs] [])>>= λH=>pure ahZ) _ _;refine .bind (.bind (.holding ((av F₁ le).mono (λaY az bg cs d3 Φ H=>?_) id)));obtain⟨km,je,σ⟩:=Φ;refine .standAt (.bind (.holding (π.mono (R:=λ_ c' aM (_:gx)=>aM=bg/\Q bg c') (Er:=Er) (λs S P f=>US ζ T S P f (c6.mono d3) je σ) (λf6 cH hp H t4 κ H=>?_) id)));obtain⟨rfl,q⟩:=κ;exact λs S P f=>GZ (.now S P f λH=>.pure q)
theorem XA{i:Υ}{kt:bo}(hi:rY i=true)(h:π p A Γ l F c ρ (eval value env) (aZ p λv ν Μ=>∀F₁,cr F F₁->π p A Γ l F₁ Μ ν (eval o env) (aZ p λcs bg az=>∀aY,cr F₁ aY->π p A Γ l aY az bg (eval i env) (aZ p λkX hp cH=>tQ cH v cs kX λe0=>Q hp e0) Er) Er) Er):
 π p A Γ l F c ρ (exec (.Assign [.Subscript o i kt] value pos) env) (fm p Q R) Er:=by
 rw[zG (Xv ..) (.inr rfl) (λes p e=>by contradiction) (λes p e=>by contradiction)];refine .standAt (.bind (h.mono (λF₁ Μ ν u le a4 H=>?_) id));obtain⟨v,c6,av⟩:=a4;rw[(Xy hi:hD (.Subscript o i kt) env u=_)];refine .bind (.bind (.holding ((av F₁ le).mono (λaY az bg cs d3 Φ H=>?_) id)));obtain⟨km,je,σ⟩:=Φ;refine .bind (.holding ((σ aY d3).mono (λf6 cH hp kX t4 Φ H=>?_) id));obtain⟨akb,r2,σ⟩:=Φ;refine .standAt (.bind (.holding (π.mono (R:=λ_ c' aM (_:gx)=>aM=hp/\Q hp c') (Er:=Er) (λs S P f=>UW S P f (c6.mono (d3.trans t4)) (je.mono t4) r2 σ) (λhr e0 wK H akc ay H=>?_) id)));obtain⟨rfl,q⟩:=ay;exact λs S P f=>GZ (.now S P f λH=>.pure q)
theorem XB(bt:dK p env Γ ns sc):Hd env=false:=by unfold Hd;rw[bt.kind];rfl
theorem XC(Φ:Ed x=true)(hi:Hd env=false)(h:π p A Γ l F c ρ (eval x env) (aZ p λH ν Μ=>Q ν Μ) Er):π p A Γ l F c ρ (exec (.Expr x pos) env) (fm p Q R) Er:=λs S P f=>
 ah0 (bR (h s S P f) (λv s₁ bG=>by
  obtain⟨ω,c',aM,X,cn,dt,i8,qk,_,q⟩:=bG;exact⟨ω,c',aM,X,cn,dt,i8,q⟩) λH H e=>e) hi (Ee Φ _ _ _)
end
section
variable{F₁:a2}{Μ:Ι}{ν:Ο}{s₀:ah}{aA:bx}{fC:bo}{x y o tgt value bN:Υ}{ns:I (φ×ez)}{sc:I (φ×Y)}{Q:Ο->Ι->Prop}{R:O->Ο->Ι->Prop}{st:ed}{rest body:I ed}
inductive Lz(p:bP)(Γ:I Place)(l:I bx)(F:a2)(c:Ι)(s:ah)(St:I O->a2->bK->Prop)(bD:I ε)(G:I O->Ο->Ι->Prop)(m:Y)(μ:ah):Prop
 |mk (items F₁ Μ ν) (n:items.length=m) (X:cf (ee Γ) F c s.heap F₁ Μ μ.heap) (S:a0 p.prog p.w p.B F₁ Μ μ.heap) (P:bI p.prog p.w p.B Γ l F₁ Μ ν μ.heap) (Ψ:cu p μ) (st:St items F₁ μ.heap) (bX:Off bD F₁ Μ) (q:G items ν Μ):Lz p Γ l F c s St bD G m μ
theorem XD{tgtF:O->Ο->(Ο->Prop)->Prop}{Eg:Ο->Ι->(Ο->Ι->Prop)->Prop}(mZ:∀x,ry bN env x=pure x)(cj:∀v u ρ F c K,au p.prog p.w F v u->tgtF v ρ K->π p A Γ l F c ρ (hD tgt env u) (λω c' aM H=>c'=c/\K aM) aK)(gR:∀F c ρ K,Eg ρ c K->π p A Γ l F c ρ (iv body env) (fm p K R) aK)(k8:eZ p A tgt Γ l F c ρ (eval bN env) (λitems ν Μ=>mJ tgtF Eg items ν Μ Q) Er):
 π p A Γ l F c ρ (exec (.For tgt bN body [] pos) env) (fm p Q R) Er:=λs S P Ψ=>by
 refine wpAny_For (bR (k8 s S P Ψ) (λv s₁ bG=>bR bG (λit a5 c9=>?_) λH H e=>e) λH H e=>e) mZ;apply vT c9;intro F₁ Μ ν aG bD St items aW;refine ny aW λX d7 ef fl W st bX f5 bM=>?_;try clear aW;refine aa bM λa' av=>?_;try clear bM
 have jN:∀pl∈Γ,pl.addr∉bD:=λpl ζ Κ=>P.fresh (f5 _ Κ) pl ζ rfl;refine codeAny_forLoop_any (Lz p Γ l F c s St bD λitems ρ c=>mJ tgtF Eg items ρ c Q) ?_ items.length ⟨items,F₁,Μ,ν,rfl,X,d7,ef,fl,st,bX,av⟩;clear av bX st d7 ef fl X;intro m μ be;rcases be with ⟨items,F₁,Μ,ν,aV,X,d7,ef,fl,st,bX,av⟩
 subst aV;refine W.turn st d7 bX fl (λe gM gQ keep k7=>?_) (λx xs e v s₁ h=>?_)
 ·subst e;have iE:=X.kept f5 keep;exact cy ⟨F₁,Μ,ν,iE,gQ,ef.moved (λpl ζ o e=>keep _ o (jN pl ζ) e) (FunFrames.ext iE.c4 P.frames),k7,av⟩
 ·subst e;refine bR h (λH a5 h=>?_) λH H e=>e;refine HB h λaY c6 uh wQ eW ui fl=>?_;try clear h
  have step:∀{f6:a2} {cH:Ι} {gM l3:ah} {hr:a2} {e0:Ι},a0 p.prog p.w p.B f6 cH gM.heap->St xs f6 gM.heap->Off bD f6 cH->
   cf (ee Γ) f6 cH gM.heap hr e0 l3.heap->a0 p.prog p.w p.B hr e0 l3.heap->St xs hr l3.heap/\Off bD hr e0:=by
   intro f6 cH gM l3 hr e0 zb LA Eh hU jJ;refine⟨W.frame _ _ _ _ _ LA hU.le jJ.frozen λb Κ o e=>hU.keep b o e (Eh b Κ).2 (((λb Κ be=>by(refine ψ be λpl ζ e=>?_;try clear be);exact jN pl ζ (e▸Κ)):∀b∈bD,¬ee Γ b) b Κ),λb Κ=>?_⟩;refine a8 (W.there _ _ _ LA b Κ) λo e=>?_;exact hU.none_of zb e (Eh b Κ).1 (Eh b Κ).2
  refine bR (cj x v ν aY Μ _ c6 av a5 wQ (ef.Kz eW jN) fl) (λH gM h=>?_) λH H e=>e.1.elim;obtain⟨f6,cH,hp,nT,gQ,mX,k7,rfl,D3⟩:=h;refine bR (gR f6 cH hp _ D3 gM gQ mX k7) (λf l3 h=>?_) λH H e=>e.1.elim;obtain⟨hr,e0,wK,wL,uj,zu,uk,sf⟩:=h;have LB:=((X.over eW λb Κ=>.inr (f5 b Κ)).trans nT).trans wL;cases f with
  |next=>exact as xs.length (yd _) ⟨xs,hr,e0,wK,rfl,LB,uj,zu,uk,((step gQ ((step wQ uh ui nT gQ)).1 ((step wQ uh ui nT gQ)).2 wL uj)).1,((step gQ ((step wQ uh ui nT gQ)).1 ((step wQ uh ui nT gQ)).2 wL uj)).2,sf⟩
  |ret v=>exact⟨hr,e0,wK,LB,uj,zu,uk,sf⟩
  |brk=>exact sf.elim
  |cont=>exact sf.elim
theorem XE{t:Υ}{aG:Y->Ο->Ι->Prop}(h0:∃m,aG m ρ c)(gR:∀F c ρ m,aG m ρ c->π p A Γ l F c ρ (iu t env (eval t env)) (eu (λρ c=>∀F₁,cr F F₁->π p A Γ l F₁ c ρ (iv body env) (fm p (λρ c=>∃cR,cR<m/\aG cR ρ c) R) aK) Q) aK):
 π p A Γ l F c ρ (exec (.While t body [] pos) env) (fm p Q R) Er:=λs S P Ψ=>by
 refine a8 h0 λm dn=>?_;try clear h0
 refine wpAny_While (codeAny_whileLoop (λm μ=>∃F₁ Μ ν,cf (ee Γ) F c s.heap F₁ Μ μ.heap/\a0 p.prog p.w p.B F₁ Μ μ.heap/\bI p.prog p.w p.B Γ l F₁ Μ ν μ.heap/\cu p μ/\aG m ν Μ) ?_ m ⟨F,c,ρ,.refl ..,S,P,Ψ,dn⟩);intro m μ fv;refine lI fv λF₁ Μ ν X dS er ul dn=>?_;try clear fv
 refine bR (gR F₁ Μ ν m dn μ dS er ul) (λb a5 h=>?_) λH H e=>e.1.elim;obtain⟨aY,az,bg,eW,d7,ef,fl,Κ⟩:=h;rcases b with _|_
 ·simp only[vt,ta];exact cy ⟨aY,az,bg,X.trans eW,d7,ef,fl,Κ⟩
 ·simp only[rr];refine bR (Κ aY eW.le a5 d7 ef fl) (λf gM h=>?_) λH H e=>e.1.elim;obtain⟨f6,cH,hp,nT,gQ,mX,k7,av⟩:=h;have LC:=(X.trans eW).trans nT;cases f with
  |next=>(refine ψ av λcR dh XF=>?_;try clear av);exact as cR dh ⟨f6,cH,hp,LC,gQ,mX,k7,XF⟩
  |ret v=>exact⟨f6,cH,hp,LC,gQ,mX,k7,av⟩
  |brk=>exact av.elim
  |cont=>exact av.elim
theorem XG{a b:φ}{jg jQ kt:bo}{k:Y}{i j:Y}{Β:Y}{zH:bo}(bt:dK p env Γ ns sc)(Χ:fw A l n)(γ:sc.lookup a=some i)(Κ:sc.lookup b=some j)(bC:Hc [.Tuple [.Name a jg,.Name b jQ] k kt] (.Tuple es Β zH) env=pure (some [a,b]))(h:π p A Γ l F c ρ (eval (.Tuple es Β zH) env) (aZ p λv ν Μ=>∃u w,v= .tup [u,w]/\Q (eU (eU ν j (some w)) i (some u)) Μ) Er):
 π p A Γ l F c ρ (exec (.Assign [.Tuple [.Name a jg,.Name b jQ] k kt] (.Tuple es Β zH) pos) env) (fm p Q R) Er:=λs S P Ψ=>by
 refine Assign_Tuple_swapped (bR (h s S P Ψ) (λv s₁ bG=>?_) λH H e=>e) (Ee (e:=.Tuple es Β zH) rfl (some (.Tuple [.Name a jg,.Name b jQ] k kt)) pos.line env) bC;obtain⟨F₁,Μ,ν,X,dS,er,ul,akd,c6,u,ake,rfl,av⟩:=bG;apply gk c6.mK;intro vs V' m XH de;refine fb de.two λzI t2 fh sl ww=>?_;rcases fh with rfl
 have:=wpAny_unpackItems_tuple (prog:=p.prog) (w:=p.w) Χ.handled (Dj dS XH) (Q:=λitems a5=>
  aB p.M A (BN (([a,b]:I φ).reverse.map λn=>yg env n) items.reverse) (λH=>dm p Γ l F c s (fm p Q R) .next) (cZ p Γ l c s Er) a5) (E:=cZ p Γ l c s Er) (λh' Ν=>?_)
 ·exact this
 have k:∀b o,s₁.heap.get? b=some o->h'.get? b=some o:=λb o e=>Ν b o (vy (jv e)) e;have y8:cf (ee Γ) F c s.heap F₁ Μ h':=X.trans (.grow k);have main:π p A Γ l F₁ Μ ν (BN [λv=>yg env b v,λv=>yg env a v] [t2,zI]) (λH c' aM H=>Q aM c') Er:=by
  show π p A Γ l F₁ Μ ν (holding [zI] (yg env b t2)>>= λH=>(holding [] (yg env a zI)>>= λH=>pure ())) _ _;refine .bind (.holding λs S P f=>QU (DF bt Κ ww (R:=λω c' aM H=>cr F₁ ω->π p A Γ l ω c' aM (holding [] (yg env a zI)>>= λH=>pure ()) (λH c' aM H=>Q aM c') Er) (λH=>?_) s S P f));refine .bind (.holding λs S P f=>QU (DF bt γ sl (R:=λω c' aM H=>cr F₁ ω->π p A Γ l ω c' aM (pure ()) (λH c' aM H=>Q aM c') Er) (λH=>.pure av) s S P f))
 refine bR (main {s₁ with heap:=h'} (dS.grow k) (er.ext (.grow k)) ul) (λH a5 c9=>?_) λH H e=>cZ.after (s₁:={s₁ with heap:=h'}) y8 e;obtain⟨aY,az,bg,eW,d7,ef,fl,q⟩:=c9;exact⟨aY,az,bg,y8.trans eW,d7,ef,fl,q⟩
end
section
variable{F₁:a2}{Μ:Ι}{ν:Ο}{s₀:ah}{aA:bx}
theorem call_cells{R:j9->ah->Prop}{a:ε}{o:cU}{fd:yh}{body:I ed}{em:I Λ}{binds:I (φ×Λ)}(Ei:A.depth<j6)(ab:s.heap.get? a=some o)(XI:o.data= .func fd)(Ej:s.heap.NoLimit)(ko:s.heap.CodeRec fd.code fd.qualname)(XJ:fd.body= .stmts body)(pd:yi s fd ⟨em,[]⟩ binds)(XK:fd.closure=[])(XM:∀x∈binds,fd.scope.names.lookup x.1=some .local∨(fd.scope.names.lookup x.1=some .cell/\((vE (s.heap.objs.size+1) fd.scope.names []).lookup x.1).isSome=true))(h:∀s₁,InCallC s (p3 fd s.heap.objs.size a).locals (BU (p3 fd s.heap.objs.size a).kindOf binds λH=>none) (p3 fd s.heap.objs.size a).cells
 (BV (p3 fd s.heap.objs.size a).kindOf binds λH=>none) s₁->
 aB p.M (A.deeper (p3 fd s.heap.objs.size a)) (iv body (p3 fd s.heap.objs.size a)) (λf μ=>R (.ok (.ret (match f with| .ret v=>v|_=>.none))) μ)
  (λe μ=>aB p.M (A.deeper (p3 fd s.heap.objs.size a)) (G9 (p3 fd s.heap.objs.size a) e) (λH sm=>R (.error e) sm) (λaT sm=>R (.error aT) sm) μ) s₁)(pe:fd.scope.isCoroutine=false)(sn:fd.scope.isGenerator=false)(Η:fd.scope.kind= .function):
 ip p.M A (.call (.ref a) ⟨em,[]⟩) R s:=by
 refine codeAny_call_function Ei ab XI pe sn XJ ko (pd _ _ _ _ ?_);rw[XK];refine wpAny_newFunctionEnv_cells Η XM λenv aH μ x=>?_;subst aH;exact⟨Ej.keeps x.toInCall.keep,codeAny_func (h μ x)⟩
noncomputable def placeOf(names:I (φ×ez))(L:ε)(cells:I (φ×ε))(x:φ):Place:=match names.lookup x with
 |some .cell=>.cell ((cells.lookup x).getD 0)
 |_=>.loc L x
noncomputable def Ek(names:I (φ×ez))(x:φ):aQ:=x != ("__debug__":φ)&&(names.lookup x==some .local||names.lookup x==some .cell)
noncomputable def so(names:I (φ×ez))(vs:I φ):aQ:=decide vs.Nodup&&vs.all (Ek names)
theorem XN{x:φ}{names:I (φ×ez)}:∀{m:Y} {acc:I (φ×ε)},(acc.lookup x).isSome=true->((vE m names acc).lookup x).isSome=true:=by
 induction names with
 |nil=>
  exact λ{_} {_} h=>h
 |cons hd r Ξ=>
  obtain⟨y,k⟩:=hd;exact λ{m} {acc} h=>by
   unfold vE;split
   ·refine Ξ ?_;rw[tm];cases x==y with
    |true=>rfl
    |false=>exact h
   ·exact Ξ h
theorem um{x:φ}{names:I (φ×ez)}:∀{m:Y} {acc:I (φ×ε)},names.lookup x=some .cell->((vE m names acc).lookup x).isSome=true:=by
 induction names with
 |nil=>exact λ{h0} {Α} Δ=>by simp_all
 |cons hd r Ξ=>
  obtain⟨y,k⟩:=hd;exact λ{m} {acc} h=>by
   unfold vE;rw[tm] at h;cases q:x==y with
   |true=>
    rw[q] at h;obtain rfl:=bQ h;rw[cz (by decide)];exact XN (by rw[tm,q];rfl)
   |false=>
    rw[q] at h;split
    ·exact Ξ h
    ·exact Ξ h
theorem XO{k:φ->ξ ez}{x:φ}{binds:I (φ×Λ)}:∀{m:φ->ξ Λ},(∀v,(x,v)∉binds)->BU k binds m x=m x:=by
 induction binds with
 |nil=>
  exact λ{_} _=>rfl
 |cons hd r Ξ=>
  obtain⟨y,v⟩:=hd;exact λ{m} h=>by
   unfold BU;rw[Ξ λv Φ=>h v (.tail _ Φ)];split
   ·have:¬x=y:=λe=>h v (by rw[e];exact .head _);simp[this]
   ·rfl
theorem XP{k:φ->ξ ez}{x:φ}{binds:I (φ×Λ)}:∀{m:φ->ξ Λ},(∀v,(x,v)∉binds)->BV k binds m x=m x:=by
 induction binds with
 |nil=>
  exact λ{_} _=>rfl
 |cons hd r Ξ=>
  obtain⟨y,v⟩:=hd;exact λ{m} h=>by
   unfold BV;rw[Ξ λv Φ=>h v (.tail _ Φ)];split
   ·rfl
   ·have:¬x=y:=λe=>h v (by rw[e];exact .head _);simp[this]
theorem LD{k:φ->ξ ez}{x:φ}{u:Λ}(Η:k x=some .local){binds:I (φ×Λ)}:∀{m:φ->ξ Λ},(binds.map (·.1)).Nodup->(x,u)∈binds->BU k binds m x=some u:=by
 induction binds with
 |nil=>exact λ{h0} Α Δ=>by simp_all
 |cons hd r Ξ=>
  obtain⟨y,v⟩:=hd;exact λ{m} nd h=>by
   rw[i4,tb] at nd;unfold BU;rcases eR.mp h with e|h
   ·rcases e with ⟨⟩
    rw[XO λv Φ=>nd.1 (vw (f:=(·.1)) Φ),cz Η];simp
   ·exact Ξ nd.2 h
theorem LF{k:φ->ξ ez}{x:φ}{u:Λ}(Η:k x≠some .local){binds:I (φ×Λ)}:∀{m:φ->ξ Λ},(binds.map (·.1)).Nodup->(x,u)∈binds->BV k binds m x=some u:=by
 induction binds with
 |nil=>exact λ{h0} Α Δ=>by simp_all
 |cons hd r Ξ=>
  obtain⟨y,v⟩:=hd;exact λ{m} nd h=>by
   rw[i4,tb] at nd;unfold BV;rcases eR.mp h with e|h
   ·rcases e with ⟨⟩
    rw[XP λv Φ=>nd.1 (vw (f:=(·.1)) Φ),bL Η];simp
   ·exact Ξ nd.2 h
theorem bA.get{xs:I O}:∀{vs:I Λ} {i:Y} {x:O},bA p.prog p.w F xs vs->xs[i]?=some x->∃v,vs[i]?=some v/\au p.prog p.w F x v:=by
 induction xs with
 |nil=>intro vs i x _ e;simp at e
 |cons y xs Ξ=>
  intro vs i x r e;cases r with
  |cons ak rs=>
   rcases i with _|i
   ·simp at e;subst e;exact as _ rfl ak
   ·simp at e;simpa using Ξ rs e
theorem LG(xs:I O)(k i:Y):hN (xs.map some++fz k) i=xs[i]?:=by
 induction xs generalizing i with
 |nil=>simp[D6]
 |cons x xs Ξ=>cases i with
  |zero=>rfl
  |succ i=>exact Ξ i
theorem XQ{f:ε}{name qual:φ}{params:yj}{body:I ed}{scope:fX}{dV kV doc pm cdv ct oc:Λ}{an od:ξ ε}{osl:h6 (ξ Λ)}{pn on:I φ}{args dargs:I O}{dvals:I Λ}{Q:O->Ι->Prop}(ζ:p.Ok)(ab:p.K.lookup f=some ⟨oc,od,.func (oH name qual params body scope dV kV doc pm an cdv ct),osl⟩)(ko:BW p.K cdv qual=true)(pe:scope.isCoroutine=false)(sn:scope.isGenerator=false)(Η:scope.kind= .function)(Φ:so scope.names (pn++on)=true)(a':args.length+dargs.length=pn.length)(hd:bA p.prog p.w p.B.get? dargs dvals)(pd:∀em s,em.length=args.length->p.K.In s.heap->yi s (oH name qual params body scope dV kV doc pm an cdv ct) ⟨em,[]⟩ (pn.zip (em++dvals)))(h:∀A Γ l env F,fw A l n->dK p env Γ scope.names (pn++on).zipIdx->fk env l->Γ.length=pn.length+on.length->π p A Γ l F c ((args++dargs).map some++fz on.length) (iv body env) (fm p (λH c'=>Q .none c') (λx H c'=>Q x c')) Er):
 aF p (n+1) (.val (.ref f)) args c Q Er:=by
 unfold aF;intro A l F ea vs Χ kh am s S iJ Ψ;rcases kh.val_inv with ⟨⟩
 have ku:=oZ ζ S;unfold so at Φ;simp only[e6,vv] at Φ;refine aa Φ λnd El=>?_;try clear Φ
 have iL:∀x∈pn++on,x≠("__debug__":φ)/\(scope.names.lookup x=some .local∨scope.names.lookup x=some .cell):=λx Ν=>by
  have:=kL.mp El x Ν;unfold Ek at this;simpa using this
 generalize jR:oH name qual params body scope dV kV doc pm an cdv ct=fd at ab pd;have bd:fd.scope=scope:=by rw[<-jR]
 have bk:fd.code=cdv:=by rw[<-jR]
 have du:fd.qualname=qual:=by rw[<-jR]
 show ip p.M A (.call (.ref f) ⟨vs,[]⟩) _ s;refine call_cells (by have:=Χ.depth;exact IV this) (ku _ _ ab) rfl (JX ζ S) (by rw[bk,du];exact Rh ku ko) (by rw[<-jR]) (pd vs s am.length ku) (by rw[<-jR]) (λx Ν=>?_) (λs₁ Θ=>?_) (by rw[bd];exact pe) (by rw[bd];exact sn) (by rw[bd];exact Η)
 ·rw[bd];rcases(iL x.1 (ye _ ((λh=>(ah1 h).1) Ν))).2 with h|h
  ·exact .inl h
  ·exact .inr ⟨h,um h⟩
 have n0:=ja s.heap;generalize bB:s.heap.objs.size=L at Θ n0 ⊢;generalize aL:p3 fd L f=env at Θ ⊢;have wR:env.locals=L:=by rw[<-aL];rfl
 have pf:env.scope=scope:=by rw[<-aL,<-bd];rfl
 have un:env.frame=some L:=by rw[<-aL];rfl
 have Em:env.globals=lC:=by rw[<-aL,<-(by rw[<-jR]:fd.globals=lC)];rfl
 have En:env.builtins=rk:=by rw[<-aL,<-(by rw[<-jR]:fd.builtins=rk)];rfl
 have jP:env.cells=vE (L+1) scope.names []:=by rw[<-aL,<-bd];rfl
 have k':∀x,env.kindOf x=scope.names.lookup x:=λx=>by unfold ms;rw[pf]
 obtain⟨o6,si,Eo,g1⟩:=Θ;rw[wR] at o6 g1;obtain⟨⟨bG,tk,rfl⟩,la,keep,_⟩:=o6
 let Γ:I Place:=(pn++on).map (placeOf scope.names L env.cells)
 have wS:∀pl∈Γ,s.heap.get? pl.addr=none:=λpl ζ=>by
  apply iB (i5.mp ζ);intro x Ν;rcases(iL x Ν).2 with Η|Η
  ·simp only[placeOf,Η];exact n0
  ·simp only[placeOf,Η];refine a8 (tn.mp (um (m:=L+1) (acc:=[]) Η)) λa γ=>?_;rw[jP,γ];show s.heap.get? a=none;rcases q:s.heap.get? a with _|o
   ·rfl
   ·have Δ:=jv q;rw[bB] at Δ;exact absurd (g1 x a (by rw[jP];exact mem_of_lookup γ)) (BP.mpr (GJ Δ))
 have dS:a0 p.prog p.w p.B F c bG:=S.grow keep;have ka:∀x,scope.names.lookup x=some .cell->∃a,env.cells.lookup x=some a/\placeOf scope.names L env.cells x= .cell a:=λx Η=>by
  refine a8 (tn.mp (um (m:=L+1) (acc:=[]) Η)) λa γ=>?_;rw[<-jP] at γ;exact as a γ (by simp only[placeOf,Η,γ,Q'])
 have jS:∀x,scope.names.lookup x=some .local->placeOf scope.names L env.cells x= .loc L x:=λx Η=>by simp only[placeOf,Η]
 have Ep:Γ.Nodup:=by
  refine ah2.mpr (ah3 (λ{a b} γ Κ (Es:a≠b) e=>Es ?_) nd);rcases(iL a γ).2 with Α|Α<;>rcases(iL b Κ).2 with Δ|Δ
  ·rw[jS a Α,jS b Δ] at e;rcases e with ⟨⟩;rfl
  ·(refine ψ (ka b Δ) λy H bk=>?_);rw[jS a Α,bk] at e;contradiction
  ·(refine ψ (ka a Α) λy H bk=>?_);rw[jS b Δ,bk] at e;contradiction
  ·refine ψ (ka a Α) λy aX bk=>?_;refine ψ (ka b Δ) λz Ρ du=>?_;rw[bk,du] at e;(injection e with e;subst e);exact name_of_addr Eo (mem_of_lookup aX) (mem_of_lookup Ρ)
 have Et:∀(i:Y) x u,i<pn.length->(pn++on)[i]?=some x->(vs++dvals)[i]?=some u->(x,u)∈pn.zip (vs++dvals):=λi x u hi Ν a4=>by
  rw[rx hi] at Ν;refine j8 (i:=i) ?_;rw[ah4];exact⟨Ν,a4⟩
 have wT:((pn.zip (vs++dvals)).map (·.1)).Nodup:=by
  rw[ah5 (CO (by rw[fa];exact JA a' hd.length am.length))];exact(Ha.mp nd).1
 have er:bI p.prog p.w p.B Γ (env::l) F c ((args++dargs).map some++fz on.length) bG:=by
  refine⟨by simp[Γ,zx];exact Jt a',λi pl hi=>?_,Ep,λpl ζ=>S.none_of (wS pl ζ),?_⟩
  ·rw[p1] at hi;apply iB (mq.mp hi);intro x Ν;have m0:=j8 Ν;rw[LG];rcases oF i pn.length with hi|hi
   ·have:i<(args++dargs).length:=by rw[fa];exact Jv a' hi
    have wU:(args++dargs)[i]?=some (args++dargs)[i]:=gY this;rw[wU];refine ψ ((am.append (hd.mono λa o e=>S.base a o e)).get wU) λu a4 sl=>?_;have Ρ:=Et i x u hi Ν a4;rcases(iL x m0).2 with Α|Α
    ·rw[jS x Α];exact oM _ u la (LD (by rw[k'];exact Α) wT Ρ) sl
    ·refine ψ (ka x Α) λa γ bk=>?_;rw[bk];have wV:=si x a γ;rw[LF (by rw[k',Α];decide) wT Ρ] at wV;exact as u wV sl
   ·rw[Ri (by rw[fa];exact Js a' hi)];rcases(iL x m0).2 with Α|Α
    ·rw[jS x Α];exact⟨_,la⟩
    ·refine ψ (ka x Α) λa γ bk=>?_;rw[bk];exact⟨_,si x a γ⟩
  ·refine gz la λEu es dR Ev wW H=>?_;try clear la
   refine ft (by rw[pf,Η];decide) ⟨L,Eu,un,?_,Ev,λvs q=>by rw[wW] at q;cases q⟩ (FunFrames.ext (λb o e=>⟨o,keep b o e,id⟩) iJ);rcases q:p.B.get? L with _|o
   ·rfl
   ·rw[nL S L o q] at n0;contradiction
 have bt:dK p env Γ scope.names (pn++on).zipIdx:=by
  refine⟨by rw[pf];exact Η,by rw[pf],Em,En,λx i Ν=>?_⟩;have wX:(pn++on)[i]?=some x:=by
   have:=ah6 (mem_of_lookup Ν);simp at this;exact j7.mpr ⟨by rw[fa];exact this.1,this.2.symm⟩
  have m0:=j8 wX;refine⟨by simpa using (iL x m0).1,?_⟩;rw[p1,wX];rcases(iL x m0).2 with Α|Α
  ·exact .inl ⟨Α,by rw[BJ,jS x Α,wR]⟩
  ·refine ψ (ka x Α) λa γ bk=>?_;exact .inr ⟨Α,a,γ,by rw[BJ,bk]⟩
 have zJ:fw (A.deeper env) (env::l) n:=⟨Χ.handled,by show A.frames.map _=_;rw[Χ.frames];rfl,by show A.depth+1+4*n+6<_;have:=Χ.depth;exact IU this,by show A.units+3+20*n+100<_;have:=Χ.units;exact IT this⟩;have qo:∀b,ee Γ b->aK∨s.heap.get? b=none:=(λb be=>by(refine ψ be λpl ζ e=>?_;try clear be);exact .inr (e▸wS pl ζ));refine bR (h (A.deeper env) Γ (env::l) env F zJ bt ⟨env,l,L,rfl,un,rfl⟩ (by simp[Γ]) {s with heap:=bG,toks:=tk} dS er Ψ) (λf1 μ fR=>?_) λe μ aH=>?_
 ·obtain⟨ω,c',aM,iE,cn,dt,l4,q⟩:=fR;have X:=(.grow keep:cf (λH=>aK) F c s.heap F c bG).over iE qo;cases f1 with
  |next=>exact⟨ω,c',X,cn,l4,.none,.none,q⟩
  |ret v=>obtain⟨x,ba,q⟩:=q;exact⟨ω,c',X,cn,l4,x,ba,q⟩
  |brk=>exact q.elim
  |cont=>exact q.elim
 ·obtain⟨cK,T,l4,wH,_⟩:=aH;refine WN zJ.frames un T λh' o8 u=>⟨cK,o8.thrown,l4,λb o zn Θ H iC=>?_,λpl ζ=>(nomatch ζ)⟩;refine a8 (wH b o (keep b o zn) Θ (λbC=>by rcases qo b bC with r|r;exact r;rw[zn] at r;contradiction) iC) λf2 bk=>?_;refine a8 (u b _ bk iC) λwI du=>?_;exact⟨wI,du⟩
end
structure b1 where
 ns:I (φ×ez)
 sc:I (φ×Y)
 base:Y
 gl:I (φ×O)
 υ:et
 nm:gm
 exc:ε
 pg:I (Y×Y)
 i':I (Y×Y)
noncomputable def lb(o:ξ O)(T:hh):aQ:=match o with
 |some (.val (.type s))=>s==T
 |_=>false
noncomputable def wY(o:ξ O)(a:ε):aQ:=match o with
 |some (.val (.ref b))=>bE b a
 |_=>false
noncomputable def glob(cx:b1)(x:φ):ξ O:=match (cx.sc.lookup x).isNone&&cx.ns.lookup x==some .globalImplicit with
 |true=>cx.gl.lookup x
 |false=>none
noncomputable def nX(s:φ):Y:=(dB.findIdx? (·==s)).getD 1000
noncomputable def sp(s:φ):aQ:=iq (nX s) dB.length&&s==b6 (nX s)
noncomputable def hs(b:aQ)(x:X):X:=match b with
 |true=>x
 |false=>.dead
noncomputable def m1{α:Type}(o:ξ α)(f:α->X):X:=match o with
 |some a=>f a
 |none=>.dead
noncomputable def LH:Const->X
 | .none=>.cst .none
 | .bool b=>.cst (.bool b)
 | .int i=>.cst (.int i)
 | .str s=>hs (sp s) (.cst (.sym (nX s)))
 | .bytes b=>.cst (.bytes b)
 |_=>.dead
noncomputable def nY(l:I (Y×Y))(p:bo):aQ:=l.any λx=>bE x.1 p.line&&bE x.2 p.col
noncomputable def Ew(cx:b1)(x:φ)(p:bo):X:=match cx.sc.lookup x with
 |some i=>match nY cx.i' p with
  |true=>.i' i
  |false=>.var i
 |none=>m1 (glob cx x) .cst
noncomputable def ic(aw:Υ->X):I Υ->XL
 |[]=>.nil
 |e::r=>.cons (aw e) (ic aw r)
noncomputable def m2(dC:Υ->T):I Υ->rQ
 |[]=>.nil
 |e::r=>.cons (dC e) (m2 dC r)
noncomputable def XR(cx:b1)(names:I (φ×ez)):I (φ×Y):=names.filterMap λx=>if x.2==.free then (cx.sc.lookup x.1).map (x.1,·) else none
noncomputable def lf(cx:b1)(names:I (φ×ez)):I (φ×Y):=(bY names).zipIdx cx.base++XR cx names
noncomputable def gT(cx:b1)(names:I (φ×ez)):b1:={cx with ns:=gq cx.ns names,sc:=lf cx names,base:=cx.base+(bY names).length}
noncomputable def Ex(e:Υ):aQ:=(bE e.ctorIdx 20).not
noncomputable def Ey(e:Υ):aQ:=(bE e.ctorIdx 16).not
noncomputable def LI(e:Υ):aQ:=bE e.ctorIdx 23
noncomputable def zK{T:Υ->Type}(d:∀e,T e)(e:Υ)(hCompare:∀a b c p,T (.Compare a b c p):=λH H H H=>d _)(hCall:∀a b c p,T (.Call a b c p):=λH H H H=>d _)(hName:∀a p,T (.Name a p):=λH H=>d _)(hTuple:∀a b p,T (.Tuple a b p):=λH H H=>d _):T e:=
 ahi (motive_1:=T) e (λH H H=>d _) (λH H H=>d _) (λH H H H=>d _) (λH H H=>d _) (λH H H H=>d _) (λH H H H=>d _) (λH H H=>d _) (λH H H=>d _) (λH H H H=>d _) (λH H H H=>d _) (λH H H H H=>d _) (λH H H H=>d _) (λH H=>d _) (λH H=>d _) (λH H=>d _) hCompare hCall (λH H H H=>d _) (λH H=>d _) (λH H H=>d _) (λH H H=>d _) (λH H H=>d _) (λH H=>d _) hName (λH H=>d _) hTuple (λH H H H=>d _)
noncomputable def wZ(e:Υ):ξ {x:φ×I Υ // ∃ec ps,e= .Call (.Name x.1 ec) x.2 [] ps}:=
 zK (T:=λe=>ξ {x:φ×I Υ // ∃ec ps,e= .Call (.Name x.1 ec) x.2 [] ps}) (λH=>none) e (hCall:=λf es bc ps=>match bc with
  |[]=>zK (T:=λf=>ξ {x:φ×I Υ // ∃ec XS,ali f es [] ps= .Call (.Name x.1 ec) x.2 [] XS}) (λH=>none) f (hName:=λx ec=>some ⟨(x,es),ec,ps,rfl⟩)
  |_::_=>none)
noncomputable def LJ(aw:Υ->X):I Υ->jE
 |[]=>.dead
 |a::r=>match r with
  |[]=>.range (.cst (.int 0)) (aw a) (.cst (.int 1))
  |b::r=>match r with
   |[]=>.range (aw a) (aw b) (.cst (.int 1))
   |d::r=>match r with
    |[]=>.range (aw a) (aw b) (aw d)
    |_::_=>.dead
noncomputable def one{α:Type}(l:I α):ξ {a:α // l=[a]}:=match l with
 |[a]=>some ⟨a,rfl⟩
 |_=>none
noncomputable def two{α:Type}(l:I α):ξ {x:α×α // l=[x.1,x.2]}:=match l with
 |[a,b]=>some ⟨(a,b),rfl⟩
 |_=>none
noncomputable def LK(b:aQ)(x:jE):jE:=match b with
 |true=>x
 |false=>.dead
noncomputable def w0{α:Type}(o:ξ α)(f:α->jE):jE:=match o with
 |some a=>f a
 |none=>.dead
noncomputable def XT(aw:Υ->X)(es:I Υ):jE:=w0 (two es) λx=>.zip (aw x.1.1) (aw x.1.2)
noncomputable def LL(aw:Υ->X)(cx:b1)(es:I Υ):jE:=w0 (one es) λa=>w0 (wZ a.1) λx=>LK (lb (glob cx x.1.1) "range"&&el x.1.2) (w0 (one x.1.2) λe=>.rev (aw e.1))
noncomputable def ph(aw:Υ->X)(cx:b1)(tgt:Υ)(e:Υ):jE:=match wZ e with
 |none=>.val (aw e)
 |some x=>match lb (glob cx x.1.1) "range"&&el x.1.2 with
  |true=>LJ aw x.1.2
  |false=>match lb (glob cx x.1.1) "zip"&&t7 tgt&&el x.1.2 with
   |true=>XT aw x.1.2
   |false=>match lb (glob cx x.1.1) "reversed" with
    |true=>LL aw cx x.1.2
    |false=>.val (aw e)
noncomputable def XU(o:ξ O):ξ {C:ε // o=some (.val (.ref C))}:=match o with
 |some (.val (.ref C))=>some ⟨C,rfl⟩
 |_=>none
noncomputable def cls(cx:b1)(func:Υ):ξ {C:ε // ∃x ec f,func= .Name x ec/\glob cx x=some (.val (.ref C))/\mG cx.υ.init C=some f}:=match func with
 | .Name x ec=>(XU (glob cx x)).bind λC=>match hi:mG cx.υ.init C.1 with
  |some f=>some ⟨C.1,x,ec,f,rfl,C.2,hi⟩
  |none=>none
 |_=>none
noncomputable def zL(aw:Υ->X)(cx:b1)(func:Υ)(es:I Υ)(pos:bo):X:=match cls cx func with
 |some C=>.mk (nY cx.pg pos) C.1 (ic aw es)
 |none=>.call (aw func) (ic aw es)
noncomputable def Ez(aw:b1->Υ->X)(cx:b1)(aN tgt bN fS eg:Υ)(scope:fX):X:=match k3 (lf cx scope.names) tgt with
 |some tg=>match k3 (lf cx scope.names) fS with
  |some tI=>hs (scope.kind==.function&&ho bN&&ho eg&&l5 cx.ns cx.sc scope.names cx.base (lf cx scope.names))
   (.JF (bY scope.names).length (aw (gT cx scope.names) aN) tg (ph (aw cx) cx tgt bN) tI (ph (aw (gT cx scope.names)) (gT cx scope.names) fS eg))
  |none=>.dead
 |none=>.dead
noncomputable def EA(aw:b1->Υ->X)(dC:b1->Υ->T)(cx:b1)(aN:Υ)(scope:fX):I rq->X
 |[]=>.dead
 |⟨tgt,bN,cL,a⟩::r=>match r with
  |[]=>hs (a==0) (m1 (k3 (lf cx scope.names) tgt) λtg=>hs (scope.kind==.function&&ho bN&&l5 cx.ns cx.sc scope.names cx.base (lf cx scope.names)&&hB cL.length 1)
   (.comp (bY scope.names).length (aw (gT cx scope.names) aN) tg (ph (aw cx) cx tgt bN) (m2 (dC (gT cx scope.names)) cL)))
  |⟨fS,eg,LM,gP⟩::dJ=>hs (a==0&&gP==0&&cL.isEmpty&&LM.isEmpty&&dJ.isEmpty) (Ez aw cx aN tgt bN fS eg scope)
noncomputable def XW(aw:Υ->X)(l:Υ)(gr:I ju)(rs:I Υ):X:=m1 (one gr) λop=>m1 (one rs) λr=>hs (ho r.1) (.C2 (.cmp op.1 (aw l) (aw r.1)))
noncomputable def LN(e:Υ):ξ {x:ju×Υ×Υ // ∃ps,e= .Compare x.2.1 [x.1] [x.2.2] ps}:=
 zK (T:=λe=>ξ {x:ju×Υ×Υ // ∃ps,e= .Compare x.2.1 [x.1] [x.2.2] ps}) (λH=>none) e (hCompare:=λl gr rs ps=>match gr,rs with
  |[op],[r]=>some ⟨(op,l,r),ps,rfl⟩
  |_,_=>none)
noncomputable def LO(aw:Υ->X)(op:BoolOp)(es:I Υ):X:=hs (op==.And) (m1 (two es) λx=>m1 (LN x.1.1) λa=>m1 (LN x.1.2) λb=>
 hs (ho a.1.2.2&&ho b.1.2.2) (.C2 (.and (.cons (.cmp a.1.1 (aw a.1.2.1) (aw a.1.2.2)) (.cons (.cmp b.1.1 (aw b.1.2.1) (aw b.1.2.2)) .nil)))))
noncomputable def EB(cS:I (ξ Υ)):I Y:=cS.map λk=>match k with
 |none=>1000
 |some e=>jH 1000 (hConstant:=λv H H=>match v with
  | .str s=>nX s
  |_=>1000) e
noncomputable def EC(aw:Υ->X)(cx:b1)(cS:I (ξ Υ))(es:I Υ)(p:bo):X:=match nY cx.pg p&&cS.isEmpty&&es.isEmpty with
 |true=>.tab
 |false=>hs (lU cS (EB cS)&&decide (EB cS).Nodup&&bE cS.length es.length&&hB cS.length 15) (.Ω (nY cx.pg p) (EB cS) (ic aw es))
noncomputable def zM(aw:Υ->X)(cx:b1)(func:Υ)(es:I Υ)(pos:bo):X:=
 jH (hs (el es) (zL aw cx func es pos)) (hAttribute:=λo name fC=>hs (el es&&iq es.length 29&&(fC.endLine==pos.line)&&Ey o&&sp name) (.hG (aw o) (nX name) (ic aw es))) func
noncomputable def LP(aw:Υ->X)(o i:Υ):X:=
 jH (.sub (aw o) (aw i)) (hSlice:=λlo hi st H=>hs st.isNone (m1 (t5 lo) λa=>m1 (t5 hi) λb=>hs (zi a b&&LI o) (.JE (aw o) a b))) i
noncomputable def sq(aw:b1->Υ->X)(dC:b1->Υ->T)(cx:b1)(e:Υ):X:=
 jH .dead (hConstant:=λc H H=>LH c)
  (hName:=λx p=>Ew cx x p)
  (hBinOp:=λl op r H=>.bin op (aw cx l) (aw cx r))
  (hUnaryOp:=λop x H=>hs (op==.USub) (.neg (aw cx x)))
  (hIfExp:=λt a b H=>.ite (dC cx t) (aw cx a) (aw cx b))
  (hCompare:=λl gr rs H=>XW (aw cx) l gr rs)
  (hBoolOp:=λop es H=>LO (aw cx) op es)
  (hTuple:=λes H H=>hs (el es&&hB es.length 1000) (.tup (ic (aw cx) es)))
  (hList:=λes p=>hs (el es&&hB es.length 1000) (.lst (nY cx.pg p) (ic (aw cx) es)))
  (hDict:=λcS es p=>EC (aw cx) cx cS es p)
  (hListComp:=λaN gens scope H=>EA aw dC cx aN scope gens)
  (hCall:=λfunc es bc pos=>hs bc.isEmpty (zM (aw cx) cx func es pos))
  (hAttribute:=λo name H=>hs (Ey o&&sp name) (.attr (aw cx o) (nX name)))
  (hSubscript:=λo i H=>LP (aw cx) o i) e
noncomputable def uo(aw:Υ->X)(l:Υ)(gr:I ju)(rs:I Υ):T:=match one gr,one rs with
 |some op,some r=>match ho r.1 with
  |true=>.cmp op.1 (aw l) (aw r.1)
  |false=>.dead
 |_,_=>match two gr,two rs with
  |some o,some r=>match ho r.1.2 with
   |true=>.C3 o.1.1 (aw l) (aw r.1.1) o.1.2 (aw r.1.2)
   |false=>.dead
  |_,_=>.dead
noncomputable def zN(aw:b1->Υ->X)(dC:b1->Υ->T)(cx:b1)(e:Υ):T:=
 jH (.val (aw cx e)) (hUnaryOp:=λop x H=>match op with
  | .Not=>.not (dC cx x)
  |_=>.dead) (hBoolOp:=λop es H=>match op with
  | .And=>.and (m2 (dC cx) es)
  | .Or=>.or (m2 (dC cx) es)) (hCompare:=λl gr rs H=>uo (aw cx) l gr rs) (hIfExp:=λH H H H=>.dead) e
noncomputable def nZ:Y->(b1->Υ->X)×(b1->Υ->T)
 |0=>(λH H=>.dead,λH H=>.dead)
 |k+1=>(sq (nZ k).1 (nZ k).2,zN (nZ k).1 (nZ k).2)
noncomputable def XX(e:Υ):ξ fX:=jH none (hListComp:=λH H s H=>some s) (hSetComp:=λH H s H=>some s) (hDictComp:=λH H H s H=>some s) e
noncomputable def ED(cx:b1)(value:Υ)(t:φ)(p:bo):aQ:=match XX value with
 |some s=>cx.ns.lookup t==some .local&&p.line==value.pos.line&& !(s.names.any λx=>x.1==t&&(x.2==.local||x.2==.cell))
 |none=>false
noncomputable def LQ(e:Υ):ξ {x:φ×bo // e= .Name x.1 x.2}:=match e with
 | .Name x p=>some ⟨(x,p),rfl⟩
 |_=>none
noncomputable def EE(cx:b1)(a b:φ)(jg jQ:bo)(vs:I Υ):aQ:=el vs&&cx.ns.lookup a==some .local&&cx.ns.lookup b==some .local&&jg.line==jQ.line&&a != b&& !(vs.all (Rj 8))&& !(vs.all (Rk 8))
noncomputable def EF(cx:b1)(es vs:I Υ):ξ {qy:I Y // ∃a jg b jQ i j u w,es=[.Name a jg,.Name b jQ]/\vs=[u,w]/\cx.sc.lookup a=some i/\cx.sc.lookup b=some j/\EE cx a b jg jQ vs=true/\qy=[i,j]}:=
 (two es).bind λx=>(LQ x.1.1).bind λa=>(LQ x.1.2).bind λb=>(two vs).bind λu=>match hi:cx.sc.lookup a.1.1,cQ:cx.sc.lookup b.1.1,σ:EE cx a.1.1 b.1.1 a.1.2 b.1.2 vs with
  |some i,some j,true=>some ⟨[i,j],a.1.1,a.1.2,b.1.1,b.1.2,i,j,u.1.1,u.1.2,x.2.trans (congr (cE List.cons a.2) (cE (λe=>[e]) b.2)),u.2,hi,cQ,σ,rfl⟩
  |_,_,_=>none
noncomputable def XY(e:Υ):ξ {es:I Υ // ∃k p,e= .Tuple es k p}:=
 zK (T:=λe=>ξ {es:I Υ // ∃k p,e= .Tuple es k p}) (λH=>none) e (hTuple:=λes k p=>some ⟨es,k,p,rfl⟩)
noncomputable def zO(e:Υ):aQ:=jH true (hListComp:=λH gens H H=>hB gens.length 1) e
noncomputable def lg(b:aQ)(x:S):S:=match b with
 |true=>x
 |false=>.dead
noncomputable def jT{α:Type}(o:ξ α)(f:α->S):S:=match o with
 |some a=>f a
 |none=>.dead
noncomputable def w1(aw:Υ->X)(cx:b1)(tgt value:Υ):S:=
 jH .dead (hAttribute:=λo name H=>lg (sp name) (.setAttr (aw o) (nX name) (aw value))) (hSubscript:=λo i H=>lg (rY i) (.setItem (aw o) (aw i) (aw value)))
  (hTuple:=λes k cw=>match XY value with
   |some vs=>jT (EF cx es vs.1) λqy=>.swap qy.1 (ic aw vs.1)
   |none=>jT (k3 cx.sc (.Tuple es k cw)) λtg=>.asg tg (aw value))
  (hName:=λy H=>lg (zO value) (jT (cx.sc.lookup y) λi=>.asg (.var i) (aw value))) tgt
noncomputable def stC{T:Type}(d:T)(e:ed)(hFunctionDef:φ->yj->I ed->I Υ->ξ Υ->I TypeParam->fX->ξ fX->φ->bo->T:=λH H H H H H H H H H=>d)(hClassDef:φ->I Υ->I GR->I ed->I Υ->I TypeParam->fX->ξ fX->φ->I φ->bo->T:=λH H H H H H H H H H H=>d)(hReturn:ξ Υ->bo->T:=λH H=>d)(hAssign:I Υ->Υ->bo->T:=λH H H=>d)(hFor:Υ->Υ->I ed->I ed->bo->T:=λH H H H H=>d)(hWhile:Υ->I ed->I ed->bo->T:=λH H H H=>d)(hIf:Υ->I ed->I ed->bo->T:=λH H H H=>d)(hRaise:ξ Υ->ξ Υ->bo->T:=λH H H=>d)(hExpr:Υ->bo->T:=λH H=>d):T:=
 @Stmt.casesOn (λH=>T) e hFunctionDef (λH H H H H H H H H H=>d) hClassDef hReturn (λH H=>d) hAssign (λH H H H H H H=>d) (λH H H H=>d) (λH H H H H=>d) hFor (λH H H H H=>d) hWhile hIf (λH H H=>d) (λH H H=>d) (λH H H=>d) hRaise (λH H H H H=>d) (λH H H H H=>d) (λH H H=>d) (λH H=>d) (λH H H H=>d) (λH H=>d) (λH H=>d) hExpr (λH=>d) (λH=>d) (λH=>d)
noncomputable def LR(aw:b1->Υ->X)(dC:b1->Υ->T)(zP:I ed->SL)(cx:b1)(s:ed):S:=
 stC .dead s (hAssign:=λf7 value H=>jT (one f7) λtgt=>w1 (aw cx) cx tgt.1 value)
  (hExpr:=λe H=>lg (Ed e) (.expr (aw cx e)))
  (hReturn:=λo H=>jT o λe=>.ret (aw cx e))
  (hIf:=λt a b H=>.qe (dC cx t) (zP a) (zP b))
  (hWhile:=λt b o H=>lg o.isEmpty (.JH (dC cx t) (zP b)))
  (hFor:=λtgt bN b o H=>lg (o.isEmpty&&ho bN) (jT (k3 cx.sc tgt) λtg=>.for tg (ph (aw cx) cx tgt bN) (zP b)))
  (hRaise:=λe EG H=>lg EG.isNone (jT e λe=>jT (wZ e) λx=>lg (wY (glob cx x.1.1) cx.exc&&el x.1.2) (.raise (ic (aw cx) x.1.2))))
noncomputable def EH(S:ed->Mine.Internal.S):I ed->SL
 |[]=>.nil
 |s::r=>.cons (S s) (EH S r)
noncomputable def EI(aw:b1->Υ->X)(dC:b1->Υ->T)(cx:b1):Y->I ed->SL
 |0,_=>.cons .dead .nil
 |k+1,l=>EH (LR aw dC (EI aw dC cx k) cx) l
noncomputable def code(cx:b1)(body:I ed):SL:=EI (nZ 24).1 (nZ 24).2 cx 8 body
structure dW(p:bP)(gl:I (φ×O))(υ:et)(nm:gm)(exc:ε):Prop where
 ζ:p.Ok
 tab:iH p υ
 XZ:o0 nm
 LS:Dy p gl
 exc:exc=p.exc
structure dx(p:bP)(cx:b1)(A:gh)(Γ:I Place)(l:I bx)(env:bx)(n:Y):Prop where
 d9:fw A l n
 fD:dK p env Γ cx.ns cx.sc
 fr:fk env l
 len:Γ.length=cx.base
noncomputable def eJ(p:bP)(aw:b1->Υ->X):Prop:=∀cx A Γ l env n,dW p cx.gl cx.υ cx.nm cx.exc->dx p cx A Γ l env n->∀e Er F c ρ Q,bS p cx.υ cx.nm Er n (aw cx e) ρ c Q->π p A Γ l F c ρ (eval e env) (aZ p Q) Er
noncomputable def jh(p:bP)(dC:b1->Υ->T):Prop:=∀cx A Γ l env n,dW p cx.gl cx.υ cx.nm cx.exc->dx p cx A Γ l env n->∀e Er F c ρ P N,at_ p cx.υ cx.nm Er n (dC cx e) ρ c P N->π p A Γ l F c ρ (iu e env (eval e env)) (eu P N) Er
section
variable{α:Type}{υ:et}{nm:gm}{b:aQ}{o:ξ α}{vs:I Υ}{e:Υ}{x:φ}
theorem akf{P:Prop}{a:α}(h:none=some a):P:=nomatch h
theorem lh{P:Prop}(h:false=true):P:=nomatch h
theorem g8{x:X}{Q:O->Ο->Ι->Prop}(h:bS p υ nm Er n (hs b x) ρ c Q):b=true/\bS p υ nm Er n x ρ c Q:=by
 cases b with
 |true=>exact⟨rfl,h⟩
 |false=>exact ey h
theorem uq{f:α->X}{Q:O->Ο->Ι->Prop}(h:bS p υ nm Er n (m1 o f) ρ c Q):∃a,o=some a/\bS p υ nm Er n (f a) ρ c Q:=by
 cases o with
 |some a=>exact⟨a,rfl,h⟩
 |none=>exact ey h
theorem w2{f:α->X}{Q:O->Ο->Ι->Prop}(h:bS p υ nm Er n (m1 o f) ρ c Q):∃a,bS p υ nm Er n (f a) ρ c Q:=by
 refine ψ (uq h) λa H h=>?_;exact⟨a,h⟩
theorem X0{m:aQ}{C f:ε}{l:XL}{Q:O->Ο->Ι->Prop}(hf:mG υ.init C=some f):bS p υ nm Er n (.mk m C l) ρ c Q->iG p υ nm Er n l ρ c λvs ρ c=>∀d,c d=dc->aF p n (.val (.ref f)) (.ins C d::vs) (upd c d (some (.cV []))) (λr c'=>r= .none/\wh m C d c' λv c=>Q v ρ c) Er:=by
 have e:bS p υ nm Er n (.mk m C l) ρ c Q=match mG υ.init C with
  |some f=>iG p υ nm Er n l ρ c λvs ρ c=>∀d,c d=dc->aF p n (.val (.ref f)) (.ins C d::vs) (upd c d (some (.cV []))) (λr c'=>r= .none/\wh m C d c' λv c=>Q v ρ c) Er
  |none=>aK:=rfl
 rw[e,hf];exact id
theorem qz{β:Type}{l:I β}(h:l.isEmpty=true):l=[]:=List.isEmpty_iff.mp h
end
section
variable{fC:bo}{cx:b1}{aw:b1->Υ->X}{dC:b1->Υ->T}
theorem qA(aL:eJ p aw)(Ψ:dW p cx.gl cx.υ cx.nm cx.exc)(Ε:dx p cx A Γ l env n):∀{es:I Υ} {F:a2} {c:Ι} {ρ:Ο} {dd:I O->Ο->Ι->Prop},iG p cx.υ cx.nm Er n (ic (aw cx) es) ρ c dd->fj p A Γ l env Er es F c ρ dd:=by
 intro es
 induction es with
 |nil=>intro F c ρ dd h;exact h
 |cons e es Ξ=>
  intro F c ρ dd h;refine(aL cx A Γ l env n Ψ Ε e Er F c ρ _ h).mono (λF₁ Μ ν v le Φ=>?_) id;obtain⟨x,r,q⟩:=Φ;exact⟨x,r,λaY H=>Ξ q⟩
theorem EJ{x:φ}{v:O}(h:glob cx x=some v):cx.ns.lookup x=some .globalImplicit/\cx.gl.lookup x=some v:=by
 unfold glob at h;rcases Κ:(cx.sc.lookup x).isNone&&cx.ns.lookup x==some .globalImplicit with _|_
 ·rw[Κ] at h;contradiction
 ·rw[Κ] at h;exact⟨d5.mp (e5.mp Κ).2,h⟩
theorem LU(Ψ:dW p cx.gl cx.υ cx.nm cx.exc)(Ε:dx p cx A Γ l env n){x:φ}{v:O}(h:glob cx x=some v)(q:Q v ρ c):π p A Γ l F c ρ (eval (.Name x pos) env) (aZ p Q) Er:=
 Vq Ψ.ζ Ε.fD Ψ.LS (EJ h).1 (EJ h).2 q
theorem LV(Ψ:dW p cx.gl cx.υ cx.nm cx.exc)(Ε:dx p cx A Γ l env n){x:φ}{v:Λ}(h:glob cx x=some (.val v)):∀(s:ah) (E:Λ->ah->Prop) (Qv:Λ->ah->Prop),a0 p.prog p.w p.B F c s.heap->Qv v s->aB p.M A (eval (.Name x pos) env) Qv E s:=by
 intro s E Qv S q;refine aa (EJ h) λΔ h=>?_;refine aa (Ψ.LS x _ h) λhd aV=>?_;refine ψ aV λu a4 r=>?_;try clear aV
 rcases r.val_inv with ⟨⟩
 have aO:s.heap.Ns env.globals p.mD:=by rw[Ε.fD.glob];exact Ψ.ζ.g.keeps (nL S)
 refine G5 Ε.fD.kind (by unfold ms;rw[Ε.fD.names];exact Δ) ?_ hd;rcases a4 with a4|⟨hm,a4⟩
 ·exact QP aO a4 q
 ·exact QQ aO hm (by rw[Ε.fD.blt];exact Ψ.ζ.b.keeps (nL S)) a4 q
theorem X1(Ψ:dW p cx.gl cx.υ cx.nm cx.exc)(Ε:dx p cx A Γ l env n){x:φ}(h:bS p cx.υ cx.nm Er n (Ew cx x pos) ρ c Q):π p A Γ l F c ρ (eval (.Name x pos) env) (aZ p Q) Er:=by
 unfold Ew at h;cases hi:cx.sc.lookup x with
 |some i=>
  rw[hi] at h;cases hm:nY cx.i' pos with
  |true=>rw[hm] at h;exact Vp Ε.fD hi h
  |false=>rw[hm] at h;exact Vm Ε.fD hi h
 |none=>
  rw[hi] at h;refine ψ (uq h) λv Φ h=>?_;exact LU Ψ Ε Φ h
theorem ur{s:φ}(h:sp s=true):nX s<dB.length/\s=b6 (nX s):=by
 unfold sp at h;simp only[e6,d5] at h;exact⟨gX h.1,h.2⟩
theorem X2{k:Y}{v:Const}(h:bS p cx.υ cx.nm Er n (LH v) ρ c Q):π p A Γ l F c ρ (eval (.Constant v k pos) env) (aZ p Q) Er:=by
 cases v with
 |none=>exact const_none h
 |bool _=>exact Vr h
 |int _=>exact const_int h
 |str s=>(refine aa (g8 h) λσ h=>?_);exact Vs (ur σ).1 (ur σ).2 h
 |bytes _=>exact Vt h
 |_=>exact ey h
theorem EK{o:Υ}{name:φ}(h:Ey o=true):QO o name env (eval o env)=eval o env:=by
 rcases o with ⟨⟩<;>first|rfl|exact lh h
theorem EL{func:Υ}(h:Ex func=true):eval (.Call func es [] pos) env=(eval func env>>= λf=>td pos f [] (ru pos (oC es env)) (te pos (tf [] env))):=by
 rcases func with ⟨⟩<;>first|rfl|exact lh h
theorem X3(aL:eJ p aw)(Ψ:dW p cx.gl cx.υ cx.nm cx.exc)(Ε:dx p cx A Γ l env n){func:Υ}(b0:el es=true)(Ζ:Ex func=true)(h:bS p cx.υ cx.nm Er n (zL (aw cx) cx func es pos) ρ c Q):
 π p A Γ l F c ρ (eval (.Call func es [] pos) env) (aZ p Q) Er:=by
 unfold zL at h;rcases Θ:cls cx func with _|C
 ·rw[Θ] at h;refine U1 Ψ.ζ Ψ.tab Ε.d9 b0 (EL Ζ) ((aL cx A Γ l env n Ψ Ε func Er F c ρ _ h).mono (λF₁ Μ ν v le Φ=>?_) id);obtain⟨x,r,q⟩:=Φ;refine aa (kW q) λok q=>?_;exact⟨x,r,ok,λaY H=>(qA aL Ψ Ε q).spliced⟩
 ·rw[Θ] at h;obtain⟨C,x,ec,f,rfl,iK,hf⟩:=C;exact U5 Ψ.ζ Ψ.tab Ε.d9 hf b0 rfl (LU Ψ Ε iK ⟨rfl,λF₁ H=>(qA aL Ψ Ε (X0 hf h)).spliced⟩)
theorem X4{o:ξ O}{T:hh}(h:lb o T=true):o=some (.val (.type T)):=by
 rcases o with _|a
 ·exact lh h
 ·cases a with
  |val v=>
   cases v with
   |type s=>rw[d5.mp h]
   |_=>exact lh h
  |_=>exact lh h
theorem zQ(Ψ:dW p cx.gl cx.υ cx.nm cx.exc)(Ε:dx p cx A Γ l env n){x:φ}{T:hh}(h:lb (glob cx x) T=true):∀(s:ah) (E:Λ->ah->Prop) (Qv:Λ->ah->Prop),a0 p.prog p.w p.B F c s.heap->Qv (.type T) s->aB p.M A (eval (.Name x pos) env) Qv E s:=LV Ψ Ε (X4 h)
theorem eZ.rev{gD f' e:Υ}{ch c5:bo}{tgt:Υ}{R:I O->Ο->Ι->Prop}(bJ:A.handled=none)(b0:el [e]=true)(w3:eval (.Call gD [.Call f' [e] [] c5] [] ch) env=(eval gD env>>= λf=>td ch f [] (ru ch (oC [.Call f' [e] [] c5] env)) (te ch (tf [] env))))(wy:eval (.Call f' [e] [] c5) env=(eval f' env>>= λf=>td c5 f [] (ru c5 (oC [e] env)) (te c5 (tf [] env))))(Α:∀(s:ah) (E:Λ->ah->Prop) (Qv:Λ->ah->Prop),a0 p.prog p.w p.B F c s.heap->Qv (.type "reversed") s->aB p.M A (eval gD env) Qv E s)(Δ:∀(s:ah) (E:Λ->ah->Prop) (Qv:Λ->ah->Prop),a0 p.prog p.w p.B F c s.heap->Qv (.type "range") s->aB p.M A (eval f' env) Qv E s)(h:π p A Γ l F c ρ (eval e env) (aZ p λv ν Μ=>∃b,v= .int b/\(0<=b/\b<1000)/\R (fP (b - 1) (-1) b.toNat) ν Μ) Er):
 eZ p A tgt Γ l F c ρ (eval (.Call gD [.Call f' [e] [] c5] [] ch) env) R Er:=λs S P f=>by
 rw[w3];refine aI (Α s _ _ S ?_);rw[mM (es:=[.Call f' [e] [] c5]) rfl];refine QW (by rw[r3]) (r4 (BL ?_));rw[wy];refine aI (Δ s _ _ S ?_);rw[mM b0];refine QW (by rw[r3]) (r4 (BL (bR (h s S P f) (λv s₁ bG=>G1 ?_) λH H e=>e)));obtain⟨F₁,Μ,ν,X,dS,er,g2,x,ba,b,rfl,Κ,q⟩:=bG;apply dG ba.int_inv;intro t;refine call_range_1 (G1 ?_);have k:∀cv o,s₁.heap.get? cv=some o->(s₁.heap.push {cls:=.type "range",data:=.fields #[.int 0 s₁.toks,.int b t,.int 1 (s₁.toks+1)]}).get? cv=some o:=λH H e=>hg _ e;refine WK (ahN s₁.heap 0 b 1 s₁.toks t (s₁.toks+1)) Κ ?_;have W:=KN (s:={s₁ with heap:=s₁.heap.push {cls:=.type "range",data:=.fields #[.int 0 s₁.toks,.int b t,.int 1 (s₁.toks+1)]},toks:=s₁.toks+1+1}) (tgt:=tgt) (a:=b - 1) (c:=-1) (n:=b.toNat) (c':=Μ) (R:=R) bJ (dS.grow k) (er.ext (.grow k)) g2 (Qs.mpr (hc (ov Κ.2) (by decide))) q;rw[<-(HW Κ.1:b=(b.toNat:J))] at W;refine wpAny_pyIter_rangeiter (it:=(s₁.heap.push {cls:=.type "range",data:=.fields #[.int 0 s₁.toks,.int b t,.int 1 (s₁.toks+1)]}).objs.size) (x:=b - 1) (left:=b) (step:=-1) (kO _ rfl) (k4.after (s:=s) (F:=F) (c:=c) (X.trans (.grow k)) W)
end
section
variable{fC:bo}{cx:b1}{aw:b1->Υ->X}{dC:b1->Υ->T}{tgt bN:Υ}{R:I O->Ο->Ι->Prop}
theorem fj.impl{Q mE:I O->Ο->Ι->Prop}(h:fj p A Γ l env Er es F c ρ Q)(av:∀xs ρ c,Q xs ρ c->mE xs ρ c):fj p A Γ l env Er es F c ρ mE:=h.mono av
theorem LW(aL:eJ p aw)(Ψ:dW p cx.gl cx.υ cx.nm cx.exc)(Ε:dx p cx A Γ l env n){e:Υ}(h:kl p cx.υ cx.nm Er n (.val (aw cx e)) ρ c R):eZ p A tgt Γ l F c ρ (eval e env) R Er:=eZ.list Ε.d9.handled (aL cx A Γ l env n Ψ Ε e Er F c ρ _ h)
theorem EM(aL:eJ p aw)(Ψ:dW p cx.gl cx.υ cx.nm cx.exc)(Ε:dx p cx A Γ l env n){x:φ}{li:bo}(Ν:lb (glob cx x) "range"=true)(b0:el es=true)(h:fj p A Γ l env Er es F c ρ (DK R)):eZ p A tgt Γ l F c ρ (eval (.Call (.Name x li) es [] pos) env) R Er:=
 eZ.call (T:="range") Ψ.ζ b0 rfl (zQ Ψ Ε Ν) (h.spliced.mono (λF₁ Μ ν vs le Φ=>by
  obtain⟨xs,ba,q⟩:=Φ;exact⟨xs,ba,λaY X5 EN s S P f=>Wm Ε.d9.handled EN q S P f⟩) id)
theorem X6(aL:eJ p aw)(Ψ:dW p cx.gl cx.υ cx.nm cx.exc)(Ε:dx p cx A Γ l env n){x:φ}{li:bo}(Ν:lb (glob cx x) "zip"=true)(δ:t7 tgt=true)(b0:el es=true)(h:fj p A Γ l env Er es F c ρ (DQ R)):eZ p A tgt Γ l F c ρ (eval (.Call (.Name x li) es [] pos) env) R Er:=
 eZ.call (T:="zip") Ψ.ζ b0 rfl (zQ Ψ Ε Ν) (h.spliced.mono (λF₁ Μ ν vs le Φ=>by
  obtain⟨xs,ba,q⟩:=Φ;exact⟨xs,ba,λaY X5 EN s S P f=>WF Ε.d9.handled δ EN q S P f⟩) id)
theorem qB(aL:eJ p aw)(Ψ:dW p cx.gl cx.υ cx.nm cx.exc)(Ε:dx p cx A Γ l env n){e:Υ}{Q0:O->Ο->Ι->Prop}{dd:I O->Ο->Ι->Prop}(h:bS p cx.υ cx.nm Er n (aw cx e) ρ c Q0)(av:∀v ν Μ F₁,Q0 v ν Μ->fj p A Γ l env Er es F₁ Μ ν λvs=>dd (v::vs)):fj p A Γ l env Er (e::es) F c ρ dd:=by
 refine(aL cx A Γ l env n Ψ Ε e Er F c ρ _ h).mono (λF₁ Μ ν v le Φ=>?_) id;obtain⟨x,r,q⟩:=Φ;exact⟨x,r,λaY H=>av x _ _ aY q⟩
theorem zR{dd:I O->Ο->Ι->Prop}(h:dd [] ρ c):fj p A Γ l env Er [] F c ρ dd:=h
noncomputable def zS(R:I O->Ο->Ι->Prop)(a b s:O)(ρ:Ο)(c:Ι):Prop:=
 lN a λa=>lN b λb=>lN s λs=>(0<s/\s<1000∧-(2^60)<a/\a<2^60∧-(2^60)<b/\b<2^60/\b - a<=20000)/\R (fP a s (fQ a b s)) ρ c
theorem EO{a b s:O}(h:zS R a b s ρ c):∃x y z,a= .int x/\b= .int y/\s= .int z/\sd x y z/\R (fP x z (fQ x y z)) ρ c:=
 ψ (qi h) λx Α h=>ψ (qi h) λy Δ h=>ψ (qi h) λz κ h=>⟨x,y,z,Α,Δ,κ,h.1,h.2⟩
noncomputable def LX(R:I O->Ο->Ι->Prop)(a b:O)(ρ:Ο)(c:Ι):Prop:=
 qh a λl=>qh b λl'=>l.length<=20000/\R (kj l l') ρ c
theorem X7{a b:O}(h:LX R a b ρ c):∃x y,a= .lst x/\b= .lst y/\x.length<=20000/\R (kj x y) ρ c:=
 ψ (wd h) λx Α h=>ψ (wd h) λy Δ h=>⟨x,y,Α,Δ,h.1,h.2⟩
theorem X8{υ:et}{nm:gm}{b:aQ}{x:jE}(h:kl p υ nm Er n (LK b x) ρ c R):b=true/\kl p υ nm Er n x ρ c R:=by
 cases b with
 |true=>exact⟨rfl,h⟩
 |false=>exact ey h
theorem zT{α:Type}{υ:et}{nm:gm}{o:ξ α}{f:α->jE}(h:kl p υ nm Er n (w0 o f) ρ c R):∃a,kl p υ nm Er n (f a) ρ c R:=by
 cases o with
 |some a=>exact⟨a,h⟩
 |none=>exact ey h
theorem X9(aL:eJ p aw)(Ψ:dW p cx.gl cx.υ cx.nm cx.exc)(Ε:dx p cx A Γ l env n){x:φ}{li:bo}(Ν:(lb (glob cx x) "range"&&el es)=true)(h:kl p cx.υ cx.nm Er n (LJ (aw cx) es) ρ c R):eZ p A tgt Γ l F c ρ (eval (.Call (.Name x li) es [] pos) env) R Er:=by
 refine aa (e5.mp Ν) λus b0=>?_;clear Ν;cases es with
 |nil=>exact ey h
 |cons bd r=>
 cases r with
 |nil=>
  refine EM aL Ψ Ε us b0 (qB (Q0:=λb ρ c=>zS R (.int 0) b (.int 1) ρ c) aL Ψ Ε h λv ν Μ F₁ q=>?_);refine lI (EO q) λa b s bd aV du Κ e8=>?_;rcases aV with rfl
  rcases bd with ⟨⟩;rcases du with ⟨⟩
  exact zR ⟨Κ,e8⟩
 |cons bk r=>
 cases r with
 |nil=>
  refine EM aL Ψ Ε us b0 (qB aL Ψ Ε h λv ν Μ F₁ q=>qB (Q0:=λb ρ c=>zS R v b (.int 1) ρ c) aL Ψ Ε q λEP bg az aY q=>?_);apply vS (EO q);intro a b s bM du Κ e8;rcases bM with rfl
  cases du;exact zR ⟨Κ,e8⟩
 |cons du r=>
 cases r with
 |nil=>
  refine EM aL Ψ Ε us b0 (qB aL Ψ Ε h λv ν Μ F₁ q=>qB aL Ψ Ε q λEP bg az aY q=>qB (Q0:=λs ρ c=>zS R v EP s ρ c) aL Ψ Ε q λX' hp cH f6 q=>?_);apply vS (EO q);intro a b s dk dg Κ e8;rcases dk with rfl;rcases dg with rfl
  exact zR ⟨Κ,e8⟩
 |cons _ _=>exact ey h
theorem Yb(aL:eJ p aw)(Ψ:dW p cx.gl cx.υ cx.nm cx.exc)(Ε:dx p cx A Γ l env n){x:φ}{li:bo}(Ν:lb (glob cx x) "reversed"=true)(h:kl p cx.υ cx.nm Er n (LL (aw cx) cx es) ρ c R):eZ p A tgt Γ l F c ρ (eval (.Call (.Name x li) es [] pos) env) R Er:=by
 refine a8 (zT h) λeV h=>?_;rcases eV with ⟨a,rfl⟩
 refine a8 (zT h) λfh h=>?_;rcases fh with ⟨⟨y,es⟩,Ρ⟩
 dsimp only at h Ρ;refine ys Ρ λakg ps f0=>?_;try clear Ρ;rcases f0 with rfl
 refine aa (X8 h) λaX h=>?_;refine a8 (zT h) λkf h=>?_;rcases kf with ⟨e,aH⟩
 rcases aH with ⟨⟩
 refine eZ.rev Ε.d9.handled ((e5.mp aX)).2 rfl rfl (zQ Ψ Ε Ν) (zQ Ψ Ε ((e5.mp aX)).1) ((aL cx A Γ l env n Ψ Ε e Er F c ρ _ h).mono (λF₁ Μ ν v le Φ=>?_) id);obtain⟨x,r,q⟩:=Φ;exact ψ (qi q) λb Ν q=>⟨_,r,b,Ν,q.1,q.2⟩
theorem w4(aL:eJ p aw)(Ψ:dW p cx.gl cx.υ cx.nm cx.exc)(Ε:dx p cx A Γ l env n){e:Υ}(h:kl p cx.υ cx.nm Er n (ph (aw cx) cx tgt e) ρ c R):eZ p A tgt Γ l F c ρ (eval e env) R Er:=by
 unfold ph at h;cases Θ:wZ e with
 |none=>rw[Θ] at h;exact LW aL Ψ Ε h
 |some x=>
 rw[Θ] at h;clear Θ;obtain⟨⟨x,es⟩,Ρ⟩:=x;dsimp only at h Ρ;refine ys Ρ λec ps nD=>?_;try clear Ρ;rcases nD with rfl
 cases Α:lb (glob cx x) "range"&&el es with
 |true=>rw[Α] at h;exact X9 aL Ψ Ε Α h
 |false=>
 rw[Α] at h;cases Δ:lb (glob cx x) "zip"&&t7 tgt&&el es with
 |true=>
  rw[Δ] at h;refine aa (e5.mp Δ) λΝ b0=>?_;refine a8 (zT h) λlQ h=>?_;rcases lQ with ⟨⟨a,b⟩,rfl⟩
  refine X6 aL Ψ Ε ((e5.mp Ν)).1 ((e5.mp Ν)).2 b0 (qB aL Ψ Ε h λv ν Μ F₁ q=>qB (Q0:=λb ρ c=>LX R v b ρ c) aL Ψ Ε q λEP bg az aY q=>?_);refine oJ (X7 q) λa b jG lR Τ e8=>?_;rcases jG with rfl;rcases lR with rfl
  exact zR ⟨Τ,e8⟩
 |false=>
 rw[Δ] at h;cases κ:lb (glob cx x) "reversed" with
 |true=>rw[κ] at h;exact Yb aL Ψ Ε κ h
 |false=>rw[κ] at h;exact LW aL Ψ Ε h
end
section
variable{fC:bo}{cx:b1}{aw:b1->Υ->X}{dC:b1->Υ->T}{tgt bN:Υ}{R:I O->Ο->Ι->Prop}{Pt Pf:Ο->Ι->Prop}
theorem w5{e:Υ}(h:ho e=true)(env:bx):∀x,ry e env x=pure x:=by
 intro x;rcases e with ⟨⟩<;>first|rfl|exact lh h
theorem LY(cj:jh p dC)(Ψ:dW p cx.gl cx.υ cx.nm cx.exc)(Ε:dx p cx A Γ l env n){cL:I Υ}(Τ:hB cL.length 1=true)(h:mI p cx.υ cx.nm Er n (m2 (dC cx) cL) ρ c Pt Pf):π p A Γ l F c ρ (o9 cL env) (eu Pt Pf) Er:=by
 rcases cL with _|⟨t,r⟩
 ·exact λs S P f=>Rg (.now S P f h)
 ·cases r with
  |cons _ _=>contradiction
  |nil=>
   exact λs S P f=>wpAny_tests_one (cj cx A Γ l env n Ψ Ε t Er F c ρ _ _ h s S P f)
theorem ut(Ε:dx p cx A Γ l env n){names:I (φ×ez)}{C:ε}{aA:bx}(bt:dK p aA (Γ++(bY names).map (Place.loc C)) (gq cx.ns names) (lf cx names))(hf:fk aA l):dx p (gT cx names) A (Γ++(bY names).map (Place.loc C)) l aA n:=
 ⟨Ε.d9,bt,hf,by rw[fa,bV,Ε.len];rfl⟩
theorem Yc(aL:eJ p aw)(cj:jh p dC)(Ψ:dW p cx.gl cx.υ cx.nm cx.exc)(Ε:dx p cx A Γ l env n){aN:Υ}{cL:I Υ}{scope:fX}{tg:ki}(δ:k3 (lf cx scope.names) tgt=some tg)(aO:(scope.kind==.function&&ho bN&&l5 cx.ns cx.sc scope.names cx.base (lf cx scope.names)&&hB cL.length 1)=true)(h:bS p cx.υ cx.nm Er n (.comp (bY scope.names).length (aw (gT cx scope.names) aN) tg (ph (aw cx) cx tgt bN) (m2 (dC (gT cx scope.names)) cL)) ρ c Q):π p A Γ l F c ρ (eval (.ListComp aN [⟨tgt,bN,cL,0⟩] scope pos) env) (aZ p Q) Er:=by
 simp only[e6,d5] at aO;refine aa aO λaV ay=>?_;try clear aO;refine aa aV λaW κ=>?_;try clear aV;refine aa aW λΑ Δ=>?_;try clear aW
 exact Xe (tgtF:=hk tg) (testsF:=mI p cx.υ cx.nm Er n (m2 (dC (gT cx scope.names)) cL)) (eltF:=bS p cx.υ cx.nm Er n (aw (gT cx scope.names) aN)) Ψ.ζ Ε.fD Ε.fr Ε.d9 Α (w5 Δ env) (by rw[Ε.len];exact κ)
  (λC aA bt hf v u ρ F c K r Η=>t6 bt Ε.d9.handled δ r Η)
  (λC aA bt hf F c ρ P N δ=>LY (cx:=gT cx scope.names) cj Ψ (ut Ε bt hf) ay δ)
  (λC aA bt hf F c ρ Q aH=>aL (gT cx scope.names) A _ l aA n Ψ (ut Ε bt hf) aN Er F c ρ Q aH)
  (w4 aL Ψ Ε h)
theorem Yd(aL:eJ p aw)(cj:jh p dC)(Ψ:dW p cx.gl cx.υ cx.nm cx.exc)(Ε:dx p cx A Γ l env n){aN fS eg:Υ}{scope:fX}(h:bS p cx.υ cx.nm Er n (Ez aw cx aN tgt bN fS eg scope) ρ c Q):π p A Γ l F c ρ (eval (.ListComp aN [⟨tgt,bN,[],0⟩,⟨fS,eg,[],0⟩] scope pos) env) (aZ p Q) Er:=by
 unfold Ez at h;cases δ:k3 (lf cx scope.names) tgt with
 |none=>rw[δ] at h;exact ey h
 |some tg=>
 rw[δ] at h;cases uu:k3 (lf cx scope.names) fS with
 |none=>rw[uu] at h;exact ey h
 |some tI=>
 rw[uu] at h;refine aa (g8 h) λaO h=>?_;simp only[e6,d5] at aO;refine aa aO λbM κ=>?_;try clear aO;refine aa bM λcN nQ=>?_;try clear bM;refine aa cN λΑ Δ=>?_;try clear cN
 exact Xj (tgtF:=hk tg) (tgtF2:=hk tI) (it2F:=λρ c R=>kl p cx.υ cx.nm aK n (ph (aw (gT cx scope.names)) (gT cx scope.names) fS eg) ρ c R) (eltF:=bS p cx.υ cx.nm aK n (aw (gT cx scope.names) aN)) Ψ.ζ Ε.fD Ε.fr Ε.d9 Α (w5 Δ env) (λaA=>w5 nQ aA) (by rw[Ε.len];exact κ)
  (λC aA Er bt hf v u ρ F c K r Η=>t6 bt Ε.d9.handled δ r Η)
  (λC aA bt hf v u ρ F c K r Η=>t6 bt Ε.d9.handled uu r Η)
  (λC aA bt hf F c ρ R hi=>w4 (cx:=gT cx scope.names) aL Ψ (ut Ε bt hf) hi)
  (λC aA bt hf F c ρ Q aH=>aL (gT cx scope.names) A _ l aA n Ψ (ut Ε bt hf) aN aK F c ρ Q aH)
  (w4 aL Ψ Ε h)
theorem Ye(aL:eJ p aw)(cj:jh p dC)(Ψ:dW p cx.gl cx.υ cx.nm cx.exc)(Ε:dx p cx A Γ l env n){aN:Υ}{cL:I Υ}{scope:fX}{tg:ki}{y:φ}{nV d8:bo}{i:Y}{K:Ο->Ι->Prop}(δ:k3 (lf cx scope.names) tgt=some tg)(aO:(scope.kind==.function&&ho bN&&l5 cx.ns cx.sc scope.names cx.base (lf cx scope.names)&&hB cL.length 1)=true)(pc:p2 (.ListComp aN [⟨tgt,bN,cL,0⟩] scope d8) (some (.Name y nV)) fC.line env=pure true)(aX:cx.sc.lookup y=some i)(h:bS p cx.υ cx.nm Er n (.comp (bY scope.names).length (aw (gT cx scope.names) aN) tg (ph (aw cx) cx tgt bN) (m2 (dC (gT cx scope.names)) cL)) ρ c λv ρ c=>K (eU ρ i (some v)) c):π p A Γ l F c ρ (exec (.Assign [.Name y nV] (.ListComp aN [⟨tgt,bN,cL,0⟩] scope d8) fC) env) (λH c' aM f=>f= .next/\K aM c') Er:=by
 simp only[e6,d5] at aO;refine aa aO λdk ay=>?_;try clear aO;refine aa dk λdg κ=>?_;try clear dk;refine aa dg λΑ Δ=>?_;try clear dg
 exact Xf (tgtF:=hk tg) (testsF:=mI p cx.υ cx.nm Er n (m2 (dC (gT cx scope.names)) cL)) (eltF:=bS p cx.υ cx.nm Er n (aw (gT cx scope.names) aN)) Ψ.ζ Ε.fD Ε.fr Ε.d9 Α (w5 Δ env) (by rw[Ε.len];exact κ) pc aX
  (λC aA bt hf v u ρ F c K r Η=>t6 bt Ε.d9.handled δ r Η)
  (λC aA bt hf F c ρ P N δ=>LY (cx:=gT cx scope.names) cj Ψ (ut Ε bt hf) ay δ)
  (λC aA bt hf F c ρ Q aH=>aL (gT cx scope.names) A _ l aA n Ψ (ut Ε bt hf) aN Er F c ρ Q aH)
  (w4 aL Ψ Ε h)
theorem Yg(cj:jh p dC)(Ψ:dW p cx.gl cx.υ cx.nm cx.exc)(Ε:dx p cx A Γ l env n):∀{es:I Υ} {F:a2} {c:Ι} {ρ:Ο},mI p cx.υ cx.nm Er n (m2 (dC cx) es) ρ c Pt Pf->π p A Γ l F c ρ (oD .And es env) (eu Pt Pf) Er:=by
 intro es
 induction es with
 |nil=>intro F c ρ h;exact VP h
 |cons e es Ξ=>
  intro F c ρ h;refine VR ((cj cx A Γ l env n Ψ Ε e Er F c ρ _ _ h).mono (λF₁ Μ ν b le Κ=>?_) id);cases b with
  |true=>exact λaY H=>Ξ Κ
  |false=>exact Κ
theorem Yh(cj:jh p dC)(Ψ:dW p cx.gl cx.υ cx.nm cx.exc)(Ε:dx p cx A Γ l env n):∀{es:I Υ} {F:a2} {c:Ι} {ρ:Ο},Dh p cx.υ cx.nm Er n (m2 (dC cx) es) ρ c Pt Pf->π p A Γ l F c ρ (oD .Or es env) (eu Pt Pf) Er:=by
 intro es
 induction es with
 |nil=>intro F c ρ h;exact VQ h
 |cons e es Ξ=>
  intro F c ρ h;refine VS ((cj cx A Γ l env n Ψ Ε e Er F c ρ _ _ h).mono (λF₁ Μ ν b le Κ=>?_) id);cases b with
  |true=>exact Κ
  |false=>exact λaY H=>Ξ Κ
theorem pj(aL:eJ p aw)(Ψ:dW p cx.gl cx.υ cx.nm cx.exc)(Ε:dx p cx A Γ l env n){x y:Υ}{Q2:O->O->Ο->Ι->Prop}(h:bS p cx.υ cx.nm Er n (aw cx x) ρ c λa ρ c=>bS p cx.υ cx.nm Er n (aw cx y) ρ c λb ρ c=>Q2 a b ρ c):
 π p A Γ l F c ρ (eval x env) (aZ p λa ν Μ=>∀F₁,cr F F₁->π p A Γ l F₁ Μ ν (eval y env) (aZ p λb bg az=>Q2 a b bg az) Er) Er:=
 (aL cx A Γ l env n Ψ Ε x Er F c ρ _ h).mono (λF₁ Μ ν v le Φ=>by
  obtain⟨a,r,q⟩:=Φ;exact⟨a,r,λaY H=>aL cx A Γ l env n Ψ Ε y Er aY Μ ν _ q⟩) id
theorem Yi(aL:eJ p aw)(Ψ:dW p cx.gl cx.υ cx.nm cx.exc)(Ε:dx p cx A Γ l env n){n1 m r:Υ}{op hH:ju}(σ:ho r=true)(h:at_ p cx.υ cx.nm Er n (.C3 op (aw cx n1) (aw cx m) hH (aw cx r)) ρ c Pt Pf):
 π p A Γ l F c ρ (iu (.Compare n1 [op,hH] [m,r] pos) env (eval (.Compare n1 [op,hH] [m,r] pos) env)) (eu Pt Pf) Er:=by
 refine VN Ε.d9 σ ((pj (Q2:=λa b ρ c=>hR (jF op a b) (bS p cx.υ cx.nm Er n (aw cx r) ρ c λd ρ c=>hR (jF hH b d) (Pt ρ c) (Pf ρ c)) (Pf ρ c)) aL Ψ Ε h).mono (λF₁ Μ ν v le Φ=>?_) id);obtain⟨a,am,q⟩:=Φ;refine⟨a,am,λaY d3=>(q aY d3).mono (λf6 cH hp X' t4 Φ=>?_) id⟩;obtain⟨b,br,q⟩:=Φ;refine⟨b,br,?_⟩
 skip
 rcases ab:jF op a b with _|t
 ·rw[ab] at q;exact q.elim
 ·rw[ab] at q;rcases t with _|_
  ·exact q
  ·exact λhr H=>aL cx A Γ l env n Ψ Ε r Er hr cH hp _ q
theorem Yj(aL:eJ p aw)(Ψ:dW p cx.gl cx.υ cx.nm cx.exc)(Ε:dx p cx A Γ l env n){n1:Υ}{gr:I ju}{rs:I Υ}(h:at_ p cx.υ cx.nm Er n (uo (aw cx) n1 gr rs) ρ c Pt Pf):
 π p A Γ l F c ρ (iu (.Compare n1 gr rs pos) env (eval (.Compare n1 gr rs pos) env)) (eu Pt Pf) Er:=by
 cases gr with
 |nil=>exact ey h
 |cons op gr=>
 cases rs with
 |nil=>cases gr with
  |nil=>exact ey h
  |cons _ gr=>cases gr<;>exact ey h
 |cons r rs=>
 cases gr with
 |nil=>
  cases rs with
  |nil=>
   cases σ:ho r with
   |true=>exact VM Ε.d9 σ (pj aL Ψ Ε (by unfold uo one at h;dsimp only at h;rw[σ] at h;exact h))
   |false=>exact ey (by unfold uo one at h;dsimp only at h;rw[σ] at h;exact h)
  |cons _ rs=>exact ey h
 |cons hH gr=>
 cases rs with
 |nil=>rcases gr with ⟨⟩<;>exact ey h
 |cons dJ rs=>
 cases gr with
 |cons _ _=>exact ey h
 |nil=>
  cases rs with
  |cons _ _=>exact ey h
  |nil=>
   cases σ:ho dJ with
   |true=>exact Yi aL Ψ Ε σ (by unfold uo one two at h;dsimp only at h;rw[σ] at h;exact h)
   |false=>exact ey (by unfold uo one two at h;dsimp only at h;rw[σ] at h;exact h)
theorem LZ(aL:eJ p aw)(cj:jh p dC):jh p (zN aw dC):=by
 intro cx A Γ l env n Ψ Ε e Er F c ρ Pt Pf h;cases e with
 |UnaryOp op x _=>cases op with
  |Not=>exact VK (cj cx A Γ l env n Ψ Ε _ Er F c ρ _ _ h)
  |_=>exact ey h
 |BoolOp op es _=>cases op with
  |And=>exact Kt (Yg cj Ψ Ε h)
  |Or=>exact Kt (Yh cj Ψ Ε h)
 |Compare n1 gr rs ps=>exact Yj aL Ψ Ε h
 |IfExp=>exact ey h
 |_=>exact VL rfl (aL cx A Γ l env n Ψ Ε _ Er F c ρ _ h)
theorem zU(aL:eJ p aw)(Ψ:dW p cx.gl cx.υ cx.nm cx.exc)(Ε:dx p cx A Γ l env n){dd:I O->Ο->Ι->Prop}(h:iG p cx.υ cx.nm Er n (ic (aw cx) es) ρ c dd):π p A Γ l F c ρ (spliced (gF es env)) (jD p λxs ρ c=>xs.length=es.length/\dd xs ρ c) Er:=
 (qA aL Ψ Ε h).len.spliced
theorem Yk{e:Υ}(h:LI e=true)(o r:Λ):ahI e o r=pure ():=by
 rcases e with ⟨⟩<;>first|rfl|exact lh h
theorem Yl(aL:eJ p aw)(Ψ:dW p cx.gl cx.υ cx.nm cx.exc)(Ε:dx p cx A Γ l env n){op:BoolOp}(h:bS p cx.υ cx.nm Er n (LO (aw cx) op es) ρ c Q):π p A Γ l F c ρ (eval (.BoolOp op es pos) env) (aZ p Q) Er:=by
 refine aa (g8 h) λab Α=>?_;obtain rfl:=d5.mp ab;refine a8 (w2 Α) λeV Δ=>?_;rcases eV with ⟨⟨x,y⟩,rfl⟩
 refine a8 (w2 Δ) λfh κ=>?_;rcases fh with ⟨⟨op,n1,r⟩,ht⟩
 refine a8 (w2 κ) λf0 ay=>?_;rcases f0 with ⟨⟨hH,fM,dJ⟩,gS⟩
 clear h Α Δ κ;dsimp only at ay ht gS;apply dG ht;intro ps;apply dG gS;intro akh;refine Kv (VT ((DC (Pt:=λρ c=>bS p cx.υ cx.nm Er n (aw cx fM) ρ c λa ρ c=>bS p cx.υ cx.nm Er n (aw cx dJ) ρ c λb ρ c=>hR (jF hH a b) (Q (.bool true) ρ c) (Q (.bool false) ρ c)) (Pf:=λρ c=>Q (.bool false) ρ c) Ε.d9 ((e5.mp ((g8 ay)).1)).1 (pj aL Ψ Ε ((g8 ay)).2)).mono (λF₁ Μ ν v le Φ=>?_) id));apply mz Φ;intro b Κ;refine as b rfl ?_;cases b with
 |true=>exact λaY H=>DC Ε.d9 ((e5.mp ((g8 ay)).1)).2 (pj aL Ψ Ε Κ)
 |false=>exact Κ
theorem Ym(aL:eJ p aw)(Ψ:dW p cx.gl cx.υ cx.nm cx.exc)(Ε:dx p cx A Γ l env n){cS:I (ξ Υ)}(h:bS p cx.υ cx.nm Er n (EC (aw cx) cx cS es pos) ρ c Q):π p A Γ l F c ρ (eval (.Dict cS es pos) env) (aZ p Q) Er:=by
 unfold EC at h;cases Κ:nY cx.pg pos&&cS.isEmpty&&es.isEmpty with
 |true=>
  rw[Κ] at h;simp only[e6] at Κ;refine aa Κ λjG Δ=>?_;try clear Κ;refine aa jG λH Α=>?_;try clear jG
  rw[qz Α,qz Δ];exact VH Ψ.ζ h
 |false=>
  rw[Κ] at h;refine aa (g8 h) λσ h=>?_;simp only[e6,vv] at σ;refine aa σ λlR ay=>?_;try clear σ;refine aa lR λwo κ=>?_;try clear lR;refine aa wo λΑ Δ=>?_;try clear wo
  cases hm:nY cx.pg pos with
  |true=>rw[hm] at h;exact VG Ψ.ζ Α Δ (oz κ) (gX ay) (qA aL Ψ Ε h)
  |false=>rw[hm] at h;exact VF Ψ.ζ Α Δ (oz κ) (gX ay) (qA aL Ψ Ε h)
theorem Yn(aL:eJ p aw)(Ψ:dW p cx.gl cx.υ cx.nm cx.exc)(Ε:dx p cx A Γ l env n)(h:bS p cx.υ cx.nm Er n (hs (el es&&hB es.length 1000) (.lst (nY cx.pg pos) (ic (aw cx) es))) ρ c Q):π p A Γ l F c ρ (eval (.List es pos) env) (aZ p Q) Er:=by
 refine aa (g8 h) λσ h=>?_;refine aa (e5.mp σ) λpk po=>?_;cases hm:nY cx.pg pos with
 |true=>rw[hm] at h;exact VA Ψ.ζ pk (gX po) (zU aL Ψ Ε h)
 |false=>rw[hm] at h;exact Vz pk (gX po) (zU aL Ψ Ε h)
theorem Yo(aL:eJ p aw)(cj:jh p dC)(Ψ:dW p cx.gl cx.υ cx.nm cx.exc)(Ε:dx p cx A Γ l env n){aN:Υ}{scope:fX}{gens:I rq}(h:bS p cx.υ cx.nm Er n (EA aw dC cx aN scope gens) ρ c Q):π p A Γ l F c ρ (eval (.ListComp aN gens scope pos) env) (aZ p Q) Er:=by
 cases gens with
 |nil=>exact ey h
 |cons g r=>
 obtain⟨tgt,bN,cL,a⟩:=g;cases r with
 |nil=>
  refine aa (g8 h) λγ h=>?_;obtain rfl:=d5.mp γ;refine ψ (uq h) λtg δ h=>?_;refine aa (g8 h) λσ h=>?_;exact Yc aL cj Ψ Ε δ σ h
 |cons e1 r=>
  obtain⟨fS,eg,LM,gP⟩:=e1;refine aa (g8 h) λγ h=>?_;simp only[e6,d5] at γ;refine aa γ λrZ cc=>?_;try clear γ;refine aa rZ λoV ay=>?_;try clear rZ;refine aa oV λtT κ=>?_;try clear oV;refine aa tT λoW tU=>?_;try clear tT;rcases oW with rfl;rcases tU with rfl
  obtain rfl:=qz κ;obtain rfl:=qz ay;obtain rfl:=qz cc;exact Yd aL cj Ψ Ε h
theorem Yp{Z:X->Prop}{P:Υ->Prop}{ji:Υ->X}(ch:∀o name w6,Z (zM ji cx (.Attribute o name w6) es pos)->P (.Attribute o name w6))(c5:∀f,Ex f=true->Z (hs (el es) (zL ji cx f es pos))->P f){func:Υ}(h:Z (zM ji cx func es pos)):P func:=by
 cases func with
 |Attribute o name w6=>exact ch o name w6 h
 |_=>exact c5 _ rfl h
theorem Yq(aL:eJ p aw)(Ψ:dW p cx.gl cx.υ cx.nm cx.exc)(Ε:dx p cx A Γ l env n){func:Υ}(h:bS p cx.υ cx.nm Er n (zM (aw cx) cx func es pos) ρ c Q):π p A Γ l F c ρ (eval (.Call func es [] pos) env) (aZ p Q) Er:=by
 refine Yp (Z:=λx=>bS p cx.υ cx.nm Er n x ρ c Q) (P:=λfunc=>π p A Γ l F c ρ (eval (.Call func es [] pos) env) (aZ p Q) Er) (λo name w6 h=>?_) (λfunc Α h=>?_) h
 ·skip
  refine aa (g8 h) λσ h=>?_;simp only[e6] at σ;refine aa σ λoX cc=>?_;try clear σ;refine aa oX λrX ay=>?_;try clear oX;refine aa rX λL0 κ=>?_;try clear rX;refine aa L0 λΑ Δ=>?_;try clear L0
  refine Vl Ψ.ζ Ψ.tab Ψ.XZ Ε.d9 Α (gX Δ) κ (EK ay) ((ur cc)).1 ((ur cc)).2 ((aL cx A Γ l env n Ψ Ε o Er F c ρ _ h).mono (λF₁ Μ ν v le Φ=>?_) id);obtain⟨x,r,q⟩:=Φ;refine aa (TQ q) λpre q=>?_;exact⟨x,r,pre,λaY H=>(qA aL Ψ Ε q).spliced⟩
 ·refine aa (g8 h) λσ h=>?_;exact X3 aL Ψ Ε σ Α h
theorem Yr(aL:eJ p aw)(Ψ:dW p cx.gl cx.υ cx.nm cx.exc)(Ε:dx p cx A Γ l env n){o i:Υ}(h:bS p cx.υ cx.nm Er n (LP (aw cx) o i) ρ c Q):π p A Γ l F c ρ (eval (.Subscript o i pos) env) (aZ p Q) Er:=by
 cases i with
 |Slice lo hi st _=>
  refine aa (g8 h) λΑ h=>?_;cases st with
  |some _=>exact lh Α
  |none=>
  refine ψ (uq h) λa γ h=>?_;refine ψ (uq h) λb Κ h=>?_;refine aa (g8 h) λσ h=>?_;refine aa (e5.mp σ) λΑ Δ=>?_;exact V0 γ Κ Α (aL cx A Γ l env n Ψ Ε _ Er F c ρ _ h) λaU r=>Yk Δ aU r
 |_=>exact(λΑ h=>Vy Α (pj aL Ψ Ε h)) rfl h
theorem zV(aL:eJ p aw)(cj:jh p dC):eJ p (sq aw dC):=by
 intro cx A Γ l env n Ψ Ε e Er F c ρ Q h;cases e with
 |Constant=>exact X2 h
 |Name=>exact X1 Ψ Ε h
 |BinOp=>exact Vu Ψ.ζ (pj aL Ψ Ε h)
 |UnaryOp op x ps=>
  refine aa (g8 h) λab h=>?_;obtain rfl:=d5.mp ab;exact Vv (aL cx A Γ l env n Ψ Ε _ Er F c ρ _ h)
 |IfExp t a b ps=>
  refine Vw ((cj cx A Γ l env n Ψ Ε t Er F c ρ _ _ h).mono (λF₁ Μ ν cv le Κ=>?_) id);cases cv with
  |true=>exact aL cx A Γ l env n Ψ Ε a Er F₁ Μ ν _ Κ
  |false=>exact aL cx A Γ l env n Ψ Ε b Er F₁ Μ ν _ Κ
 |Compare n1 gr rs ps=>
  refine a8 (w2 h) λYs h=>?_;rcases Ys with ⟨op,rfl⟩
  refine a8 (w2 h) λYt h=>?_;rcases Yt with ⟨r,rfl⟩
  refine aa (g8 h) λσ h=>?_;exact Kv (DC Ε.d9 σ (pj aL Ψ Ε h))
 |BoolOp=>exact Yl aL Ψ Ε h
 |Tuple=>
  refine aa (g8 h) λσ h=>?_;refine aa (e5.mp σ) λpk po=>?_;have h:iG p cx.υ cx.nm Er n (ic (aw cx) _) ρ c λxs ρ c=>Q (.tup xs) ρ c:=h;exact Ko (kk:=0) pk (gX po) (zU aL Ψ Ε h)
 |List=>exact Yn aL Ψ Ε h
 |Dict=>exact Ym aL Ψ Ε h
 |ListComp=>exact Yo aL cj Ψ Ε h
 |Call func es bc ps=>
  refine aa (g8 h) λΗ h=>?_;obtain rfl:=qz Η;exact Yq aL Ψ Ε h
 |Attribute=>
  refine aa (g8 h) λσ h=>?_;refine aa (e5.mp σ) λΑ Δ=>?_;exact Vx Ψ.ζ Ψ.tab (ur Δ).2 (EK Α) (aL cx A Γ l env n Ψ Ε _ Er F c ρ _ h)
 |Subscript=>exact Yr aL Ψ Ε h
 |_=>exact ey h
end
theorem sr(p:bP):∀k,eJ p (nZ k).1/\jh p (nZ k).2
 |0=>⟨λH H H H H H H H H H H H H H h=>ey h,λH H H H H H H H H H H H H H H h=>ey h⟩
 |k+1=>⟨zV (sr p k).1 (sr p k).2,LZ (sr p k).1 (sr p k).2⟩
noncomputable def su(p:bP):Prop:=∀A Γ l env n F c ρ Er (es:I Υ) (x:φ) (li L1 pos:bo) (Q:Ο->Ι->Prop) (R:O->Ο->Ι->Prop),fw A l n->el es=true->
 (∀(s:ah) (E:Λ->ah->Prop) (Qv:Λ->ah->Prop),a0 p.prog p.w p.B F c s.heap->Qv (.ref p.exc) s->aB p.M A (eval (.Name x li) env) Qv E s)->
 π p A Γ l F c ρ (spliced (gF es env)) (jD p λxs H H=>(∃k,xs=[.sym k]/\Er)∨(xs=[.text]/\Er)) Er->
 π p A Γ l F c ρ (exec (.Raise (some (.Call (.Name x li) es [] L1)) none pos) env) (fm p Q R) Er
noncomputable def zW(p:bP)(f:b1->I ed->SL):Prop:=∀cx A Γ l env n,dW p cx.gl cx.υ cx.nm cx.exc->dx p cx A Γ l env n->∀b Er F c ρ Q R,bh p cx.υ cx.nm Er n (f cx b) ρ c Q R->π p A Γ l F c ρ (iv b env) (fm p Q R) Er
noncomputable def L2(p:bP)(f:b1->ed->S):Prop:=∀cx A Γ l env n,dW p cx.gl cx.υ cx.nm cx.exc->dx p cx A Γ l env n->∀b Er F c ρ Q R,kY p cx.υ cx.nm Er n (f cx b) ρ c Q R->π p A Γ l F c ρ (exec b env) (fm p Q R) Er
section
variable{fC:bo}{cx:b1}{aw:b1->Υ->X}{dC:b1->Υ->T}{Q:Ο->Ι->Prop}{tgt bN:Υ}{R:O->Ο->Ι->Prop}{Pt Pf:Ο->Ι->Prop}
theorem Yu{L3:b1->ed->S}(iM:L2 p L3):zW p λcx=>EH (L3 cx):=by
 intro cx A Γ l env n Ψ Ε b
 induction b with
 |nil=>intro Er F c ρ Q R h;exact execs_nil h
 |cons s r Ξ=>
  intro Er F c ρ Q R h;refine execs_cons ((iM cx A Γ l env n Ψ Ε s Er F c ρ _ _ h).mono (λF₁ Μ ν f le hf=>?_) id);cases f with
  |next=>exact λaY H=>Ξ Er aY Μ ν _ _ hf
  |ret v=>exact hf
  |brk=>exact hf
  |cont=>exact hf
theorem L4(Ε:dx p cx A Γ l env n):env.blockKind= .function:=by unfold Env.blockKind;rw[Ε.fD.kind];rfl
theorem L5(Ε:dx p cx A Γ l env n){value:Υ}{t:φ}{cw:bo}{line:Y}:p2 value (some (.Name t cw)) line env=pure (ED cx value t cw):=by
 have bd:(env.blockKind==vD)=true:=by rw[L4 Ε];rfl
 have bk:env.kindOf t=cx.ns.lookup t:=by unfold ms;rw[Ε.fD.names]
 cases value with
 |ListComp a b s q=>
  show pure (env.blockKind==vD&&env.kindOf t==some .local&&cw.line==q.line&& !(s.names.any λ(n,k)=>n==t&&(k==.local||k==.cell)))=_;rw[bd,bk];simp only[Rl];rfl
 |SetComp a b s q=>
  show pure (env.blockKind==vD&&env.kindOf t==some .local&&cw.line==q.line&& !(s.names.any λ(n,k)=>n==t&&(k==.local||k==.cell)))=_;rw[bd,bk];simp only[Rl];rfl
 |DictComp a b d s q=>
  show pure (env.blockKind==vD&&env.kindOf t==some .local&&cw.line==q.line&& !(s.names.any λ(n,k)=>n==t&&(k==.local||k==.cell)))=_;rw[bd,bk];simp only[Rl];rfl
 |_=>rfl
noncomputable def EQ:Υ->aQ
 | .Starred ..=>true
 |_=>false
theorem L6{u:Υ}{r:I Υ}(h:el (u::r)=true):EQ u=false/\el r=true:=by
 rcases u with ⟨⟩<;>first|exact⟨rfl,h⟩|contradiction
theorem Yv(Ε:dx p cx A Γ l env n){a b:φ}{jg jQ cw qC:bo}{k Β:Y}{u w:Υ}(b0:el [u,w]=true)(γ:cx.ns.lookup a=some .local)(Κ:cx.ns.lookup b=some .local)(Τ:(jg.line==jQ.line)=true)(bF:(a != b)=true)(Α:([u,w].all (Rj 8))=false)(Δ:([u,w].all (Rk 8))=false):Hc [.Tuple [.Name a jg,.Name b jQ] k cw] (.Tuple [u,w] Β qC) env=pure (some [a,b]):=by
 refine aa (L6 b0) λuv Yw=>?_;refine aa (L6 Yw) λYx H=>?_;have bd:(env.blockKind != vD)=false:=by rw[L4 Ε];rfl
 have qD:=d5.mp Τ;have Yy:¬b=a:=λe=>by rw[e] at bF;simp at bF
 have bF:=Yy;refine(bL (λh=>?_)).trans ((bL (λh=>?_)).trans ?_)
 ·have h:(false||false||(env.blockKind != vD))=true:=h;rw[bd] at h;exact hE h
 ·have h:(EQ u||(EQ w||false))=true:=h;rw[uv,Yx] at h;exact hE h
 ·have fL:∀f:Υ->ξ φ,f (.Name a jg)=some a->f (.Name b jQ)=some b->[alj a jg,.Name b jQ].filterMap f=[a,b]:=λf Α Δ=>by
   rw[ah7 Α,ah7 Δ];rfl
  have go:∀names:I φ,names=[a,b]->(if (names.length != 2||names.eraseDups.length != names.length)=true then (pure none:dP (ξ (I φ))) else if ([u,w].all (Rj 8))=true then pure none else if ([u,w].all (Rk 8))=true then (unsupported "assign.tuple-of-constant-expressions:order-of-the-stores">>= λ(_:PUnit)=>pure (some names)) else pure (some names))=pure (some [a,b]):=λnames e=>by
   subst e;refine(bL (λh=>?_)).trans ((bL (λh=>?_)).trans (bL (λh=>?_)))
   ·simp[List.eraseDups_cons,bF] at h
   ·rw[Α] at h;exact hE h
   ·rw[Δ] at h;exact hE h
  refine go _ (fL _ ?_ ?_)
  ·exact cz (by rw[(by unfold ms;rw[Ε.fD.names];exact γ:env.kindOf a=some .local)];exact ah8 jg.line)
  ·exact cz (by rw[(by unfold ms;rw[Ε.fD.names];exact Κ:env.kindOf b=some .local)];exact(d5.mpr qD.symm:(jQ.line==jg.line)=true))
theorem qE{υ:et}{nm:gm}{b:aQ}{x:S}(h:kY p υ nm Er n (lg b x) ρ c Q R):b=true/\kY p υ nm Er n x ρ c Q R:=by
 cases b with
 |true=>exact⟨rfl,h⟩
 |false=>exact ey h
theorem zX{α:Type}{υ:et}{nm:gm}{o:ξ α}{f:α->S}(h:kY p υ nm Er n (jT o f) ρ c Q R):∃a,o=some a/\kY p υ nm Er n (f a) ρ c Q R:=by
 cases o with
 |some a=>exact as a rfl h
 |none=>exact ey h
theorem ER{α:Type}{υ:et}{nm:gm}{o:ξ α}{f:α->S}(h:kY p υ nm Er n (jT o f) ρ c Q R):∃a,kY p υ nm Er n (f a) ρ c Q R:=by
 refine ψ (zX h) λa H h=>?_;exact⟨a,h⟩
theorem Yz{hK:b1->Υ->X}(aL:eJ p hK)(Ψ:dW p cx.gl cx.υ cx.nm cx.exc)(Ε:dx p cx A Γ l env n){f7 vs:I Υ}{k jC:Y}{cw qC:bo}(h:kY p cx.υ cx.nm Er n (jT (EF cx f7 vs) λqy=>.swap qy.1 (ic (hK cx) vs)) ρ c Q R):
 π p A Γ l F c ρ (exec (.Assign [.Tuple f7 k cw] (.Tuple vs jC qC) pos) env) (fm p Q R) Er:=by
 refine a8 (ER h) λaV h=>?_;rcases aV with ⟨qy,Ρ⟩
 dsimp only at h;refine R5 Ρ λa jg b jQ i j u w aW=>?_;try clear Ρ;refine rF aW λbM cN hi cQ Θ dk=>?_;try clear aW;rcases bM with rfl;rcases cN with rfl;rcases dk with rfl
 unfold EE at Θ;simp only[e6,He,d5] at Θ;refine aa Θ λdg YA=>?_;try clear Θ;refine aa dg λeV zY=>?_;try clear dg;refine aa eV λfh YB=>?_;try clear eV;refine aa fh λf0 YC=>?_;try clear fh;refine aa f0 λkf YD=>?_;try clear f0;refine aa kf λzZ z0=>?_;try clear kf
 refine XG Ε.fD Ε.d9 hi cQ (Yv Ε zZ z0 YD (d5.mpr YC) YB zY YA) (Ko (kk:=0) zZ (by simp) ((zU aL Ψ Ε h).mono (λF₁ Μ ν vs le Φ=>?_) id));obtain⟨xs,ba,Τ,q⟩:=Φ;refine⟨xs,ba,Τ,?_⟩;cases xs with
 |nil=>cases Τ
 |cons u xs=>
 cases xs with
 |nil=>contradiction
 |cons w xs=>
 cases xs with
 |cons _ _=>contradiction
 |nil=>exact nz u w rfl q
theorem YE{hK:b1->Υ->X}{iN:b1->Υ->T}(kv:eJ p hK)(kw:jh p iN)(Ψ:dW p cx.gl cx.υ cx.nm cx.exc)(Ε:dx p cx A Γ l env n){aN:Υ}{scope:fX}{gens:I rq}{y:φ}{nV d8:bo}{i:Y}(Α:hB gens.length 1=true)(pc:p2 (.ListComp aN gens scope d8) (some (.Name y nV)) pos.line env=pure true)(hi:cx.sc.lookup y=some i)(h:bS p cx.υ cx.nm Er n (EA hK iN cx aN scope gens) ρ c λv ρ c=>Q (eU ρ i (some v)) c):π p A Γ l F c ρ (exec (.Assign [.Name y nV] (.ListComp aN gens scope d8) pos) env) (fm p Q R) Er:=by
 cases gens with
 |nil=>exact ey h
 |cons g r=>
 obtain⟨tgt,bN,cL,a⟩:=g;cases r with
 |cons _ _=>exact lh Α
 |nil=>
  refine aa (g8 h) λγ h=>?_;obtain rfl:=d5.mp γ;refine ψ (uq h) λtg δ h=>?_;refine aa (g8 h) λσ h=>?_;exact(Ye kv kw Ψ Ε δ σ pc hi h).mono (λF₁ Μ ν f le hf=>by(apply p8 hf;intro q);exact q) id
theorem YF{P:Υ->Prop}(ch:∀a b c d,P (.ListComp a b c d))(c5:∀a b c d,P (.SetComp a b c d))(fy:∀a b c d e,P (.DictComp a b c d e)){value:Υ}{y:φ}{kx:bo}(h:ED cx value y kx=true):P value:=by
 cases value with
 |ListComp a b c d=>exact ch a b c d
 |SetComp a b c d=>exact c5 a b c d
 |DictComp a b c d e=>exact fy a b c d e
 |_=>exact hE h
theorem YG{hK:b1->Υ->X}{iN:b1->Υ->T}(kv:eJ p hK)(kw:jh p iN)(Ψ:dW p cx.gl cx.υ cx.nm cx.exc)(Ε:dx p cx A Γ l env n){y:φ}{kx:bo}{value:Υ}{i:Y}(Α:zO value=true)(hi:cx.sc.lookup y=some i)(h:bS p cx.υ cx.nm Er n (sq hK iN cx value) ρ c λv ρ c=>Q (eU ρ i (some v)) c):π p A Γ l F c ρ (exec (.Assign [.Name y kx] value pos) env) (fm p Q R) Er:=by
 rcases pc:ED cx value y kx with _|_
 ·exact Ly (tg:=.var i) Ε.fD Ε.d9 ((L5 Ε).trans (by rw[pc])) (.inr rfl) (by show(cx.sc.lookup y).map ki.var=_;rw[hi];rfl) (zV kv kw cx A Γ l env n Ψ Ε value Er F c ρ _ h)
 ·have ES:p2 value (some (.Name y kx)) pos.line env=pure true:=(L5 Ε).trans (by rw[pc]);revert Α h ES;exact YF (P:=λvalue=>zO value=true->bS p cx.υ cx.nm Er n (sq hK iN cx value) ρ c (λv ρ c=>Q (eU ρ i (some v)) c)->p2 value (some (.Name y kx)) pos.line env=pure true->π p A Γ l F c ρ (exec (.Assign [.Name y kx] value pos) env) (fm p Q R) Er)
   (λaN gens scope dR Α h ES=>YE kv kw Ψ Ε Α ES hi h) (λH H H H H h=>ey h) (λH H H H H H h=>ey h) pc
theorem YH{Z:S->Prop}(Ρ:Z .dead->aK){P:Υ->Prop}{ji:Υ->X}{value:Υ}(ch:∀o name cw,Z (lg (sp name) (.setAttr (ji o) (nX name) (ji value)))->P (.Attribute o name cw))(c5:∀o i cw,Z (lg (rY i) (.setItem (ji o) (ji i) (ji value)))->P (.Subscript o i cw))(fy:∀f7 k cw,Z (w1 ji cx (.Tuple f7 k cw) value)->P (.Tuple f7 k cw))(kU:∀y kx,Z (lg (zO value) (jT (cx.sc.lookup y) λi=>.asg (.var i) (ji value)))->P (.Name y kx)){tgt:Υ}(h:Z (w1 ji cx tgt value)):P tgt:=by
 cases tgt with
 |Attribute o name cw=>exact ch o name cw h
 |Subscript o i cw=>exact c5 o i cw h
 |Tuple f7 k cw=>exact fy f7 k cw h
 |Name y kx=>exact kU y kx h
 |_=>exact(Ρ h).elim
theorem YI{Z:S->Prop}{P:Υ->Prop}{ji:Υ->X}{f7:I Υ}{k:Y}{cw:bo}(ch:∀vs jC qC,Z (jT (EF cx f7 vs) λqy=>.swap qy.1 (ic ji vs))->P (.Tuple vs jC qC))(c5:∀v,sk v=true->Z (jT (k3 cx.sc (.Tuple f7 k cw)) λtg=>.asg tg (ji v))->P v){value:Υ}(h:Z (w1 ji cx (.Tuple f7 k cw) value)):P value:=by
 cases value with
 |Tuple vs jC qC=>exact ch vs jC qC h
 |_=>exact c5 _ rfl h
theorem YJ{hK:b1->Υ->X}{iN:b1->Υ->T}(kv:eJ p hK)(kw:jh p iN)(Ψ:dW p cx.gl cx.υ cx.nm cx.exc)(Ε:dx p cx A Γ l env n){tgt value:Υ}(h:kY p cx.υ cx.nm Er n (w1 (sq hK iN cx) cx tgt value) ρ c Q R):
 π p A Γ l F c ρ (exec (.Assign [tgt] value pos) env) (fm p Q R) Er:=by
 have aL:=zV kv kw;refine YH (Z:=λx=>kY p cx.υ cx.nm Er n x ρ c Q R) id (P:=λtgt=>π p A Γ l F c ρ (exec (.Assign [tgt] value pos) env) (fm p Q R) Er) (λo name cw h=>?_) (λo i cw h=>?_) (λf7 k cw h=>?_) (λy kx h=>?_) h
 ·refine aa (qE h) λσ h=>?_;exact Xz Ψ.ζ Ψ.tab (ur σ).2 (pj aL Ψ Ε h)
 ·refine aa (qE h) λσ h=>?_;refine XA σ ((aL cx A Γ l env n Ψ Ε value Er F c ρ _ h).mono (λF₁ Μ ν v le Φ=>?_) id);obtain⟨a,r,q⟩:=Φ;exact⟨a,r,λaY H=>pj aL Ψ Ε q⟩
 ·refine YI (Z:=λx=>kY p cx.υ cx.nm Er n x ρ c Q R) (P:=λvalue=>π p A Γ l F c ρ (exec (.Assign [.Tuple f7 k cw] value pos) env) (fm p Q R) Er) (λvs jC qC h=>Yz aL Ψ Ε h) (λv Φ h=>?_) h;refine ψ (zX h) λtg δ h=>?_;exact Ly Ε.fD Ε.d9 (Xu ..) (.inl Φ) δ (aL cx A Γ l env n Ψ Ε _ Er F c ρ _ h)
 ·refine aa (qE h) λΑ h=>?_;refine ψ (zX h) λi hi h=>?_;exact YG kv kw Ψ Ε Α hi h
end
section
variable{fC:bo}{cx:b1}{aw:b1->Υ->X}{dC:b1->Υ->T}{Q:Ο->Ι->Prop}{tgt bN:Υ}{R:O->Ο->Ι->Prop}{Pt Pf:Ο->Ι->Prop}
theorem YK{o:ξ O}{a:ε}(h:wY o a=true):o=some (.val (.ref a)):=by
 rcases o with _|x
 ·exact lh h
 ·cases x with
  |val v=>
   cases v with
   |ref b=>rw[oz h]
   |_=>exact lh h
  |_=>exact lh h
theorem L7(Ψ:dW p cx.gl cx.υ cx.nm cx.exc)(Ε:dx p cx A Γ l env n){x:φ}{a:ε}(h:wY (glob cx x) a=true):∀(s:ah) (E:Λ->ah->Prop) (Qv:Λ->ah->Prop),a0 p.prog p.w p.B F c s.heap->Qv (.ref a) s->aB p.M A (eval (.Name x pos) env) Qv E s:=
 LV Ψ Ε (YK h)
theorem YL(aL:eJ p aw)(gE:su p)(Ψ:dW p cx.gl cx.υ cx.nm cx.exc)(Ε:dx p cx A Γ l env n){e:Υ}(h:kY p cx.υ cx.nm Er n (jT (wZ e) λx=>lg (wY (glob cx x.1.1) cx.exc&&el x.1.2) (.raise (ic (aw cx) x.1.2))) ρ c Q R):π p A Γ l F c ρ (exec (.Raise (some e) none pos) env) (fm p Q R) Er:=by
 refine a8 (ER h) λaV h=>?_;rcases aV with ⟨⟨x,es⟩,Ρ⟩
 dsimp only at h Ρ;apply Cg Ρ;intro ec ps;refine aa (qE h) λΘ h=>?_;refine aa (e5.mp Θ) λΑ Δ=>?_;refine gE A Γ l env n F c ρ Er _ _ _ _ _ Q R Ε.d9 Δ (Ψ.exc▸L7 Ψ Ε Α) ((qA aL Ψ Ε h).spliced.mono (λF₁ Μ ν vs le Φ=>?_) id);obtain⟨xs,ba,q⟩:=Φ;refine⟨xs,ba,?_⟩;exact TU q
theorem YM{hK:b1->Υ->X}{iN:b1->Υ->T}(kv:eJ p hK)(kw:jh p iN)(gE:su p){f:b1->I ed->SL}(bB:zW p f):L2 p λcx=>LR (sq hK iN) (zN hK iN) (f cx) cx:=by
 intro cx A Γ l env n Ψ Ε b Er F c ρ Q R h;have aL:=zV kv kw;have cj:=LZ kv kw;cases b with
 |Assign f7 value ps=>
  refine a8 (ER h) λbM h=>?_;rcases bM with ⟨t,rfl⟩
  exact YJ kv kw Ψ Ε h
 |Expr=>
  refine aa (qE h) λΘ h=>?_;exact XC Θ (XB Ε.fD) (aL cx A Γ l env n Ψ Ε _ Er F c ρ _ h)
 |Return o ps=>
  rcases o with _|e
  ·exact ey h
  ·exact Xp (aL cx A Γ l env n Ψ Ε _ Er F c ρ _ h)
 |If t a b ps=>
  refine Xq ((cj cx A Γ l env n Ψ Ε t Er F c ρ _ _ h).mono (λF₁ Μ ν cv le Κ=>?_) id);cases cv with
  |true=>exact λaY H=>bB cx A Γ l env n Ψ Ε a Er aY Μ ν _ _ Κ
  |false=>exact λaY H=>bB cx A Γ l env n Ψ Ε b Er aY Μ ν _ _ Κ
 |While t b o ps=>
  refine aa (qE h) λab h=>?_;obtain rfl:=qz ab;refine ψ h λaG h0 σ=>?_;try clear h
  refine XE h0 λF c ρ m dn=>(cj cx A Γ l env n Ψ Ε t aK F c ρ _ _ (σ m ρ c dn)).mono (λF₁ Μ ν cv le Κ=>?_) id;cases cv with
  |true=>exact λaY H=>bB cx A Γ l env n Ψ Ε b aK aY Μ ν _ _ Κ
  |false=>exact Κ
 |For tgt bN b o ps=>
  refine aa (qE h) λab Δ=>?_;obtain rfl:=qz ((e5.mp ab)).1;clear h;refine ψ (zX Δ) λtg δ h=>?_;exact XD (w5 ((e5.mp ab)).2 env) (λv u ρ F c K r Η=>t6 Ε.fD Ε.d9.handled δ r Η) (λF c ρ K Κ=>bB cx A Γ l env n Ψ Ε _ aK F c ρ _ _ Κ) (w4 aL Ψ Ε h)
 |Raise e EG ps=>
  refine aa (qE h) λhf h=>?_;cases EG with
  |some _=>exact lh hf
  |none=>
  rcases e with _|e
  ·exact ey h
  ·exact YL aL gE Ψ Ε h
 |_=>exact ey h
theorem L8{hK:b1->Υ->X}{iN:b1->Υ->T}(kv:eJ p hK)(kw:jh p iN)(gE:su p):∀k,zW p λcx=>EI (sq hK iN) (zN hK iN) cx k
 |0=>λcx A Γ l env n Ψ Ε b Er F c ρ Q R h=>ey h
 |k+1=>Yu (YM kv kw gE (L8 kv kw gE k))
theorem ET(gE:su p):zW p code:=
 L8 (sr p 23).1 (sr p 23).2 gE 8
end
theorem YN{p:bP}{n:Y}{f:ε}{name qual:φ}{params:yj}{body:I ed}{scope:fX}{dV kV doc pm cdv ct oc:Λ}{an od:ξ ε}{osl:h6 (ξ Λ)}{pn on:I φ}{args dargs:I O}{dvals:I Λ}{c:Ι}{Q:O->Ι->Prop}{Er:Prop}{cx:b1}(gE:su p)(Ψ:dW p cx.gl cx.υ cx.nm cx.exc)(ab:p.K.lookup f=some ⟨oc,od,.func (oH name qual params body scope dV kV doc pm an cdv ct),osl⟩)(ko:BW p.K cdv qual=true)(pe:scope.isCoroutine=false)(sn:scope.isGenerator=false)(Η:scope.kind= .function)(Φ:so scope.names (pn++on)=true)(a':args.length+dargs.length=pn.length)(hd:bA p.prog p.w p.B.get? dargs dvals)(pd:∀em s,em.length=args.length->p.K.In s.heap->yi s (oH name qual params body scope dV kV doc pm an cdv ct) ⟨em,[]⟩ (pn.zip (em++dvals)))(la:cx.ns=scope.names)(g7:cx.sc=(pn++on).zipIdx)(YO:cx.base=pn.length+on.length)(h:bh p cx.υ cx.nm Er n (code cx body) ((args++dargs).map some++fz on.length) c (λH c'=>Q .none c') (λx H c'=>Q x c')):aF p (n+1) (.val (.ref f)) args c Q Er:=
 XQ Ψ.ζ ab ko pe sn Η Φ a' hd pd λA Γ l env F d9 fD fr len=>
  ET gE cx A Γ l env n Ψ ⟨d9,la▸g7▸fD,fr,len.trans YO.symm⟩ body Er F c _ _ _ h
end
end
noncomputable def qF(s:hh):φ:=⟨⟨PySem.W.R.mapR Char.toNat (PySem.W.S.toListS s)⟩⟩
theorem aki:G0=qF:=by
 funext s;rw[Str.ofString_eq_toList,PySem.W.S.toListS_eq];unfold qF;rw[<-PySem.W.R.mapR_eq]
noncomputable def e2:he:=Rm
theorem YP:Rm=e2:=rfl
noncomputable def lj(p:he):PySem.W.OpenLaw:=
 {prog:=p,name:=G0 "law",about:=[G0 "made_by"],foot:=20,most:=some 63,bound:=none,writes:=false}
theorem YQ:Hf=lj e2:=(show Hf=lj Rm from rfl).trans (cE lj YP)
noncomputable def EU:bx:={scope:=e2.main.scope,locals:=mainNs,globals:=mainNs,cells:=[],code:=.ref 13,frame:=some 14}
noncomputable abbrev w7:bo:={line:=0,col:=0,endLine:=0,endCol:=0}
noncomputable def sv:Code:=.body (Rn e2) EU
noncomputable abbrev z1:I Frame:=[topFrame w7]
noncomputable def qG(k:Y):cU:=match k with
 |0=>{cls:=.type "tuple",data:=.seq #[] 0}
 |1=>{cls:=.none,data:=.fields #[]}
 |2=>{cls:=.type "code",data:=.fields #[.str (qF "<module>") 182,.str (qF "<module>") 183,.str (qF "/claim/cut.py") 184,.int 1 0,.int 0 0,.int 0 0,.int 0 0,.int 0 0,.ref 11,.bool false,.int 181 0,.ref 12,.none,.none,.none,.none,.int 185 0,.int 1 0,.str (qF "/claim/cut.py") 186]}
 |_=>{cls:=.type "frame",data:=.plain,slots:=#[some (.ref 13),some (.ref 3),some (.ref 3),none,some (.str (qF "__main__") 164),none,some (.ref 0)]}
noncomputable abbrev s(x:hh):φ:=qF x
noncomputable def YR(i:Y)(j:ξ Y):ξ ed:=e2.main.body[i]?.bind λx=>match j with
 |none=>some x
 |some j=>stC none x (hClassDef:=λH H H b H H H H H H H=>b[j]?)
noncomputable def EV{T:Type}(d:T)(f:yj->I ed->fX->T)(i:Y)(j:ξ Y):T:=((YR i j).map λx=>stC d x (hFunctionDef:=λH a b H H H sc H H H=>f a b sc)).getD d
noncomputable def sw(i:Y)(j:ξ Y:=none):yj:=EV ⟨[],[],none,[],[],none,[]⟩ (λa H H=>a) i j
noncomputable def aD(i:Y)(j:ξ Y:=none):I ed:=EV [] (λH b H=>b) i j
noncomputable def fT(i:Y)(j:ξ Y:=none):fX:=EV default (λH H sc=>sc) i j
noncomputable abbrev b4(n q:hh)(i:Y)(j:ξ Y)(D M:Λ)(c:Y):cU:={cls:=.type "function",data:=.func (oH (s n) (s q) (sw i j) (aD i j) (fT i j) D .none .none M none (.ref c) .none)}
noncomputable abbrev YS(vs:I Λ):cU:={cls:=.type "code",data:=.fields vs.toArray}
noncomputable abbrev qH(vs:I Λ):cU:={cls:=.type "tuple",data:=.seq vs.toArray 0}
noncomputable abbrev ll(P:dF)(es:I (hh×Y×Λ))(n:Y):cU:={cls:=.type "dict",data:=.dict (es.map λe=>{hash:=ah9 P (s e.1),key:=.str (s e.1) e.2.1,val:=e.2.2}).toArray n}
noncomputable abbrev m3(n:hh)(bs hl:I Λ)(ns:Y)(sub:I Λ)(f2:I (ξ Λ)):cU:={cls:=.type "type",data:=.cls {name:=s n,bases:=bs,mro:=hl,ns:=ns,qualname:=s n,subclasses:=sub},slots:=f2.toArray}
noncomputable abbrev z2(n q:hh)(i:Y)(l a:J)(kp hT mR EW L9:Λ)(x:Y):cU:=YS [.str (s n) i,.str (s q) (i+1),.str (s "/claim/cut.py") (i+2),.int l 0,.int a 0,.int 0 0,.int 0 0,.int 3 0,kp,.bool true,.int 181 0,hT,.none,mR,EW,L9,.int x 0,.int l 0,.str (s "/claim/cut.py") (x+1)]
noncomputable abbrev c1(n q:hh)(i:Y)(l a:J)(r:Y)(x:Y):cU:=z2 n q i l a (.ref r) (.ref (r+1)) (.ref (r+2)) (.ref (r+3)) (.ref (r+4)) x
noncomputable abbrev jj(n q:hh)(i:Y)(l a:J)(r:Y)(x:Y):cU:=z2 n q i l a (.ref r) (.ref (r+1)) .none .none (.ref (r+2)) x
noncomputable def KF(P:dF):vq:=
 [(3,ll P [("__name__",165,.str (s "law_pq0808_02") 1094),("__doc__",166,.none),("__package__",167,.none),("__loader__",168,.builtin "__main__.__loader__#opaque"),("__spec__",169,.none),("__annotations__",170,.ref 6),("__builtins__",171,.ref 4),("__file__",173,.str (s "/claim/cut.py") 172),("__cached__",174,.none),("_wall",193,.ref 21),("PaperError",235,.ref 46),("FilterFault",251,.ref 59),("OCTET",255,.int 8 254),("low_bits",263,.ref 68),("HighBitsIn",318,.ref 106),("samples",324,.ref 115),("Decimal",440,.ref 209),("sign_text",447,.ref 220),("sign_of",454,.ref 227),("rounded_quotient",463,.ref 234),("decimal_of",470,.ref 241),("common_divisor",480,.ref 248),("MOST_HOPS",484,.int 30 483),("Name",513,.ref 265),("String",544,.ref 287),("Stream",575,.ref 308),("Reference",613,.ref 336),("kind_of",620,.ref 347),("is_number",627,.ref 354),("told_plain",635,.ref 361),("told",641,.ref 366),("told_objects",642,.ref 366),("Lookup",694,.ref 398),("Shelf",756,.ref 452),("quotient",767,.ref 461),("quotient_of",775,.ref 468),("plus",783,.ref 475),("minus",791,.ref 482),("ratio_times",799,.ref 489),("divided",807,.ref 496),("is_below",815,.ref 503),("ratio_between",825,.ref 510),("ratio_moved",837,.ref 517),("rounded_at",845,.ref 524),("MOST_POWER",849,.int 64 848),("MOST_IN",851,.int 4 850),("MOST_DEEP",853,.int 8 852),("SAMPLE_SIZES",862,.ref 525),("told_part",868,.ref 530),("Function",923,.ref 566),("numbers_at",936,.ref 577),("spans_at",942,.ref 582),("pairs_at",948,.ref 587),("whole_at",960,.ref 594),("head_of_function",968,.ref 601),("sampled_parts",974,.ref 606),("power_parts",985,.ref 613),("stitched_parts",991,.ref 618),("made_by",1009,.ref 626),("power_values",1021,.ref 633),("stitched_values",1034,.ref 640),("corner_rows",1052,.ref 647),("sampled_values",1071,.ref 654),("calculated_values",1081,.ref 661),("values_by",1087,.ref 666),("evaluated_by",1093,.ref 671),("_law_ring",1097,.int 900 1096),("_law_great_prime",1099,.int 2305843009213693951 1098),("_law_take",1110,.ref 678),("_law_limits",1116,.ref 683),("_law_leaf",1122,.ref 688),("_law_stitched",1128,.ref 693),("_law_number",1135,.ref 700),("_law_laid",1143,.ref 707),("_law_array",1149,.ref 712),("_law_head",1155,.ref 717),("_law_worth",1161,.ref 722),("_law_rounded",1171,.ref 729),("_law_raw",1179,.ref 736),("_law_program",1186,.ref 743),("_law_calculate",1192,.ref 748),("_law_heard",1198,.ref 753),("_law_is_refused",1206,.ref 760),("_law_around",1216,.ref 767),("_law_bent",1240,.ref 774),("law",1246,.ref 779)] 86),
  (29,qH [.int (-1) 209]),
  (35,c1 "__init__" "PaperError.__init__" 210 7 3 30 216),
  (36,b4 "__init__" "PaperError.__init__" 2 (some 0) (.ref 29) (.str (s "paperhold.errors") 194) 35),
  (45,ll P [("__module__",203,.str (s "paperhold.errors") 194),("__firstlineno__",207,.int 5 206),("__init__",218,.ref 36),("told",225,.ref 43),("__static_attributes__",228,.ref 44),("__weakref__",230,.ref 47),("__doc__",231,.none)] 3),
  (46,m3 "PaperError" [.type "Exception"] [.ref 46,.type "Exception",.type "BaseException",.type "object"] 45 [.ref 59] [(some (.ref 22)),none,(some (.str (s "PaperError") 196)),(some (.str (s "PaperError") 204)),(some (.builtin "Exception.__new__")),(some (.bool true))]),
  (58,ll P [("__module__",243,.str (s "paperhold.errors") 194),("__firstlineno__",247,.int 14 246),("__static_attributes__",248,.ref 57),("__doc__",249,.none)] 2),
  (59,m3 "FilterFault" [.ref 46] [.ref 59,.ref 46,.type "Exception",.type "BaseException",.type "object"] 58 [] [(some (.ref 50)),none,(some (.str (s "FilterFault") 236)),(some (.str (s "FilterFault") 244)),(some (.builtin "Exception.__new__")),(some (.bool true))]),
  (67,c1 "low_bits" "low_bits" 256 18 2 62 261),
  (68,b4 "low_bits" "low_bits" 6 none (.none) (.str (s "paperhold.bits") 252) 67),
  (81,c1 "__init__" "HighBitsIn.__init__" 276 22 2 76 281),
  (82,b4 "__init__" "HighBitsIn.__init__" 7 (some 0) (.none) (.str (s "paperhold.bits") 252) 81),
  (88,c1 "left" "HighBitsIn.left" 284 28 1 83 288),
  (89,b4 "left" "HighBitsIn.left" 7 (some 1) (.none) (.str (s "paperhold.bits") 252) 88),
  (95,c1 "take" "HighBitsIn.take" 291 31 2 90 297),
  (96,b4 "take" "HighBitsIn.take" 7 (some 2) (.none) (.str (s "paperhold.bits") 252) 95),
  (105,ll P [("__module__",271,.str (s "paperhold.bits") 252),("__firstlineno__",275,.int 20 274),("__init__",283,.ref 82),("left",290,.ref 89),("take",299,.ref 96),("align",306,.ref 103),("__static_attributes__",311,.ref 104),("__dict__",313,.ref 107),("__weakref__",315,.ref 108),("__doc__",316,.none)] 4),
  (106,m3 "HighBitsIn" [.type "object"] [.ref 106,.type "object"] 105 [] [none,none,(some (.str (s "HighBitsIn") 264)),(some (.str (s "HighBitsIn") 272)),(some (.builtin "object.__new__")),(some (.bool true))]),
  (114,jj "samples" "samples" 319 45 3 111 322),
  (115,b4 "samples" "samples" 8 none (.none) (.str (s "paperhold.bits") 252) 114),
  (128,c1 "__init__" "Decimal.__init__" 339 51 3 123 345),
  (129,b4 "__init__" "Decimal.__init__" 10 (some 0) (.none) (.str (s "paperhold.decimals") 325) 128),
  (191,c1 "told" "Decimal.told" 409 84 1 186 413),
  (192,b4 "told" "Decimal.told" 10 (some 9) (.none) (.str (s "paperhold.decimals") 325) 191),
  (208,ll P [("__module__",334,.str (s "paperhold.decimals") 325),("__firstlineno__",338,.int 49 337),("__init__",347,.ref 129),("plus",355,.ref 136),("minus",363,.ref 143),("times",371,.ref 150),("negated",378,.ref 157),("compared",386,.ref 164),("is_whole",393,.ref 171),("floor",400,.ref 178),("rounded",408,.ref 185),("told",415,.ref 192),("text",423,.ref 199),("least_text",430,.ref 206),("__static_attributes__",433,.ref 207),("__dict__",435,.ref 210),("__weakref__",437,.ref 211),("__doc__",438,.none)] 4),
  (209,m3 "Decimal" [.type "object"] [.ref 209,.type "object"] 208 [] [none,none,(some (.str (s "Decimal") 327)),(some (.str (s "Decimal") 335)),(some (.builtin "object.__new__")),(some (.bool true))]),
  (226,c1 "sign_of" "sign_of" 448 98 1 221 452),
  (227,b4 "sign_of" "sign_of" 12 none (.none) (.str (s "paperhold.decimals") 325) 226),
  (233,c1 "rounded_quotient" "rounded_quotient" 455 102 2 228 461),
  (234,b4 "rounded_quotient" "rounded_quotient" 13 none (.none) (.str (s "paperhold.decimals") 325) 233),
  (240,c1 "decimal_of" "decimal_of" 464 105 1 235 468),
  (241,b4 "decimal_of" "decimal_of" 14 none (.none) (.str (s "paperhold.decimals") 325) 240),
  (247,c1 "common_divisor" "common_divisor" 471 111 2 242 478),
  (248,b4 "common_divisor" "common_divisor" 15 none (.none) (.str (s "paperhold.decimals") 325) 247),
  (261,c1 "__init__" "Name.__init__" 497 121 2 256 502),
  (262,b4 "__init__" "Name.__init__" 18 (some 0) (.none) (.str (s "paperhold.objects") 481) 261),
  (264,ll P [("__module__",492,.str (s "paperhold.objects") 481),("__firstlineno__",496,.int 119 495),("__init__",504,.ref 262),("__static_attributes__",506,.ref 263),("__dict__",508,.ref 266),("__weakref__",510,.ref 267),("__doc__",511,.none)] 4),
  (265,m3 "Name" [.type "object"] [.ref 265,.type "object"] 264 [] [none,none,(some (.str (s "Name") 485)),(some (.str (s "Name") 493)),(some (.builtin "object.__new__")),(some (.bool true))]),
  (277,qH [.bool false]),
  (283,c1 "__init__" "String.__init__" 526 125 3 278 532),
  (284,b4 "__init__" "String.__init__" 19 (some 0) (.ref 277) (.str (s "paperhold.objects") 481) 283),
  (286,ll P [("__module__",521,.str (s "paperhold.objects") 481),("__firstlineno__",525,.int 123 524),("__init__",534,.ref 284),("__static_attributes__",537,.ref 285),("__dict__",539,.ref 288),("__weakref__",541,.ref 289),("__doc__",542,.none)] 4),
  (287,m3 "String" [.type "object"] [.ref 287,.type "object"] 286 [] [none,none,(some (.str (s "String") 514)),(some (.str (s "String") 522)),(some (.builtin "object.__new__")),(some (.bool true))]),
  (304,c1 "__init__" "Stream.__init__" 557 130 3 299 563),
  (305,b4 "__init__" "Stream.__init__" 20 (some 0) (.none) (.str (s "paperhold.objects") 481) 304),
  (307,ll P [("__module__",552,.str (s "paperhold.objects") 481),("__firstlineno__",556,.int 128 555),("__init__",565,.ref 305),("__static_attributes__",568,.ref 306),("__dict__",570,.ref 309),("__weakref__",572,.ref 310),("__doc__",573,.none)] 4),
  (308,m3 "Stream" [.type "object"] [.ref 308,.type "object"] 307 [] [none,none,(some (.str (s "Stream") 545)),(some (.str (s "Stream") 553)),(some (.builtin "object.__new__")),(some (.bool true))]),
  (325,c1 "__init__" "Reference.__init__" 588 135 3 320 594),
  (326,b4 "__init__" "Reference.__init__" 21 (some 0) (.none) (.str (s "paperhold.objects") 481) 325),
  (335,ll P [("__module__",583,.str (s "paperhold.objects") 481),("__firstlineno__",587,.int 133 586),("__init__",596,.ref 326),("pair",603,.ref 333),("__static_attributes__",606,.ref 334),("__dict__",608,.ref 337),("__weakref__",610,.ref 338),("__doc__",611,.none)] 4),
  (336,m3 "Reference" [.type "object"] [.ref 336,.type "object"] 335 [] [none,none,(some (.str (s "Reference") 576)),(some (.str (s "Reference") 584)),(some (.builtin "object.__new__")),(some (.bool true))]),
  (346,c1 "kind_of" "kind_of" 614 141 1 341 618),
  (347,b4 "kind_of" "kind_of" 22 none (.none) (.str (s "paperhold.objects") 481) 346),
  (353,c1 "is_number" "is_number" 621 163 1 348 625),
  (354,b4 "is_number" "is_number" 23 none (.none) (.str (s "paperhold.objects") 481) 353),
  (374,qH [.none,.none]),
  (380,c1 "__init__" "Lookup.__init__" 655 191 3 375 661),
  (381,b4 "__init__" "Lookup.__init__" 27 (some 0) (.ref 374) (.str (s "paperhold.objects") 481) 380),
  (387,c1 "fetch" "Lookup.fetch" 664 195 2 382 673),
  (388,b4 "fetch" "Lookup.fetch" 27 (some 1) (.none) (.str (s "paperhold.objects") 481) 387),
  (394,c1 "get" "Lookup.get" 676 206 3 389 682),
  (395,b4 "get" "Lookup.get" 27 (some 2) (.none) (.str (s "paperhold.objects") 481) 394),
  (397,ll P [("__module__",650,.str (s "paperhold.objects") 481),("__firstlineno__",654,.int 189 653),("__init__",663,.ref 381),("fetch",675,.ref 388),("get",684,.ref 395),("__static_attributes__",687,.ref 396),("__dict__",689,.ref 399),("__weakref__",691,.ref 400),("__doc__",692,.none)] 4),
  (398,m3 "Lookup" [.type "object"] [.ref 398,.type "object"] 397 [.ref 452] [none,none,(some (.str (s "Lookup") 643)),(some (.str (s "Lookup") 651)),(some (.builtin "object.__new__")),(some (.bool true))]),
  (415,c1 "put" "Shelf.put" 707 210 4 410 714),
  (416,b4 "put" "Shelf.put" 28 (some 0) (.none) (.str (s "paperhold.objects") 481) 415),
  (451,ll P [("__module__",702,.str (s "paperhold.objects") 481),("__firstlineno__",706,.int 208 705),("put",716,.ref 416),("add",724,.ref 423),("drop",732,.ref 430),("numbers",739,.ref 437),("root",746,.ref 444),("told",752,.ref 449),("__static_attributes__",753,.ref 450),("__doc__",754,.none)] 2),
  (452,m3 "Shelf" [.ref 398] [.ref 452,.ref 398,.type "object"] 451 [] [(some (.ref 403)),none,(some (.str (s "Shelf") 695)),(some (.str (s "Shelf") 703)),(some (.builtin "object.__new__")),(some (.bool true))]),
  (460,c1 "quotient" "quotient" 759 229 2 455 765),
  (461,b4 "quotient" "quotient" 30 none (.none) (.str (s "paperhold.quotients") 757) 460),
  (467,c1 "quotient_of" "quotient_of" 768 236 1 462 773),
  (468,b4 "quotient_of" "quotient_of" 31 none (.none) (.str (s "paperhold.quotients") 757) 467),
  (474,c1 "plus" "plus" 776 239 2 469 781),
  (475,b4 "plus" "plus" 32 none (.none) (.str (s "paperhold.quotients") 757) 474),
  (481,c1 "minus" "minus" 784 241 2 476 789),
  (482,b4 "minus" "minus" 33 none (.none) (.str (s "paperhold.quotients") 757) 481),
  (488,c1 "ratio_times" "ratio_times" 792 243 2 483 797),
  (489,b4 "ratio_times" "ratio_times" 34 none (.none) (.str (s "paperhold.quotients") 757) 488),
  (495,c1 "divided" "divided" 800 245 2 490 805),
  (496,b4 "divided" "divided" 35 none (.none) (.str (s "paperhold.quotients") 757) 495),
  (502,c1 "is_below" "is_below" 808 247 2 497 813),
  (503,b4 "is_below" "is_below" 36 none (.none) (.str (s "paperhold.quotients") 757) 502),
  (509,c1 "ratio_between" "ratio_between" 816 249 2 504 823),
  (510,b4 "ratio_between" "ratio_between" 37 none (.none) (.str (s "paperhold.quotients") 757) 509),
  (516,c1 "ratio_moved" "ratio_moved" 826 254 3 511 835),
  (517,b4 "ratio_moved" "ratio_moved" 38 none (.none) (.str (s "paperhold.quotients") 757) 516),
  (523,c1 "rounded_at" "rounded_at" 838 260 2 518 843),
  (524,b4 "rounded_at" "rounded_at" 39 none (.none) (.str (s "paperhold.quotients") 757) 523),
  (525,qH [.int 1 854,.int 2 855,.int 4 856,.int 8 857,.int 12 858,.int 16 859,.int 24 860,.int 32 861]),
  (543,c1 "__init__" "Function.__init__" 881 273 5 538 889),
  (544,b4 "__init__" "Function.__init__" 46 (some 0) (.none) (.str (s "paperhold.functionparts") 846) 543),
  (550,c1 "count_in" "Function.count_in" 892 279 1 545 896),
  (551,b4 "count_in" "Function.count_in" 46 (some 1) (.none) (.str (s "paperhold.functionparts") 846) 550),
  (557,c1 "count_out" "Function.count_out" 899 282 1 552 903),
  (558,b4 "count_out" "Function.count_out" 46 (some 2) (.none) (.str (s "paperhold.functionparts") 846) 557),
  (565,ll P [("__module__",876,.str (s "paperhold.functionparts") 846),("__firstlineno__",880,.int 271 879),("__init__",891,.ref 544),("count_in",898,.ref 551),("count_out",905,.ref 558),("told",911,.ref 563),("__static_attributes__",916,.ref 564),("__dict__",918,.ref 567),("__weakref__",920,.ref 568),("__doc__",921,.none)] 4),
  (566,m3 "Function" [.type "object"] [.ref 566,.type "object"] 565 [] [none,none,(some (.str (s "Function") 869)),(some (.str (s "Function") 877)),(some (.builtin "object.__new__")),(some (.bool true))]),
  (576,c1 "numbers_at" "numbers_at" 924 293 3 571 934),
  (577,b4 "numbers_at" "numbers_at" 47 none (.none) (.str (s "paperhold.functionparts") 846) 576),
  (581,jj "spans_at" "spans_at" 937 306 3 578 940),
  (582,b4 "spans_at" "spans_at" 48 none (.none) (.str (s "paperhold.functionparts") 846) 581),
  (586,jj "pairs_at" "pairs_at" 943 316 5 583 946),
  (587,b4 "pairs_at" "pairs_at" 49 none (.none) (.str (s "paperhold.functionparts") 846) 586),
  (593,c1 "whole_at" "whole_at" 949 323 5 588 958),
  (594,b4 "whole_at" "whole_at" 50 none (.none) (.str (s "paperhold.functionparts") 846) 593),
  (600,c1 "head_of_function" "head_of_function" 961 328 1 595 966),
  (601,b4 "head_of_function" "head_of_function" 51 none (.none) (.str (s "paperhold.functionparts") 846) 600),
  (605,jj "sampled_parts" "sampled_parts" 969 333 5 602 972),
  (606,b4 "sampled_parts" "sampled_parts" 52 none (.none) (.str (s "paperhold.functionparts") 846) 605),
  (612,c1 "power_parts" "power_parts" 975 352 3 607 983),
  (613,b4 "power_parts" "power_parts" 53 none (.none) (.str (s "paperhold.functionparts") 846) 612),
  (617,jj "stitched_parts" "stitched_parts" 986 362 5 614 989),
  (618,b4 "stitched_parts" "stitched_parts" 54 none (.none) (.str (s "paperhold.functionparts") 846) 617),
  (619,qH [.int 0 992]),
  (625,c1 "made_by" "made_by" 993 381 4 620 1007),
  (626,b4 "made_by" "made_by" 55 none (.ref 619) (.str (s "paperhold.functionparts") 846) 625),
  (632,c1 "power_values" "power_values" 1010 403 2 627 1019),
  (633,b4 "power_values" "power_values" 56 none (.none) (.str (s "paperhold.functionparts") 846) 632),
  (639,c1 "stitched_values" "stitched_values" 1022 409 3 634 1032),
  (640,b4 "stitched_values" "stitched_values" 57 none (.none) (.str (s "paperhold.functionparts") 846) 639),
  (646,c1 "corner_rows" "corner_rows" 1035 417 3 641 1050),
  (647,b4 "corner_rows" "corner_rows" 58 none (.none) (.str (s "paperhold.functionparts") 846) 646),
  (653,c1 "sampled_values" "sampled_values" 1053 432 2 648 1069),
  (654,b4 "sampled_values" "sampled_values" 59 none (.none) (.str (s "paperhold.functionparts") 846) 653),
  (660,c1 "calculated_values" "calculated_values" 1072 448 3 655 1079),
  (661,b4 "calculated_values" "calculated_values" 60 none (.none) (.str (s "paperhold.functionparts") 846) 660),
  (665,jj "values_by" "values_by" 1082 453 3 662 1085),
  (666,b4 "values_by" "values_by" 61 none (.none) (.str (s "paperhold.functionparts") 846) 665),
  (670,jj "evaluated_by" "evaluated_by" 1088 468 4 667 1091),
  (671,b4 "evaluated_by" "evaluated_by" 62 none (.none) (.str (s "paperhold.functionparts") 846) 670),
  (677,c1 "_law_take" "_law_take" 1100 473 2 672 1108),
  (678,b4 "_law_take" "_law_take" 66 none (.none) (.str (s "law_pq0808_02") 1094) 677),
  (682,jj "_law_limits" "_law_limits" 1111 485 3 679 1114),
  (683,b4 "_law_limits" "_law_limits" 67 none (.none) (.str (s "law_pq0808_02") 1094) 682),
  (687,jj "_law_leaf" "_law_leaf" 1117 490 2 684 1120),
  (688,b4 "_law_leaf" "_law_leaf" 68 none (.none) (.str (s "law_pq0808_02") 1094) 687),
  (692,jj "_law_stitched" "_law_stitched" 1123 508 3 689 1126),
  (693,b4 "_law_stitched" "_law_stitched" 69 none (.none) (.str (s "law_pq0808_02") 1094) 692),
  (699,c1 "_law_number" "_law_number" 1129 524 1 694 1133),
  (700,b4 "_law_number" "_law_number" 70 none (.none) (.str (s "law_pq0808_02") 1094) 699),
  (706,c1 "_law_laid" "_law_laid" 1136 526 2 701 1141),
  (707,b4 "_law_laid" "_law_laid" 71 none (.none) (.str (s "law_pq0808_02") 1094) 706),
  (711,jj "_law_array" "_law_array" 1144 533 2 708 1147),
  (712,b4 "_law_array" "_law_array" 72 none (.none) (.str (s "law_pq0808_02") 1094) 711),
  (716,jj "_law_head" "_law_head" 1150 535 2 713 1153),
  (717,b4 "_law_head" "_law_head" 73 none (.none) (.str (s "law_pq0808_02") 1094) 716),
  (721,jj "_law_worth" "_law_worth" 1156 568 3 718 1159),
  (722,b4 "_law_worth" "_law_worth" 74 none (.none) (.str (s "law_pq0808_02") 1094) 721),
  (728,c1 "_law_rounded" "_law_rounded" 1162 591 3 723 1169),
  (729,b4 "_law_rounded" "_law_rounded" 75 none (.none) (.str (s "law_pq0808_02") 1094) 728),
  (735,c1 "_law_raw" "_law_raw" 1172 597 2 730 1177),
  (736,b4 "_law_raw" "_law_raw" 76 none (.none) (.str (s "law_pq0808_02") 1094) 735),
  (742,c1 "_law_program" "_law_program" 1180 599 1 737 1184),
  (743,b4 "_law_program" "_law_program" 77 none (.none) (.str (s "law_pq0808_02") 1094) 742),
  (747,jj "_law_calculate" "_law_calculate" 1187 601 2 744 1190),
  (748,b4 "_law_calculate" "_law_calculate" 78 none (.none) (.str (s "law_pq0808_02") 1094) 747),
  (752,jj "_law_heard" "_law_heard" 1193 604 3 749 1196),
  (753,b4 "_law_heard" "_law_heard" 79 none (.none) (.str (s "law_pq0808_02") 1094) 752),
  (759,c1 "_law_is_refused" "_law_is_refused" 1199 606 2 754 1204),
  (760,b4 "_law_is_refused" "_law_is_refused" 80 none (.none) (.str (s "law_pq0808_02") 1094) 759),
  (766,c1 "_law_around" "_law_around" 1207 612 3 761 1214),
  (767,b4 "_law_around" "_law_around" 81 none (.none) (.str (s "law_pq0808_02") 1094) 766),
  (773,c1 "_law_bent" "_law_bent" 1217 616 6 768 1238),
  (774,b4 "_law_bent" "_law_bent" 82 none (.none) (.str (s "law_pq0808_02") 1094) 773),
  (778,jj "law" "law" 1241 649 1 775 1244),
  (779,b4 "law" "law" 83 none (.none) (.str (s "law_pq0808_02") 1094) 778)]
noncomputable abbrev L':I ε:=[3,29,35,36,45,46,58,59,67,68,81,82,88,89,95,96,105,106,114,115,128,129,191,192,208,209,226,227,233,234,240,241,247,248,261,262,264,265,277,283,284,286,287,304,305,307,308,325,326,335,336,346,347,353,354,374,380,381,387,388,394,395,397,398,415,416,451,452,460,461,467,468,474,475,481,482,488,489,495,496,502,503,509,510,516,517,523,524,525,543,544,550,551,557,558,565,566,576,577,581,582,586,587,593,594,600,601,605,606,612,613,617,618,619,625,626,632,633,639,640,646,647,653,654,660,661,665,666,670,671,677,678,682,683,687,688,692,693,699,700,706,707,711,712,716,717,721,722,728,729,735,736,742,743,747,748,752,753,759,760,766,767,773,774,778,779]
noncomputable def Ma(P:dF):bK:=⟨#[boot_o_0 P,boot_o_1 P,boot_o_2 P,boot_o_3 P,boot_o_4 P,boot_o_5 P,boot_o_6 P,boot_o_7 P,boot_o_8 P,boot_o_9 P,boot_o_10 P,qG 0,qG 1,qG 2,qG 3],{}⟩
noncomputable def YT(P:dF):BT:=
 .node (boot_o_0 P)
  (.node (boot_o_1 P) (.node (boot_o_3 P) (.node (boot_o_7 P) .nil .nil) (.node (qG 0) .nil .nil)) (.node (boot_o_5 P) (.node (boot_o_9 P) .nil .nil) (.node (qG 2) .nil .nil)))
  (.node (boot_o_2 P) (.node (boot_o_4 P) (.node (boot_o_8 P) .nil .nil) (.node (qG 1) .nil .nil)) (.node (boot_o_6 P) (.node (boot_o_10 P) .nil .nil) (.node (qG 3) .nil .nil)))
noncomputable abbrev EX:bo:={line:=649,col:=0,endLine:=677,endCol:=82}
noncomputable def Mb(w:e4)(os:s8):SharedT:=⟨YT w.params,15,{},#[],{},187,os⟩
noncomputable def n2:he:=view e2 [83]
noncomputable def uw:I φ:=e2.boundNames.filter λn=> !(n==s "law")
noncomputable def z3(x:ah):I (ξ cU):=L'.map x.heap.get?
noncomputable def z4(w:e4):I (ξ cU):=(KF w.params).map λp=>some p.2
theorem YU(w:e4)(os:s8):topGo p4 e2 w 11 (some (.ref 6)) 12 ⟨vF w.params,#[],boot_drawn,boot_toks,os⟩ (Ro e2)=some (⟨Ma w.params,#[],{},187,os⟩,⟨denote p4 sv,sv,w7,z1⟩):=by
 rw[Fast.te15667345088766844465,Rp,Fast.te11892475500146522536]
 kernel_rfl
theorem YV(w:e4)(os:s8):segRun p4 e2 w 11 (some (.ref 6)) 1 1 ⟨Ma w.params,#[],{},187,os⟩ (blockOf (Rn e2) EU sv w7 z1)=some (.next,(Mb w os).abs,sv,w7):=by
 rw[Fast.te14374325043358763698,Rp]
 kernel_rfl
theorem YW(w:e4)(x:ah):topRun p4 e2 w 11 (some (.ref 6)) 2 x ⟨doneF .next,sv,EX,z1⟩=some x:=by
 cases x;rfl
theorem YX(w:e4):((vF w.params).isNs lC&&(#[]:h6 GenState).size==0,(vF w.params).objs.size,(vF w.params).nsMap lC "__annotations__")=(true,11,some (.ref 6)):=by
 kernel_rfl
noncomputable def EY(w:e4)(x:ah):aQ:=Rq (yk e2.main.body) (vF w.params) x.heap&&Rr e2 x.heap&&Rs x&&Rt (vF w.params) x.heap
noncomputable abbrev z5:ah->aQ:=λx=>xlAt n2 [] x&&recOk (lj e2).row.records x
noncomputable def Mc(w:e4)(os:s8):ξ (tp×SharedT×Code×bo):=segRunT p4 e2 w 11 (some (.ref 6)) 1 5183 (Mb w os) (piecesOf (Rn e2) EU sv w7 z1)
set_option maxHeartbeats 0 in
theorem YY(w:e4)(os:s8):(Mc w os).map (λr=>(r.1,r.2.2.1,r.2.2.2,EY w r.2.1.abs,Ru n2 uw (yk e2.main.body) z5 true r.2.1.abs,z3 r.2.1.abs))=some (.next,sv,EX,true,Rv n2 uw,z4 w):=by
 unfold Mc EY;rw[Fast.te10110043849684766642,Rp,Fast.te4187177175401517315,Fast.te5923862056798008813]
 kernel_rfl
theorem YZ{p q:he}{EZ:I φ}{Xt:ah->aQ}{α:Type}{Yf:ah->α}{Ya:e4->α}{N:Y}{m4:dF->bK}{z6:h6 GenState}{E0:Drawn}{E1:Y}{m₀:Y}{ann:ξ Λ}{M:Y}(Y0:∀w:e4,(fencedOpening p4 p w N).map (λs=>(s.heap,s.gens,s.drawn,s.toks))=some (m4 w.params,z6,E0,E1))(size:∀w:e4,((m4 w.params).isNs lC&&z6.size==0,(m4 w.params).objs.size,(m4 w.params).nsMap lC "__annotations__")=(true,m₀,ann))(le:hB M N=true)(run:∀(w:e4) (os:s8),∃x,topRun p4 p w m₀ ann M ⟨m4 w.params,z6,E0,E1,os⟩ (Ro p)=some x/\(Rq (yk p.main.body) (m4 w.params) x.heap&&Rr p x.heap&&Rs x&&Rt (m4 w.params) x.heap)=true/\
 Ru q EZ (yk p.main.body) Xt true x=Rv q EZ/\Yf x=Ya w):LeftO p q EZ Xt Yf Ya N true:=λw=>by
 obtain⟨⟨h,Md,d,k,os⟩,e,aT⟩:=mq.mp (Y0 w);obtain⟨rfl,rfl,rfl,rfl⟩:h=m4 w.params/\Md=z6/\d=E0/\k=E1:=by simpa using aT
 obtain⟨ht,gS,z7⟩:_/\_/\_:=by simpa only[aia] using size w
 obtain⟨x,Ν,cY,fM,m5⟩:=run w os;have r:=topRun_mono (N - M) _ _ _ _ Ν;rw[show M+(N - M)=N by have:=gX le;omega] at r;have t:Rw p4 p w N ⟨m4 w.params,Md,d,k,os⟩=some x:=by
  unfold Rw;dsimp only;rw[ht,gS,z7,r];show(match Rq (yk p.main.body) (m4 w.params) x.heap&&Rr p x.heap&&Rs x&&Rt (m4 w.params) x.heap with|true=>_|false=>_)=_;rw[cY]
 unfold openEnds;rw[e];show(Rw p4 p w N _).map _=_;rw[t];exact cE some (Prod.ext fM m5)
theorem Y1(w:e4)(os:s8):∃x,topRun p4 e2 w 11 (some (.ref 6)) (Rx 12 (Rx 1 (Rx 5183 2))) ⟨vF w.params,#[],boot_drawn,boot_toks,os⟩ (Ro e2)=some x/\EY w x=true/\
 Ru n2 uw (yk e2.main.body) z5 true x=Rv n2 uw/\z3 x=z4 w:=by
 obtain⟨⟨f1,x,c,q⟩,h,e⟩:=mq.mp (YY w os);simp only[aia] at e;obtain⟨rfl,rfl,rfl,bd,bk,du⟩:=e;refine⟨x.abs,go_top (YU w os) (piece_block (YV w os) ?_),bd,bk,du⟩;have:=piece_app (rest:=[]) (segRun_of h) (piece_nil (YW w x.abs));rw[gj] at this;exact this
theorem Y2:(lj e2).wellSaid=true:=by
 rw[Fast.te9446332074065402090]
 kernel_rfl
theorem Y3:LeftO e2 n2 uw z5 z3 z4 10000 true:=by
 refine YZ (m₀:=11) (ann:=some (.ref 6)) (boot_open ?_ ?_ ?_) YX ?_ Y1
 ·kernel_rfl
 ·rfl
 ·intro s;kernel_rfl
 ·rfl
noncomputable def sx:DefRec:={name:=s "law",params:=sw 83,body:=aD 83,scope:=fT 83,pos:=EX}
theorem Y4:defOf n2 (lj e2).row.name=some (sx,[]):=by kernel_rfl
theorem Y5:(lj e2).row.prog.theDef (lj e2).row.name=some (sx.params,sx.body,sx.scope):=by
 rw[Fast.te10235530238920679567]
 kernel_rfl
theorem Y6:kwWritten? sx.params.kwonlyargs sx.params.kw_defaults=some []:=by kernel_rfl
theorem Y7:(chainsOk n2&&opensWell (lj e2).row.prog&&(frees (lj e2).row.toRowW&&(lj e2).row.within.isEmpty))=true:=by kernel_rfl
theorem Y8:e2.tablesWhole=true:=by kernel_rfl
theorem Y9(P:dF):L'=(KF P).map (·.1):=by kernel_rfl
theorem Y':(lj e2).row.toRowW.promised:=⟨[.list []],by kernel_rfl,by kernel_rfl⟩
theorem dw(call:WalkO n2 uw (W.XL n2 []) (InK KF) (lj e2).row.toRowW sx [] λf vs=>ya f vs):Hf.Holds:=by
 rw[YQ];exact holds_law Y2 λZa=>holds_open (Yf:=z3) (Ya:=z4) (Xt:=z5) Y3 (λw s e=>InK.of Y9 w s e) InK.keeps (λs e=>xl_of s (e5.mp e).1) W.XL.keeps Y4 Y5 Y6
  (λs e=>recFacts_of (e5.mp e).2) rfl Za Y7 ⟨rfl,rfl,rfl,rfl,rfl,Y8⟩ Y' call
noncomputable def z8:I (φ×O):=
 [(s "PaperError",.val (.ref 46)),(s "OCTET",.int 8),(s "low_bits",.val (.ref 68)),(s "HighBitsIn",.val (.ref 106)),(s "samples",.val (.ref 115)),(s "Decimal",.val (.ref 209)),(s "sign_of",.val (.ref 227)),(s "rounded_quotient",.val (.ref 234)),(s "decimal_of",.val (.ref 241)),(s "common_divisor",.val (.ref 248)),(s "MOST_HOPS",.int 30),(s "Name",.val (.ref 265)),(s "String",.val (.ref 287)),(s "Stream",.val (.ref 308)),(s "Reference",.val (.ref 336)),(s "kind_of",.val (.ref 347)),(s "is_number",.val (.ref 354)),(s "Lookup",.val (.ref 398)),(s "Shelf",.val (.ref 452)),(s "quotient",.val (.ref 461)),(s "quotient_of",.val (.ref 468)),(s "plus",.val (.ref 475)),(s "minus",.val (.ref 482)),(s "ratio_times",.val (.ref 489)),(s "divided",.val (.ref 496)),(s "is_below",.val (.ref 503)),(s "ratio_between",.val (.ref 510)),(s "ratio_moved",.val (.ref 517)),(s "rounded_at",.val (.ref 524)),(s "MOST_POWER",.int 64),(s "MOST_IN",.int 4),(s "MOST_DEEP",.int 8),(s "SAMPLE_SIZES",.tup [.int 1,.int 2,.int 4,.int 8,.int 12,.int 16,.int 24,.int 32]),(s "Function",.val (.ref 566)),(s "numbers_at",.val (.ref 577)),(s "spans_at",.val (.ref 582)),(s "pairs_at",.val (.ref 587)),(s "whole_at",.val (.ref 594)),(s "head_of_function",.val (.ref 601)),(s "sampled_parts",.val (.ref 606)),(s "power_parts",.val (.ref 613)),(s "stitched_parts",.val (.ref 618)),(s "made_by",.val (.ref 626)),(s "power_values",.val (.ref 633)),(s "stitched_values",.val (.ref 640)),(s "corner_rows",.val (.ref 647)),(s "sampled_values",.val (.ref 654)),(s "calculated_values",.val (.ref 661)),(s "values_by",.val (.ref 666)),(s "evaluated_by",.val (.ref 671)),(s "_law_ring",.int 900),(s "_law_great_prime",.int 2305843009213693951),(s "_law_take",.val (.ref 678)),(s "_law_limits",.val (.ref 683)),(s "_law_leaf",.val (.ref 688)),(s "_law_stitched",.val (.ref 693)),(s "_law_number",.val (.ref 700)),(s "_law_laid",.val (.ref 707)),(s "_law_array",.val (.ref 712)),(s "_law_head",.val (.ref 717)),(s "_law_worth",.val (.ref 722)),(s "_law_rounded",.val (.ref 729)),(s "_law_raw",.val (.ref 736)),(s "_law_program",.val (.ref 743)),(s "_law_calculate",.val (.ref 748)),(s "_law_heard",.val (.ref 753)),(s "_law_is_refused",.val (.ref 760)),(s "_law_around",.val (.ref 767)),(s "_law_bent",.val (.ref 774)),(s "law",.val (.ref 779)),(s "len",.val (.builtin "len")),(s "abs",.val (.builtin "abs")),(s "isinstance",.val (.builtin "isinstance")),(s "sorted",.val (.builtin "sorted")),(s "min",.val (.builtin "min")),(s "max",.val (.builtin "max")),(s "int",.val (.type "int")),(s "list",.val (.type "list")),(s "bytes",.val (.type "bytes")),(s "dict",.val (.type "dict")),(s "range",.val (.type "range")),(s "zip",.val (.type "zip")),(s "reversed",.val (.type "reversed")),(s "bool",.val (.type "bool"))]
noncomputable def a1:et:={fns:=[68,115,227,234,241,248,347,354,461,468,475,482,489,496,503,510,517,524,577,582,587,594,601,606,613,618,626,633,640,647,654,661,666,671,678,683,688,693,700,707,712,717,722,729,736,743,748,753,760,767,774],TH:=[],attr:=[(106,[45,39,56,42]),(209,[95,77]),(308,[55,74]),(336,[72,53]),(452,[89,96]),(566,[60,47,75,76])],hG:=[(106,61,89),(106,90,96),(209,94,192),(452,50,388),(452,54,395),(452,80,416),(566,43,551),(566,44,558)],init:=[(106,82),(209,129),(308,305),(336,326),(452,381),(566,544)],cG:=[]}
noncomputable def a6:gm:={append:=37,extend:=49,get:=54,update:=98,init:=30}
noncomputable def Zb:I (Y×Y):=[(650,10),(654,12),(654,28),(493,11),(514,12),(523,11),(536,11),(548,17),(557,17),(558,16),(299,12),(405,12),(423,15),(434,13),(441,12),(46,13),(398,12)]
noncomputable def Zc:I (Y×Y):=[(507,11),(523,83),(522,22),(662,40),(551,39),(553,39),(567,28),(551,51),(564,45),(566,43),(305,11),(408,11),(429,16),(439,33),(447,11),(402,11),(633,38),(648,11)]
noncomputable def pq(i:Y)(j:ξ Y:=none):I φ:=(sw i j).args.map (·.arg)
noncomputable def pr(i:Y)(j:ξ Y:=none):I φ:=((fT i j).names.filter λx=>(x.2==.local||x.2==.cell)&& !((pq i j).contains x.1)).map (·.1)
noncomputable def aE(i:Y)(j:ξ Y:=none):b1:={ns:=(fT i j).names,sc:=(pq i j++pr i j).zipIdx,base:=(pq i j).length+(pr i j).length,gl:=z8,υ:=a1,nm:=a6,exc:=46,pg:=Zb,i':=Zc}
noncomputable abbrev Zd:SL:=let_mvar% ?a:=(_:SL);let_mvar% ?z:=(by conv=>lhs;reduce;try simp only[ca,cb]:code (aE 2 (some 0)) (aD 2 (some 0))= ?a); ?a
theorem akj:code (aE 2 (some 0)) (aD 2 (some 0))=Zd:=by kernel_rfl
noncomputable abbrev zY:SL:=let_mvar% ?a:=(_:SL);let_mvar% ?z:=(by conv=>lhs;reduce;try simp only[ca,cb]:code (aE 6 none) (aD 6 none)= ?a); ?a
theorem Ze:code (aE 6 none) (aD 6 none)=zY:=by kernel_rfl
noncomputable abbrev Me:SL:=let_mvar% ?a:=(_:SL);let_mvar% ?z:=(by conv=>lhs;reduce;try simp only[ca,cb]:code (aE 7 (some 0)) (aD 7 (some 0))= ?a); ?a
theorem Zf:code (aE 7 (some 0)) (aD 7 (some 0))=Me:=by kernel_rfl
noncomputable abbrev Mf:SL:=let_mvar% ?a:=(_:SL);let_mvar% ?z:=(by conv=>lhs;reduce;try simp only[ca,cb]:code (aE 7 (some 1)) (aD 7 (some 1))= ?a); ?a
theorem Zg:code (aE 7 (some 1)) (aD 7 (some 1))=Mf:=by kernel_rfl
noncomputable abbrev Mg:SL:=let_mvar% ?a:=(_:SL);let_mvar% ?z:=(by conv=>lhs;reduce;try simp only[ca,cb]:code (aE 7 (some 2)) (aD 7 (some 2))= ?a); ?a
theorem Zh:code (aE 7 (some 2)) (aD 7 (some 2))=Mg:=by kernel_rfl
noncomputable abbrev Mh:SL:=let_mvar% ?a:=(_:SL);let_mvar% ?z:=(by conv=>lhs;reduce;try simp only[ca,cb]:code (aE 8 none) (aD 8 none)= ?a); ?a
theorem Zi:code (aE 8 none) (aD 8 none)=Mh:=by kernel_rfl
noncomputable abbrev Mi:SL:=let_mvar% ?a:=(_:SL);let_mvar% ?z:=(by conv=>lhs;reduce;try simp only[ca,cb]:code (aE 10 (some 0)) (aD 10 (some 0))= ?a); ?a
theorem Zj:code (aE 10 (some 0)) (aD 10 (some 0))=Mi:=by kernel_rfl
noncomputable abbrev Mj:SL:=let_mvar% ?a:=(_:SL);let_mvar% ?z:=(by conv=>lhs;reduce;try simp only[ca,cb]:code (aE 10 (some 9)) (aD 10 (some 9))= ?a); ?a
theorem Zk:code (aE 10 (some 9)) (aD 10 (some 9))=Mj:=by kernel_rfl
noncomputable abbrev Mk:SL:=let_mvar% ?a:=(_:SL);let_mvar% ?z:=(by conv=>lhs;reduce;try simp only[ca,cb]:code (aE 12 none) (aD 12 none)= ?a); ?a
theorem Zl:code (aE 12 none) (aD 12 none)=Mk:=by kernel_rfl
noncomputable abbrev Ml:SL:=let_mvar% ?a:=(_:SL);let_mvar% ?z:=(by conv=>lhs;reduce;try simp only[ca,cb]:code (aE 13 none) (aD 13 none)= ?a); ?a
theorem Zm:code (aE 13 none) (aD 13 none)=Ml:=by kernel_rfl
noncomputable abbrev Mm:SL:=let_mvar% ?a:=(_:SL);let_mvar% ?z:=(by conv=>lhs;reduce;try simp only[ca,cb]:code (aE 14 none) (aD 14 none)= ?a); ?a
theorem Zn:code (aE 14 none) (aD 14 none)=Mm:=by kernel_rfl
noncomputable abbrev Mn:SL:=let_mvar% ?a:=(_:SL);let_mvar% ?z:=(by conv=>lhs;reduce;try simp only[ca,cb]:code (aE 15 none) (aD 15 none)= ?a); ?a
theorem Zo:code (aE 15 none) (aD 15 none)=Mn:=by kernel_rfl
noncomputable abbrev Zp:SL:=let_mvar% ?a:=(_:SL);let_mvar% ?z:=(by conv=>lhs;reduce;try simp only[ca,cb]:code (aE 18 (some 0)) (aD 18 (some 0))= ?a); ?a
theorem akk:code (aE 18 (some 0)) (aD 18 (some 0))=Zp:=by kernel_rfl
noncomputable abbrev Zq:SL:=let_mvar% ?a:=(_:SL);let_mvar% ?z:=(by conv=>lhs;reduce;try simp only[ca,cb]:code (aE 19 (some 0)) (aD 19 (some 0))= ?a); ?a
theorem akl:code (aE 19 (some 0)) (aD 19 (some 0))=Zq:=by kernel_rfl
noncomputable abbrev Mo:SL:=let_mvar% ?a:=(_:SL);let_mvar% ?z:=(by conv=>lhs;reduce;try simp only[ca,cb]:code (aE 20 (some 0)) (aD 20 (some 0))= ?a); ?a
theorem Zr:code (aE 20 (some 0)) (aD 20 (some 0))=Mo:=by kernel_rfl
noncomputable abbrev Mp:SL:=let_mvar% ?a:=(_:SL);let_mvar% ?z:=(by conv=>lhs;reduce;try simp only[ca,cb]:code (aE 21 (some 0)) (aD 21 (some 0))= ?a); ?a
theorem Zs:code (aE 21 (some 0)) (aD 21 (some 0))=Mp:=by kernel_rfl
noncomputable abbrev Mq:SL:=let_mvar% ?a:=(_:SL);let_mvar% ?z:=(by conv=>lhs;reduce;try simp only[ca,cb]:code (aE 22 none) (aD 22 none)= ?a); ?a
theorem Zt:code (aE 22 none) (aD 22 none)=Mq:=by kernel_rfl
noncomputable abbrev Mr:SL:=let_mvar% ?a:=(_:SL);let_mvar% ?z:=(by conv=>lhs;reduce;try simp only[ca,cb]:code (aE 23 none) (aD 23 none)= ?a); ?a
theorem Zu:code (aE 23 none) (aD 23 none)=Mr:=by kernel_rfl
noncomputable abbrev Ms:SL:=let_mvar% ?a:=(_:SL);let_mvar% ?z:=(by conv=>lhs;reduce;try simp only[ca,cb]:code (aE 27 (some 0)) (aD 27 (some 0))= ?a); ?a
theorem Zv:code (aE 27 (some 0)) (aD 27 (some 0))=Ms:=by kernel_rfl
noncomputable abbrev Mt:SL:=let_mvar% ?a:=(_:SL);let_mvar% ?z:=(by conv=>lhs;reduce;try simp only[ca,cb]:code (aE 27 (some 1)) (aD 27 (some 1))= ?a); ?a
theorem Zw:code (aE 27 (some 1)) (aD 27 (some 1))=Mt:=by kernel_rfl
noncomputable abbrev Mu:SL:=let_mvar% ?a:=(_:SL);let_mvar% ?z:=(by conv=>lhs;reduce;try simp only[ca,cb]:code (aE 27 (some 2)) (aD 27 (some 2))= ?a); ?a
theorem Zx:code (aE 27 (some 2)) (aD 27 (some 2))=Mu:=by kernel_rfl
noncomputable abbrev Mv:SL:=let_mvar% ?a:=(_:SL);let_mvar% ?z:=(by conv=>lhs;reduce;try simp only[ca,cb]:code (aE 28 (some 0)) (aD 28 (some 0))= ?a); ?a
theorem Zy:code (aE 28 (some 0)) (aD 28 (some 0))=Mv:=by kernel_rfl
noncomputable abbrev Mw:SL:=let_mvar% ?a:=(_:SL);let_mvar% ?z:=(by conv=>lhs;reduce;try simp only[ca,cb]:code (aE 30 none) (aD 30 none)= ?a); ?a
theorem Zz:code (aE 30 none) (aD 30 none)=Mw:=by kernel_rfl
noncomputable abbrev Mx:SL:=let_mvar% ?a:=(_:SL);let_mvar% ?z:=(by conv=>lhs;reduce;try simp only[ca,cb]:code (aE 31 none) (aD 31 none)= ?a); ?a
theorem ZA:code (aE 31 none) (aD 31 none)=Mx:=by kernel_rfl
noncomputable abbrev My:SL:=let_mvar% ?a:=(_:SL);let_mvar% ?z:=(by conv=>lhs;reduce;try simp only[ca,cb]:code (aE 32 none) (aD 32 none)= ?a); ?a
theorem ZB:code (aE 32 none) (aD 32 none)=My:=by kernel_rfl
noncomputable abbrev Mz:SL:=let_mvar% ?a:=(_:SL);let_mvar% ?z:=(by conv=>lhs;reduce;try simp only[ca,cb]:code (aE 33 none) (aD 33 none)= ?a); ?a
theorem ZC:code (aE 33 none) (aD 33 none)=Mz:=by kernel_rfl
noncomputable abbrev MA:SL:=let_mvar% ?a:=(_:SL);let_mvar% ?z:=(by conv=>lhs;reduce;try simp only[ca,cb]:code (aE 34 none) (aD 34 none)= ?a); ?a
theorem ZD:code (aE 34 none) (aD 34 none)=MA:=by kernel_rfl
noncomputable abbrev MB:SL:=let_mvar% ?a:=(_:SL);let_mvar% ?z:=(by conv=>lhs;reduce;try simp only[ca,cb]:code (aE 35 none) (aD 35 none)= ?a); ?a
theorem ZE:code (aE 35 none) (aD 35 none)=MB:=by kernel_rfl
noncomputable abbrev MC:SL:=let_mvar% ?a:=(_:SL);let_mvar% ?z:=(by conv=>lhs;reduce;try simp only[ca,cb]:code (aE 36 none) (aD 36 none)= ?a); ?a
theorem ZF:code (aE 36 none) (aD 36 none)=MC:=by kernel_rfl
noncomputable abbrev MD:SL:=let_mvar% ?a:=(_:SL);let_mvar% ?z:=(by conv=>lhs;reduce;try simp only[ca,cb]:code (aE 37 none) (aD 37 none)= ?a); ?a
theorem ZG:code (aE 37 none) (aD 37 none)=MD:=by kernel_rfl
noncomputable abbrev ME:SL:=let_mvar% ?a:=(_:SL);let_mvar% ?z:=(by conv=>lhs;reduce;try simp only[ca,cb]:code (aE 38 none) (aD 38 none)= ?a); ?a
theorem ZH:code (aE 38 none) (aD 38 none)=ME:=by kernel_rfl
noncomputable abbrev MF:SL:=let_mvar% ?a:=(_:SL);let_mvar% ?z:=(by conv=>lhs;reduce;try simp only[ca,cb]:code (aE 39 none) (aD 39 none)= ?a); ?a
theorem ZI:code (aE 39 none) (aD 39 none)=MF:=by kernel_rfl
noncomputable abbrev MG:SL:=let_mvar% ?a:=(_:SL);let_mvar% ?z:=(by conv=>lhs;reduce;try simp only[ca,cb]:code (aE 46 (some 0)) (aD 46 (some 0))= ?a); ?a
theorem ZJ:code (aE 46 (some 0)) (aD 46 (some 0))=MG:=by kernel_rfl
noncomputable abbrev MH:SL:=let_mvar% ?a:=(_:SL);let_mvar% ?z:=(by conv=>lhs;reduce;try simp only[ca,cb]:code (aE 46 (some 1)) (aD 46 (some 1))= ?a); ?a
theorem ZK:code (aE 46 (some 1)) (aD 46 (some 1))=MH:=by kernel_rfl
noncomputable abbrev MI:SL:=let_mvar% ?a:=(_:SL);let_mvar% ?z:=(by conv=>lhs;reduce;try simp only[ca,cb]:code (aE 46 (some 2)) (aD 46 (some 2))= ?a); ?a
theorem ZL:code (aE 46 (some 2)) (aD 46 (some 2))=MI:=by kernel_rfl
noncomputable abbrev MJ:SL:=let_mvar% ?a:=(_:SL);let_mvar% ?z:=(by conv=>lhs;reduce;try simp only[ca,cb]:code (aE 47 none) (aD 47 none)= ?a); ?a
theorem ZM:code (aE 47 none) (aD 47 none)=MJ:=by kernel_rfl
noncomputable abbrev MK:SL:=let_mvar% ?a:=(_:SL);let_mvar% ?z:=(by conv=>lhs;reduce;try simp only[ca,cb]:code (aE 48 none) (aD 48 none)= ?a); ?a
theorem ZN:code (aE 48 none) (aD 48 none)=MK:=by kernel_rfl
noncomputable abbrev ML:SL:=let_mvar% ?a:=(_:SL);let_mvar% ?z:=(by conv=>lhs;reduce;try simp only[ca,cb]:code (aE 49 none) (aD 49 none)= ?a); ?a
theorem ZO:code (aE 49 none) (aD 49 none)=ML:=by kernel_rfl
noncomputable abbrev MM:SL:=let_mvar% ?a:=(_:SL);let_mvar% ?z:=(by conv=>lhs;reduce;try simp only[ca,cb]:code (aE 50 none) (aD 50 none)= ?a); ?a
theorem ZP:code (aE 50 none) (aD 50 none)=MM:=by kernel_rfl
noncomputable abbrev MN:SL:=let_mvar% ?a:=(_:SL);let_mvar% ?z:=(by conv=>lhs;reduce;try simp only[ca,cb]:code (aE 51 none) (aD 51 none)= ?a); ?a
theorem ZQ:code (aE 51 none) (aD 51 none)=MN:=by kernel_rfl
noncomputable abbrev MO:SL:=let_mvar% ?a:=(_:SL);let_mvar% ?z:=(by conv=>lhs;reduce;try simp only[ca,cb]:code (aE 52 none) (aD 52 none)= ?a); ?a
theorem ZR:code (aE 52 none) (aD 52 none)=MO:=by kernel_rfl
noncomputable abbrev MP:SL:=let_mvar% ?a:=(_:SL);let_mvar% ?z:=(by conv=>lhs;reduce;try simp only[ca,cb]:code (aE 53 none) (aD 53 none)= ?a); ?a
theorem ZS:code (aE 53 none) (aD 53 none)=MP:=by kernel_rfl
noncomputable abbrev ux:SL:=let_mvar% ?a:=(_:SL);let_mvar% ?z:=(by conv=>lhs;reduce;try simp only[ca,cb]:code (aE 54 none) (aD 54 none)= ?a); ?a
theorem ZT:code (aE 54 none) (aD 54 none)=ux:=by kernel_rfl
noncomputable abbrev gU:SL:=let_mvar% ?a:=(_:SL);let_mvar% ?z:=(by conv=>lhs;reduce;try simp only[ca,cb]:code (aE 55 none) (aD 55 none)= ?a); ?a
theorem MQ:code (aE 55 none) (aD 55 none)=gU:=by kernel_rfl
noncomputable abbrev MR:SL:=let_mvar% ?a:=(_:SL);let_mvar% ?z:=(by conv=>lhs;reduce;try simp only[ca,cb]:code (aE 56 none) (aD 56 none)= ?a); ?a
theorem ZU:code (aE 56 none) (aD 56 none)=MR:=by kernel_rfl
noncomputable abbrev E2:SL:=let_mvar% ?a:=(_:SL);let_mvar% ?z:=(by conv=>lhs;reduce;try simp only[ca,cb]:code (aE 57 none) (aD 57 none)= ?a); ?a
theorem ZV:code (aE 57 none) (aD 57 none)=E2:=by kernel_rfl
noncomputable abbrev MS:SL:=let_mvar% ?a:=(_:SL);let_mvar% ?z:=(by conv=>lhs;reduce;try simp only[ca,cb]:code (aE 58 none) (aD 58 none)= ?a); ?a
theorem ZW:code (aE 58 none) (aD 58 none)=MS:=by kernel_rfl
noncomputable abbrev MT:SL:=let_mvar% ?a:=(_:SL);let_mvar% ?z:=(by conv=>lhs;reduce;try simp only[ca,cb]:code (aE 59 none) (aD 59 none)= ?a); ?a
theorem ZX:code (aE 59 none) (aD 59 none)=MT:=by kernel_rfl
noncomputable abbrev MU:SL:=let_mvar% ?a:=(_:SL);let_mvar% ?z:=(by conv=>lhs;reduce;try simp only[ca,cb]:code (aE 60 none) (aD 60 none)= ?a); ?a
theorem ZY:code (aE 60 none) (aD 60 none)=MU:=by kernel_rfl
noncomputable abbrev E3:SL:=let_mvar% ?a:=(_:SL);let_mvar% ?z:=(by conv=>lhs;reduce;try simp only[ca,cb]:code (aE 61 none) (aD 61 none)= ?a); ?a
theorem ZZ:code (aE 61 none) (aD 61 none)=E3:=by kernel_rfl
noncomputable abbrev MV:SL:=let_mvar% ?a:=(_:SL);let_mvar% ?z:=(by conv=>lhs;reduce;try simp only[ca,cb]:code (aE 62 none) (aD 62 none)= ?a); ?a
theorem Z0:code (aE 62 none) (aD 62 none)=MV:=by kernel_rfl
noncomputable abbrev z9:SL:=let_mvar% ?a:=(_:SL);let_mvar% ?z:=(by conv=>lhs;reduce;try simp only[ca,cb]:code (aE 66 none) (aD 66 none)= ?a); ?a
theorem Z1:code (aE 66 none) (aD 66 none)=z9:=by kernel_rfl
noncomputable abbrev E4:SL:=let_mvar% ?a:=(_:SL);let_mvar% ?z:=(by conv=>lhs;reduce;try simp only[ca,cb]:code (aE 67 none) (aD 67 none)= ?a); ?a
theorem Z2:code (aE 67 none) (aD 67 none)=E4:=by kernel_rfl
noncomputable abbrev uy:SL:=let_mvar% ?a:=(_:SL);let_mvar% ?z:=(by conv=>lhs;reduce;try simp only[ca,cb]:code (aE 68 none) (aD 68 none)= ?a); ?a
theorem Z3:code (aE 68 none) (aD 68 none)=uy:=by kernel_rfl
noncomputable abbrev E5:SL:=let_mvar% ?a:=(_:SL);let_mvar% ?z:=(by conv=>lhs;reduce;try simp only[ca,cb]:code (aE 69 none) (aD 69 none)= ?a); ?a
theorem Z4:code (aE 69 none) (aD 69 none)=E5:=by kernel_rfl
noncomputable abbrev MW:SL:=let_mvar% ?a:=(_:SL);let_mvar% ?z:=(by conv=>lhs;reduce;try simp only[ca,cb]:code (aE 70 none) (aD 70 none)= ?a); ?a
theorem Z5:code (aE 70 none) (aD 70 none)=MW:=by kernel_rfl
noncomputable abbrev MX:SL:=let_mvar% ?a:=(_:SL);let_mvar% ?z:=(by conv=>lhs;reduce;try simp only[ca,cb]:code (aE 71 none) (aD 71 none)= ?a); ?a
theorem Z6:code (aE 71 none) (aD 71 none)=MX:=by kernel_rfl
noncomputable abbrev MY:SL:=let_mvar% ?a:=(_:SL);let_mvar% ?z:=(by conv=>lhs;reduce;try simp only[ca,cb]:code (aE 72 none) (aD 72 none)= ?a); ?a
theorem Z7:code (aE 72 none) (aD 72 none)=MY:=by kernel_rfl
noncomputable abbrev z':SL:=let_mvar% ?a:=(_:SL);let_mvar% ?z:=(by conv=>lhs;reduce;try simp only[ca,cb]:code (aE 73 none) (aD 73 none)= ?a); ?a
theorem Z8:code (aE 73 none) (aD 73 none)=z':=by kernel_rfl
noncomputable abbrev Aa:SL:=let_mvar% ?a:=(_:SL);let_mvar% ?z:=(by conv=>lhs;reduce;try simp only[ca,cb]:code (aE 74 none) (aD 74 none)= ?a); ?a
theorem Z9:code (aE 74 none) (aD 74 none)=Aa:=by kernel_rfl
noncomputable abbrev E6:SL:=let_mvar% ?a:=(_:SL);let_mvar% ?z:=(by conv=>lhs;reduce;try simp only[ca,cb]:code (aE 75 none) (aD 75 none)= ?a); ?a
theorem Z':code (aE 75 none) (aD 75 none)=E6:=by kernel_rfl
noncomputable abbrev MZ:SL:=let_mvar% ?a:=(_:SL);let_mvar% ?z:=(by conv=>lhs;reduce;try simp only[ca,cb]:code (aE 76 none) (aD 76 none)= ?a); ?a
theorem aaa:code (aE 76 none) (aD 76 none)=MZ:=by kernel_rfl
noncomputable abbrev M0:SL:=let_mvar% ?a:=(_:SL);let_mvar% ?z:=(by conv=>lhs;reduce;try simp only[ca,cb]:code (aE 77 none) (aD 77 none)= ?a); ?a
theorem aab:code (aE 77 none) (aD 77 none)=M0:=by kernel_rfl
noncomputable abbrev M1:SL:=let_mvar% ?a:=(_:SL);let_mvar% ?z:=(by conv=>lhs;reduce;try simp only[ca,cb]:code (aE 78 none) (aD 78 none)= ?a); ?a
theorem aac:code (aE 78 none) (aD 78 none)=M1:=by kernel_rfl
noncomputable abbrev M2:SL:=let_mvar% ?a:=(_:SL);let_mvar% ?z:=(by conv=>lhs;reduce;try simp only[ca,cb]:code (aE 79 none) (aD 79 none)= ?a); ?a
theorem aad:code (aE 79 none) (aD 79 none)=M2:=by kernel_rfl
noncomputable abbrev aae:SL:=let_mvar% ?a:=(_:SL);let_mvar% ?z:=(by conv=>lhs;reduce;try simp only[ca,cb]:code (aE 80 none) (aD 80 none)= ?a); ?a
theorem akm:code (aE 80 none) (aD 80 none)=aae:=by kernel_rfl
noncomputable abbrev M3:SL:=let_mvar% ?a:=(_:SL);let_mvar% ?z:=(by conv=>lhs;reduce;try simp only[ca,cb]:code (aE 81 none) (aD 81 none)= ?a); ?a
theorem aaf:code (aE 81 none) (aD 81 none)=M3:=by kernel_rfl
noncomputable abbrev Ab:SL:=let_mvar% ?a:=(_:SL);let_mvar% ?z:=(by conv=>lhs;reduce;try simp only[ca,cb]:code (aE 82 none) (aD 82 none)= ?a); ?a
theorem aag:code (aE 82 none) (aD 82 none)=Ab:=by kernel_rfl
noncomputable abbrev uz:SL:=let_mvar% ?a:=(_:SL);let_mvar% ?z:=(by conv=>lhs;reduce;try simp only[ca,cb]:code (aE 83 none) (aD 83 none)= ?a); ?a
theorem aah:code (aE 83 none) (aD 83 none)=uz:=by kernel_rfl
structure ar(p:bP):Prop where
 K:∃P,p.K=KF P
 Ψ:dW p z8 a1 a6 46
 Χ:su p
noncomputable def E7(i:Y)(j:ξ Y):aQ:= !(fT i j).isCoroutine&& !(fT i j).isGenerator&&(fT i j).kind==.function&&so (fT i j).names (pq i j++pr i j)
theorem E8{i:Y}{j:ξ Y}(h:E7 i j=true):(fT i j).isCoroutine=false/\(fT i j).isGenerator=false/\(fT i j).kind= .function/\so (fT i j).names (pq i j++pr i j)=true:=by
 unfold E7 at h;simp only[e6,He,d5] at h;exact p7 h.1.1.1 h.1.1.2 h.1.2 h.2
theorem ar.look{p:bP}(G:ar p){a:ε}{o:cU}(h:∀P,(KF P).lookup a=some o):p.K.lookup a=some o:=by
 refine a8 G.K λP uA=>?_;rw[uA];exact h P
noncomputable abbrev cg(p:bP)(f:ε)(k:Y)(cl:SL)(dargs:I O)(m:Y):Prop:=∀{args:I O} {n:Y} {c:Ι} {Q:O->Ι->Prop} {Er:Prop},args.length=k->bh p a1 a6 Er n cl ((args++dargs).map some++fz m) c (λH c'=>Q .none c') (λx H c'=>Q x c')->aF p (n+1) (.val (.ref f)) args c Q Er
noncomputable abbrev Bd(p:bP)(fd:yh)(pn:I φ)(k:Y)(Ac:I Λ):Prop:=∀(em:I Λ) (s:ah),em.length=k->p.K.In s.heap->yi s fd ⟨em,[]⟩ (pn.zip (em++Ac))
noncomputable abbrev aai(nm q:hh)(i:Y)(j:ξ Y)(D M:Λ)(cd:ε):yh:=oH (Mine.Internal.s nm) (Mine.Internal.s q) (sw i j) (aD i j) (fT i j) D .none .none M none (.ref cd) .none
theorem ck{p:bP}(G:ar p){f:ε}{D M:Λ}{cl:SL}{k m:Y}{dargs:I O}{dvals:I Λ}(i:Y)(j:ξ Y)(nm q:hh)(cd:ε)(aC:∀P,((KF P).lookup f,BW (KF P) (.ref cd) (s q),E7 i j,(pq i j).length,(pr i j).length)=(some (b4 nm q i j D M cd),true,true,k+dargs.length,m))(Θ:code (aE i j) (aD i j)=cl)(Κ:Bd p (aai nm q i j D M cd) (pq i j) k dvals)(hd:bA p.prog p.w p.B.get? dargs dvals:=by exact .nil):cg p f k cl dargs m:=λΤ h=>by
 refine a8 G.K λP uA=>?_;refine aa (Hg (aC P)) λh0 cc=>?_;refine aa (Hg cc) λd' cc=>?_;refine aa (Hg cc) λsy cc=>?_;refine aa (Hg cc) λΗ hm=>?_;refine lH (E8 sy) λΑ Δ κ ay=>?_;subst hm Θ;exact YN (cx:=aE i j) G.Χ G.Ψ (by rw[uA];exact h0) (by rw[uA];exact d') Α Δ κ ay (by rw[Τ,Η]) hd (λv s Φ=>Κ v s (Φ.trans Τ)) rfl rfl rfl h
section
variable{p:bP}{fd:yh}{pn:I φ}
theorem fU{l:I Λ}{n:Y}(h:l.length=n+1):∃a r,l=a::r/\r.length=n:=by
 rcases l with _|⟨a,r⟩
 ·exact absurd h (Nat.succ_ne_zero n).symm
 ·exact nz a r rfl (ahE h)
theorem ky(h:∀a,tq fd ⟨[a],[]⟩=pure (pn.zip [a])):Bd p fd pn 1 []:=by
 intro v s Φ _;apply fe (fU Φ);intro a sz h0;obtain rfl:=p5.mp h0;exact .of_eq (h a)
theorem gH(h:∀a b,tq fd ⟨[a,b],[]⟩=pure (pn.zip [a,b])):Bd p fd pn 2 []:=by
 intro v s Φ _;apply fe (fU Φ);intro a sz h0;apply fe (fU h0);intro b kp Α;obtain rfl:=p5.mp Α;exact .of_eq (h a b)
theorem hW(h:∀a b c,tq fd ⟨[a,b,c],[]⟩=pure (pn.zip [a,b,c])):Bd p fd pn 3 []:=by
 intro v s Φ _;apply fe (fU Φ);intro a sz h0;apply fe (fU h0);intro b kp Α;apply fe (fU Α);intro c hT Δ;obtain rfl:=p5.mp Δ;exact .of_eq (h a b c)
theorem M4(h:∀a b c d,tq fd ⟨[a,b,c,d],[]⟩=pure (pn.zip [a,b,c,d])):Bd p fd pn 4 []:=by
 intro v s Φ _;apply fe (fU Φ);intro a sz h0;apply fe (fU h0);intro b kp Α;apply fe (fU Α);intro c hT Δ;apply fe (fU Δ);intro d mR κ;obtain rfl:=p5.mp κ;exact .of_eq (h a b c d)
theorem w8(h:∀a b c d e,tq fd ⟨[a,b,c,d,e],[]⟩=pure (pn.zip [a,b,c,d,e])):Bd p fd pn 5 []:=by
 intro v s Φ _;apply fe (fU Φ);intro a sz h0;apply fe (fU h0);intro b kp Α;apply fe (fU Α);intro c hT Δ;apply fe (fU Δ);intro d mR κ;apply fe (fU κ);intro e EW ay;obtain rfl:=p5.mp ay;exact .of_eq (h a b c d e)
theorem aaj(h:∀a b c d e f,tq fd ⟨[a,b,c,d,e,f],[]⟩=pure (pn.zip [a,b,c,d,e,f])):Bd p fd pn 6 []:=by
 intro v s Φ _;apply fe (fU Φ);intro a sz h0;apply fe (fU h0);intro b kp Α;apply fe (fU Α);intro c hT Δ;apply fe (fU Δ);intro d mR κ;apply fe (fU κ);intro e EW ay;apply fe (fU ay);intro f L9 cc;obtain rfl:=p5.mp cc;exact .of_eq (h a b c d e f)
noncomputable def w9:PSigma λK:yh->I Λ->ξ (h6 Λ)->dP (I (φ×Λ))=>∀fd em,tq fd ⟨em,[]⟩=seqItems? fd.defaults>>= K fd em:=by
 refine⟨?K, ?h⟩
 case h=>
  intro fd em;delta tq;dsimp only[Q9,pure_bind];exact rfl
theorem E9{em:I Λ}{T:ε}{items:I Λ}{binds:I (φ×Λ)}{s:ah}(hd:fd.defaults= .ref T)(ab:p.K.lookup T=some (qH items))(X:p.K.In s.heap)(h:w9.1 fd em (some items.toArray)=pure binds):yi s fd ⟨em,[]⟩ binds:=
 .of_defaults (k:=w9.1 fd em) hd (X _ _ ab) rfl (w9.2 fd em) h
theorem M5{T:ε}{items Ac:I Λ}(hd:fd.defaults= .ref T)(ab:p.K.lookup T=some (qH items))(h:∀a b c,w9.1 fd [a,b,c] (some items.toArray)=pure (pn.zip ([a,b,c]++Ac))):Bd p fd pn 3 Ac:=by
 intro v s Φ X;apply fe (fU Φ);intro a sz h0;apply fe (fU h0);intro b kp Α;apply fe (fU Α);intro c hT Δ;obtain rfl:=p5.mp Δ;exact E9 hd ab X (h a b c)
theorem aak{T:ε}{items:I Λ}(hd:fd.defaults= .ref T)(ab:p.K.lookup T=some (qH items))(h:∀a b c d,w9.1 fd [a,b,c,d] (some items.toArray)=pure (pn.zip [a,b,c,d])):Bd p fd pn 4 []:=by
 intro v s Φ X;apply fe (fU Φ);intro a sz h0;apply fe (fU h0);intro b kp Α;apply fe (fU Α);intro c hT Δ;apply fe (fU Δ);intro d mR κ;obtain rfl:=p5.mp κ;exact E9 hd ab X (h a b c d)
variable(G:ar p)
include G
theorem aal:cg p 68 2 zY [] 0:=ck G (D:=.none) (M:=.str (s "paperhold.bits") 252) 6 none "low_bits" "low_bits" 67 (λP=>by kernel_rfl) Ze (gH λa b=>by kernel_rfl)
theorem aam:cg p 82 2 Me [] 0:=ck G (D:=.none) (M:=.str (s "paperhold.bits") 252) 7 (some 0) "__init__" "HighBitsIn.__init__" 81 (λP=>by kernel_rfl) Zf (gH λa b=>by kernel_rfl)
theorem aan:cg p 89 1 Mf [] 0:=ck G (D:=.none) (M:=.str (s "paperhold.bits") 252) 7 (some 1) "left" "HighBitsIn.left" 88 (λP=>by kernel_rfl) Zg (ky λa=>by kernel_rfl)
theorem aao:cg p 96 2 Mg [] 1:=ck G (D:=.none) (M:=.str (s "paperhold.bits") 252) 7 (some 2) "take" "HighBitsIn.take" 95 (λP=>by kernel_rfl) Zh (gH λa b=>by kernel_rfl)
theorem aap:cg p 115 3 Mh [] 1:=ck G (D:=.none) (M:=.str (s "paperhold.bits") 252) 8 none "samples" "samples" 114 (λP=>by kernel_rfl) Zi (hW λa b c=>by kernel_rfl)
theorem aaq:cg p 129 3 Mi [] 0:=ck G (D:=.none) (M:=.str (s "paperhold.decimals") 325) 10 (some 0) "__init__" "Decimal.__init__" 128 (λP=>by kernel_rfl) Zj (hW λa b c=>by kernel_rfl)
theorem aar:cg p 192 1 Mj [] 0:=ck G (D:=.none) (M:=.str (s "paperhold.decimals") 325) 10 (some 9) "told" "Decimal.told" 191 (λP=>by kernel_rfl) Zk (ky λa=>by kernel_rfl)
theorem aas:cg p 227 1 Mk [] 0:=ck G (D:=.none) (M:=.str (s "paperhold.decimals") 325) 12 none "sign_of" "sign_of" 226 (λP=>by kernel_rfl) Zl (ky λa=>by kernel_rfl)
theorem aat:cg p 234 2 Ml [] 1:=ck G (D:=.none) (M:=.str (s "paperhold.decimals") 325) 13 none "rounded_quotient" "rounded_quotient" 233 (λP=>by kernel_rfl) Zm (gH λa b=>by kernel_rfl)
theorem aau:cg p 241 1 Mm [] 0:=ck G (D:=.none) (M:=.str (s "paperhold.decimals") 325) 14 none "decimal_of" "decimal_of" 240 (λP=>by kernel_rfl) Zn (ky λa=>by kernel_rfl)
theorem aav:cg p 248 2 Mn [] 2:=ck G (D:=.none) (M:=.str (s "paperhold.decimals") 325) 15 none "common_divisor" "common_divisor" 247 (λP=>by kernel_rfl) Zo (gH λa b=>by kernel_rfl)
theorem aaw:cg p 305 3 Mo [] 0:=ck G (D:=.none) (M:=.str (s "paperhold.objects") 481) 20 (some 0) "__init__" "Stream.__init__" 304 (λP=>by kernel_rfl) Zr (hW λa b c=>by kernel_rfl)
theorem aax:cg p 326 3 Mp [] 0:=ck G (D:=.none) (M:=.str (s "paperhold.objects") 481) 21 (some 0) "__init__" "Reference.__init__" 325 (λP=>by kernel_rfl) Zs (hW λa b c=>by kernel_rfl)
theorem aay:cg p 347 1 Mq [] 0:=ck G (D:=.none) (M:=.str (s "paperhold.objects") 481) 22 none "kind_of" "kind_of" 346 (λP=>by kernel_rfl) Zt (ky λa=>by kernel_rfl)
theorem aaz:cg p 354 1 Mr [] 0:=ck G (D:=.none) (M:=.str (s "paperhold.objects") 481) 23 none "is_number" "is_number" 353 (λP=>by kernel_rfl) Zu (ky λa=>by kernel_rfl)
theorem aaA:cg p 381 3 Ms [] 0:=ck G (D:=.ref 374) (M:=.str (s "paperhold.objects") 481) 27 (some 0) "__init__" "Lookup.__init__" 380 (λP=>by kernel_rfl) Zv (M5 (items:=[.none,.none]) rfl (G.look λP=>by kernel_rfl) λa b c=>by kernel_rfl)
theorem aaB:cg p 388 2 Mt [] 4:=ck G (D:=.none) (M:=.str (s "paperhold.objects") 481) 27 (some 1) "fetch" "Lookup.fetch" 387 (λP=>by kernel_rfl) Zw (gH λa b=>by kernel_rfl)
theorem aaC:cg p 395 3 Mu [] 0:=ck G (D:=.none) (M:=.str (s "paperhold.objects") 481) 27 (some 2) "get" "Lookup.get" 394 (λP=>by kernel_rfl) Zx (hW λa b c=>by kernel_rfl)
theorem aaD:cg p 416 4 Mv [] 0:=ck G (D:=.none) (M:=.str (s "paperhold.objects") 481) 28 (some 0) "put" "Shelf.put" 415 (λP=>by kernel_rfl) Zy (M4 λa b c d=>by kernel_rfl)
theorem aaE:cg p 461 2 Mw [] 1:=ck G (D:=.none) (M:=.str (s "paperhold.quotients") 757) 30 none "quotient" "quotient" 460 (λP=>by kernel_rfl) Zz (gH λa b=>by kernel_rfl)
theorem aaF:cg p 468 1 Mx [] 1:=ck G (D:=.none) (M:=.str (s "paperhold.quotients") 757) 31 none "quotient_of" "quotient_of" 467 (λP=>by kernel_rfl) ZA (ky λa=>by kernel_rfl)
theorem aaG:cg p 475 2 My [] 0:=ck G (D:=.none) (M:=.str (s "paperhold.quotients") 757) 32 none "plus" "plus" 474 (λP=>by kernel_rfl) ZB (gH λa b=>by kernel_rfl)
theorem aaH:cg p 482 2 Mz [] 0:=ck G (D:=.none) (M:=.str (s "paperhold.quotients") 757) 33 none "minus" "minus" 481 (λP=>by kernel_rfl) ZC (gH λa b=>by kernel_rfl)
theorem aaI:cg p 489 2 MA [] 0:=ck G (D:=.none) (M:=.str (s "paperhold.quotients") 757) 34 none "ratio_times" "ratio_times" 488 (λP=>by kernel_rfl) ZD (gH λa b=>by kernel_rfl)
theorem aaJ:cg p 496 2 MB [] 0:=ck G (D:=.none) (M:=.str (s "paperhold.quotients") 757) 35 none "divided" "divided" 495 (λP=>by kernel_rfl) ZE (gH λa b=>by kernel_rfl)
theorem aaK:cg p 503 2 MC [] 0:=ck G (D:=.none) (M:=.str (s "paperhold.quotients") 757) 36 none "is_below" "is_below" 502 (λP=>by kernel_rfl) ZF (gH λa b=>by kernel_rfl)
theorem aaL:cg p 510 2 MD [] 2:=ck G (D:=.none) (M:=.str (s "paperhold.quotients") 757) 37 none "ratio_between" "ratio_between" 509 (λP=>by kernel_rfl) ZG (gH λa b=>by kernel_rfl)
theorem aaM:cg p 517 3 ME [] 3:=ck G (D:=.none) (M:=.str (s "paperhold.quotients") 757) 38 none "ratio_moved" "ratio_moved" 516 (λP=>by kernel_rfl) ZH (hW λa b c=>by kernel_rfl)
theorem aaN:cg p 524 2 MF [] 0:=ck G (D:=.none) (M:=.str (s "paperhold.quotients") 757) 39 none "rounded_at" "rounded_at" 523 (λP=>by kernel_rfl) ZI (gH λa b=>by kernel_rfl)
theorem aaO:cg p 544 5 MG [] 0:=ck G (D:=.none) (M:=.str (s "paperhold.functionparts") 846) 46 (some 0) "__init__" "Function.__init__" 543 (λP=>by kernel_rfl) ZJ (w8 λa b c d e=>by kernel_rfl)
theorem M6:cg p 551 1 MH [] 0:=ck G (D:=.none) (M:=.str (s "paperhold.functionparts") 846) 46 (some 1) "count_in" "Function.count_in" 550 (λP=>by kernel_rfl) ZK (ky λa=>by kernel_rfl)
theorem w':cg p 558 1 MI [] 0:=ck G (D:=.none) (M:=.str (s "paperhold.functionparts") 846) 46 (some 2) "count_out" "Function.count_out" 557 (λP=>by kernel_rfl) ZL (ky λa=>by kernel_rfl)
theorem M7:cg p 577 3 MJ [] 4:=ck G (D:=.none) (M:=.str (s "paperhold.functionparts") 846) 47 none "numbers_at" "numbers_at" 576 (λP=>by kernel_rfl) ZM (hW λa b c=>by kernel_rfl)
theorem M8:cg p 582 3 MK [] 2:=ck G (D:=.none) (M:=.str (s "paperhold.functionparts") 846) 48 none "spans_at" "spans_at" 581 (λP=>by kernel_rfl) ZN (hW λa b c=>by kernel_rfl)
theorem M9:cg p 587 5 ML [] 1:=ck G (D:=.none) (M:=.str (s "paperhold.functionparts") 846) 49 none "pairs_at" "pairs_at" 586 (λP=>by kernel_rfl) ZO (w8 λa b c d e=>by kernel_rfl)
theorem M':cg p 594 5 MM [] 1:=ck G (D:=.none) (M:=.str (s "paperhold.functionparts") 846) 50 none "whole_at" "whole_at" 593 (λP=>by kernel_rfl) ZP (w8 λa b c d e=>by kernel_rfl)
theorem E':cg p 601 1 MN [] 1:=ck G (D:=.none) (M:=.str (s "paperhold.functionparts") 846) 51 none "head_of_function" "head_of_function" 600 (λP=>by kernel_rfl) ZQ (ky λa=>by kernel_rfl)
theorem aaP:cg p 606 5 MO [] 10:=ck G (D:=.none) (M:=.str (s "paperhold.functionparts") 846) 52 none "sampled_parts" "sampled_parts" 605 (λP=>by kernel_rfl) ZR (w8 λa b c d e=>by kernel_rfl)
theorem aaQ:cg p 613 3 MP [] 2:=ck G (D:=.none) (M:=.str (s "paperhold.functionparts") 846) 53 none "power_parts" "power_parts" 612 (λP=>by kernel_rfl) ZS (hW λa b c=>by kernel_rfl)
theorem uB:cg p 618 5 ux [] 5:=ck G (D:=.none) (M:=.str (s "paperhold.functionparts") 846) 54 none "stitched_parts" "stitched_parts" 617 (λP=>by kernel_rfl) ZT (w8 λa b c d e=>by kernel_rfl)
theorem Na:cg p 626 3 gU [O.int 0] 7:=ck G (D:=.ref 619) (M:=.str (s "paperhold.functionparts") 846) (dvals:=[.int 0 992]) 55 none "made_by" "made_by" 625 (λP=>by kernel_rfl) MQ (M5 (items:=[.int 0 992]) rfl (G.look λP=>by kernel_rfl) λa b c=>by kernel_rfl) (.cons (.int _ _) .nil)
theorem uC:cg p 626 4 gU [] 7:=ck G (D:=.ref 619) (M:=.str (s "paperhold.functionparts") 846) 55 none "made_by" "made_by" 625 (λP=>by kernel_rfl) MQ (aak (items:=[.int 0 992]) rfl (G.look λP=>by kernel_rfl) λa b c d=>by kernel_rfl)
theorem aaR:cg p 633 2 MR [] 4:=ck G (D:=.none) (M:=.str (s "paperhold.functionparts") 846) 56 none "power_values" "power_values" 632 (λP=>by kernel_rfl) ZU (gH λa b=>by kernel_rfl)
theorem aaS:cg p 640 3 E2 [] 4:=ck G (D:=.none) (M:=.str (s "paperhold.functionparts") 846) 57 none "stitched_values" "stitched_values" 639 (λP=>by kernel_rfl) ZV (hW λa b c=>by kernel_rfl)
theorem aaT:cg p 647 3 MS [] 9:=ck G (D:=.none) (M:=.str (s "paperhold.functionparts") 846) 58 none "corner_rows" "corner_rows" 646 (λP=>by kernel_rfl) ZW (hW λa b c=>by kernel_rfl)
theorem aaU:cg p 654 2 MT [] 11:=ck G (D:=.none) (M:=.str (s "paperhold.functionparts") 846) 59 none "sampled_values" "sampled_values" 653 (λP=>by kernel_rfl) ZX (gH λa b=>by kernel_rfl)
theorem aaV:cg p 661 3 MU [] 1:=ck G (D:=.none) (M:=.str (s "paperhold.functionparts") 846) 60 none "calculated_values" "calculated_values" 660 (λP=>by kernel_rfl) ZY (hW λa b c=>by kernel_rfl)
theorem aaW:cg p 666 3 E3 [] 2:=ck G (D:=.none) (M:=.str (s "paperhold.functionparts") 846) 61 none "values_by" "values_by" 665 (λP=>by kernel_rfl) ZZ (hW λa b c=>by kernel_rfl)
theorem aaX:cg p 671 4 MV [] 0:=ck G (D:=.none) (M:=.str (s "paperhold.functionparts") 846) 62 none "evaluated_by" "evaluated_by" 670 (λP=>by kernel_rfl) Z0 (M4 λa b c d=>by kernel_rfl)
theorem aaY:cg p 678 2 z9 [] 3:=ck G (D:=.none) (M:=.str (s "law_pq0808_02") 1094) 66 none "_law_take" "_law_take" 677 (λP=>by kernel_rfl) Z1 (gH λa b=>by kernel_rfl)
theorem aaZ:cg p 683 3 E4 [] 1:=ck G (D:=.none) (M:=.str (s "law_pq0808_02") 1094) 67 none "_law_limits" "_law_limits" 682 (λP=>by kernel_rfl) Z2 (hW λa b c=>by kernel_rfl)
theorem aa0:cg p 688 2 uy [] 3:=ck G (D:=.none) (M:=.str (s "law_pq0808_02") 1094) 68 none "_law_leaf" "_law_leaf" 687 (λP=>by kernel_rfl) Z3 (gH λa b=>by kernel_rfl)
theorem aa1:cg p 693 3 E5 [] 10:=ck G (D:=.none) (M:=.str (s "law_pq0808_02") 1094) 69 none "_law_stitched" "_law_stitched" 692 (λP=>by kernel_rfl) Z4 (hW λa b c=>by kernel_rfl)
theorem aa2:cg p 700 1 MW [] 0:=ck G (D:=.none) (M:=.str (s "law_pq0808_02") 1094) 70 none "_law_number" "_law_number" 699 (λP=>by kernel_rfl) Z5 (ky λa=>by kernel_rfl)
theorem aa3:cg p 707 2 MX [] 0:=ck G (D:=.none) (M:=.str (s "law_pq0808_02") 1094) 71 none "_law_laid" "_law_laid" 706 (λP=>by kernel_rfl) Z6 (gH λa b=>by kernel_rfl)
theorem aa4:cg p 712 2 MY [] 0:=ck G (D:=.none) (M:=.str (s "law_pq0808_02") 1094) 72 none "_law_array" "_law_array" 711 (λP=>by kernel_rfl) Z7 (gH λa b=>by kernel_rfl)
theorem Ad:cg p 717 2 z' [] 11:=ck G (D:=.none) (M:=.str (s "law_pq0808_02") 1094) 73 none "_law_head" "_law_head" 716 (λP=>by kernel_rfl) Z8 (gH λa b=>by kernel_rfl)
theorem aa5:cg p 722 3 Aa [] 10:=ck G (D:=.none) (M:=.str (s "law_pq0808_02") 1094) 74 none "_law_worth" "_law_worth" 721 (λP=>by kernel_rfl) Z9 (hW λa b c=>by kernel_rfl)
theorem aa6:cg p 729 3 E6 [] 1:=ck G (D:=.none) (M:=.str (s "law_pq0808_02") 1094) 75 none "_law_rounded" "_law_rounded" 728 (λP=>by kernel_rfl) Z' (hW λa b c=>by kernel_rfl)
theorem aa7:cg p 736 2 MZ [] 0:=ck G (D:=.none) (M:=.str (s "law_pq0808_02") 1094) 76 none "_law_raw" "_law_raw" 735 (λP=>by kernel_rfl) aaa (gH λa b=>by kernel_rfl)
theorem aa8:cg p 743 1 M0 [] 0:=ck G (D:=.none) (M:=.str (s "law_pq0808_02") 1094) 77 none "_law_program" "_law_program" 742 (λP=>by kernel_rfl) aab (ky λa=>by kernel_rfl)
theorem aa9:cg p 748 2 M1 [] 2:=ck G (D:=.none) (M:=.str (s "law_pq0808_02") 1094) 78 none "_law_calculate" "_law_calculate" 747 (λP=>by kernel_rfl) aac (gH λa b=>by kernel_rfl)
theorem aba:cg p 753 3 M2 [] 0:=ck G (D:=.none) (M:=.str (s "law_pq0808_02") 1094) 79 none "_law_heard" "_law_heard" 752 (λP=>by kernel_rfl) aad (hW λa b c=>by kernel_rfl)
theorem abb:cg p 767 3 M3 [] 1:=ck G (D:=.none) (M:=.str (s "law_pq0808_02") 1094) 81 none "_law_around" "_law_around" 766 (λP=>by kernel_rfl) aaf (hW λa b c=>by kernel_rfl)
theorem abc:cg p 774 6 Ab [] 12:=ck G (D:=.none) (M:=.str (s "law_pq0808_02") 1094) 82 none "_law_bent" "_law_bent" 773 (λP=>by kernel_rfl) aag (aaj λa b c d e f=>by kernel_rfl)
theorem akn:cg p 779 1 uz [] 19:=ck G (D:=.none) (M:=.str (s "law_pq0808_02") 1094) 83 none "law" "law" 778 (λP=>by kernel_rfl) aah (ky λa=>by kernel_rfl)
end
section
open PySem.Builtin PySem.Builtin.ObjectAttr
section
variable{p:bP}{A:gh}{E:Λ->ah->Prop}{s:ah}{e:ε}{jB:cU}{vs:h6 Λ}{v:Λ}{name:φ}{R:j9->ah->Prop}
theorem Ae(P:dF):(h7 (KF P) (.ref 46) "__setattr__"==some (some (.builtin "object.__setattr__"))&&GU (KF P) 46&&pW (KF P) (.ref 46)&&(clsIn (KF P) 46).any (λcd=>cd.mro==[.ref 46,.type "Exception",.type "BaseException",.type "object"]))=true:=by kernel_rfl
theorem abd(P:dF):mroIn (KF P) 46 (.type "object")=some true:=by kernel_rfl
theorem abe(self:Λ):refuseLoop self "__setattr__" [.type "Exception",.type "BaseException",.type "object"]=pure ():=by kernel_rfl
theorem Nb{P:dF}{abf:ξ cU}(X:(KF P).In s.heap)(aG:InstAt s.heap e jB 46 abf)(hf:h7 (KF P) (.ref 46) name=some none){Q:gx->ah->Prop}(h:∀b tk,aB p.M A.in1 (storeInOwnDict (.ref e) (.ref 46) (.str name s.toks) name v b)
 (λcq μ=>match cq with| .done (.ret _)=>Q () μ|_=>aK) E {s with toks:=tk}):aB p.M A (setAttr (.ref e) name v) Q E s:=by
 have kz:=Ae P;simp only[e6,d5] at kz;refine aa kz λaV n3=>?_;try clear kz;refine aa aV λaW jc=>?_;try clear aV;refine aa aW λgD f'=>?_;try clear aW
 have xa:=PySem.F.store_object;refine set_plain X aG gD ?_;refine ψ (GX n3) λcd Θ ab=>?_;refine aib xa.slot.plain xa.entry (@check_slot (kM p.prog p.w) _ _ {s with toks:=s.toks+1} "object.__setattr__" "object" "__setattr__" (.ref e) [.str name s.toks,v] [] _ xa.kind xa.split (aG.type.andThen (looks_mroIn X (abd P))) (xa.args (.ref e) (.str name s.toks) v) ?_);rw[osa_eq,refuse_eq];refine aI (aI (aG.type.here (s:={s with toks:=s.toks+1}) (aI (((GY X Θ).andThen .now:Looks (kM p.prog p.w) s.heap (mroOf (.ref 46)) cd.mro).here (s:={s with toks:=s.toks+1}) ?_))));rw[(d5.mp ab),refuseLoop_ref,abe];refine cy (aI (aG.type.here (s:={s with toks:=s.toks+1}) (aI ((QI X hf).here (s:={s with toks:=s.toks+1}) (aI ?_)))));refine(Looks.now (M:=kM p.prog p.w) (h:=s.heap) (a:=none)).here (s:={s with toks:=s.toks+1}) ?_;refine bR (h _ (s.toks+1)) (λcq μ z=>?_) λH H z=>z;rcases cq with (f|c)
 ·rcases f with _|v|_|_<;>first|exact z|exact z.elim
 ·exact z.elim
noncomputable abbrev jU(d:ξ ε)(vs:h6 Λ):cU:={cls:=.ref 46,dict:=d,data:=.fields vs,slots:=#[]}
theorem abg(aH:s.heap.get? e=some (jU none vs)):InstAt s.heap e (jU none vs) 46 none:=⟨aH,rfl,rfl,trivial⟩
theorem abh{d:ε}{o:cU}(aH:s.heap.get? e=some (jU (some d) vs))(hd:s.heap.get? d=some o):InstAt s.heap e (jU (some d) vs) 46 (some o):=⟨aH,rfl,rfl,hd⟩
theorem abi{P:dF}(X:(KF P).In s.heap)(aH:s.heap.get? e=some (jU none vs))(hf:h7 (KF P) (.ref 46) name=some none){Q:gx->ah->Prop}(h:∀h' d tk,s.heap.get? d=none->h'.get? e=some (jU (some d) vs)->h'.Ns1 d (λx=>if x=name then some v else none)->(∀b o,b≠e->s.heap.get? b=some o->h'.get? b=some o)->Q () {s with heap:=h',toks:=tk}):aB p.M A (setAttr (.ref e) name v) Q E s:=by
 refine Nb X (abg aH) hf λb tk=>?_;have kz:=Ae P;simp only[e6,d5] at kz;refine aa kz λbM n3=>?_;try clear kz;refine aa bM λcN jc=>?_;try clear bM;refine aa cN λgD f'=>?_;try clear cN
 refine ψ (GX f') λcd Θ fu=>?_;refine aI (cy (aI (aI (QE (s:={s with toks:=tk}) aH (aI ((GY X Θ).here (s:={s with toks:=tk}) ?_))))));rw[fu];have Ζ:=ja s.heap;have ne:s.heap.objs.size≠e:=λq=>by rw[q,aH] at Ζ;contradiction
 have Nc:=hg {cls:=.type "dict",data:=.dict #[]} aH;have zc:((s.heap.push {cls:=.type "dict",data:=.dict #[]}).update e (λo=>{o with dict:=some s.heap.objs.size})).get? s.heap.objs.size=some {cls:=.type "dict",data:=.dict #[]}:=
  (yc _ _ (oG ne)).trans (kO _ rfl)
 have abj:((s.heap.push {cls:=.type "dict",data:=.dict #[]}).update e (λo=>{o with dict:=some s.heap.objs.size})).Ns1 s.heap.objs.size (λH=>none):=
  ⟨_,#[],0,zc,rfl,λH hm=>by simp at hm,by simp[Ql],λH=>by simp[BD,GW]⟩
 refine aI (wpAny_alloc (s:={s with toks:=tk}) (aI (wpAny_update (s:={s with heap:=s.heap.push {cls:=.type "dict",data:=.dict #[]},toks:=tk}) Nc ?_)));refine cy (a:=some s.heap.objs.size) (aI (cy (aI (QF (s:={s with heap:=(s.heap.push {cls:=.type "dict",data:=.dict #[]}).update e (λo=>{o with dict:=some s.heap.objs.size}),toks:=tk}) abj λh' d2 σ=>?_))));obtain⟨J8,J9,J',wr,ws,r1⟩:=d2.count (ns:=[name]) (λy aX=>by
  by_cases q:y=name
  ·rw[q];exact .head _
  ·rw[bL q] at aX;exact absurd rfl aX)
 refine aI (QG wr (by rw[ws];exact QH (aP r1 (by rw[hC];simp))) (cy ?_));refine h h' _ _ Ζ ((σ.2 e (oG ne)).trans (tc (λo=>{o with dict:=some s.heap.objs.size}) Nc rfl)) d2 λb o Κ aT=>?_;have:b≠s.heap.objs.size:=λq=>by rw[q,Ζ] at aT;contradiction
 exact(σ.2 b this).trans ((yc _ _ (oG Κ)).trans (hg _ aT))
theorem abk{P:dF}{d:ε}{m:φ->ξ Λ}{ns:I φ}(X:(KF P).In s.heap)(aH:s.heap.get? e=some (jU (some d) vs))(hd:s.heap.Ns1 d m)(bC:Within m ns)(Τ:ns.length<=1000)(hf:h7 (KF P) (.ref 46) name=some none){Q:gx->ah->Prop}(h:∀h' tk,h'.Ns1 d (λx=>if x=name then some v else m x)->vp d s.heap h'->Q () {s with heap:=h',toks:=tk}):aB p.M A (setAttr (.ref e) name v) Q E s:=by
 refine gz (id hd) λo es dR lV r9 zc=>?_;refine Nb X (abh aH lV) hf λb tk=>?_;have kz:=Ae P;simp only[e6,d5] at kz;refine aa kz λdk n3=>?_;try clear kz;refine aa dk λdg jc=>?_;try clear dk;refine aa dg λgD f'=>?_;try clear dg
 refine ψ (GX f') λcd Θ fu=>?_;refine aI (cy (aI (aI (QE (s:={s with toks:=tk}) aH (aI ((GY X Θ).here (s:={s with toks:=tk}) ?_))))));rw[fu];refine cy (a:=some d) (aI (cy (aI (QF (s:={s with toks:=tk}) hd λh' d2 σ=>?_))));refine gz (d2.count (ahm name v bC)) λJ8 J9 J' wr ws r1=>?_;refine aI (QG wr (by rw[ws];exact QH (aP r1 (by rw[kP,hC];exact Ix Τ))) (cy ?_));exact h h' _ d2 σ
end
end
noncomputable def ew(P:dF):I DictEntry:=match (KF P).lookup 3 with
 |some ⟨_,_,.dict es _,_⟩=>es.toList
 |_=>[]
noncomputable def sA(P:dF)(x:φ):ξ Λ:=((ew P).find? λe=>e.key.isStr x).map (·.val)
theorem Af{p:bP}(ζ:p.Ok){P:dF}(aC:p.K=KF P)(x:φ):p.mD x=sA P x:=by
 refine yv ζ.g λo es dR ab hd Η hf=>?_;have κ:∃rN CZ,(KF P).lookup 3=some ⟨.type "dict",none,.dict rN CZ,#[]⟩:=⟨_,_,rfl⟩;refine ys κ λrN CZ aV=>?_;try clear κ;revert aV;intro κ
 have:=ζ.X 3 _ (by rw[aC];exact κ);rw[show(3:ε)=lC from rfl,ab] at this;obtain rfl:=bQ this
 (injection hd with hd;subst hd)
 rw[<-hf x];unfold sA ew BD GW;rw[κ];dsimp only;rw[QC]
noncomputable def Fa:O->Λ->aQ
 | .val v,u=>v==u&&GK v
 | .int i,.int j _=>i==j
 |_,_=>false
theorem Nd{prog:he}{w:e4}{F:a2}{x:O}{u:Λ}(h:Fa x u=true):au prog w F x u:=by
 cases x with
 |val v=>exact have h:=e5.mp h;d5.mp h.1▸.val _ h.2
 |int i=>cases u with
  |int j t=>exact d5.mp h▸.int _ _
  |_=>exact hE h
 |_=>exact hE h
noncomputable def Nf:O->Λ->aQ
 | .tup l,u=>allInts l==some [1,2,4,8,12,16,24,32]&&u==.ref 525
 |_,_=>false
theorem abl{l:I O}:∀{ns:I J},allInts l=some ns->l=ns.map O.int:=by
 induction l with
 |nil=>
  exact λ{ns} h=>by obtain rfl:=bQ h;rfl
 |cons x l Ξ=>
  exact λ{ns} h=>by
   refine ψ (nI h) λi h0 h=>ψ (mq.mp h) λhl Α Δ=>?_;subst Δ;rw[Ξ Α,JJ h0];rfl
noncomputable def Ng(P:dF)(y:φ×O):aQ:= !(y.1==("__debug__":φ))&&y.1 != ("__name__":φ)&&match sA P y.1 with
 |some u=>Fa y.2 u||Nf y.2 u
 |none=>match BE y.1 with
  |some u=>Fa y.2 u
  |none=>false
theorem abm(P:dF):z8.all (Ng P)=true:=by kernel_rfl
theorem mem_lookup{α β:Type}[BEq α][LawfulBEq α]{x:α}{v:β}{l:I (α×β)}:l.lookup x=some v->(x,v)∈l:=by
 induction l with
 |nil=>exact λh0=>by simp_all
 |cons hd l Ξ=>
  obtain⟨y,u⟩:=hd;exact λh=>by
   rw[tm] at h;cases q:x==y with
   |true=>rw[q] at h;obtain rfl:=bQ h;rw[d5.mp q];exact .head _
   |false=>rw[q] at h;exact .tail _ (Ξ h)
theorem abn{p:bP}(ζ:p.Ok){P:dF}(aC:p.K=KF P):Dy p z8:=by
 intro x v Φ;have:=kL.mp (abm P) _ (mem_lookup Φ);unfold Ng at this;simp only[e6,He,bne_iff_ne] at this;refine aa this λaW κ=>?_;try clear this;refine aa aW λΑ Δ=>?_;try clear aW
 refine⟨Α,?_⟩;have hm:=Af ζ aC x;cases q:sA P x with
 |some u=>
  rw[q] at κ hm;rcases G4.mp κ with κ|κ
  ·exact as u (.inl hm) (Nd κ)
  ·unfold Nf at κ;split at κ
   ·rename_i l;simp only[e6,d5] at κ;refine aa κ λbM cN=>?_;try clear κ;revert bM;intro κ;rcases cN with rfl
    rw[abl κ];refine as _ (.inl hm) (.tup (vs:=[.int 1 854,.int 2 855,.int 4 856,.int 8 857,.int 12 858,.int 16 859,.int 24 860,.int 32 861]) (n:=0) (ζ.X 525 _ (by rw[aC];rfl)) ?_)
    repeat (first|exact .nil|refine .cons (.int _ _) ?_)
   ·contradiction
 |none=>
  rw[q] at κ hm;cases e8:BE x with
  |some u=>rw[e8] at κ;exact as u (.inr ⟨hm,(ζ.bi x Δ).trans e8⟩) (Nd κ)
  |none=>rw[e8] at κ;contradiction
theorem abo:o0 a6:=⟨⟨by decide+kernel,by kernel_rfl⟩,⟨by decide+kernel,by kernel_rfl⟩,⟨by decide+kernel,by kernel_rfl⟩,⟨by decide+kernel,by kernel_rfl⟩⟩
noncomputable def Ag(K:vq)(C:ε):aQ:=h7 K (.ref C) "__getattribute__"==some (some (.builtin "object.__getattribute__"))&&h7 K (.ref C) "__getattr__"==some none&&h7 K (.ref C) "__setattr__"==some (some (.builtin "object.__setattr__"))&&plainOver K C&&GU K C
noncomputable def Nh(K:vq):aQ:=a1.fns.all (λa=>pW K (.ref a))&&
 a1.attr.all (λx=>Ag K x.1&&x.2.all λk=>iq k dB.length&&h7 K (.ref x.1) (b6 k)==some none)&&
 a1.hG.all (λx=>Ag K x.1&&iq x.2.1 dB.length&&h7 K (.ref x.1) (b6 x.2.1)==some (some (.ref x.2.2))&&GV K (.ref x.2.2)==some (.type "function")&&pW K (.ref x.2.2))&&
 a1.init.all λx=>makesIn K x.1&&h7 K (.ref x.1) "__init__"==some (some (.ref x.2))&&GV K (.ref x.2)==some (.type "function")&&pW K (.ref x.1)
theorem abp(P:dF):Nh (KF P)=true:=by kernel_rfl
theorem Fb{a:Y}:∀{l:I Y},qg a l=true->a∈l
 |b::l,h=>by
  have h:(bE a b||qg a l)=true:=h;rcases G4.mp h with h|h
  ·rw[oz h];exact .head _
  ·exact .tail _ (Fb h)
theorem Ni{C:ε}{k:Y}:∀{l:I (ε×I Y)},oU l C k=true->∃bc,(C,bc)∈l/\k∈bc
 |(D,bc)::l,h=>by
  have h:(match bE D C with|true=>qg k bc|false=>oU l C k)=true:=h;split at h
  ·rename_i e;rw[<-oz e];exact as bc (.head _) (Fb h)
  ·(refine ψ (Ni h) λk1 Α Δ=>?_);exact as k1 (.tail _ Α) Δ
theorem Nj{C:ε}{k:Y}{f:ε}:∀{l:I (ε×Y×ε)},lM l C k=some f->(C,k,f)∈l
 |(D,j,g)::l,h=>by
  have h:(match bE D C&&bE j k with|true=>some g|false=>lM l C k)=some f:=h;split at h
  ·rename_i e;obtain rfl:=bQ h;rw[<-oz ((e5.mp e)).1,<-oz ((e5.mp e)).2];exact .head _
  ·exact .tail _ (Nj h)
theorem Nk{C:ε}{f:ε}:∀{l:I (ε×ε)},mG l C=some f->(C,f)∈l
 |(D,g)::l,h=>by
  have h:(match bE D C with|true=>some g|false=>mG l C)=some f:=h;split at h
  ·rename_i e;obtain rfl:=bQ h;rw[<-oz e];exact .head _
  ·exact .tail _ (Nk h)
theorem Nl{K:vq}{C:ε}(h:Ag K C=true):Dn K C:=by
 unfold Ag at h;simp only[e6,d5] at h;refine aa h λdk cc=>?_;try clear h;refine aa dk λdg ay=>?_;try clear dk;refine aa dg λeV κ=>?_;try clear dg;refine aa eV λΑ Δ=>?_;try clear eV
 exact⟨Α,Δ,κ,ay,cc⟩
theorem abq{p:bP}{P:dF}(aC:p.K=KF P):iH p a1:=by
 have h:=abp P;rw[<-aC] at h;unfold Nh at h;simp only[e6] at h;refine aa h λfh ay=>?_;try clear h;refine aa fh λf0 κ=>?_;try clear fh;refine aa f0 λΑ Δ=>?_;try clear f0
 refine⟨λa γ=>kL.mp Α a (Fb γ),λC k Η=>?_,λC k f Η=>?_,λC f Η=>?_⟩
 ·refine ψ (Ni Η) λbc xb t1=>?_;have:=kL.mp Δ _ xb;simp only[e6] at this;have t:=kL.mp this.2 _ t1;simp only[e6,d5] at t;exact ft (Nl this.1) (gX t.1) t.2
 ·have:=kL.mp κ _ (Nj Η);simp only[e6,d5] at this;refine aa this λkf fV=>?_;try clear this;refine aa kf λnD y7=>?_;try clear kf;refine aa nD λlQ gO=>?_;try clear nD;refine aa lQ λdA jb=>?_;try clear lQ
  exact HG (Nl dA) (gX jb) gO y7 fV
 ·have:=kL.mp ay _ (Nk Η);simp only[e6,d5] at this;refine aa this λjG y7=>?_;try clear this;refine aa jG λlR gO=>?_;try clear jG;refine aa lR λdA jb=>?_;try clear lR
  exact p7 dA jb gO y7
section
open PySem.Builtin
noncomputable abbrev ps(a b c d:Y):bo:={line:=a,col:=b,endLine:=c,endCol:=d}
noncomputable abbrev Nm:I ed:=[
 .Expr (.Call (.Attribute (.Name (s "Exception") (ps 8 8 8 17)) (s "__init__") (ps 8 8 8 26)) [.Name (s "self") (ps 8 27 8 31),.Name (s "what") (ps 8 33 8 37)] [] (ps 8 8 8 38)) (ps 8 8 8 38),
 .Assign [.Attribute (.Name (s "self") (ps 9 8 9 12)) (s "what") (ps 9 8 9 17)] (.Name (s "what") (ps 9 20 9 24)) (ps 9 8 9 24),
 .Assign [.Attribute (.Name (s "self") (ps 10 8 10 12)) (s "at") (ps 10 8 10 15)] (.Name (s "at") (ps 10 18 10 20)) (ps 10 8 10 20)]
theorem abr:aD 2 (some 0)=Nm:=by kernel_rfl
theorem ako:(fT 2 (some 0)).names=[(s "self",.local),(s "what",.local),(s "at",.local),(s "Exception",.globalImplicit)]:=by kernel_rfl
theorem n4:(fT 2 (some 0)).names.lookup (s "self")=some .local/\(fT 2 (some 0)).names.lookup (s "what")=some .local/\(fT 2 (some 0)).names.lookup (s "at")=some .local/\(fT 2 (some 0)).names.lookup (s "Exception")=some .globalImplicit:=⟨by kernel_rfl,by kernel_rfl,by kernel_rfl,by kernel_rfl⟩
theorem abt(P:dF):sA P (s "Exception")=none:=by kernel_rfl
theorem abu:BE (s "Exception")=some (.type "Exception"):=by kernel_rfl
theorem abv:s "Exception"≠"__name__":=by
 intro h;have:(s "Exception"==("__name__":φ))=true:=by rw[h];exact ah8 _
 rw[show(s "Exception"==("__name__":φ))=false by kernel_rfl] at this;contradiction
theorem abw(K:vq):findCls K (.type "Exception") (.type "type") (s "__init__")=some (.val (.builtin "Exception.__init__")):=by kernel_rfl
section
variable{p:bP}{A:gh}{E:Λ->ah->Prop}{s₁:ah}{e:ε}{jB:cU}{vs:h6 Λ}{v:Λ}{name:φ}{R:j9->ah->Prop}
theorem abx{P:dF}{pl:dP aQ}{Q:Λ×I Λ->ah->Prop}(X:(KF P).In s₁.heap)(h:∀tk,Q (.builtin "Exception.__init__",[]) {s₁ with toks:=tk}):aB p.M A (vx (.type "Exception") (s "__init__") pl) Q E s₁:=by
 have wJ:Looks p.M s₁.heap (typeOf (.type "Exception")) (.type "type"):=aic (by kernel_rfl);have aO:h7 (KF P) (.type "type") "__getattribute__"=some (some (.builtin "type.__getattribute__")):=type_tga;unfold vx specialOf;refine aI (aI (wJ.here ((QI X aO).here ?_)));dsimp only;rw[cz canon_tga];refine aI (bR (Q:=λv=>Q (v,[])) (E:=E) ?_ (λH H z=>cy z) λH H z=>z);refine cls_open X (aic (by kernel_rfl)) wJ aO (looks_hook X (r:=none) (by kernel_rfl)) (by show subIn (KF P) _ _=_;rfl) (abw _) ?_;exact(cy (by show aB _ _ (handedOut (.builtin "Exception.__init__")) _ _ _;rw[handedOut_of (by rfl)];exact cy (h _)))
theorem Ah(P:dF):(KF P).lookup 46=some (excClassObj (s "PaperError") (s "PaperError") 46 45 [.type "Exception"] [.type "Exception",.type "BaseException",.type "object"] true [] [.ref 59] false none none (some (.ref 22)) none (some (.str (s "PaperError") 196)) (some (.str (s "PaperError") 204)) (some (.bool true)) "Exception.__new__"):=by kernel_rfl
theorem aby{P:dF}{od:ξ ε}{t0:ε}{Q:Λ->ah->Prop}(X:(KF P).In s₁.heap)(aH:s₁.heap.get? e=some (jU od vs))(h0:vs[0]?=some (.ref t0))(h:∀h' fA,h'.get? e=some (jU od fA)->(∃dA,fA[0]?=some (.ref dA))->fA[1]?=vs[1]?→(∀b o,b≠e->s₁.heap.get? b=some o->h'.get? b=some o)->Q .none {s₁ with heap:=h'}):aB p.M A (call (.builtin "Exception.__init__") [.ref e,v]) Q E s₁:=by
 obtain⟨bJ,g,d,t,os⟩:=s₁;refine BF (aib Hh.init.plain Hh.initEntry (wpAny_check_init_sub Hh (X 46 _ (Ah P)) aH rfl ?_));unfold G8.«BaseException.__init__»;dsimp only;rw[bL (by simp)];unfold newTuple alk;have hsz:0<vs.size:=(BQ.mp h0).1;have uD:=hg (h:=bJ) {cls:=.type "tuple",data:=.seq [v].toArray} aH;refine aI (ahQ (aI (aI (pY uD rfl h0 (aI (Q6 uD rfl hsz ?_))))) (by show[v].toArray.size<=Qr;rw[i3,hC];simp));refine wpAny_letGo (cy ?_);refine h _ (vs.setIfInBounds 0 (.ref bJ.objs.size)) (tc _ uD rfl) ⟨bJ.objs.size,by simp[hsz]⟩ (by simp) λb o Κ aT=>?_;exact(yc _ _ (oG Κ)).trans (hg _ aT)
theorem abz(P:dF):h7 (KF P) (.ref 46) (s "what")=some none:=by kernel_rfl
theorem abA(P:dF):h7 (KF P) (.ref 46) (s "at")=some none:=by kernel_rfl
structure xc(p:bP)(P:dF)(ia:bK)(L e:ε)(m:φ->ξ Λ)(h:bK):Prop where
 ns:h.Ns L m
 X:(KF P).In h
 B:p.B.StaysIn h
 keep:∀b o,b≠e->ia.get? b=some o->h.get? b=some o
theorem xc.step{P:dF}{ia h h':bK}{L:ε}{m:φ->ξ Λ}(aG:xc p P ia L e m h)(aH:∀o,p.B.get? e≠some o)(aC:p.K=KF P)(ζ:p.Ok)(bB:L≠e)(k:∀b o,b≠e->h.get? b=some o->h'.get? b=some o):xc p P ia L e m h':=by
 have xd:p.B.StaysIn h':=λb o Κ=>k b o (λq=>aH o (q▸Κ)) (aG.B b o Κ);refine⟨?_,λb o Κ=>xd b o (ζ.X b o (aC▸Κ)),xd,λb o Κ aT=>k b o Κ (aG.keep b o Κ aT)⟩;refine rE aG.ns λo es dR bd r=>?_;exact tv o es dR (k L o bB bd) r
theorem Ai{env:bx}{x:φ}{ps:bo}{m:φ->ξ Λ}{u:Λ}{Q:Λ->ah->Prop}(Η:env.scope.kind= .function)(Τ:env.kindOf x=some .local)(Ζ:s₁.heap.Ns env.locals m)(Φ:m x=some u)(hd:(x==("__debug__":φ))=false)(q:Q u s₁):aB p.M A (eval (.Name x ps) env) Q E s₁:=
 wpAny_Name (ahB Η Τ Ζ Φ q) hd
theorem nd:(s "self"==("__debug__":φ))=false/\(s "what"==("__debug__":φ))=false/\(s "at"==("__debug__":φ))=false/\(s "Exception"==("__debug__":φ))=false:=⟨by kernel_rfl,by kernel_rfl,by kernel_rfl,by kernel_rfl⟩
theorem Nn{env:bx}{x y name:φ}{m6 kx cw pos:bo}{m:φ->ξ Λ}{u:Λ}{Q:tp->ah->Prop}(Η:env.scope.kind= .function)(Ν:env.kindOf x=some .local)(aX:env.kindOf y=some .local)(Ζ:s₁.heap.Ns env.locals m)(iI:m x=some (.ref e))(r6:m y=some u)(abB:(x==("__debug__":φ))=false)(abC:(y==("__debug__":φ))=false)(h:aB p.M A (setAttr (.ref e) name u) (λH μ=>Q .next μ) E s₁):aB p.M A (exec (.Assign [.Attribute (.Name x m6) name cw] (.Name y kx) pos) env) Q E s₁:=by
 rw[zG (by rfl) (.inr rfl) (λes p e=>by contradiction) (λes p e=>by contradiction)];refine aI (mr (aI (Ai Η aX Ζ r6 abC ?_)));refine aI ?_;show aB p.M A (holding [u] (eval (.Name x m6) env)>>= λcs=>standAt cw.atName>>= λH=>holding [u,cs] (setAttr cs name u)>>= λH=>release [u,cs] []) _ _ _;refine aI (oB (Ai Η Ν Ζ iI abB ?_));refine aI (mr (aI (oB (bR h (λH μ q=>?_) λH H e=>e))));exact GZ (cy q)
theorem abD{P:dF}{env:bx}{m:φ->ξ Λ}{va:Λ}{t0:ε}{Q:tp->ah->Prop}(ζ:p.Ok)(aC:p.K=KF P)(Η:env.scope.kind= .function)(Ζ:env.scope.names=(fT 2 (some 0)).names)(aO:env.globals=lC)(Κ:env.builtins=rk)(xb:m (s "self")=some (.ref e))(t1:m (s "what")=some v)(Aj:m (s "at")=some va)(bB:env.locals≠e)(sB:∀o,p.B.get? e≠some o)(aG:xc p P s₁.heap env.locals e m s₁.heap)(aH:s₁.heap.get? e=some (jU none vs))(h0:vs[0]?=some (.ref t0))(h:∀a5 d fA,a5.heap.get? e=some (jU (some d) fA)->(∃dA,fA[0]?=some (.ref dA))->fA[1]?=vs[1]?→xc p P s₁.heap env.locals e m a5.heap->a5.gens=s₁.gens->a5.os=s₁.os->Q .next a5):
 aB p.M A (iv Nm env) Q E s₁:=by
 have k':∀x,env.kindOf x=(fT 2 (some 0)).names.lookup x:=λx=>by unfold ms;rw[Ζ]
 refine yl (ah0 ?_ (by unfold Hd;rw[Η];rfl) (Ee rfl _ _ _));rw[arm_eval_Call,EK rfl];refine aI (G5 Η ((k' _).trans n4.2.2.2) ?_ nd.2.2.2);refine QQ (by rw[aO];exact ζ.g.keeps aG.B) ((Af ζ aC _).trans (abt P)) (by rw[Κ];exact ζ.b.keeps aG.B) ((ζ.bi _ abv).trans abu) ?_;refine aI (mr ?_);rw[Ki _ _ _ _ rfl (by decide) (by rfl)];refine aI (oB (abx aG.X λtk=>?_));refine G2 (P:=p.K.In) (by rw[r3];rfl) (λh' X=>y6 (p:=p) "Exception.__init__" h' X) (r4 ?_);refine BL (Ai (s₁:={s₁ with toks:=tk}) Η ((k' _).trans n4.1) aG.ns xb nd.1 ?_);refine BL (Ai (s₁:={s₁ with toks:=tk}) Η ((k' _).trans n4.2.1) aG.ns t1 nd.2.1 (G1 ⟨by rw[aC];exact aG.X,?_⟩));refine aby (s₁:={s₁ with toks:=tk}) aG.X aH h0 λbG abE uD xe abF qI=>?_;have xf:=aG.step sB aC ζ bB qI;refine yl (Nn (s₁:={s₁ with heap:=bG,toks:=tk}) Η ((k' _).trans n4.1) ((k' _).trans n4.2.1) xf.ns xb t1 nd.1 nd.2.1 ?_);refine a8 xe λdA xe=>?_;refine abi (s:={s₁ with heap:=bG,toks:=tk}) xf.X uD (abz P) λc9 d No hd Np abG abH=>?_;have xg:=xf.step sB aC ζ bB abH;refine yl (Nn (s₁:={s₁ with heap:=c9,toks:=No}) Η ((k' _).trans n4.1) ((k' _).trans n4.2.2.1) xg.ns xb Aj nd.1 nd.2.2.1 ?_);refine abk (s:={s₁ with heap:=c9,toks:=No}) (ns:=[s "what"]) xg.X Np abG (λy aX=>?_) (by decide) (abA P) λg3 abI akp Ak=>?_
 ·by_cases q:y=s "what"
  ·rw[q];exact .head _
  ·dsimp only at aX;rw[bL q] at aX;exact absurd rfl aX
 have Nq:e≠d:=λq=>by rw[<-q,uD] at hd;contradiction
 have abJ:s₁.heap.get? d=none:=by
  rcases q:s₁.heap.get? d with _|o
  ·rfl
  ·rw[qI d o (oG Nq) q] at hd;contradiction
 refine cy (h {s₁ with heap:=g3,toks:=abI} d abE ((Ak.2 e Nq).trans Np) ⟨dA,xe⟩ abF ?_ rfl rfl);have wW:d≠env.locals:=λq=>by
  refine rE xf.ns λo es dR bd H=>?_;rw[<-q,hd] at bd;contradiction
 have xd:p.B.StaysIn g3:=λb o Κ=>(Ak.2 b (λq=>(λo q=>by rw[xf.B d o q] at hd;contradiction:∀o,p.B.get? d≠some o) o (q▸Κ))).trans (xg.B b o Κ);refine⟨?_,λb o qj=>xd b o (ζ.X b o (aC▸qj)),xd,λb o qj aT=>(Ak.2 b (λq=>by rw[q,abJ] at aT;contradiction)).trans (xg.keep b o qj aT)⟩;refine rE xg.ns λo es dR bd r=>?_;exact tv o es dR ((Ak.2 _ (oG wW)).trans bd) r
theorem abK{P:dF}{env:bx}{x:dP Λ}{Q:tp->ah->Prop}(bJ:A.handled=none)(h:aB p.M A x (λv a5=>∃e od vs,v= .ref e/\(KF P).In a5.heap/\a5.heap.get? e=some (jU od vs)/\vs[1]?=some .none/\E (.ref e) a5) E s₁):aB p.M A (raiseStmt env (some x) none) Q E s₁:=by
 unfold raiseStmt;refine aI (bR h (λv a5 bG=>?_) λH H x=>x);apply vS bG;intro e od vs X aH Α aL;have iK:=X 46 _ (Ah P);obtain⟨ζ,g,d,tk,os⟩:=a5
 repeat (first|with_reducible refine aid aH ?_|with_reducible refine aid iK ?_|(with_reducible refine wpAny_isSubtype_exc iK ?_;rw[(by decide:(th 46::[BX "Exception",.type "BaseException",.type "object"]).contains (.type "BaseException")=true)])|with_reducible refine pY aH rfl Α ?_|wp_step)
 exact wpAny_raiseNew_none bJ aL
end
section
variable{p:bP}{A:gh}{E:Λ->ah->Prop}{s₁:ah}{e:ε}{jB:cU}{vs:h6 Λ}{v:Λ}{name:φ}{R:j9->ah->Prop}
noncomputable abbrev Nr:yh:=oH (s "__init__") (s "PaperError.__init__") (sw 2 (some 0)) (aD 2 (some 0)) (fT 2 (some 0)) (.ref 29) .none .none (.str (s "paperhold.errors") 194) none (.ref 35) .none
theorem Nt(P:dF):(KF P).lookup 36=some {cls:=.type "function",data:=.func Nr}:=by kernel_rfl
theorem abL(P:dF):BW (KF P) (.ref 35) (s "PaperError.__init__")=true:=by kernel_rfl
theorem abM:(!(fT 2 (some 0)).isCoroutine&& !(fT 2 (some 0)).isGenerator&&(fT 2 (some 0)).kind==.function&&(fT 2 (some 0)).names.all (λx=>x.2 != .cell))=true:=by kernel_rfl
theorem abN{P:dF}{h:bK}(X:(KF P).In h):∃Fc,h.Ns 45 Fc/\Fc "__init__"=some (.ref 36):=by
 have κ:∃L n,(KF P).lookup 45=some (ll P L n)/\((L.map λe=>({hash:=ah9 P (s e.1),key:=.str (s e.1) e.2.1,val:=e.2.2}:DictEntry)).find? λe=>e.key.isStr "__init__").map (·.val)=some (.ref 36):=⟨_,_,rfl,by kernel_rfl⟩;refine gy κ λL n κ ay=>?_;refine as _ ⟨_,_,_,X 45 _ κ,rfl,λx Ν=>?_,λH=>rfl⟩ ?_
 ·simp only[List.mem_toArray,i5] at Ν;apply iB Ν;intro y _;exact R6 _ _ rfl
 ·unfold BD GW;rw[<-QC];exact ay
theorem abO{P:dF}{t0:ε}{Q:Λ->ah->Prop}(ζ:p.Ok)(aC:p.K=KF P)(Ei:A.depth<j6)(sB:∀o,p.B.get? e≠some o)(gR:p.B.StaysIn s₁.heap)(aH:s₁.heap.get? e=some (jU none vs))(h0:vs[0]?=some (.ref t0))(h:∀a5 d fA,a5.heap.get? e=some (jU (some d) fA)->(∃dA,fA[0]?=some (.ref dA))->fA[1]?=vs[1]?→p.B.StaysIn a5.heap->(∀b o,b≠e->s₁.heap.get? b=some o->a5.heap.get? b=some o)->a5.gens=s₁.gens->a5.os=s₁.os->Q .none a5):
 aB p.M A (call (.ref 36) [.ref e,v]) Q E s₁:=by
 have X:p.K.In s₁.heap:=λb o e=>gR b o (ζ.X b o e);have sy:=abM;simp only[e6,He,d5] at sy;refine aa sy λaW hL=>?_;try clear sy;refine aa aW λbM sC=>?_;try clear aW;refine aa bM λzm mO=>?_;try clear bM
 refine BF (codeAny_call_def (fd:=Nr) (body:=aD 2 (some 0)) (binds:=[(s "self",.ref e),(s "what",v),(s "at",.int (-1) 209)]) Ei (X 36 _ (by rw[aC];exact Nt P)) rfl (ζ.nolimit.keeps gR) (Rh X (by rw[aC];exact abL P)) rfl
  (E9 (p:=p) (items:=[.int (-1) 209]) rfl (by rw[aC];kernel_rfl) X (by kernel_rfl)) (λx Ν q=>?_) (λx Ν=>?_) (λia la keep=>?_) zm mO sC)
 ·have:=kL.mp hL x Ν;rw[q] at this;exact absurd this (by decide)
 ·simp only[eR,vB,or_false] at Ν;rcases Ν with rfl|rfl|rfl
  ·exact n4.1
  ·exact n4.2.1
  ·exact n4.2.2.1
 ·have Ζ:=ja s₁.heap;rw[abr];refine abD (s₁:={s₁ with heap:=ia,toks:=s₁.toks+3}) (P:=P) (e:=e) (vs:=vs) (v:=v) (va:=.int (-1) 209) ζ aC sC rfl rfl rfl (m:=λx=>([(s "self",.ref e),(s "what",v),(s "at",.int (-1) 209)]:I (φ×Λ)).reverse.lookup x) (by kernel_rfl) (by kernel_rfl) (by kernel_rfl) (λq=>by rw[q,aH] at Ζ;contradiction:s₁.heap.objs.size≠e) sB
   ⟨la,aC▸λb o aT=>keep b o (X b o aT),λb o aT=>keep b o (gR b o aT),λb o H aT=>aT⟩ (keep e _ aH) h0 λa5 d fA hq gP jf lZ qq t8=>?_
  exact h a5 d fA hq gP jf lZ.B (λb o Κ aT=>lZ.keep b o Κ (keep b o aT)) qq t8
theorem abP{P:dF}(ζ:p.Ok)(aC:p.K=KF P)(Ν:p.exc=46):su p:=by
 intro A Γ l env n F c ρ Er es x li L1 pos Q R d9 b0 r8 abQ s S mN Ψ;have hn:pW p.K (.ref 46)=true:=by
  have kz:=Ae P;simp only[e6] at kz;rw[aC];exact kz.1.2
 rw[arm_exec_Raise];refine aI (mr (abK (P:=P) d9.handled ?_));refine aI ?_;rw[EL (by rfl)];refine aI (r8 s _ _ S ?_);rw[mM b0,Ν];refine G2 (P:=p.K.In) (by rw[r3];rfl) (λh' X=>tZ hn h' X) (r4 (bR (abQ s S mN Ψ) (λvs s₁ bG=>?_) λH H e=>e));obtain⟨F₁,Μ,ν,abR,dS,er,ul,xs,ba,av⟩:=bG;have Φ:∃v,vs=[v]/\Er:=by
  rcases av with ⟨k,rfl,cK⟩|⟨rfl,cK⟩<;>(cases ba with|cons r ak=>rcases ak with ⟨⟩;exact as _ rfl cK)
 apply mz Φ;intro v cK;have Nu:=oZ ζ dS;have Fd:(KF P).In s₁.heap:=by rw[<-aC];exact Nu
 refine⟨Nu,?_⟩;refine ψ (abN Fd) λFc Ζ hi=>?_;have Nv:p.B.StaysIn s₁.heap:=λb o e=>nL dS b o e;obtain⟨bJ,g,d,tk,os⟩:=s₁;refine wpAny_call_exc_init (rest:=[v]) Hh (Fd 46 _ (Ah P)) Ζ hi (Fd 36 _ (Nt P)) rfl (λh' e hm=>?_) (by rw[hC];simp);refine ix hm.there λt0 aH akq akr=>?_;have sB:∀o,p.B.get? e≠some o:=λo q=>by have:=Nv e o q;rw[hm.new] at this;contradiction
 refine bR (abO (s₁:=⟨h',g,d,tk,os⟩) (P:=P) (t0:=t0) ζ aC (by show A.depth+1<_;have:=d9.depth;exact θ [_,_,j6] [] (.le (.a (.a (.v 0) (.c 1)) (.c 1)) (.v 2)) [(.le (.a (.a (.a (.v 0) (.m 4 (.v 1))) (.c 6)) (.c 1)) (.v 2))] [[1,1]] rfl this) sB (λb o q=>hm.keeps b o (Nv b o q)) aH rfl (Q:=λr a5=>r= .none/\∃d fA,a5.heap.get? e=some (jU (some d) fA)/\(∃dA,fA[0]?=some (.ref dA))/\fA[1]?=some .none/\p.B.StaysIn a5.heap/\(∀b o,b≠e->h'.get? b=some o->a5.heap.get? b=some o)/\a5.gens=g/\a5.os=os)
  λa5 d fA hq gP jf lZ qq t8 Fe=>⟨rfl,d,fA,hq,gP,jf,lZ,qq,t8,Fe⟩) (λr a5 Χ=>?_) λH H e=>e
 apply p8 Χ;intro dg;refine R4 dg λd fA hq eV jf lZ qq t8 Fe=>?_;try clear dg;refine a8 eV λdA gP=>?_;try clear eV
 refine⟨rfl,aI (mr (cy ⟨e,some d,fA,rfl,aC▸λb o q=>lZ b o (ζ.X b o q),hq,jf,?_⟩))⟩;have keep:∀b o,bJ.get? b=some o->a5.heap.get? b=some o:=λb o q=>qq b o (λz=>by rw[z,hm.new] at q;contradiction) (hm.keeps b o q);refine⟨cK,⟨e,.ref dA,rfl,lZ,?_,FunFrames.ext (λb o q=>⟨o,keep b o q,_root_.id⟩) er.frames,.inr ⟨_,fA,hq,by rw[Ν],rfl,gP,jf⟩⟩,⟨t8.trans ul.1,Fe.trans ul.2⟩,λb o q Θ bC H=>⟨o.slots,keep b o (abR.keep b o q Θ bC)⟩,λpl b0=>?_⟩
 ·rcases q:p.B.get? e with _|o
  ·rfl
  ·exact absurd q (sB o)
 ·exact(er.there pl b0).slots λo q H=>⟨o.slots,keep _ o q⟩
end
end
section
variable{p:bP}{n m L i j k count:Y}{c c':Ι}{Q:O->Ι->Prop}{Er:Prop}{a b low high:J}{v w:O}{d:ε}{t:I (J×O)}{l:I (Y×O)}{rs:I ai}
section
variable{A:gh}{l:I bx}{F ω:a2}{s μ:ah}{x:O}{v:Λ}{xs:I O}
theorem lL.same{tk:Y}(S:a0 p.prog p.w p.B F c s.heap)(Ψ:cu p s)(r:au p.prog p.w F x v)(q:Q x c):lL p l F c s (λω c' r=>∃x,au p.prog p.w ω x r/\Q x c') v {s with toks:=tk}:=
 ⟨F,c,.refl ..,S,Ψ,x,r,q⟩
theorem lL.grow{h':bK}{tk:Y}(S:a0 p.prog p.w p.B F c s.heap)(Ψ:cu p s)(k:∀b o,s.heap.get? b=some o->h'.get? b=some o)(r:au p.prog p.w F x v)(q:Q x c):lL p l F c s (λω c' r=>∃x,au p.prog p.w ω x r/\Q x c') v {s with heap:=h',toks:=tk}:=
 ⟨F,c,.grow k,S.grow k,Ψ,x,r,q⟩
theorem lL.fresh{h':bK}{tk:Y}{o:cU}{d:ε}(S:a0 p.prog p.w p.B F c s.heap)(Ψ:cu p s)(k:∀b o,s.heap.get? b=some o->h'.get? b=some o)(Ζ:s.heap.get? d=none)(hd:h'.get? d=some o)(r:∀ω,cr F ω->ω d=some o->au p.prog p.w ω x (.ref d))(q:Q x c):lL p l F c s (λω c' r=>∃x,au p.prog p.w ω x r/\Q x c') (.ref d) {s with heap:=h',toks:=tk}:=by
 refine aa (S.v2 (W:=λH=>aK) k Ζ hd) λcn iE=>?_;exact⟨_,c,iE,cn,Ψ,x,r _ iE.le (hQ ..),q⟩
theorem qJ{f:hh}(h:∀A l F vs s,lK A l n->bA p.prog p.w F xs vs->a0 p.prog p.w p.B F c s.heap->s.heap.FunFrames p.B l->cu p s->
 aB p.M A (call (.builtin f) vs) (lL p l F c s λω c' r=>∃x,au p.prog p.w ω x r/\Q x c') (cZ p [] l c s Er) s):aF p n (.val (.builtin f)) xs c Q Er:=by
 unfold aF;intro A l F ea vs R kh am s S P Ψ;rcases kh.val_inv with ⟨⟩
 exact h A l F vs s R am S P Ψ
theorem uE{f:hh}(h:∀A l F vs s,lK A l n->bA p.prog p.w F xs vs->a0 p.prog p.w p.B F c s.heap->s.heap.FunFrames p.B l->cu p s->
 aB p.M A (call (.type f) vs) (lL p l F c s λω c' r=>∃x,au p.prog p.w ω x r/\Q x c') (cZ p [] l c s Er) s):aF p n (.val (.type f)) xs c Q Er:=by
 unfold aF;intro A l F ea vs R kh am s S P Ψ;rcases kh.val_inv with ⟨⟩
 exact h A l F vs s R am S P Ψ
theorem qK(h:Q (.int a.natAbs) c):aF p n (.val (.builtin "abs")) [.int a] c Q Er:=qJ λA l F vs s R am S P Ψ=>by
 refine ψ am.one λv Φ r=>a8 r.int_inv λt δ=>?_;subst Φ δ;exact call_abs_int λu tk=>.same S Ψ (by rw[show(if a<0 then -a else a)=(a.natAbs:J) by split<;>omega];exact .int _ _) h
theorem Nw(h:Q (.int a) c):aF p n (.val (.type "int")) [.int a] c Q Er:=uE λA l F vs s R am S P Ψ=>by
 refine ψ am.one λv Φ r=>a8 r.int_inv λt δ=>?_;subst Φ δ;exact call_int_int (.same (tk:=s.toks) S Ψ (.int _ _) h)
theorem eK(Τ:xs.length<=100000)(h:Q (.int (xs.length:Y)) c):aF p n (.val (.builtin "len")) [.lst xs] c Q Er:=qJ λA l F vs s R am S P Ψ=>by
 refine ψ am.one λv Φ r=>gz r.lst_inv λfA dU cR δ hf de=>?_;subst Φ δ
 ·skip
  have e:=de.length;refine len_list (lP S hf) (by rw[i3];exact nr.2 (mn (gw e) (mn Τ (by decide)))) (.same S Ψ ?_ h);rw[i3,<-e];exact .int _ _
theorem Nx{bs:I h5}(Τ:bs.length<=100000)(h:Q (.int (bs.length:Y)) c):aF p n (.val (.builtin "len")) [.bytes bs] c Q Er:=qJ λA l F vs s R am S P Ψ=>by
 refine ψ am.one λv Φ r=>a8 r.yW λt δ=>?_;subst Φ δ;exact len_bytes (by simp only[i3];exact aR Τ rfl) (.same S Ψ (.int _ _) (by rw[i3];exact h))
theorem abS{t u:nt}:au p.prog p.w F (.int (min a b)) (if b<a then .int b u else .int a t):=by
 rw[Int.min_def];split
 ·rw[bL (ly.2 ‹_›)];exact .int _ _
 ·rw[cz (BB.1 ‹_›)];exact .int _ _
theorem abT{t u:nt}:au p.prog p.w F (.int (max a b)) (if b>a then .int b u else .int a t):=by
 rw[Int.max_def];split
 ·by_cases e:b>a
  ·rw[cz e];exact .int _ _
  ·rw[bL e];have:a=b:=np ‹_› (ly.mp e);subst this;exact .int _ _
 ·rw[bL (Sz ‹_›)];exact .int _ _
theorem Ny(h:Q (.int (min a b)) c):aF p n (.val (.builtin "min")) [.int a,.int b] c Q Er:=qJ λA l F vs s R am S P Ψ=>by
 refine fb am.two λu v Φ r kg=>a8 r.int_inv λt δ=>a8 kg.int_inv λχ Ff=>?_;subst Φ δ Ff;exact min_two_ints R.handled λh' tk k=>.grow S Ψ k abS h
theorem Nz(h:Q (.int (max a b)) c):aF p n (.val (.builtin "max")) [.int a,.int b] c Q Er:=qJ λA l F vs s R am S P Ψ=>by
 refine fb am.two λu v Φ r kg=>a8 r.int_inv λt δ=>a8 kg.int_inv λχ Ff=>?_;subst Φ δ Ff;exact max_two_ints R.handled λh' tk k=>.grow S Ψ k abT h
end
section
variable{A:gh}{l:I bx}{F ω:a2}{s μ:ah}{x:O}{v:Λ}{xs:I O}
noncomputable def pt(ns:I J):I O:=ns.map O.int
theorem Fg{ns:I J}:∀{vs:I Λ},bA p.prog p.w F (pt ns) vs->x0 vs ns:=by
 induction ns with
 |nil=>intro vs h;rcases h with ⟨⟩;exact .nil
 |cons n ns Ξ=>intro vs h;cases h with|cons r rs=>exact r.int_inv.elim λt e=>e▸.cons _ _ (Ξ rs)
theorem abU{ns:I J}{vs:I Λ}(h:x0 vs ns):bA p.prog p.w F (pt ns) vs:=by
 induction h with
 |nil=>exact .nil
 |cons n t r Ξ=>exact .cons (.int _ _) Ξ
theorem abV{ns:I J}{vs:I Λ}(h:x0 vs ns):∃zs:I (J×nt),vs=zs.map (λz=>.int z.1 z.2)/\zs.map (·.1)=ns:=by
 induction h with
 |nil=>exact⟨[],rfl,rfl⟩
 |cons n t r Ξ=>exact ψ Ξ λzs bd bk=>⟨(n,t)::zs,by rw[bd];rfl,by rw[<-bk];rfl⟩
theorem abW{ns:I J}(bF:ns≠[])(h:∀m,m∈ns->(∀a∈ns,a<=m)->Q (.int m) c):aF p n (.val (.builtin "max")) [.lst (pt ns)] c Q Er:=qJ λA l F vs s R am S P Ψ=>by
 refine ψ am.one λv Φ r=>gz r.lst_inv λfA dU cR δ hf de=>?_;subst Φ δ
 ·skip
  refine ψ (abV (Fg de)) λzs aV bk=>?_;rcases aV with rfl
  have Τ:=lP S hf;rw[show(zs.map λz=>Value.int z.1 z.2).toArray=intItems zs.toArray by simp[intItems]] at Τ;have Ρ:0<zs.length:=by
   rcases zs with _|⟨_,_⟩
   ·exact absurd bk.symm bF
   ·exact aie _
  refine max_intList R.handled Τ (by simpa using Ρ) λv h' tk Φ Η=>?_;apply dG (intItems_at Φ);intro t;refine aa (argBest_gt (numAt zs.toArray) (zs.toArray.size - 1)) λΑ Δ=>?_;have du:zs.toArray.toList.map (·.1)=ns:=by simpa using bk
  refine .grow S Ψ Η (.int _ _) (h _ ?_ λa γ=>?_)
  ·rw[<-du,numAt_eq];exact getD_mem (by rw[bV,aif];exact mn Α (Qh ((by simp:zs.toArray.size=zs.length)▸Ρ) ag4))
  ·rw[<-du] at γ;apply iB (mem_getD γ);intro j cQ;rw[bV,aif] at cQ;rw[<-numAt_eq];exact Δ j (Nat.le_sub_one_of_lt cQ)
theorem abX{ns:I J}(jV:ns.length<64)(h:∀hl:I J,hl.Perm ns->hl.Pairwise (·<=·)->Q (.lst (pt hl)) c):aF p n (.val (.builtin "sorted")) [.lst (pt ns)] c Q Er:=qJ λA l F vs s R am S P Ψ=>by
 refine ψ am.one λv Φ r=>gz r.lst_inv λvs dU cR δ hf de=>?_;subst Φ δ
 ·skip
  have hi:=Fg de;refine sorted_ints (lP S hf) hi (by rw[hi.length];exact jV) λbH hl hq gP jf=>?_;refine a8 (sortedAll_at s.heap vs bH) λe aH=>?_;have Ζ:s.heap.get? (s.heap.objs.size+1)=none:=by
   rcases q:s.heap.get? (s.heap.objs.size+1) with _|o
   ·rfl
   ·exact absurd (jv q) (BP.mpr (BY _))
  refine .fresh (tk:=s.toks) S Ψ (λH H=>sortedAll_old) Ζ aH (λω H ql=>?_) (h hl gP jf);refine .lst (vs:=bH.toList) (n:=e) ?_ (abU hq);rw[ql]
theorem abY(P:dF):([.type "NoneType",.type "int",.type "list",.type "dict",.ref 209,.ref 308,.ref 336]:I Λ).all (λt=>([.ref 209,.ref 265,.ref 287,.ref 308,.ref 336,.type "bool",.type "int",.type "list",.type "dict"]:I Λ).all λc=>kitOne (KF P) t c==some (t==c))=true:=by kernel_rfl
theorem abZ(P:dF):([209,308,336]:I ε).all (λD=>plainGet (KF P) D "__class__"&&GU (KF P) D&&h7 (KF P) (.ref D) "__class__"==some (some (.builtin "object.__class__"))&&specialIn (KF P) (.builtin "object.__class__") "__get__"==some (some (.builtin "getset_descriptor.__get__"))&&takesIn (KF P) (.builtin "object.__class__")==some true&&mroIn (KF P) D (.type "object")==some true)=true:=by kernel_rfl
noncomputable def Al:O->ξ Λ
 | .none=>some (.type "NoneType")
 | .int _=>some (.type "int")
 | .lst _=>some (.type "list")
 | .Ω _=>some (.type "dict")
 | .obj C _=>match bE C 209||bE C 308||bE C 336 with
  |true=>some (.ref C)
  |false=>none
 |_=>none
theorem ab0{P:dF}{D x:ε}{km od:cU}(h:(bE D 209||bE D 308||bE D 336)=true):KitX (KF P) (.ref x) (.ref D) (λh=>InstAt h x km D (some od)):=by
 have hm:D∈([209,308,336]:I ε):=by
  simp only[G7,aih] at h;rcases h with (rfl|rfl)|rfl<;>simp
 have:=kL.mp (abZ P) D hm;simp only[e6,d5] at this;refine aa this λcN d'=>?_;try clear this;refine aa cN λdk cc=>?_;try clear cN;refine aa dk λdg ay=>?_;try clear dk;refine aa dg λeV κ=>?_;try clear dg;refine aa eV λΑ Δ=>?_;try clear eV
 exact kitx_own Α Δ κ ay cc d'
noncomputable def NA:I Λ:=[.ref 209,.ref 265,.ref 287,.ref 308,.ref 336,.type "bool",.type "int",.type "list",.type "dict"]
noncomputable def sD:I Λ:=[.type "NoneType",.type "int",.type "list",.type "dict",.ref 209,.ref 308,.ref 336]
theorem NB{P:O->Λ->Prop}(ch:P .none (.type "NoneType"))(c5:∀i,P (.int i) (.type "int"))(fy:∀l,P (.lst l) (.type "list"))(kU:∀l,P (.Ω l) (.type "dict"))(rT:∀C l,(bE C 209||bE C 308||bE C 336)=true->P (.obj C l) (.ref C)){x:O}{t:Λ}(h:Al x=some t):P x t:=by
 cases x with
 |none=>exact bQ h▸ch
 |int i=>exact bQ h▸c5 i
 |lst l=>exact bQ h▸fy l
 |Ω l=>exact bQ h▸kU l
 |obj C l=>
  have h:(match (bE C 209||bE C 308||bE C 336) with|true=>some (th C)|false=>none)=some t:=h;cases iK:(bE C 209||bE C 308||bE C 336) with
  |true=>rw[iK] at h;exact bQ h▸rT C l iK
  |false=>rw[iK] at h;exact d6 h
 |_=>exact d6 h
theorem ab1{t:Λ}(h:Al x=some t):t∈sD:=
 NB (P:=λH t=>t∈sD) (by simp[sD]) (λH=>by simp[sD]) (λH=>by simp[sD]) (λH=>by simp[sD]) (λC H iK=>by
  simp only[G7,aih] at iK;rcases iK with (rfl|rfl)|rfl<;>simp[sD]) h
theorem ab2(G:ar p){t pu:Λ}{r:aQ}(δ:Al x=some t)(Θ:pu∈NA)(Χ:(t==pu)=r)(h:Q (.bool r) c):aF p n (.val (.builtin "isinstance")) [x,.val pu] c Q Er:=qJ λA l F vs s R am S fr Ψ=>by
 refine a8 G.K λP uA=>?_;have ku:=oZ G.Ψ.ζ S;rw[uA] at ku;have e:kitOne (KF P) t pu=some r:=by
  have:=kL.mp (kL.mp (abY P) t (ab1 δ)) pu Θ;rw[<-Χ];exact d5.mp this
 refine fb am.two λu v Φ ba xh=>?_;have Θ:=xh.val_inv;subst Φ Θ;have cq:∀tk,lL p l F c s (λω c' r=>∃x,au p.prog p.w ω x r/\Q x c') (.bool r) {s with toks:=tk}:=λtk=>.same S Ψ (.bool _) h;revert ba e;clear Χ am;refine NB (P:=λx t=>au p.prog p.w F x u->kitOne (KF P) t v=some r->oR p.M A (.builtin "isinstance") [u,v] (lL p l F c s λω c' r=>∃x,au p.prog p.w ω x r/\Q x c') (cZ p [] l c s Er) s) (λba e=>?_) (λi ba e=>?_) (λi ba e=>?_) (λi ba e=>?_) (λC i iK ba e=>?_) δ
 ·exact ba.none_inv▸BZ kitx_none ku trivial e (λq=>nomatch q) cq
 ·exact ba.int_inv.elim λt δ=>δ▸BZ kitx_int ku trivial e (λq=>nomatch q) cq
 ·exact gz ba.lst_inv λvs a n δ hf de=>δ▸BZ kitx_list ku ⟨_,S.frozen _ _ hf,rfl⟩ e (λq=>nomatch q) cq
 ·exact lI ba.tS λa o kvs δ hf hd cX Ρ=>δ▸BZ kitx_dict ku ⟨_,S.frozen _ _ hf,gy hd λH H q H=>q.1⟩ e (λq=>nomatch q) cq
 ·exact rG ba.Di λa d o kvs δ hf hd γ cX=>δ▸BZ (ab0 iK) ku ⟨S.frozen _ _ hf,rfl,rfl,S.frozen _ _ hd⟩ e (λq=>nomatch q) cq
end
section
variable{A:gh}{l:I bx}{F ω:a2}{s μ:ah}{x:O}{v:Λ}{xs:I O}
theorem NC{ns:I J}{bs:I h5}(Χ:∀k∈ns,0<=k/\k<256)(Ρ:ns.length<=10000)(Κ:ns.map (λn=>n.toNat.toUInt8)=bs)(h:Q (.bytes bs) c):aF p n (.val (.type "bytes")) [.lst (pt ns)] c Q Er:=uE λA l F vs s R am S P Ψ=>by
 subst Κ;refine ψ am.one λv Φ r=>gz r.lst_inv λfA dU cR δ hf de=>?_;subst Φ δ
 ·skip
  have hi:=Fg de;exact call_bytes_ints (lP S hf) hi Χ (by rw[hi.length,hC];exact aR Ρ rfl) R.handled λh' t k Η=>.grow S Ψ Η (.bytes _ _) h
theorem xi(Ρ:xs.length<=10000)(h:Q (.lst xs) c):aF p n (.val (.type "list")) [.lst xs] c Q Er:=uE λA l F vs s R am S P Ψ=>by
 refine ψ am.one λv Φ r=>gz r.lst_inv λvs dU cR δ hf de=>?_;subst Φ δ
 ·skip
  refine call_list_seq (hsz:=by rw[i3,de.length,hC];exact aR Ρ rfl) _ (.inl rfl) (S.frozen _ _ hf) rfl rfl λh' c' Η hd=>?_;exact .fresh (tk:=s.toks) S Ψ Η (ja _) hd (λω le ql=>.lst (vs:=vs) (n:=c') ql (de.mono le)) h
theorem ab3{qL:I (Y×O)}(ζ:p.Ok)(Ρ:qL.length<=10000)(h:∀d,c d=none->Q (.loc d) (upd c d (some (.Ω qL)))):aF p n (.val (.type "dict")) [.Ω qL] c Q Er:=uE λA l F vs s R am S P Ψ=>by
 refine ψ am.one λv Φ r=>lI r.tS λdU Wf kvs δ hf hd cX gc=>?_;subst Φ δ
 ·skip
  refine kt_call_dict gc (vu.mpr ⟨_,S.frozen _ _ hf,hd⟩) (by rw[cX.length,hC];exact aR Ρ rfl) λh' hm σ=>?_;refine ψ (vu.mp hm) λaU fZ fu=>?_;have Ζ:=ja s.heap;exact⟨F,_,((S.yN (W:=λH=>aK) (x:=.Ω qL) (λb o e=>(σ.extBut b o (λq=>by subst q;rw[Ζ] at e;contradiction) (hg _ e))) (rV ζ S) Ζ fZ (.Ω fu cX))).2,((S.yN (W:=λH=>aK) (x:=.Ω qL) (λb o e=>(σ.extBut b o (λq=>by subst q;rw[Ζ] at e;contradiction) (hg _ e))) (rV ζ S) Ζ fZ (.Ω fu cX))).1,Ψ,_,.loc _,h _ (S.none_of Ζ).2⟩
end
section
variable{prog:he}{w:e4}{A:gh}{E:Λ->ah->Prop}{s:ah}{b:h6 h5}{t:nt}
theorem ab4{Q:aQ->ah->Prop}(h:Q false s):aB (kM prog w) A (aii (.bytes b t)) Q E s:=by
 unfold aii;refine aI (Q3 (rt s b t) FB.slot_bytes_len.lookup ?_);generalize ND:("bytes.__len__":hh)=ab5
 wp_delta
 rw[show splitId ab5=some ("bytes","__len__") from by subst ND;decide+kernel];subst ND;refine aI (wpAny_isInstance (T:="bytes") (b:=true) (rt s b t) (by rw[ahP];kernel_rfl) ?_);refine Ry (λg1=>absurd g1 (by decide)) (λH=>?_);refine Ry (λH=>?_) (λg1=>absurd (by decide+kernel) g1);refine aI (Rz (rt s b t) (cy h))
theorem ab6{R:j9->ah->Prop}(bJ:A.handled=none)(a':b.size<=10000)(S:ε)(Am:Λ)(wA:Y)(iM:s.heap.get? S=some {cls:=.type "list",data:=.seq #[] wA})(gE:∀h' tk di c',(∀b o,b≠S->s.heap.get? b=some o->h'.get? b=some o)->h'.get? S=some {cls:=.type "list",dict:=none,data:=.seq di c',slots:=#[]}->
 RA (λi v=>∃c u,b[i]?=some c/\v= .int (c.toNat:J) u) di b.size->R (.ok (.ret Am)) {s with heap:=h',toks:=tk}):
 aB (kM prog w) A.in1 (Hi (.ref S) (.bytes b t) Am)
  (λcq μ=>match cq with| .done f=>R (.ok f) μ| .again c'=>c'.quiet=true/\ip (kM prog w) A c' R μ) (λe μ=>R (.error e) μ) s:=by
 have key:∀(h:bK) (Μ tk:Y),KBw.IsBytesIter h s.heap.objs.size b t 0->(∀b o,b≠S->s.heap.get? b=some o->h.get? b=some o)->
  h.get? S=some {cls:=.type "list",data:=.seq #[] Μ}->ip (kM prog w) A (.builtin "list.extend.loop" ⟨[.ref S,.ref s.heap.objs.size,Am],[]⟩) R {s with heap:=h,toks:=tk}:=by
  intro h Μ tk k8 Η ab7;refine codeAny_extend_loopS ((KBw.walks (prog:=prog) (w:=w) (A:=A.in1) bJ s.heap.objs.size b t).toS) (by rw[hC];exact aR a' rfl) S (λhm=>(vy (jv iM)) (Qa.mp hm)) Am b.size 0 _ #[] Μ rfl (mv _) k8 ab7 (ItemsOf.nil _) λμ di c' hm Fh xj=>?_;rw[Moved.eq_with hm];refine gE μ.heap μ.toks di c' (λb o Κ e=>hm.heap b o (λFi=>?_) (Η b o Κ e)) Fh xj;rcases eR.mp Fi with aT|Fi
  ·exact Κ aT
  ·exact absurd (jv e) (by rw[Qa.mp Fi];exact GN _)
 unfold Hi;refine aI (Rz (rt s b t) ?_);simp only[(rfl:alm (.ref S) (.bytes b t)=false),(by decide:(BX "bytes"==BX "list")=false),(by decide:(BX "bytes"==BX "tuple")=false),Bool.or_false,vt,ta];refine aI (KBw.pyIter_bytes ?_);refine aI (oB (ab4 ?_));refine Ry (λg1=>absurd g1 (by decide)) (λH=>cy ⟨Q1 F.plain_extend_loop _,key _ wA _ ⟨_,kO _ rfl,rfl,rfl⟩ (λb o H e=>hg _ e) (hg _ iM)⟩)
theorem ab8{Q:Λ->ah->Prop}(bJ:A.handled=none)(a':b.size<=10000)(eH:∀h' tk di c',(∀b o,s.heap.get? b=some o->h'.get? b=some o)->h'.get? s.heap.objs.size=some {cls:=.type "list",dict:=none,data:=.seq di c',slots:=#[]}->
 RA (λi v=>∃c u,b[i]?=some c/\v= .int (c.toNat:J) u) di b.size->Q (.ref s.heap.objs.size) {s with heap:=h',toks:=tk}):
 aB (kM prog w) A (call (.type "list") [.bytes b t]) Q E s:=by
 refine aij (Q₁:=λobj s₁=>obj= .ref s.heap.objs.size/\s₁={s with heap:=s.heap.push {cls:=.type "list",data:=.seq #[]}}) F.called_list (F.typeCall_list_1 _) F.entry_list_init
  (code_list_new _ ⟨rfl,rfl⟩) λobj s₁ bG=>?_
 apply p8 bG;intro aW;rcases aW with rfl
 have iM:(s.heap.push {cls:=.type "list",data:=.seq #[]}).get? s.heap.objs.size=some {cls:=.type "list",data:=.seq #[]}:=kO _ rfl;refine ft ⟨_,iM,rfl⟩ (F.args_list_init_2 _ _) ?_;show aB _ A.in1.in1 (do let old <-aik (.ref s.heap.objs.size);aln (.ref s.heap.objs.size) (λH=>#[]);letGo old.toList.reverse;Hi (.ref s.heap.objs.size) (.bytes b t) .none) _ _ _;refine aI ?_;unfold aik;refine aI (wpAny_seqItems iM rfl (cy ?_));show aB _ _ (updateSeq s.heap.objs.size (λH=>#[])>>= λH=>letGo (#[]:h6 Λ).toList.reverse>>= λH=>Hi (.ref s.heap.objs.size) (.bytes b t) .none) _ _ _;refine aI (wpAny_updateSeq iM rfl ?_);refine aI (wpAny_letGo ?_);refine ab6 (A:=A.in1) bJ a' _ .none _ (tc (pX (λH=>(#[]:h6 Λ))) iM rfl) λh' tk di c' Η Fh xj=>?_;exact⟨rfl,eH h' tk di c' (λb o e=>Η b o (vy (jv e)) ((yc _ _ (oG (vy (jv e)))).trans (hg _ e))) Fh xj⟩
theorem ab9:typeLookup (.type "bytes") "__bytes__"=pure (some (.builtin "bytes.__bytes__")):=by rw[typeLookup_type,builtinLookup_eq_fast];kernel_rfl
theorem aca{Q:Λ->ah->Prop}(h:∀tk,Q (.bytes b t) {s with toks:=tk}):ip (kM prog w) A (.call (.builtin "bytes.__new__") ⟨[.type "bytes",.bytes b t],[]⟩) (wants Q E) s:=by
 refine QZ ?_;show aB _ A.in1 (do ahR "bytes.__new__" ⟨[.type "bytes",.bytes b t],[]⟩;again (.builtin "bytes.__new__" ⟨[.type "bytes",.bytes b t],[]⟩)) _ _ s;refine aI (jx (F.bm_newCall _) (cy ⟨Q1 F.bm_plain _,ahT F.bm_entry ?_⟩));rw[ahU F.bm_plain _];unfold G8.«bytes.__new__»;refine aI (jx (a:=true) rfl ?_);refine RB rfl ?_;refine aI (jx F.bm_sub ?_);refine RB rfl ?_;refine aI (jx (F.bm_bind _) ?_);refine aI (jx (a:=()) rfl ?_);refine aI (jx (a:=()) rfl ?_);refine RB rfl ?_;refine aI (Q3 (rt s b t) ab9 ?_);refine aI (Q5 ?_);refine aI (Rz (rt s b t) ?_);refine bm_if_true (by decide) ?_
 first
  |exact cy (h s.toks)
  |(refine aI (jx (a:=()) rfl ?_);exact cy (h s.toks))
theorem acb{Q:Λ->ah->Prop}(h:∀tk,Q (.bytes b t) {s with toks:=tk}):aB (kM prog w) A (call (.type "bytes") [.bytes b t]) Q E s:=by
 refine aij (Q₁:=λobj s₁=>obj= .bytes b t/\∃tk,s₁={s with toks:=tk}) RC (F.bm_typeCall _) F.entry_object_init (aca λtk=>⟨rfl,tk,rfl⟩) λobj s₁ bG=>?_;apply p8 bG;intro cN;apply dG cN;intro tk;exact ft (rt _ _ _) (F.args_object_init_2 _ _) (object_init_meets RC.init.lookup RC.made (by decide) prog w A.in1 _ _ ⟨rt _ _ _,rfl,h tk⟩)
end
section
variable{F:a2}
theorem acd(bs:I h5){vs:I Λ}:∀(k:Y),vs.length+k=bs.length->(∀i,i<vs.length->∃c u,bs.toArray[k+i]?=some c/\vs[i]?=some (.int (c.toNat:J) u))->bA p.prog p.w F ((bs.drop k).map λc=>.int c.toNat) vs:=by
 induction vs with
 |nil=>
  exact λk h H=>by
   rw[ail (by simp at h;exact CO h)];exact .nil
 |cons v vs Ξ=>
  exact λk h hi=>by
   refine gy (hi 0 (aie _)) λc u Α Δ=>?_;have Η:k<bs.length:=by simp at h;exact θ [_,_,_] [] (.le (.a (.v 1) (.c 1)) (.v 2)) [(.eq (.a (.a (.v 0) (.c 1)) (.v 1)) (.v 2))] [[1,1]] rfl h
   rw[Hj Η];simp at Α Δ;refine a8 (j7.mp Α) λH Α=>?_;subst Δ;rw[Α];refine .cons (.int _ _) (Ξ (k+1) (by simp at h;exact θ [_,_,_] [] (.eq (.a (.v 0) (.a (.v 1) (.c 1))) (.v 2)) [(.eq (.a (.a (.v 0) (.c 1)) (.v 1)) (.v 2))] [[1,1],[1,0,1]] rfl h) λi xk=>?_);refine gy (hi (i+1) (ag8 xk)) λc' DS κ ay=>?_;exact nz c' DS (by rw[show k+1+i=k+(i+1) by exact aim _ _ _];exact κ) (by simpa using ay)
theorem ace{bs:I h5}{acc:h6 Λ}(h:RA (λi v=>∃c u,bs.toArray[i]?=some c/\v= .int (c.toNat:J) u) acc bs.toArray.size):bA p.prog p.w F (bs.map λc=>.int c.toNat) acc.toList:=by
 have:=acd (p:=p) (F:=F) bs (vs:=acc.toList) 0 (by have:=h.1;simpa using this) λi hi=>by
  refine gy (h.2 i acc.toList[i] (by simp at hi ⊢)) λc u Α Δ=>?_;exact nz c u (by rw[Hk];exact Α) (by rw[<-Δ];simp)
 simpa using this
theorem acf{bs:I h5}(Ρ:bs.length<=10000)(h:Q (.lst (bs.map λc=>.int c.toNat)) c):aF p n (.val (.type "list")) [.bytes bs] c Q Er:=uE λA l F vs s R am S P Ψ=>by
 refine ψ am.one λv Φ r=>a8 r.yW λt δ=>?_;subst Φ δ
 ·exact ab8 R.handled (by simpa using Ρ) λh' tk di c' Η hd hi=>.fresh S Ψ Η (ja _) hd (λω le ql=>.lst (vs:=di.toList) (n:=c') ql (ace hi)) h
theorem acg{bs:I h5}(h:Q (.bytes bs) c):aF p n (.val (.type "bytes")) [.bytes bs] c Q Er:=uE λA l F vs s R am S P Ψ=>by
 refine ψ am.one λv Φ r=>a8 r.yW λt δ=>?_;subst Φ δ
 ·exact acb λtk=>.same S Ψ (.bytes _ _) h
end
noncomputable def al(k:Y)(a:J):Prop:=a.natAbs<2^k
instance (k:Y) (a:J):B0 (al k a):=inferInstanceAs (B0 (_<_))
section
theorem al.mono(h:al i a)(l:i<=j):al j a:=vG h (ain (by decide) l)
theorem al.mul(h:al i a)(h':al j b):al (i+j) (a*b):=by
 unfold al at*;rw[ym,Nat.pow_add];exact Nat.mul_lt_mul'' h h'
theorem al.add(h:al i a)(h':al i b):al (i+1) (a+b):=by
 unfold al at*;have:=RD a b;rw[aio];exact θ [((2^_):Y)] [_,_] (.cA (.a (.v 1) (.v 0)) (.r (.v 0) 2)) [(.cA (.v 0) (.v 0)),(.cA (.v 1) (.v 0))] [[2,2,0,2],[2,0,2,0,2]] rfl h' h
theorem al.neg(h:al i a):al i (-a):=by unfold al at*;rwa [Int.natAbs_neg]
theorem al.sub(h:al i a)(h':al i b):al (i+1) (a - b):=by rw[aip];exact h.add h'.neg
theorem al.abs(h:al i a):al i (a.natAbs:J):=h
theorem al.le(h:al i a)(l:b.natAbs<=a.natAbs):al i b:=mn l h
theorem al.pow(h:al i a)(hi:1<=i):∀n,al (i*n+1) (a^n)
 |0=>by unfold al;simp
 |n+1=>by
  have:=(al.pow h hi n).mul h;rw[RE];exact this.mono (by rw[yn];exact(by simp+arith))
theorem al.of{n:Y}(h:a.natAbs<n)(l:n<=2^k):al k a:=vG h l
theorem al.bits(h:al i a):s9 a<=i:=by
 unfold s9;split
 ·exact mv _
 ·rename_i e;exact(aiq (by simpa using e)).mpr h
theorem bT(h:al i a)(h':al j b)(l:i+j<=100000000):vr a b:=by
 have:=h.bits;have:=h'.bits;intro e;have e:=air (e5.mp e).2;have e:(2^27:J)<(s9 a:J)+(s9 b:J):=e;omega
theorem iO(h:al i b)(l:i<=9000):Qo a b=false:=by
 unfold Qo;have e:¬((if (b==0)=true then 0 else b.natAbs.log2 / 30+1)>300):=by
  split
  ·decide
  ·rename_i e;have:b.natAbs.log2<i:=(aiq (by simpa using e)).mpr h;exact BP.mpr ((Nat.div_lt_iff_lt_mul (by decide)).mpr (vG this l))
 simp only[ro e,Bool.false_and]
theorem kA(h:al i a)(l:i*j<=100000000):(s9 a:J)*(j:Y)<=2^27:=by
 have:=ais j h.bits;rw[<-ou];exact hc (ml.mpr (aP this l)) (by decide)
end
noncomputable def bb(r:ai):O:=.tup [.int r.num,.int r.den]
structure bn(k:Y)(r:ai):Prop where
 num:al k r.num
 den:al k r.den
section
variable{r s:ai}
theorem bn.mono(h:bn i r)(l:i<=j):bn j r:=⟨h.num.mono l,h.den.mono l⟩
theorem ach(a b:J)(Κ:b≠0)(hd:b∣a):(a / b).natAbs<=a.natAbs:=by
 obtain⟨c,rfl⟩:=hd;rw[Hl _ Κ,ym];exact Nat.le_mul_of_pos_left _ (Int.natAbs_pos.mpr Κ)
theorem bn.divInt(γ:al k a)(Κ:al k b)(Ρ:b≠0):bn k (c8 a b):=by
 ·have uF:(b.gcd a:J)≠0:=by
   have:=Int.gcd_pos_of_ne_zero_left a Ρ;exact yH this
  refine⟨γ.le ?_,Κ.le ?_⟩
  ·rw[ait];refine aP (ach _ _ uF (ag1 (aiu ..) (Int.dvd_mul_left ..))) ?_;rw[ym];have:b.sign.natAbs<=1:=by rcases aiv b 0 with h|h|h<;>simp[h,B1,rz]
   exact aP (ais _ this) ((by simp+arith))
  ·rw[aiw,bL Ρ];simp only[aix];exact Nat.div_le_self ..
end
theorem aF.at{p:bP}{k n:Y}{f:O}{args:I O}{c:Ι}{Q:O->Ι->Prop}{Er:Prop}(Ζ:k<=n)(h:aF p k f args c Q Er):aF p n f args c Q Er:=h.mono Ζ (λH H q=>q) id
section
variable{r s v lo hi:ai}
theorem An{c:Prop}[B0 c]{P Q:Prop}(h:c)(jL:P):fO (decide c) P Q:=by rw[jw h];exact jL
theorem qM{c:Prop}[B0 c]{P Q:Prop}(h:¬c)(jL:Q):fO (decide c) P Q:=by rw[ro h];exact jL
theorem d4{c:Prop}[B0 c]{P Q:Prop}(jL:c->P)(eH:¬c->Q):fO (decide c) P Q:=by
 by_cases h:c
 ·exact An h (jL h)
 ·exact qM h (eH h)
theorem aci{x y:J}(aX:0<y)(Ν:0<=x):kQ y (fJ x y)=kQ x y:=by
 rw[nv _ (tA aX),aiy,Int.emod_def,show x - y*(x / y)=x+y*(-(x / y)) by rw[Int.mul_neg,aip]];exact Int.gcd_add_mul_left_left ..
theorem acj(G:ar p)(Ζ:1<=n)(h:Q (.int (kQ a b)) c):aF p n (.val (.ref 248)) [.int a,.int b] c Q Er:=by
 refine .at Ζ ?_;refine aav G rfl ?_;refine qK ?_;refine qK ?_;refine⟨λm ρ c'=>∃x y:J,ρ=[some (.int a),some (.int b),some (.int x),some (.int y)]/\c'=c/\0<=x/\0<=y/\m=y.toNat/\kQ x y=kQ a b,⟨_,a.natAbs,b.natAbs,rfl,rfl,by exact HZ,by exact HZ,rfl,by simp[kQ]⟩,?_⟩;intro m ρ c' be;refine R2 be λx y aV aW Ν aX bM aO=>?_;try clear be;rcases aV with rfl;rcases aW with rfl;rcases bM with rfl
 refine d4 (λh0=>?_) λh0=>?_
 ·have h0:0<y:=h0;refine⟨by exact tB h0,?_⟩;have:=Int.fmod_lt_of_pos x h0;have:=Int.fmod_nonneg Ν aX;exact as _ ((Int.toNat_lt_toNat (lz this ‹_›)).mpr ‹_›) ⟨y,fJ x y,rfl,rfl,aX,this,rfl,by rw[aci h0 Ν,aO]⟩
 ·have:y=0:=np (ly.mp h0) aX;subst this;show Q (.int x) c';rw[Int.gcd_zero_right] at aO;rw[<-aO] at h
  rwa [GC Ν] at h
theorem xl(G:ar p)(Ζ:2<=n)(Κ:b≠0)(e3:al 9000 b)(h:Q (bb (c8 a b)) c):aF p n (.val (.ref 461)) [.int a,.int b] c Q Er:=by
 refine .at Ζ ?_;refine aaE G rfl ?_;refine qM Κ ?_;refine acj G (by decide) ?_;have uF:(kQ a b:J)≠0:=by
  have:=Int.gcd_pos_of_ne_zero_right a Κ;exact yH this
 have da:(kQ a b:J)∣a:=Int.gcd_dvd_left ..;have db:(kQ a b:J)∣b:=aiu ..;have Ao:al 9000 (kQ a b:J):=e3.le (by have:=Int.gcd_le_natAbs_right a Κ;simpa using this);unfold bb at h;rw[ait,aiw,bL Κ,aiy b a] at h;refine d4 (λΤ=>?_) λΤ=>?_
 ·refine ft ⟨by exact ID uF,iO Ao.neg (by decide)⟩ ⟨by exact ID uF,iO Ao.neg (by decide)⟩ ?_;rw[Hm (aiz.mpr da),Hm (aiz.mpr db)];rw[B1 Τ] at h;have bk:b / -(kQ a b:J)=((b.natAbs / kQ a b:Y):J):=by
   rw[RF,aiA,<-RG db,show(b.natAbs:J)= -b by exact Int.ofNat_natAbs_of_nonpos (ov Τ)]
  show Q (.tup [.int _,.int _]) c;rw[(by rw[aiA,agX,rh,RG da]:a / -(kQ a b:J)= -1*a / (kQ a b:J)),bk];exact h
 ·have Τ:0<b:=aiB.mpr ⟨ly.mp Τ,λe=>Κ e.symm⟩;refine ft ⟨uF,iO Ao (by decide)⟩ ⟨uF,iO Ao (by decide)⟩ ?_;rw[Hm da,Hm db];rw[rz Τ,rh,RF,show(b.natAbs:J)=b by exact yE Τ] at h;exact h
theorem jk(r:ai):(r.den:J)≠0:=by have:=r.den_pos;exact yH this
theorem Fj(G:ar p)(Ζ:3<=n)(Χ:bn i r)(σ:bn j s)(l:i+j<=9000)(h:Q (bb (r+s)) c):aF p n (.val (.ref 475)) [bb r,bb s] c Q Er:=by
 refine .at Ζ ?_;refine aaG G rfl ?_;refine p7 (bT Χ.num σ.den (qb l)) (bT σ.num Χ.den (Je l)) (bT Χ.den σ.den (qb l)) ?_;refine xl G (by decide) (tr (jk r) (jk s)) ((Χ.den.mul σ.den).mono l) ?_;rw[aiC,<-vH] at h;exact h
theorem qN(G:ar p)(Ζ:3<=n)(Χ:bn i r)(σ:bn j s)(l:i+j<=9000)(h:Q (bb (r - s)) c):aF p n (.val (.ref 482)) [bb r,bb s] c Q Er:=by
 refine .at Ζ ?_;refine aaH G rfl ?_;refine p7 (bT Χ.num σ.den (qb l)) (bT σ.num Χ.den (Je l)) (bT Χ.den σ.den (qb l)) ?_;refine xl G (by decide) (tr (jk r) (jk s)) ((Χ.den.mul σ.den).mono l) ?_;rw[aiD,<-vH] at h;exact h
theorem uG(G:ar p)(Ζ:3<=n)(Χ:bn i r)(σ:bn j s)(l:i+j<=9000)(h:Q (bb (r*s)) c):aF p n (.val (.ref 489)) [bb r,bb s] c Q Er:=by
 refine .at Ζ ?_;refine aaI G rfl ?_;refine ft (bT Χ.num σ.num (qb l)) (bT Χ.den σ.den (qb l)) ?_;refine xl G (by decide) (tr (jk r) (jk s)) ((Χ.den.mul σ.den).mono l) ?_;rw[aiE,<-vH] at h;exact h
theorem NE(r s:ai):r / s=c8 (r.num*s.den) (r.den*s.num):=by
 rw[Hn,Rat.inv_def,<-RH,vH,Rat.mkRat_self]
theorem ack(G:ar p)(Ζ:3<=n)(Χ:bn i r)(σ:bn j s)(h0:s≠0)(l:i+j<=9000)(h:Q (bb (r / s)) c):aF p n (.val (.ref 496)) [bb r,bb s] c Q Er:=by
 refine .at Ζ ?_;refine aaJ G rfl ?_;refine ft (bT Χ.num σ.den (qb l)) (bT Χ.den σ.num (qb l)) ?_;refine xl G (by decide) (tr (jk r) λe=>h0 (aiF.mp e)) ((Χ.den.mul σ.num).mono l) ?_;rw[NE] at h;exact h
theorem uH(G:ar p)(Ζ:1<=n)(Χ:bn i r)(σ:bn j s)(l:i+j<=100000000)(h:Q (.bool (decide (r<s))) c):aF p n (.val (.ref 503)) [bb r,bb s] c Q Er:=by
 refine .at Ζ ?_;refine aaK G rfl ?_;refine ft (bT Χ.num σ.den (l)) (bT σ.num Χ.den (θ [_,_] [] (.le (.a (.v 1) (.v 0)) (.c 100000000)) [(.le (.a (.v 0) (.v 1)) (.c 100000000))] [[1,1]] rfl l)) ?_;refine d4 (λΤ=>?_) λΤ=>?_
 ·rw[jw ((aiG r s).mpr Τ)] at h;exact h
 ·rw[ro (λe=>Τ ((aiG r s).mp e))] at h;exact h
noncomputable def clip(v lo hi:ai):ai:=if v<lo then lo else if hi<v then hi else v
theorem bn.clip(Φ:bn i v)(Τ:bn i lo)(bJ:bn i hi):bn i (Mine.Internal.clip v lo hi):=by
 unfold Mine.Internal.clip;split
 ·exact Τ
 ·split
  ·exact bJ
  ·exact Φ
theorem Fk(G:ar p)(Ζ:2<=n)(Φ:bn i v)(Τ:bn i lo)(bJ:bn i hi)(l:i<=9000)(h:Q (bb (clip v lo hi)) c):aF p n (.val (.ref 510)) [bb v,.tup [bb lo,bb hi]] c Q Er:=by
 refine .at Ζ ?_;refine aaL G rfl ?_;unfold clip at h;refine uH G (by decide) Φ Τ (IC l) ?_;refine d4 (λe=>?_) λe=>?_
 ·rw[cz e] at h;exact h
 ·rw[bL e] at h;refine uH G (by decide) bJ Φ (IC l) ?_;refine d4 (λe=>?_) λe=>?_
  ·rw[cz e] at h;exact h
  ·rw[bL e] at h;exact h
end
section
variable{r s v lo hi x y:ai}
theorem NF(r s:ai):r+s=c8 (r.num*s.den+s.num*r.den) (r.den*s.den):=by rw[aiC,<-vH];rfl
theorem acm(r s:ai):r - s=c8 (r.num*s.den - s.num*r.den) (r.den*s.den):=by rw[aiD,<-vH];rfl
theorem acn(r s:ai):r*s=c8 (r.num*s.num) (r.den*s.den):=by rw[aiE,<-vH];rfl
theorem bn.add(Χ:bn i r)(σ:bn j s):bn (i+j+1) (r+s):=by
 rw[NF];exact .divInt ((Χ.num.mul σ.den).add (by rw[vI];exact σ.num.mul Χ.den)) ((Χ.den.mul σ.den).mono (BY _)) (tr (jk r) (jk s))
theorem bn.sub(Χ:bn i r)(σ:bn j s):bn (i+j+1) (r - s):=by
 rw[acm];exact .divInt ((Χ.num.mul σ.den).sub (by rw[vI];exact σ.num.mul Χ.den)) ((Χ.den.mul σ.den).mono (BY _)) (tr (jk r) (jk s))
theorem bn.mul(Χ:bn i r)(σ:bn j s):bn (i+j) (r*s):=by
 rw[acn];exact .divInt (Χ.num.mul σ.num) (Χ.den.mul σ.den) (tr (jk r) (jk s))
theorem bn.div(Χ:bn i r)(σ:bn j s)(h0:s≠0):bn (i+j) (r / s):=by
 rw[NE];exact .divInt (Χ.num.mul σ.den) (Χ.den.mul σ.num) (tr (jk r) λe=>h0 (aiF.mp e))
noncomputable def moved(v lo hi x y:ai):ai:=if lo=hi then x else x+(v - lo) / (hi - lo)*(y - x)
theorem xm{r s:ai}(h:r≠s):s - r≠0:=λe=>h (by
 have:=aiH (a:=s) (b:=r);rw[e,yo] at this;exact this)
theorem bn.moved(Φ:bn i v)(Τ:bn i lo)(bJ:bn i hi)(Ν:bn j x)(aX:bn j y):bn (4*i+3*j+4) (Mine.Internal.moved v lo hi x y):=by
 unfold Mine.Internal.moved;split
 ·exact Ν.mono ((by simp+arith))
 ·rename_i e;exact(Ν.add (((Φ.sub Τ).div (bJ.sub Τ) (xm e)).mul (aX.sub Ν))).mono ((by simp+arith))
theorem aco{P dt:Prop}(jL:r=s->P)(eH:r≠s->dt):fO (decide (r.num=s.num)&&decide ((r.den:J)=s.den)) P dt:=by
 by_cases e:r=s
 ·subst e;rw[jw rfl,jw rfl];exact jL rfl
 ·have:(decide (r.num=s.num)&&decide ((r.den:J)=s.den))=false:=by
   rw[aiI,Ho,Ho];by_cases q:r.num=s.num
   ·exact .inr λfi=>e (RI q (CM fi))
   ·exact .inl q
  rw[this];exact eH e
theorem Fl(G:ar p)(Ζ:4<=n)(Φ:bn i v)(Τ:bn i lo)(bJ:bn i hi)(Ν:bn j x)(aX:bn j y)(l:4*i+3*j<=8000)(h:Q (bb (moved v lo hi x y)) c):aF p n (.val (.ref 517)) [bb v,.tup [bb lo,bb hi],.tup [bb x,bb y]] c Q Er:=by
 refine .at Ζ ?_;refine aaM G rfl ?_;unfold moved at h;refine aco (λe=>?_) λe=>?_
 ·rw[cz e] at h;exact h
 ·rw[bL e] at h;refine qN G (by decide) Φ Τ (IL l) ?_;refine qN G (by decide) bJ Τ (IL l) ?_;refine ack G (by decide) (Φ.sub Τ) (bJ.sub Τ) (xm e) (θ [_,_] [] (.le (.a (.a (.a (.v 0) (.v 0)) (.c 1)) (.a (.a (.v 0) (.v 0)) (.c 1))) (.c 9000)) [(.le (.a (.m 4 (.v 0)) (.m 3 (.v 1))) (.c 8000))] [[1,1]] rfl l) ?_;refine qN G (by decide) aX Ν (θ [_,_] [] (.le (.a (.v 1) (.v 1)) (.c 9000)) [(.le (.a (.m 4 (.v 0)) (.m 3 (.v 1))) (.c 8000))] [[3,2]] rfl l) ?_;refine uG G (by decide) ((Φ.sub Τ).div (bJ.sub Τ) (xm e)) (aX.sub Ν) (θ [_,_] [] (.le (.a (.a (.a (.a (.v 0) (.v 0)) (.c 1)) (.a (.a (.v 0) (.v 0)) (.c 1))) (.a (.a (.v 1) (.v 1)) (.c 1))) (.c 9000)) [(.le (.a (.m 4 (.v 0)) (.m 3 (.v 1))) (.c 8000))] [[1,1]] rfl l) ?_;exact Fj G (by decide) Ν (((Φ.sub Τ).div (bJ.sub Τ) (xm e)).mul (aX.sub Ν)) (θ [_,_] [] (.le (.a (.v 1) (.a (.a (.a (.a (.v 0) (.v 0)) (.c 1)) (.a (.a (.v 0) (.v 0)) (.c 1))) (.a (.a (.v 1) (.v 1)) (.c 1)))) (.c 9000)) [(.le (.a (.m 4 (.v 0)) (.m 3 (.v 1))) (.c 8000))] [[1,1]] rfl l) h
theorem NG(G:ar p)(Ζ:1<=n)(h:Q (.int a.sign) c):aF p n (.val (.ref 227)) [.int a] c Q Er:=by
 refine .at Ζ ?_;refine aas G rfl ?_;refine d4 (λe=>?_) λe=>?_
 ·have e:a=0:=e;subst e;exact h
 ·refine d4 (λaT=>?_) λaT=>?_
  ·rw[rz aT] at h;exact h
  ·rw[B1 (aiB.mpr ⟨ly.mp aT,e⟩)] at h;exact h
noncomputable def sE(a b:J):J:=(2*a.natAbs+b.natAbs) / (2*b.natAbs)*a.sign*b.sign
theorem Fm(a:J):al 1 a.sign:=by
 unfold al;rcases aiv a 0 with h|h|h
 ·rw[B1 h];decide
 ·subst h;decide
 ·rw[rz h];decide
theorem acp(G:ar p)(Ζ:2<=n)(Κ:b≠0)(gp:al 8000 a)(e3:al 8000 b)(h:Q (.int (sE a b)) c):aF p n (.val (.ref 234)) [.int a,.int b] c Q Er:=by
 refine .at Ζ ?_;refine aat G rfl ?_;refine qK ?_;refine⟨bT (i:=2) (by decide) gp.abs (HT),?_⟩;refine qK ?_;refine qK ?_;refine⟨bT (i:=2) (by decide) e3.abs (HT),?_⟩;refine⟨⟨by exact λe=>Κ (Int.natAbs_eq_zero.mp (Qg ((Int.mul_eq_zero.mp e).resolve_left (by decide)))),iO (i:=8002) (al.mul (i:=2) (j:=8000) (by decide) e3.abs |>.mono (by decide)) (by decide)⟩,?_⟩;refine NG G (by decide) ?_;have z:al 8010 (kN (2*(a.natAbs:J)+b.natAbs) (2*b.natAbs)):=by
  rw[nx _ (Cz)];have:(2*(a.natAbs:J)+b.natAbs) / (2*b.natAbs)<=(2*(a.natAbs:J)+b.natAbs):=RJ _ (H8);have:=x' (a:=(2*(a.natAbs:J)+b.natAbs)) (b:=(2*b.natAbs)) (H8) (Cz);exact(((al.mul (a:=2) (i:=2) (j:=8000) (by decide) gp.abs).mono (by decide:2+8000<=8009)).add (e3.abs.mono (by decide:8000<=8009))).le (Su ‹_› this)
 refine⟨bT z (Fm a) (ei _ _),?_⟩;refine NG G (by decide) ?_;refine⟨bT (z.mul (Fm a)) (Fm b) (ei _ _),?_⟩;unfold sE at h;rw[<-nx _ (Cz)] at h;exact h
noncomputable def fo(t:J):Y->J×Y
 |0=>(t,0)
 |q+1=>if t%10=0 then fo (t / 10) q else (t,q+1)
noncomputable def NH(t:J)(q:Y):I (Y×O):=[(95,.int (fo t q).1),(77,.int (fo t q).2)]
theorem dX(c:Ι)(d:ε)(x y:ξ fY):upd (upd c d x) d y=upd c d y:=by
 funext b;unfold upd;split<;>rfl
theorem qO{c:Ι}{d:ε}(h:c d=none)(x:ξ fY):upd (upd c d x) d none=c:=by
 rw[dX];funext b;unfold upd;split
 ·rename_i e;rw[e,h]
 ·rfl
theorem ie{c:Ι}{d:ε}(h:c d=none)(x y:ξ fY):upd (upd (upd c d x) d y) d none=c:=by
 rw[dX,qO h]
theorem NI(t:J)(q:Y)(h:¬(0<(q:J)/\fJ t 10=0)):fo t q=(t,q):=by
 rcases q with _|q
 ·rfl
 ·refine bL ?_;intro e;exact h ⟨by exact(by simp),by rw[nv _ (by decide)];exact e⟩
theorem NJ(t:J)(q:Y)(h:fJ t 10=0):fo (kN t 10) q=fo t (q+1):=by
 rw[nv _ (by decide)] at h;rw[nx _ (by decide)];exact(cz h).symm
theorem Fn{q:Y}(G:ar p)(Ζ:1<=n)(Θ:c d=some (.cV []))(h:Q .none (upd c d (some (.cV (NH a q))))):aF p n (.val (.ref 129)) [.ins 209 d,.int a,.int q] c Q Er:=by
 refine .at Ζ ?_;refine aaq G rfl ?_;refine⟨λm ρ c'=>∃t:J,ρ=[some (.ins 209 d),some (.int t),some (.int m)]/\c'=c/\fo t m=fo a q,⟨q,a,rfl,rfl,rfl⟩,?_⟩;intro m ρ c' be;refine ix be λt aV aW hd=>?_;try clear be;rcases aV with rfl;rcases aW with rfl
 have stop:¬(0<(m:J)/\fJ t 10=0)->Q .none (upd (upd c' d (some (.cV [(95,.int t)]))) d (some (.cV [(95,.int t),(77,.int m)]))):=λe=>by
  rw[dX];have hd:=hd;rw[NI t m e] at hd;unfold NH at h;rw[<-hd] at h;exact h
 have stop:¬(0<(m:J)/\fJ t 10=0)->bh p a1 a6 Er 0 (.cons (.setAttr (.var 0) 95 (.var 1)) (.cons (.setAttr (.var 0) 77 (.var 2)) .nil)) [some (.ins 209 d),some (.int t),some (.int m)] c' (λH c'=>Q .none c') (λx H c'=>Q x c'):=λe=>
  ⟨_,Θ,gX rfl,_,aj ..,gX rfl,stop e⟩
 refine d4 (λh0=>?_) λh0=>?_
 ·refine⟨by decide,?_⟩;refine d4 (λΑ=>?_) λΑ=>?_
  ·refine⟨⟨by decide,iO (i:=4) (by decide) (by decide)⟩,?_⟩;refine as (m - 1) (Ie h0) ⟨kN t 10,?_,rfl,?_⟩
   ·show[some (O.ins 209 d),some (.int _),some (.int _)]=_;rw[show(m:J) - 1=((m - 1:Y):J) by omega]
   ·rw[NJ t _ Α,show m - 1+1=m by exact Ic h0,hd]
  ·exact stop λe=>Α e.2
 ·exact stop λe=>h0 e.1
end
theorem bu{a b:Y}(h:hB a b=true):a<=b:=gX h
section
variable{tgt:O->Ο->(Ο->Prop)->Prop}{body:Ο->Ι->(Ο->Ι->Prop)->Prop}{Q:Ο->Ι->Prop}
theorem Ap(aG:I O->Ο->Ι->Prop)(cq:∀ρ c,aG [] ρ c->Q ρ c)(step:∀x xs ρ c,(∀ρ c,aG xs ρ c->mJ tgt body xs ρ c Q)->aG (x::xs) ρ c->tgt x ρ λρ=>body ρ c λρ c=>mJ tgt body xs ρ c Q):
 ∀xs ρ c,aG xs ρ c->mJ tgt body xs ρ c Q
 |[],ρ,c,h=>cq ρ c h
 |x::xs,ρ,c,h=>step x xs ρ c (Ap aG cq step xs) h
variable{d1:Ο->Ι->(Ο->Ι->Prop)->(Ο->Ι->Prop)->Prop}{aN:Ο->Ι->(O->Ο->Ι->Prop)->Prop}{dd:I O->Ο->Ι->Prop}
theorem Aq(aG:I O->I O->Ο->Ι->Prop)(cq:∀acc ρ c,aG [] acc ρ c->dd acc ρ c)(step:∀x xs acc ρ c,(∀acc ρ c,aG xs acc ρ c->dT tgt d1 aN xs acc ρ c dd)->aG (x::xs) acc ρ c->tgt x ρ λρ=>d1 ρ c (λρ c=>aN ρ c λv ρ c=>dT tgt d1 aN xs (acc++[v]) ρ c dd) (λρ c=>dT tgt d1 aN xs acc ρ c dd)):
 ∀xs acc ρ c,aG xs acc ρ c->dT tgt d1 aN xs acc ρ c dd
 |[],acc,ρ,c,h=>cq acc ρ c h
 |x::xs,acc,ρ,c,h=>step x xs acc ρ c (Aq aG cq step xs) h
end
section
variable{r s:ai}
theorem NK{Q:Ι->Prop}{x y:ξ fY}(h:Q (upd c d y)):Q (upd (upd c d x) d y):=by rw[dX];exact h
noncomputable def pv(t:J)(q:Y):O:=.obj 209 [(95,.int t),(77,.int q)]
noncomputable def dM(k g:J):O:=.obj 336 [(72,.int k),(53,.int g)]
noncomputable def l6(h o:O):O:=.obj 308 [(55,h),(74,o)]
inductive bU:O->Prop
 |none:bU .none
 |int (k:J):bU (.int k)
 |lst (l:I O):bU (.lst l)
 |Ω (l:I (Y×O)):bU (.Ω l)
 |dec (t:J) (q:Y):bU (pv t q)
 |qP (h o:O):bU (l6 h o)
 |ref (k g:J):bU (dM k g)
theorem cG(G:ar p){t pu:Λ}{r:aQ}(δ:Al v=some t)(Θ:NA.contains pu=true)(Χ:(t==pu)=r)(h:Q (.bool r) c):aF p n (.val (.builtin "isinstance")) [v,.val pu] c Q Er:=
 ab2 G δ (by simpa using Θ) Χ h
noncomputable def acq:O->Y
 | .none=>71
 | .int _=>58
 | .lst _=>38
 | .Ω _=>46
 | .obj C _=>match bE C 209 with
  |true=>81
  |false=>match bE C 308 with
   |true=>87
   |false=>82
 |_=>0
theorem Ar(G:ar p)(Ζ:1<=n)(Η:bU v)(h:Q (.sym (acq v)) c):aF p n (.val (.ref 347)) [v] c Q Er:=by
 refine .at Ζ ?_;refine aay G rfl ?_;cases Η with
 |none=>exact h
 |int k=>
  refine cG G rfl rfl (r:=false) rfl ?_;exact cG G rfl rfl (r:=true) rfl h
 |dec t q=>
  refine cG G rfl rfl (r:=false) rfl ?_;refine cG G rfl rfl (r:=false) rfl ?_;exact cG G rfl rfl (r:=true) rfl h
 |lst l=>
  refine cG G rfl rfl (r:=false) rfl ?_;refine cG G rfl rfl (r:=false) rfl ?_;refine cG G rfl rfl (r:=false) rfl ?_;refine cG G rfl rfl (r:=false) rfl ?_;refine cG G rfl rfl (r:=false) rfl ?_;exact cG G rfl rfl (r:=true) rfl h
 |Ω l=>
  refine cG G rfl rfl (r:=false) rfl ?_;refine cG G rfl rfl (r:=false) rfl ?_;refine cG G rfl rfl (r:=false) rfl ?_;refine cG G rfl rfl (r:=false) rfl ?_;refine cG G rfl rfl (r:=false) rfl ?_;refine cG G rfl rfl (r:=false) rfl ?_;exact cG G rfl rfl (r:=true) rfl h
 |qP x o=>
  refine cG G rfl rfl (r:=false) rfl ?_;refine cG G rfl rfl (r:=false) rfl ?_;refine cG G rfl rfl (r:=false) rfl ?_;refine cG G rfl rfl (r:=false) rfl ?_;refine cG G rfl rfl (r:=false) rfl ?_;refine cG G rfl rfl (r:=false) rfl ?_;refine cG G rfl rfl (r:=false) rfl ?_;exact cG G rfl rfl (r:=true) rfl h
 |ref x o=>
  refine cG G rfl rfl (r:=false) rfl ?_;refine cG G rfl rfl (r:=false) rfl ?_;refine cG G rfl rfl (r:=false) rfl ?_;refine cG G rfl rfl (r:=false) rfl ?_;refine cG G rfl rfl (r:=false) rfl ?_;refine cG G rfl rfl (r:=false) rfl ?_;refine cG G rfl rfl (r:=false) rfl ?_;refine cG G rfl rfl (r:=false) rfl ?_;exact cG G rfl rfl (r:=true) rfl h
inductive hX:O->ai->Prop
 |int (k:J):hX (.int k) k
 |dec (t:J) (q:Y) (av:q<=1000):hX (pv t q) (c8 t (10^q))
theorem hX.c7(h:hX v r):bU v:=by
 rcases h with ⟨⟩
 ·exact .int _
 ·exact .dec ..
theorem acr(G:ar p)(Ζ:2<=n)(Φ:hX v r)(h:Q (.bool true) c):aF p n (.val (.ref 354)) [v] c Q Er:=by
 refine .at Ζ ?_;refine aaz G rfl ?_;refine Ar G (by decide) Φ.c7 ?_;rcases Φ with k|⟨t,q,_⟩
 ·exact h
 ·exact h
theorem acs(G:ar p)(Ζ:2<=n)(Φ:hX v r)(h:∀t q,q<=1000->r=c8 t (10^q)->Q (pv t q) c):aF p n (.val (.ref 241)) [v] c Q Er:=by
 refine .at Ζ ?_;refine aau G rfl ?_;rcases Φ with k|⟨t,q,av⟩
 ·refine cG G rfl rfl (r:=false) rfl ?_;refine cG G rfl rfl (r:=false) rfl ?_;refine cG G rfl rfl (r:=true) rfl ?_;refine λd hd=>Fn (q:=0) G (by decide) (aj ..) ⟨rfl,_,aj ..,?_⟩;rw[ie hd];exact h k 0 (by decide) (yp (k:ai)).symm
 ·exact cG G rfl rfl (r:=true) rfl (h t q av rfl)
theorem As(q:Y):al (4*q+1) (10^q):=al.pow (a:=10) (i:=4) (by decide) (by decide) q
theorem NL(q:Y):(10^q:J)≠0:=aiJ (by decide)
theorem NM(G:ar p)(Ζ:3<=n)(Φ:hX v r)(h:Q (bb r) c):aF p n (.val (.ref 468)) [v] c Q Er:=by
 refine .at Ζ ?_;refine aaF G rfl ?_;refine acs G (by decide) Φ λt q av e=>?_;refine⟨⟨jt q,kA (i:=4) (j:=q) (by decide) (qa av rfl)⟩,?_⟩;subst e;refine xl G (by decide) (NL q) ((As q).mono (aP (BA (mm _ av) _) (by decide))) h
theorem acu{q:Y}(G:ar p)(Ζ:3<=n)(Χ:bn 7000 r)(av:q<=100)(h:Q (pv (fo (sE (r.num*10^q) r.den) q).1 (fo (sE (r.num*10^q) r.den) q).2) c):aF p n (.val (.ref 524)) [bb r,.int q] c Q Er:=by
 refine .at Ζ ?_;refine aaN G rfl ?_;refine⟨⟨jt q,kA (i:=4) (j:=q) (by decide) (qa av rfl)⟩,?_⟩;refine⟨bT Χ.num (As q) (SO av),?_⟩;refine acp G (by decide) (jk r) ((Χ.num.mul (As q)).mono (SP av)) (Χ.den.mono (by decide)) ?_;refine λd hd=>Fn G (by decide) (aj ..) ⟨rfl,_,aj ..,?_⟩;rw[ie hd];exact h
theorem qQ(G:ar p)(Ζ:1<=n)(Θ:c d=some (.cV []))(h:Q .none (upd c d (some (.cV [(72,v),(53,w)])))):aF p n (.val (.ref 326)) [.ins 336 d,v,w] c Q Er:=by
 refine .at Ζ ?_;refine aax G rfl ?_;exact dj _ Θ (bu rfl) ⟨_,aj ..,bu rfl,NK (Q:=λc=>Q .none c) h⟩
theorem Fo(G:ar p)(Ζ:1<=n)(Θ:c d=some (.cV []))(h:Q .none (upd c d (some (.cV [(55,v),(74,w)])))):aF p n (.val (.ref 305)) [.ins 308 d,v,w] c Q Er:=by
 refine .at Ζ ?_;refine aaw G rfl ?_;exact dj _ Θ (bu rfl) ⟨_,aj ..,bu rfl,NK (Q:=λc=>Q .none c) h⟩
theorem At{x y:O}(G:ar p)(Ζ:1<=n)(Θ:c d=some (.cV []))(h:Q .none (upd c d (some (.cV [(60,v),(47,w),(75,x),(76,y)])))):aF p n (.val (.ref 544)) [.ins 566 d,v,w,x,y] c Q Er:=by
 refine .at Ζ ?_;refine aaO G rfl ?_;refine dj _ Θ (bu rfl) ⟨_,aj ..,bu rfl,_,aj ..,bu rfl,_,aj ..,bu rfl,?_⟩;show Q .none _;rw[dX,dX,dX];exact h
end
noncomputable def cM(T:ε):O:=.obj 452 [(89,.loc T),(96,.Ω [])]
noncomputable def refOf:O->ξ (J×J)
 | .obj C bW=>match bE C 336 with
  |true=>match bW with
   |[(_,.int k),(_,.int g)]=>some (k,g)
   |_=>none
  |false=>none
 |_=>none
noncomputable def dY(t:I (J×O))(k:J):J×O:=match cW t k with
 |some (.tup [.int g,v])=>(g,v)
 |_=>(-1,.none)
noncomputable def co(t:I (J×O)):Prop:=∀k e,cW t k=some e->∃g v,e= .tup [.int g,v]/\bU v
noncomputable def cp(t:I (J×O)):Y->O->O
 |0,v=>match refOf v with
  |some _=>.none
  |none=>v
 |h+1,v=>match refOf v with
  |some x=>if (dY t x.1).1=x.2 then cp t h (dY t x.1).2 else .none
  |none=>v
theorem NN(t:I (J×O))(v:O):cp t 0 v=match refOf v with
 |some _=>.none
 |none=>v:=rfl
theorem NO(t:I (J×O))(h:Y)(v:O):cp t (h+1) v=match refOf v with
 |some x=>if (dY t x.1).1=x.2 then cp t h (dY t x.1).2 else .none
 |none=>v:=rfl
theorem fp{t:I (J×O)}{v:O}(h:refOf v=none):∀n,cp t n v=v
 |0=>by rw[NN,h]
 |n+1=>by rw[NO,h]
theorem acv{t:I (J×O)}(δ:co t)(k:J):(cW t k).getD (.tup [.int (-1),.none])= .tup [.int (dY t k).1,(dY t k).2]:=by
 unfold dY;rcases e:cW t k with _|x
 ·rfl
 ·(apply fe (δ k x e);intro g v _);rfl
theorem NP{t:I (J×O)}(δ:co t)(k:J):bU (dY t k).2:=by
 unfold dY;rcases e:cW t k with _|x
 ·exact .none
 ·(apply fe (δ k x e);intro g v Η);exact Η
theorem acw{t:I (J×O)}(δ:co t):∀n {v:O},bU v->bU (cp t n v)
 |0,v,h=>by
  rw[NN];split
  ·exact .none
  ·exact h
 |n+1,v,h=>by
  rw[NO];split
  ·split
   ·exact acw δ n (NP δ _)
   ·exact .none
  ·exact h
section
variable{r s:ai}{T:ε}
set_option tactic.hygienic true in
theorem NQ(Η:bU v):refOf v=none∨∃k g,v=dM k g:=by
 rcases Η with ⟨⟩
 case ref k g=>exact .inr ⟨k,g,rfl⟩
 all_goals exact .inl rfl
set_option tactic.hygienic true in
theorem NR(G:ar p)(Η:bU v)(Χ:refOf v=none)(h:Q (.bool false) c):aF p n (.val (.builtin "isinstance")) [v,.val (.ref 336)] c Q Er:=by
 rcases Η with ⟨⟩
 case ref k g=>contradiction
 all_goals exact cG G rfl rfl (r:=false) rfl h
theorem NS(G:ar p)(h:Q (.bool true) c):aF p n (.val (.builtin "isinstance")) [dM a b,.val (.ref 336)] c Q Er:=cG G rfl rfl (r:=true) rfl h
theorem uI(G:ar p)(Ζ:1<=n)(Θ:c T=some (.tab t))(δ:co t)(Φ:bU v)(h:Q (cp t 30 v) c):aF p n (.val (.ref 388)) [cM T,v] c Q Er:=by
 refine .at Ζ ?_;refine aaB G rfl ?_;refine⟨by decide,?_⟩;refine Ap (λxs ρ c'=>c'=c/\∃here x3 x4 x5,ρ=[some (cM T),some v,some here,x3,x4,x5]/\bU here/\cp t xs.length here=cp t 30 v) ?_ ?_ _ _ _ ⟨rfl,v,none,none,none,rfl,Φ,rfl⟩
 ·intro ρ c' be;apply p8 be;intro aW;refine oL aW λhere x3 x4 x5 bM Η e=>?_;try clear aW;rcases bM with rfl
  rcases NQ Η with Χ|⟨k,g,rfl⟩
  ·refine NR G Η Χ ?_;have e:(match refOf here with|some _=>O.none|none=>here)=_:=e;rw[Χ] at e;rw[<-e] at h;exact h
  ·refine NS G ?_;have e:O.none=_:=e;rw[<-e] at h;exact h
 ·intro x xs ρ c' Ξ fv;apply p8 fv;intro dk;refine oL dk λhere x3 x4 x5 dg Η e=>?_;try clear dk;rcases dg with rfl
  rcases NQ Η with Χ|⟨k,g,rfl⟩
  ·refine NR G Η Χ ?_;rw[fp Χ] at e;rw[<-e] at h;exact h
  ·refine NS G ?_;refine as _ Θ ?_;refine as _ Θ ?_;rw[acv δ];have e:(if (dY t k).1=g then cp t xs.length (dY t k).2 else .none)=_:=e;show hR (tM (.int (dY t k).1) (.int g)) _ _;by_cases q:(dY t k).1=g
   ·rw[cz q] at e;show fO (!decide _) _ _;rw[jw q];exact Ξ _ _ ⟨rfl,_,_,_,_,rfl,NP δ k,e⟩
   ·rw[bL q] at e;show fO (!decide _) _ _;rw[ro q];rw[<-e] at h;exact h
theorem xn{l:I (Y×O)}(G:ar p)(Ζ:2<=n)(Θ:c T=some (.tab t))(δ:co t)(Φ:bU ((bl l k).getD .none))(h:Q (cp t 30 ((bl l k).getD .none)) c):aF p n (.val (.ref 395)) [cM T,.Ω l,.sym k] c Q Er:=by
 refine .at Ζ ?_;refine aaC G rfl ?_;exact uI G (by decide) Θ δ Φ h
theorem qR(G:ar p)(Ζ:1<=n)(Θ:c T=some (.tab t))(Τ:t.length<=100000)(h:Q .none (upd c T (some (.tab (f3 t a (.tup [.int b,v])))))):aF p n (.val (.ref 416)) [cM T,.int a,.int b,v] c Q Er:=by
 refine .at Ζ ?_;refine aaD G rfl ?_;exact .inr ⟨_,Θ,Τ,h⟩
end
inductive gd(t:I (J×O)):I O->I ai->Prop
 |nil:gd t [] []
 |cons {x r xs rs} (k:bU x) (n:hX (cp t 30 x) r) (s:bn 64 r) (l:gd t xs rs):gd t (x::xs) (r::rs)
theorem gd.length{t xs rs}(h:gd t xs rs):xs.length=rs.length:=by
 induction h with
 |nil=>rfl
 |cons _ _ _ _ Ξ=>simp[Ξ]
noncomputable def bp(rs:I ai):I O:=rs.map bb
noncomputable def fE(x:ai×ai):O:=.tup [bb x.1,bb x.2]
noncomputable def dq:I (ai×ai)->I ai
 |[]=>[]
 |x::l=>x.1::x.2::dq l
theorem uJ:∀l,(dq l).length=2*l.length
 |[]=>rfl
 |x::l=>cE (·+2) (uJ l)
theorem NT:∀l l',dq (l++l')=dq l++dq l'
 |[],l'=>rfl
 |x::l,l'=>cE (λz=>x.1::x.2::z) (NT l l')
theorem NU(l:I O):∀(l':I O) (i:Y),mF (l++l') (l.length+i)=mF l' i:=by
 induction l with
 |nil=>
  exact λl' i=>by simp
 |cons x l Ξ=>
  exact λl' i=>by
   rw[oI,kP,show l.length+1+i=(l.length+i)+1 by exact aim _ _ _];exact Ξ l' i
theorem Au{l:I O}{i:Y}{x:O}(h:mF l i=some x)(hi:i<l.length)(Τ:l.length<=10000):eX l (i:J)=some x:=by
 unfold eX;rw[TC hi (aP hi (aP Τ (by decide)))];exact h
section
variable{r s:ai}{T:ε}{ps:I (ai×ai)}{items:I O}
noncomputable def hu(t:I (J×O))(l:I (Y×O))(k:Y):O:=cp t 30 ((bl l k).getD .none)
set_option tactic.hygienic true in
theorem aks(Η:bU v):(∃l,v= .lst l)∨(∀r Q c,r=false->Q (.bool r) c->∀{p:bP} {n:Y} {Er:Prop},ar p->aF p n (.val (.builtin "isinstance")) [v,.val (.type "list")] c Q Er):=by
 rcases Η with ⟨⟩
 case lst l=>exact .inl ⟨l,rfl⟩
 all_goals exact .inr λr Q c Χ h p n Er G=>cG G rfl rfl (r:=false) rfl (Χ▸h)
theorem Fp(G:ar p)(Ζ:3<=n)(Θ:c T=some (.tab t))(δ:co t)(Η:bU ((bl l k).getD .none))(aH:hu t l k= .none)(h:Q .none c):aF p n (.val (.ref 577)) [cM T,.Ω l,.sym k] c Q Er:=by
 refine .at Ζ ?_;refine M7 G rfl ?_;refine xn G (by decide) Θ δ Η ?_;unfold hu at aH;rw[aH];exact h
theorem Fq(G:ar p)(Ζ:4<=n)(Θ:c T=some (.tab t))(δ:co t)(Η:bU ((bl l k).getD .none))(aH:hu t l k= .lst items)(Ρ:items.length<=1000)(Τ:gd t items rs)(h:Q (.lst (bp rs)) c):aF p n (.val (.ref 577)) [cM T,.Ω l,.sym k] c Q Er:=by
 refine .at Ζ ?_;refine M7 G rfl ?_;refine xn G (by decide) Θ δ Η ?_;unfold hu at aH;rw[aH];refine cG G rfl rfl (r:=true) rfl ?_;refine λd hd=>⟨by exact aR Ρ rfl,?_⟩;refine Ap (λxs ρ c'=>∃done rest x5 x6,rs=done++rest/\gd t xs rest/\c'=upd c d (some (.lst (bp done)))/\ρ=[some (cM T),some (.Ω l),some (.sym k),some (.lst items),some (.loc d),x5,x6]/\done.length+xs.length<=1000) ?_ ?_ _ _ _ ⟨[],rs,none,none,rfl,Τ,rfl,rfl,by simpa using Ρ⟩
 ·intro ρ c' be;refine rG be λdone rest x5 x6 e Χ aV aW H=>?_;try clear be;rcases aV with rfl;rcases aW with rfl
  rcases Χ with ⟨⟩
  rw[gj] at e;subst e;refine as _ (aj ..) ?_;show Q (.lst _) (upd (upd c d _) d none);rw[qO hd];exact h
 ·intro x xs ρ c' Ξ fv;refine rG fv λdone rest x5 x6 e Χ bM cN Ρ=>?_;try clear fv;rcases bM with rfl;rcases cN with rfl
  cases Χ with
  |@cons _ r _ m7 eB n0 jl dI=>
  refine uI G (by decide) ((a3 _ _ (λe=>by rw[e,hd] at Θ;contradiction)).trans Θ) δ eB ?_;refine acr G (by decide) n0 ?_;refine as _ (aj ..) ?_;refine NM G (by decide) n0 ?_;refine dj _ (aj ..) (by unfold bp;rw[bV];exact IX Ρ) ?_;refine Ξ _ _ ⟨done++[r],m7,some x,some (cp t 30 x),by rw[e];simp,dI,?_,rfl,by simp;exact IW Ρ⟩;rw[dX];unfold bp;rw[h8];rfl
theorem NV(m:Y):fQ 0 ((2*m:Y):J) 2=m:=by
 unfold fQ;exact(cE GD ((cE (·/2) (θ [_] [] (.ff (.s (.a (.s (.m 2 (.n (.v 0))) (.c 0)) (.c 2)) (.c 1)) (.a (.c 1) (.m 2 (.n (.v 0))))) [] [[1],[1]] rfl)).trans (Int.add_mul_ediv_left 1 _ (by decide)))).trans (cE GD (mj (_:J)))
theorem NW{pre suf:I (ai×ai)}{x:ai×ai}(Τ:2*(pre++x::suf).length<=10000):eX (bp (dq (pre++x::suf))) ((2*pre.length:Y):J)=some (bb x.1)/\eX (bp (dq (pre++x::suf))) (((2*pre.length:Y):J)+1)=some (bb x.2):=by
 have e:bp (dq (pre++x::suf))=bp (dq pre)++(bb x.1::bb x.2::bp (dq suf)):=by
  unfold bp;rw[NT,h8];rfl
 have NX:(bp (dq pre)).length=2*pre.length:=by unfold bp;rw[bV,uJ]
 have Ρ:(bp (dq (pre++x::suf))).length=2*(pre++x::suf).length:=by unfold bp;rw[bV,uJ]
 have gc:(pre++x::suf).length=pre.length+1+suf.length:=by simp;exact(by simp+arith)
 refine⟨Au ?_ (θ [_,_,_,_] [] (.le (.a (.m 2 (.v 1)) (.c 1)) (.v 3)) [(.eq (.v 0) (.a (.a (.v 1) (.c 1)) (.v 2))),(.eq (.v 3) (.m 2 (.v 0)))] [[1,0,2,0,1]] rfl gc Ρ) (I3 Ρ Τ),?_⟩
 ·rw[e,<-NX];exact NU _ _ 0
 ·rw[show((2*pre.length:Y):J)+1=((2*pre.length+1:Y):J) by exact rfl];refine Au ?_ (θ [_,_,_,_] [] (.le (.a (.a (.m 2 (.v 1)) (.c 1)) (.c 1)) (.v 3)) [(.eq (.v 0) (.a (.a (.v 1) (.c 1)) (.v 2))),(.eq (.v 3) (.m 2 (.v 0)))] [[1,0,2,0,1]] rfl gc Ρ) (I3 Ρ Τ);rw[e,<-NX];exact NU _ _ 1
theorem pw(rs:I ai):(bp rs).length=rs.length:=by unfold bp;rw[bV]
noncomputable def px(ps:I (ai×ai)):Prop:=∀x∈ps,x.1<=x.2/\bn 64 x.1/\bn 64 x.2
theorem NY(G:ar p)(Ζ:4<=n)(Θ:c T=some (.tab t))(δ:co t)(Η:bU ((bl l k).getD .none))(aH:hu t l k= .none)(h:Q .none c):aF p n (.val (.ref 582)) [cM T,.Ω l,.sym k] c Q Er:=by
 refine .at Ζ ?_;refine M8 G rfl ?_;exact Fp G (by decide) Θ δ Η aH h
end
noncomputable def fF(c c':Ι):Prop:=∀a k,c a=some k->c' a=some k
theorem fF.refl(c:Ι):fF c c:=λH H h=>h
theorem fF.trans{c c' bz:Ι}(h:fF c c')(h':fF c' bz):fF c bz:=λa k e=>h' a k (h a k e)
theorem fF.new{c:Ι}{d:ε}{k:ξ fY}(h:c d=none):fF c (upd c d k):=λa x e=>(a3 _ _ λq=>by rw[q,h] at e;contradiction).trans e
noncomputable def jm:Y->J->I h5
 |0,_=>[]
 |k+1,r=>((r / 256^k)%256).toNat.toUInt8::jm k r
theorem uK:∀k r,(jm k r).length=k
 |0,_=>rfl
 |k+1,r=>cE (·+1) (uK k r)
theorem acx(r:J)(j:Y)(h:0<=r):BG (r / 256^(j+1)*2^(8:J).toNat) ((((r / 256^j)%256).toNat.toUInt8.toNat:Y):J)=r / 256^j:=by
 have ζ:(0:J)<256^j:=B2 (by decide);have av:0<=r / 256^j:=x' h (Ib ζ);rw[(by rw[RE,<-aiK (Ib ζ)]:r / 256^(j+1)=r / 256^j / 256)];generalize r / 256^j=q at av;obtain⟨m,rfl⟩:=ts av;have bk:(((m:J)%256).toNat.toUInt8.toNat:Y)=m%256:=by
  rw[show((m:J)%256).toNat=m%256 by exact rfl];simp
 rw[bk,show(m:J) / 256*2^(8:J).toNat=((m / 256*256:Y):J) by rw[ou,RF];rfl];have du:BG ((m / 256*256:Y):J) ((m%256:Y):J)=((m / 256*256|||m%256:Y):J):=by
  unfold BG xZ;simp only[(λn=>ro (by unfold B3;exact(by simp+arith)):∀n:Y,decide (0<=B3 (n:J))=false),(λn=>by unfold B3;exact(by simp+arith):∀n:Y,B3 (B3 (n:J))=n),aiL]
 rw[du];have:=Nat.two_pow_add_eq_or_of_lt (i:=8) (b:=m%256) (Nat.mod_lt _ (by decide)) (m / 256);rw[aiM] at this;rw[this.symm];exact cE ri ((cE (·+_%256) (aiM (_/256) 256)).trans (Nat.div_add_mod _ 256))
section
variable{r:J}{T:ε}{data pre post:I h5}
theorem acy(G:ar p)(Ζ:1<=n)(γ:0<=a)(h:Q (.int 0) c):aF p n (.val (.ref 68)) [.int a,.int 0] c Q Er:=by
 refine .at Ζ ?_;refine aal G rfl ?_;refine⟨by decide,?_⟩;have e:xZ a (1*2^(0:J).toNat - 1)=0:=by
  obtain⟨m,rfl⟩:=ts γ;show xZ (m:J) 0=0;unfold xZ;rw[jw γ];show((m&&& 0:Y):J)=0;simp
 show Q (.int (xZ a (1*2^(0:J).toNat - 1))) c;rw[e];exact h
noncomputable def sF(data:I h5)(at_ acz count:J):I (Y×O):=[(45,.bytes data),(39,.int at_),(56,.int acz),(42,.int count)]
theorem acA(G:ar p)(Ζ:1<=n)(Θ:c d=some (.cV (sF data a b r)))(Τ:data.length<=10000)(h:Q (.int (r+8*((data.length:Y) - a))) c)(σ:al 64 (((data.length:Y):J) - a)):aF p n (.val (.ref 89)) [.ins 106 d] c Q Er:=by
 refine .at Ζ ?_;refine aan G rfl ?_;refine as _ Θ ?_;refine as _ Θ ?_;refine Nx (aR Τ rfl) ?_;exact as _ Θ ⟨bT (i:=4) (by decide) σ (by decide),h⟩
inductive xo(data post:I h5)(r:J)(k:Y)(n0:Y)(c:Ι)(d:ε):Y->Ο->Ι->Prop
 |mk (j:Y) (pre:I h5) (e:data=pre++(jm j r++post)) (cQ:j<=k) (ζ:pre.length=n0+(k - j)):
  xo data post r k n0 c d j [some (.ins 106 d),some (.int (8*k)),none] (upd c d (some (.cV (sF data pre.length (r / 256^j) (8*(k - j))))))
theorem acB(G:ar p)(Ζ:2<=n)(hd:data=pre++(jm k r++post))(Η:k<=4)(h0:0<=r)(Χ:r<256^k)(Τ:data.length<=10000)(Θ:c d=some (.cV (sF data pre.length 0 0)))(h:Q (.int r) (upd c d (some (.cV (sF data (pre.length+k:Y) 0 0))))):aF p n (.val (.ref 96)) [.ins 106 d,.int (8*k)] c Q Er:=by
 have a':data.length=pre.length+(k+post.length):=by rw[hd];simp[uK]
 refine .at Ζ ?_;refine aao G rfl ?_;refine as _ Θ ?_;refine acA G (by decide) Θ Τ ?_ (al.of (n:=10001) (θ [_,_,_,_] [] (.cA (.s (.n (.v 0)) (.n (.v 1))) (.c 10001)) [(.eq (.v 0) (.a (.v 1) (.a (.v 2) (.v 3)))),(.le (.v 0) (.c 10000))] [[1,0,0,1],[1,0,1]] rfl a' Τ) (by decide));refine qM (Td a') ?_;have acC:upd c d (some (.cV (sF data pre.length (r / 256^k) (8*((k:J) - k)))))=c:=by
  funext b;unfold upd;split
  ·rename_i q;rw[q,Θ,(aiN h0 Χ),Hp,By]
  ·rfl
 refine as (xo data post r k pre.length c d) ⟨k,by have:=xo.mk (data:=data) (post:=post) (r:=r) (k:=k) (n0:=pre.length) (c:=c) (d:=d) k pre hd (i2 _) ((by simp));rw[acC] at this;exact this⟩ ?_;rintro m ρ c' ⟨py,e,cQ,ζ⟩;refine as _ (aj ..) ?_;refine d4 (λdh=>?_) λqv=>?_
 ·obtain⟨j,rfl⟩:∃j,m=j+1:=⟨m - 1,by exact(il (nr.mp (θ [_,_] [] (.ι (.a (.c 0) (.c 1)) (.n (.v 0))) [.ι (.a (.m 8 (.s (.n (.v 1)) (.n (.v 0)))) (.c 1)) (.m 8 (.n (.v 1)))] [[8,1]] rfl dh))).symm⟩;have Κ:r / 256^(j+1)<=r:=RJ _ h0;have akt:0<=r / 256^(j+1):=x' h0 (ov (B2 (by decide)));have ay:(256:J)^k<=256^4:=by
   rcases(IB Η:k=0∨k=1∨k=2∨k=3∨k=4) with h|h|h|h|h<;>subst h<;>decide
  refine as _ (aj ..) (⟨⟨by decide,by decide,by omega⟩,?_⟩);refine as _ (aj ..) ?_;refine as _ (aj ..) ?_;refine⟨⟨by exact oP,by exact θ [_,_,_,_] [] (.ι (.a (.n (.v 1)) (.c 1)) (.n (.v 0))) [(.eq (.v 0) (.a (.v 1) (.a (.a (.v 2) (.c 1)) (.v 3))))] [[1,0,1]] rfl (by rw[e];simp[uK]:data.length=py.length+(j+1+post.length)),Τ⟩,?_⟩;refine dj _ (aj ..) (bu rfl) ?_;refine as _ (aj ..) ?_;refine dj _ (aj ..) (bu rfl) ?_;refine as _ (aj ..) ?_;refine dj _ (aj ..) (bu rfl) ?_;refine as j (yd _) ?_;have:=xo.mk (data:=data) (post:=post) (r:=r) (k:=k) (n0:=pre.length) (c:=c) (d:=d) j _ (by rw[e,oy];rfl:data=(py++[((r / 256^j)%256).toNat.toUInt8])++(jm j r++post)) (ag7 cQ) (by simp;exact(cE (·+1) ζ).trans (cE (_+·) (il (Qi cQ))));have Fs:data.getD (py.length:J).toNat 0=((r / 256^j)%256).toNat.toUInt8:=by
   rw[show(py.length:J).toNat=py.length from rfl,lA,e,to (i2 _),Hq];rfl
  show xo data post r k pre.length c d j _ (upd (upd (upd (upd c d _) d _) d _) d (some (.cV [(45,.bytes data),(39,.int ((py.length:J)+1)),(56,.int (BG (r / 256^(j+1)*2^(8:J).toNat) (((data.getD (py.length:J).toNat 0).toNat:Y):J))),(42,.int (8*((k:J) - (j+1:Y))+8))])));rw[dX,dX,dX,Fs,acx r j h0,show 8*((k:J) - (j+1:Y))+8=8*((k:J) - j) by exact(by simp+arith)];rw[fa,lE] at this;exact this
 ·have:m=0:=θ [_,_] [] (.eq (.v 1) (.c 0)) [(.ι (.m 8 (.n (.v 0))) (.m 8 (.s (.n (.v 0)) (.n (.v 1)))))] [[8,1],[1]] rfl (ly.mp qv);subst this;refine as _ (aj ..) ?_;refine dj _ (aj ..) (bu rfl) ?_;refine as _ (aj ..) ?_;refine as _ (aj ..) ?_;refine⟨by show(0:J)<=8*((k:J) - (0:Y)) - 8*(k:J);exact(by simp),?_⟩;refine as _ (aj ..) ?_;refine as _ (aj ..) ?_;show aF p 1 (.val (.ref 68)) [.int (r / 256^0),.int (8*((k:J) - (0:Y)) - 8*(k:J))] _ _ _;rw[(by exact Hp _:8*((k:J) - (0:Y)) - 8*(k:J)=0),(by rw[Int.pow_zero,Int.ediv_one]:r / 256^0=r)];refine acy G (by decide) h0 ?_;refine dj _ (aj ..) (bu rfl) ?_;show Q (.int (kN r (2^(0:J).toNat))) (upd (upd (upd c d _) d _) d (some (.cV [(45,.bytes data),(39,.int (py.length:J)),(56,.int 0),(42,.int 0)])));rw[dX,dX,(by show kN r 1=r;rw[Int.fdiv_one]:kN r (2^(0:J).toNat)=r),show(py.length:J)=((pre.length+k:Y):J) by exact cE _ ζ];exact h
end
noncomputable def b2(l:I J):I O:=l.map .int
theorem aku(lo st:J)(n:Y):fP lo st (n+1)= .int lo::fP (lo+st) st n:=rfl
theorem lm(m:Y):fQ 0 (m:J) 1=m:=by unfold fQ;exact(by simp)
inductive Ft(data:I h5)(k:Y)(rows:I J)(c:Ι)(d:ε)(ρ:O->Ο):I O->I O->Ο->Ι->Prop
 |mk (done rest:I J) (pre:I h5) (lo:J) (o:ξ O) (e:rows=done++rest) (l7:data=pre++rest.flatMap (jm k)):
  Ft data k rows c d ρ (fP lo 1 rest.length) (b2 done) [some (.bytes data),some (.int (8*k)),some (.int rows.length),some (.ins 106 d),o] (upd c d (some (.cV (sF data pre.length 0 0))))
section
variable{r s:ai}{T:ε}{ps:I (ai×ai)}{items:I O}{data:I h5}
theorem acD(G:ar p)(Ζ:1<=n)(Θ:c d=some (.cV []))(h:Q .none (upd c d (some (.cV (sF data 0 0 0))))):aF p n (.val (.ref 82)) [.ins 106 d,.bytes data] c Q Er:=by
 refine .at Ζ ?_;refine aam G rfl ?_;refine dj _ Θ (bu rfl) ⟨_,aj ..,bu rfl,_,aj ..,bu rfl,_,aj ..,bu rfl,?_⟩;show Q .none _;rw[dX,dX,dX];exact h
theorem acE{rows:I J}(G:ar p)(Ζ:3<=n)(hd:data=rows.flatMap (jm k))(Η:k<=4)(Χ:∀x∈rows,0<=x/\x<256^k)(Τ:rows.length<=100)(h:∀c',fF c c'->Q (.lst (b2 rows)) c'):aF p n (.val (.ref 115)) [.bytes data,.int (8*k),.int rows.length] c Q Er:=by
 have Ρ:data.length<=10000:=by
  have:∀l:I J,(l.flatMap (jm k)).length=k*l.length:=λl=>by
   induction l with
   |nil=>rfl
   |cons x l Ξ=>rw[vJ,fa,uK,Ξ,kP,yn];exact vI _ _
  rw[hd,this];exact aP (rn Η Τ) (by decide)
 refine .at Ζ ?_;refine aap G rfl ?_;refine λd ko=>acD G (by decide) (aj ..) ⟨rfl,?_⟩;rw[dX];refine⟨⟨by decide,by decide,by decide,by decide,by exact rM,by exact Iw Τ,by exact Iv Τ⟩,?_⟩;rw[lm];refine Aq (Ft data k rows c d λH=>[]) ?_ ?_ _ _ _ _ (.mk [] rows [] 0 none rfl hd)
 ·rintro acc ρ c' dn;generalize Ν:([]:I O)=xs at dn;obtain⟨done,rest,pre,lo,o,e,l7⟩:=dn;cases rest with
  |cons y l=>contradiction
  |nil=>
   rw[gj] at e;subst e;exact h _ (.new ko)
 ·rintro x xs acc ρ c' Ξ dn;generalize Ν:x::xs=uL at dn;obtain⟨done,rest,pre,lo,o,e,l7⟩:=dn;rcases rest with _|⟨y,l⟩
  ·contradiction
  ·rcases Ν with ⟨⟩
   refine as _ (aj ..) ?_;obtain⟨uM,Ck⟩:=Χ y (by rw[e];simp);refine acB (post:=l.flatMap (jm k)) G (by decide) (by rw[l7,vJ]) Η uM Ck Ρ (aj ..) ?_;rw[dX];have:=Ft.mk (data:=data) (k:=k) (rows:=rows) (c:=c) (d:=d) (ρ:=λH=>[]) (done++[y]) l (pre++jm k y) (lo+1) (some (.int lo)) (by rw[e];simp) (by rw[l7];simp);rw[fa,uK] at this;rw[(by unfold b2;rw[h8];rfl:b2 (done++[y])=b2 done++[.int y])] at this;exact Ξ _ _ _ this
theorem Fu(G:ar p)(Ζ:4<=n)(Θ:c T=some (.tab t))(δ:co t)(Η:bU ((bl l k).getD .none))(aH:hu t l k= .none)(h:Q v c):aF p n (.val (.ref 587)) [cM T,.Ω l,.sym k,w,v] c Q Er:=by
 refine .at Ζ ?_;refine M9 G rfl ?_;exact Fp G (by decide) Θ δ Η aH h
inductive Fv(ps:I (ai×ai))(c:Ι)(f:ξ O->Ο):I O->I O->Ο->Ι->Prop
 |mk (pre suf:I (ai×ai)) (o:ξ O) (e:ps=pre++suf):Fv ps c f (fP ((2*pre.length:Y):J) 2 suf.length) (pre.map fE) (f o) c
theorem acF(G:ar p)(Ζ:5<=n)(Θ:c T=some (.tab t))(δ:co t)(Η:bU ((bl l k).getD .none))(aH:hu t l k= .lst items)(Ρ:ps.length<=400)(Τ:gd t items (dq ps))(h:Q (.lst (ps.map fE)) c):aF p n (.val (.ref 587)) [cM T,.Ω l,.sym k,.int ps.length,v] c Q Er:=by
 refine .at Ζ ?_;refine M9 G rfl ?_;have fR:=uJ ps;refine Fq G (by decide) Θ δ Η aH (Jo fR Τ.length Ρ) Τ ?_;have av:=pw (dq ps);refine eK (yM fR av Ρ) ?_;refine⟨bT (i:=4) (j:=64) (by decide) (al.of (n:=401) (tj Ρ) (by decide)) (by decide),?_⟩;show fO (!decide (((bp (dq ps)).length:J)=2*(ps.length:J))) _ _;rw[jw (by exact θ [_,_,_] [] (.ff (.n (.v 2)) (.m 2 (.n (.v 1)))) [(.eq (.v 0) (.m 2 (.v 1))),(.eq (.v 2) (.v 0))] [[1,1,0,1],[1,0,1,0,1]] rfl fR av)];refine eK (yM fR av Ρ) ?_;refine⟨⟨by decide,by decide,by decide,by decide,by exact rM,by exact Jn fR av Ρ,by exact Jm fR av Ρ⟩,?_⟩;rw[av,fR,NV];refine Aq (Fv ps c λo=>[some (cM T),some (.Ω l),some (.sym k),some (.int ps.length),some v,some (.lst (bp (dq ps))),o]) ?_ ?_ _ _ _ _ (.mk [] ps none rfl)
 ·rintro acc ρ c' dn;generalize Ν:([]:I O)=xs at dn;obtain⟨pre,suf,o,e⟩:=dn;cases suf with
  |cons y l=>cases Ν
  |nil=>
   rw[gj] at e;subst e;exact h
 ·rintro x xs acc ρ c' Ξ dn;generalize Ν:x::xs=uL at dn;obtain⟨pre,suf,o,e⟩:=dn;cases suf with
  |nil=>cases Ν
  |cons y suf=>
  cases Ν;have lJ:=NW (pre:=pre) (x:=y) (suf:=suf) (by rw[<-e];exact qa Ρ rfl);rw[<-e] at lJ;refine cO lJ.1 ?_;refine cO lJ.2 ?_;have:=Fv.mk (ps:=ps) (c:=c) (f:=λo=>[some (cM T),some (.Ω l),some (.sym k),some (.int ps.length),some v,some (.lst (bp (dq ps))),o]) (pre++[y]) suf (some (.int ((2*pre.length:Y):J))) (by rw[e];simp);rw[fa,lE,show((2*(pre.length+1):Y):J)=((2*pre.length:Y):J)+2 by exact rfl,h8] at this;exact Ξ _ _ _ this
theorem Fw(G:ar p)(Ζ:3<=n)(Θ:c T=some (.tab t))(δ:co t)(Η:bU ((bl l k).getD .none))(aH:hu t l k= .int i)(Α:a<=i)(Δ:(i:J)<=b)(h:Q (.int i) c):aF p n (.val (.ref 594)) [cM T,.Ω l,.sym k,.int a,.int b] c Q Er:=by
 refine .at Ζ ?_;refine M' G rfl ?_;refine xn G (by decide) Θ δ Η ?_;unfold hu at aH;rw[aH];refine Ar G (by decide) (.int _) ?_;refine An Α ?_;refine An Δ ?_;exact h
theorem acG(G:ar p)(cK:Er)(Ζ:3<=n)(Θ:c T=some (.tab t))(δ:co t)(Η:bU ((bl l k).getD .none))(aH:hu t l k= .none):aF p n (.val (.ref 594)) [cM T,.Ω l,.sym k,.int a,.int b] c Q Er:=by
 refine .at Ζ ?_;refine M' G rfl ?_;refine xn G (by decide) Θ δ Η ?_;unfold hu at aH;rw[aH];refine Ar G (by decide) .none ?_;exact cK
theorem acH(G:ar p)(Ζ:1<=n)(h:Q (.Ω l) c):aF p n (.val (.ref 601)) [.Ω l] c Q Er:=by
 refine .at Ζ ?_;refine E' G rfl ?_;refine cG G rfl rfl (r:=false) rfl ?_;exact cG G rfl rfl (r:=true) rfl h
theorem acI(G:ar p)(Ζ:1<=n)(h:Q (.Ω l) c):aF p n (.val (.ref 601)) [l6 (.Ω l) v] c Q Er:=by
 refine .at Ζ ?_;refine E' G rfl ?_;refine cG G rfl rfl (r:=true) rfl ?_;exact cG G rfl rfl (r:=true) rfl h
theorem acJ(G:ar p)(cK:Er)(Ζ:1<=n):aF p n (.val (.ref 601)) [.none] c Q Er:=by
 refine .at Ζ ?_;refine E' G rfl ?_;refine cG G rfl rfl (r:=false) rfl ?_;exact cG G rfl rfl (r:=false) rfl cK
end
noncomputable def aq(a:J):ai:=c8 a 10000
theorem jW{a:J}{k:Y}(h:al k a)(Η:14<=k):bn k (aq a):=.divInt h ((by decide:al 14 10000).mono Η) (by decide)
theorem pz{a b:J}:aq a<aq b↔a<b:=by
 unfold aq;rw[lF,lF,RK (by decide),aiO (by decide)];exact aiP
theorem qS{a b:J}:aq a<=aq b↔a<=b:=by
 rw[<-rA,pz];exact(by simp)
theorem Av{a b:J}:aq a=aq b↔a=b:=by
 constructor
 ·intro e;have Δ:aq b<=aq a:=by rw[e];exact aiQ
  have:=qS.mp (by rw[e];exact aiQ:aq a<=aq b);have:=qS.mp Δ;exact np ‹_› this
 ·rintro rfl;rfl
theorem Fx(a b:J):aq a - aq b=aq (a - b):=by
 unfold aq;rw[Rat.divInt_sub_divInt _ _ (by decide) (by decide),<-Int.sub_mul,RL (by decide)]
theorem acK(a b:J):aq a+aq b=aq (a+b):=by
 unfold aq;rw[Rat.divInt_add_divInt _ _ (by decide) (by decide),<-Bx,RL (by decide)]
theorem akv(a k:J):aq a*(k:ai)=aq (a*k):=by
 have:(k:ai)=c8 k 1:=(yp (k:ai)).symm;unfold aq;rw[this,RH];rfl
theorem xp(k:J):aq (10000*k)=k:=by
 have:(k:ai)=c8 k 1:=(yp (k:ai)).symm;unfold aq;rw[this];exact aiR (n:=k) (d:=1) (a:=10000) (by decide)
noncomputable def dr(lo hi pl:J):J:=min (max pl (100*lo)) (100*hi)
theorem acL{v a b:J}(h:a<=b):clip (aq v) (aq a) (aq b)=aq (min (max v a) b):=by
 unfold clip;by_cases Α:v<a
 ·rw[cz (pz.mpr Α),RM (H5 Α),B4 h]
 ·rw[bL (λe=>Α (pz.mp e)),RN (H6 Α)];by_cases Δ:b<v
  ·rw[cz (pz.mpr Δ),B5 (H5 Δ)]
  ·rw[bL (λe=>Δ (pz.mp e)),B4 (H6 Δ)]
noncomputable abbrev b5:=ξ (I (J×J))
noncomputable def jn:b5->I ai->I ai
 |none,l=>l
 |some ls,l=>iw (λr cA=>clip r (aq (100*cA.1)) (aq (100*cA.2))) l ls
noncomputable def ge(x:J×J):ai×ai:=(aq (100*x.1),aq (100*x.2))
noncomputable def Fy(l:I (J×J)):O:=.lst (l.map λx=>fE (ge x))
noncomputable def pA:b5->O
 |none=>.none
 |some ls=>Fy ls
structure cT where
 ek:O
 fn:O
 low:J
 high:J
 ev:aQ
 f:J->I ai
noncomputable def n5(x:J×J):O:=.tup [.int x.1,.int x.2]
noncomputable def jX:b5->O
 |none=>.none
 |some ls=>.lst (ls.map n5)
noncomputable def ln(kind:J)(low high:J)(η:b5)(parts:I (Y×O)):O:=.obj 566 [(60,.int kind),(47,.lst [fE (ge (low,high))]),(75,pA η),(76,.Ω parts)]
noncomputable def dN(low high:J):Prop:=-2000<=low/\low<=high/\high<=2000
structure fG(count:Y)(ls:I (J×J)):Prop where
 len:ls.length=count
 ok:∀x∈ls,x.1<=x.2/\al 50 x.1/\al 50 x.2
noncomputable def pB(ak ag:I J):O:=.lst [.lst (b2 ak),.lst (b2 ag)]
noncomputable def sG(low high:J)(η:b5)(N:Y)(ak ag:I J):O:=.Ω [(60,.int 2),(64,.int low),(57,.int high),(63,jX η),(78,.int N),(83,pB ak ag)]
noncomputable def b7(l:I J):I ai:=l.map λa=>aq (100*a)
noncomputable def pC(low high:J)(η:b5)(N:Y)(ak ag:I J):O:=ln 2 low high η [(13,.lst (bp (b7 ak))),(15,.lst (bp (b7 ag))),(23,.int N)]
noncomputable def jY(x:ai)(N:Y)(a b:ai):ai:=a+x^N*(b - a)
noncomputable def Aw(low high:J)(η:b5)(N:Y)(ak ag:I J)(pl:J):I ai:=jn η (iw (jY (aq (dr low high pl)) N) (b7 ak) (b7 ag))
noncomputable def fq(count k:Y):I (J×J):=d0 count (0,100*(256^k - 1))
noncomputable def xq(low high:J)(η:b5)(k:Y)(ak ag:I J):O:=.Ω [(60,.int 0),(64,.int low),(57,.int high),(63,jX η),(40,.int (8*k)),(83,pB ak ag)]
noncomputable def qT(low high:J)(η:b5)(k:Y)(ak ag:I J):O:=ln 0 low high η [(28,.lst [.int 2]),(8,.int (8*k)),(18,.lst [fE (0,1)]),(16,pA η),(27,.lst (b2 (ak++ag)))]
noncomputable def qU(low high pl:J):ai:=moved (aq pl) (aq (100*low)) (aq (100*high)) 0 1
noncomputable def pD(x:ai)(a b:J):ai:=a+x*(b - a)
noncomputable def Fz(low high:J)(η:b5)(ak ag:I J)(pl:J):I ai:=jn η (iw (pD (qU low high (dr low high pl))) ak ag)
noncomputable def Ax(low high:J)(η:b5)(neg add:J)(count:Y):O:=.Ω [(60,.int 4),(64,.int low),(57,.int high),(63,jX η),(79,.lst [.int neg,.int add,.int count])]
noncomputable def qV(low high:J)(η:b5)(neg add:J)(count:Y):O:=ln 4 low high η [(24,.lst [.int neg,.int add,.int count])]
noncomputable def l8(x:ai)(neg add:J)(bH:Y):ai:=(if neg=0 then x else -x)+((add+bH:J):ai)
noncomputable def FA(low high:J)(η:b5)(neg add:J)(count:Y)(pl:J):I ai:=jn η ((fK count).map (l8 (aq (dr low high pl)) neg add))
inductive gs(count:Y):cT->Prop
 |pow (low high:J) (η:b5) (N:Y) (ak ag:I J) (g:dN low high) (Τ:∀ls,η=some ls->fG count ls) (bZ:N<=64) (h0:ak.length=count) (Α:ag.length=count) (eD:∀a∈ak,-1000<=a/\a<=1000) (dv:∀a∈ag,-1000<=a/\a<=1000):
  gs count ⟨sG low high η N ak ag,pC low high η N ak ag,low,high,false,Aw low high η N ak ag⟩
 |sH (low high:J) (k:Y) (ak ag:I J) (g:dN low high) (Η:1<=k/\k<=4) (h0:ak.length=count) (Α:ag.length=count) (eD:∀a∈ak,0<=a/\a<256^k) (dv:∀a∈ag,0<=a/\a<256^k):
  gs count ⟨xq low high (some (fq count k)) k ak ag,qT low high (some (fq count k)) k ak ag,low,high,false,Fz low high (some (fq count k)) ak ag⟩
 |sI (low high:J) (ls:I (J×J)) (neg add:J) (g:dN low high) (Τ:fG count ls) (Ζ:neg=0∨neg=1) (γ:0<=add/\add<256):
  gs count ⟨Ax low high (some ls) neg add count,qV low high (some ls) neg add count,low,high,false,FA low high (some ls) neg add count⟩
noncomputable abbrev cP:=cT×J×J
noncomputable def m8(x:cP):O:=.tup [x.1.ek,.int x.2.1,.int x.2.2]
noncomputable def jZ(low high:J)(η:b5)(ς:I J)(parts:I cP):I (Y×O):=[(60,.int 3),(64,.int low),(57,.int high),(41,.lst (b2 ς)),(76,.lst (parts.map m8)),(63,jX η)]
noncomputable def hY:J->I J->I cP->I (J×J)
 |b,e::line,x::parts=>(100*x.2.1,100*x.2.1+25*x.2.2*(e - b))::hY e line parts
 |_,_,_=>[]
noncomputable def n6(x:J×J):ai×ai:=(aq x.1,aq x.2)
noncomputable def sJ(low high:J)(η:b5)(ς:I J)(parts:I cP):O:=
 ln 3 low high η [(21,.lst (parts.map λx=>x.1.fn)),(10,.lst (bp (b7 ς))),(18,.lst ((hY low (ς++[high]) parts).map λx=>fE (n6 x)))]
noncomputable def qW:J->I J->I cP->J->I ai
 |b,[],x::_,v=>x.1.f (100*x.2.1+x.2.2*(v - 100*b) / 4)
 |b,e::ς,x::parts,v=>if 100*e<=v then qW e ς parts v else x.1.f (100*x.2.1+x.2.2*(v - 100*b) / 4)
 |_,_,[],_=>[]
noncomputable def xr(low high:J)(η:b5)(ς:I J)(parts:I cP)(pl:J):I ai:=jn η (qW low ς parts (dr low high pl))
structure NZ(P:cT->Prop)(x:cP):Prop where
 ok:P x.1
 start: -2000<=x.2.1/\x.2.1<=2000
 eL: -8<=x.2.2/\x.2.2<=8
 whole:x.1.ev=true->4∣x.2.2
noncomputable def lp:J->I J->J->Prop
 |b,[],h=>b<=h
 |b,e::l,h=>b<=e/\lp e l h
structure uN(P:cT->Prop)(count:Y)(low high:J)(η:b5)(ς:I J)(parts:I cP):Prop where
 g:dN low high
 up:lp low ς high
 len:parts.length=ς.length+1
 gI:parts.length<=4
 Τ:∀ls,η=some ls->fG count ls
 ok:∀x∈parts,NZ P x
inductive Ay(P:cT->Prop)(count:Y):cT->Prop
 |mk (low high:J) (η:b5) (ς:I J) (parts:I cP) (more:I (Y×O)) (h:uN P count low high η ς parts):
  Ay P count ⟨.Ω (jZ low high η ς parts++more),sJ low high η ς parts,low,high,true,xr low high η ς parts⟩
noncomputable def pE(count:Y):Y->cT->Prop
 |0,nd=>gs count nd
 |L+1,nd=>gs count nd∨Ay (pE count L) count nd
theorem fF.set{c c':Ι}{d:ε}{k:ξ fY}(h:fF c c')(hd:c d=none):fF c (upd c' d k):=λa x e=>(a3 _ _ λq=>by rw[q,hd] at e;contradiction).trans (h a x e)
noncomputable def hv(k:Y)(l:I ai):Prop:=∀r∈l,bn k r
section
variable{r s x:ai}{T:ε}{η:b5}{pl kind:J}{parts:I (Y×O)}
theorem bn.pow(h:bn i x)(hi:1<=i)(N:Y):bn (i*N+1) (x^N):=
 ⟨h.num.pow hi N,by
  have:=h.den.pow hi N;rw[aiS,Hr];exact this⟩
inductive FC(c:Ι)(d:ε)(g:I ai)(x:ai)(N:Y)(f:ξ O->ξ O->Ο):I O->Ο->Ι->Prop
 |mk (done dI cY:I ai) (o aU:ξ O) (e:g=done++iw (jY x N) dI cY) (jl:hv 64 dI) (ds:hv 64 cY) (Ρ:done.length+dI.length<=1000):FC c d g x N f (kj (bp dI) (bp cY)) (f o aU) (upd c d (some (.lst (bp done))))
theorem acM{y z:ai}(Ν:bn i x)(h:bn 64 y)(h':bn 64 z)(N:Y)(hi:1<=i/\i<=20)(bZ:N<=64):bn 4000 (jY x N y z):=by
 have:i*N<=20*64:=rn hi.2 bZ;exact(h.add ((Ν.pow hi.1 N).mul (h'.sub h))).mono (θ [((_*_):Y)] [] (.le (.a (.a (.c 64) (.a (.a (.v 0) (.c 1)) (.a (.a (.c 64) (.c 64)) (.c 1)))) (.c 1)) (.c 4000)) [(.le (.v 0) (.m 20 (.c 64)))] [[1,1]] rfl this)
theorem acN{N:Y}{dI cY:I ai}(G:ar p)(Ζ:4<=n)(Ν:bn 20 x)(bZ:N<=64)(jl:hv 64 dI)(ds:hv 64 cY)(Ρ:dI.length<=1000)(h:∀c',fF c c'->Q (.lst (bp (iw (jY x N) dI cY))) c'):
 aF p n (.val (.ref 633)) [.Ω [(13,.lst (bp dI)),(15,.lst (bp cY)),(23,.int N)],bb x] c Q Er:=by
 refine .at Ζ ?_;refine aaR G rfl ?_;have Az:20*N<=20*64:=rn (i2 _) bZ;refine⟨⟨jt N,kA (i:=20) (j:=N) Ν.num (Ii Az)⟩,?_⟩;refine⟨⟨jt N,kA (i:=20) (j:=N) Ν.den (Ii Az)⟩,?_⟩;rw[(by rw[aiS,Hr];rfl:(x.den:J)^(N:J).toNat=((x^N).den:J))];refine λd hd=>⟨by rw[pw];exact aR Ρ rfl,?_⟩;refine Ap (FC c d (iw (jY x N) dI cY) x N λo aU=>[some (.Ω [(13,.lst (bp dI)),(15,.lst (bp cY)),(23,.int N)]),some (bb x),some (bb (x^N)),some (.loc d),o,aU]) ?_ ?_ _ _ _ (.mk [] dI cY none none rfl jl ds (by simpa using Ρ))
 ·rintro ρ c' dn;generalize Ν:([]:I O)=xs at dn;obtain⟨done,uO,uP,o,aU,e,t0,dA,Ρ⟩:=dn;have fx:iw (jY x N) uO uP=[]:=by
   cases uO with
   |nil=>rfl
   |cons y l=>cases uP with
    |nil=>rfl
    |cons z l'=>contradiction
  rw[fx,gj] at e;refine as _ (aj ..) ?_;have:=h (upd (upd c d (some (.lst (bp done)))) d none) ((fF.new hd).set hd);rw[e] at this;exact this
 ·rintro y xs ρ c' Ξ dn;generalize qp:y::xs=uL at dn;obtain⟨done,uO,uP,o,aU,e,t0,dA,Ρ⟩:=dn;cases uO with
  |nil=>cases qp
  |cons u uO=>
  cases uP with
  |nil=>contradiction
  |cons z uP=>
  rcases qp with ⟨⟩
  have uv:=t0 u (.head _);have sK:=dA z (.head _);refine as _ (aj ..) ?_;refine qN G (by decide) sK uv (by decide) ?_;refine uG (r:=x^N) G (by decide) (Ν.pow (by decide) N) (sK.sub uv) (θ [_] [] (.le (.a (.a (.m 20 (.v 0)) (.c 1)) (.a (.a (.c 64) (.c 64)) (.c 1))) (.c 9000)) [(.le (.m 20 (.v 0)) (.m 20 (.c 64)))] [[1,1]] rfl Az) ?_;refine Fj G (by decide) uv ((Ν.pow (by decide) N).mul (sK.sub uv)) (θ [_] [] (.le (.a (.c 64) (.a (.a (.m 20 (.v 0)) (.c 1)) (.a (.a (.c 64) (.c 64)) (.c 1)))) (.c 9000)) [(.le (.m 20 (.v 0)) (.m 20 (.c 64)))] [[1,1]] rfl Az) ?_;rw[kP] at Ρ;refine dj _ (aj ..) (by rw[pw];exact IX Ρ) ?_;rw[dX];have:=FC.mk (c:=c) (d:=d) (g:=iw (jY x N) dI cY) (x:=x) (N:=N) (f:=λo aU=>[some (.Ω [(13,.lst (bp dI)),(15,.lst (bp cY)),(23,.int N)]),some (bb x),some (bb (x^N)),some (.loc d),o,aU]) (done++[jY x N u z]) uO uP (some (bb u)) (some (bb z)) (by rw[e];simp) (λr Χ=>t0 r (.tail _ Χ)) (λr Χ=>dA r (.tail _ Χ)) (by rw[fa,lE];exact IW Ρ);rw[(by unfold bp;rw[h8];rfl:bp (done++[jY x N u z])=bp done++[bb (jY x N u z)])] at this;exact Ξ _ _ this
theorem FD(G:ar p)(Ζ:1<=n)(h:Q (.int 1) c):aF p n (.val (.ref 551)) [ln kind low high η parts] c Q Er:=by
 refine .at Ζ ?_;refine M6 G rfl ?_;exact eK (bu rfl) h
inductive FE(c:Ι)(g:I ai)(f:ξ O->ξ O->Ο):I O->I O->Ο->Ι->Prop
 |mk (done rs:I ai) (ls:I (J×J)) (o aU:ξ O) (e:g=done++jn (some ls) rs) (akw:hv 4000 rs) (f2:∀x∈ls,al 50 x.1/\al 50 x.2):FE c g f (kj (bp rs) (ls.map λx=>fE (ge x))) (bp done) (f o aU) c
theorem uQ{a:J}(h:al 50 a):bn 64 (aq (100*a)):=jW ((al.mul (a:=100) (i:=7) (by decide) h).mono (by decide)) (by decide)
theorem AA{f FF:O}(G:ar p)(Ζ:2<=n)(hf:f=ln kind low high η parts)(Τ:∀ls,η=some ls->∀x∈ls,al 50 x.1/\al 50 x.2)(Χ:hv 4000 rs)(Ρ:rs.length<=1000)(h:Q (.lst (bp (jn η rs))) c):
 bh p a1 a6 Er n (.cons (.qe (.cmp .Is (.attr (.var 0) 75) (.cst (.none))) (.cons (.ret (.var 4)) .nil) .nil) (.cons (.ret (.comp 2 (.call (.cst (.val (.ref 510))) (.cons (.var 5) (.cons (.var 6) .nil))) (.tup [5,6]) (.zip (.var 4) (.attr (.var 0) 75)) .nil)) .nil)) [some f,some v,some w,some FF,some (.lst (bp rs))] c (λH c'=>Q .none c') (λx H c'=>Q x c'):=by
 subst hf;cases η with
 |none=>exact h
 |some ls=>
  refine⟨by rw[pw];exact aR Ρ rfl,?_⟩;refine Aq (FE c (jn (some ls) rs) λo aU=>[some (ln kind low high (some ls) parts),some v,some w,some FF,some (.lst (bp rs)),o,aU]) ?_ ?_ _ _ _ _ (.mk [] rs ls none none rfl Χ (Τ ls rfl))
  ·rintro acc ρ c' dn;generalize Ν:([]:I O)=xs at dn;obtain⟨done,m7,iP,o,aU,e,t0,dA⟩:=dn;have fx:jn (some iP) m7=[]:=by
    cases m7 with
    |nil=>rfl
    |cons y l=>cases iP with
     |nil=>rfl
     |cons z l'=>contradiction
   rw[fx,gj] at e;rw[e] at h;exact h
  ·rintro y xs acc ρ c' Ξ dn;generalize qp:y::xs=uL at dn;obtain⟨done,m7,iP,o,aU,e,t0,dA⟩:=dn;cases m7 with
   |nil=>cases qp
   |cons u m7=>
   cases iP with
   |nil=>contradiction
   |cons z iP=>
   rcases qp with ⟨⟩
   have sK:=dA z (.head _);refine Fk G Ζ (t0 u (.head _)) ((uQ sK.1).mono (by decide)) ((uQ sK.2).mono (by decide)) (by decide) ?_;have:=FE.mk (c:=c) (g:=jn (some ls) rs) (f:=λo aU=>[some (ln kind low high (some ls) parts),some v,some w,some FF,some (.lst (bp rs)),o,aU]) (done++[clip u (aq (100*z.1)) (aq (100*z.2))]) m7 iP (some (bb u)) (some (fE (ge z))) (by rw[e];simp[jn]) (λr Χ=>t0 r (.tail _ Χ)) (λr Χ=>dA r (.tail _ Χ));have bk:bp (done++[clip u (aq (100*z.1)) (aq (100*z.2))])=bp done++[bb (clip u (aq (100*z.1)) (aq (100*z.2)))]:=by unfold bp;rw[h8];rfl
   rw[bk] at this;exact Ξ _ _ _ this
end
section
variable{α:Type}{tgt:O->Ο->(Ο->Prop)->Prop}{d1:Ο->Ι->(Ο->Ι->Prop)->(Ο->Ι->Prop)->Prop}{aN:Ο->Ι->(O->Ο->Ι->Prop)->Prop}{dd:I O->Ο->Ι->Prop}{body:Ο->Ι->(Ο->Ι->Prop)->Prop}{Q:Ο->Ι->Prop}{f:α->O}{o:ξ α}
noncomputable abbrev uR(tgt:O->Ο->(Ο->Prop)->Prop)(d1:Ο->Ι->(Ο->Ι->Prop)->(Ο->Ι->Prop)->Prop)(aN:Ο->Ι->(O->Ο->Ι->Prop)->Prop)(x:O)(acc:I O)(ρ:Ο)(c:Ι)(K:I O->Ο->Ι->Prop):Prop:=
 tgt x ρ λρ=>d1 ρ c (λρ c=>aN ρ c λv ρ c=>K (acc++[v]) ρ c) (λρ c=>K acc ρ c)
theorem uS(aG:I α->I O->Ο->Ι->Prop)(step:∀x l acc ρ c K,aG (x::l) acc ρ c->(∀acc ρ c,aG l acc ρ c->K acc ρ c)->uR tgt d1 aN (f x) acc ρ c K)(cq:∀acc ρ c,aG [] acc ρ c->dd acc ρ c):
 ∀l acc ρ c,aG l acc ρ c->dT tgt d1 aN (l.map f) acc ρ c dd
 |[],acc,ρ,c,h=>cq acc ρ c h
 |x::l,acc,ρ,c,h=>step x l acc ρ c _ h λacc ρ c h=>uS aG step cq l acc ρ c h
theorem m9(g:α->O)(st:ξ α->Ο)(l:I α):∀(acc:I O) (o:ξ α),(∀x∈l,∀o acc (K:I O->Ο->Ι->Prop),K (acc++[g x]) (st (some x)) c->uR tgt d1 aN (f x) acc (st o) c K)->(∀o,dd (acc++l.map g) (st o) c)->dT tgt d1 aN (l.map f) acc (st o) c dd:=by
 induction l with
 |nil=>
  exact λacc o h eH=>by
   have:=eH o;rw[RO,gj] at this;exact this
 |cons x l Ξ=>
  exact λacc o h eH=>h x (.head _) o acc (λacc ρ c=>dT tgt d1 aN (l.map f) acc ρ c dd) (Ξ (acc++[g x]) (some x) (λy aX=>h y (.tail _ aX)) λo=>by rw[oy];exact eH o)
theorem FG(st:ξ α->Ο)(l:I α):∀(o:ξ α),(∀x∈l,∀o (K:I O->Ο->Ι->Prop),K [] (st (some x)) c->uR tgt d1 aN (f x) [] (st o) c K)->(∀o,dd [] (st o) c)->dT tgt d1 aN (l.map f) [] (st o) c dd:=by
 induction l with
 |nil=>
  exact λo h eH=>eH o
 |cons x l Ξ=>
  exact λo h eH=>h x (.head _) o (λacc ρ c=>dT tgt d1 aN (l.map f) acc ρ c dd) (Ξ (some x) (λy aX=>h y (.tail _ aX)) eH)
theorem acO(st:ξ α->Ο)(z:α)(l:I α):∀(acc:I O) (o:ξ α),(∀x∈l,∀o acc (K:I O->Ο->Ι->Prop),(x≠z->K acc (st (some x)) c)->(∀v,K (acc++[v]) (st (some x)) c)->uR tgt d1 aN (f x) acc (st o) c K)->(z∈l∨acc≠[])->(∀v vs o,dd (v::vs) (st o) c)->dT tgt d1 aN (l.map f) acc (st o) c dd:=by
 induction l with
 |nil=>
  exact λacc o h Ρ eH=>by
   rcases Ρ with Ρ|Ρ
   ·contradiction
   ·rcases acc with _|⟨v,vs⟩
    ·exact absurd rfl Ρ
    ·exact eH v vs o
 |cons x l Ξ=>
  exact λacc o h Ρ eH=>h x (.head _) o acc (λacc ρ c=>dT tgt d1 aN (l.map f) acc ρ c dd) (λΝ=>Ξ acc (some x) (λy aX=>h y (.tail _ aX)) (Ρ.imp (λΡ=>by rcases Ρ with ⟨⟩;exact absurd rfl Ν;assumption) id) eH) λv=>
   Ξ (acc++[v]) (some x) (λy aX=>h y (.tail _ aX)) (.inr (by simp)) eH
theorem qX(aG:I α->Ο->Ι->Prop)(step:∀x l ρ c K,aG (x::l) ρ c->(∀ρ c,aG l ρ c->K ρ c)->tgt (f x) ρ λρ=>body ρ c K)(cq:∀ρ c,aG [] ρ c->Q ρ c):
 ∀l ρ c,aG l ρ c->mJ tgt body (l.map f) ρ c Q
 |[],ρ,c,h=>cq ρ c h
 |x::l,ρ,c,h=>step x l ρ c _ h λρ c h=>qX aG step cq l ρ c h
theorem N0{β:Type}(f:α->O)(g:β->O):∀(l:I α) (l':I β),kj (l.map f) (l'.map g)=(l.zip l').map λx=>.tup [f x.1,g x.2]
 |[],l'=>by rcases l' with ⟨⟩<;>rfl
 |x::l,[]=>rfl
 |x::l,y::l'=>cE (_::·) (N0 f g l l')
theorem qY(st:J):∀(n:Y) (lo:J),fP lo st n=(fK n).map λi=>.int (lo+st*(i:Y))
 |0,lo=>rfl
 |n+1,lo=>by
  change O.int lo::fP (lo+st) st n=_;rw[qY st n (lo+st),RP,i4,lG];congr 1
  ·simp
  ·apply BR;intro i _;show O.int _=O.int _;congr 1;rw[Int.natCast_succ,GB];exact(by simp+arith)
theorem n7(n:Y):fP 0 1 n=(fK n).map λi=>.int (i:Y):=by
 rw[qY];apply BR;intro i _;rw[rh,mj]
end
theorem FH{α:Type}(f:α->O):∀(l:I α) (i:Y),mF (l.map f) i=l[i]?.map f
 |[],i=>rfl
 |x::l,0=>rfl
 |x::l,i+1=>FH f l i
theorem l9{α:Type}{f:α->O}{l:I α}{i:Y}{x:α}(h:l[i]?=some x)(Τ:l.length<=10000):eX (l.map f) (i:J)=some (f x):=by
 have:=(j7.mp h).1;exact Au (by rw[FH,h];rfl) (by rw[bV];exact this) (by rw[bV];exact Τ)
theorem n8{α:Type}{p:bP}{n:Y}{c:Ι}{Q:O->Ι->Prop}{Er:Prop}{f:α->O}{l:I α}(Τ:l.length<=10000)(h:Q (.int (l.length:Y)) c):aF p n (.val (.builtin "len")) [.lst (l.map f)] c Q Er:=
 eK (by rw[bV];exact aR Τ rfl) (by rw[bV];exact h)
section
variable{r s:ai}{T:ε}{ps:I (ai×ai)}{items:I O}
theorem acP(G:ar p)(Ζ:5<=n)(Θ:c T=some (.tab t))(δ:co t)(Η:bU ((bl l k).getD .none))(aH:hu t l k= .lst items)(Ρ:ps.length<=400)(h0:ps≠[])(Τ:gd t items (dq ps))(Χ:px ps)(h:Q (.lst (ps.map fE)) c):aF p n (.val (.ref 582)) [cM T,.Ω l,.sym k] c Q Er:=by
 refine .at Ζ ?_;refine M8 G rfl ?_;have fR:=uJ ps;refine Fq G (by decide) Θ δ Η aH (Jo fR Τ.length Ρ) Τ ?_;have av:=pw (dq ps);refine eK (yM fR av Ρ) ?_;refine⟨by decide,?_⟩;refine qM (by rw[av,fR,nv _ (by decide)];exact(by simp)) ?_;have bF:qf (bp (dq ps))=false:=by
  rcases ps with _|⟨x,l⟩
  ·exact absurd rfl h0
  ·rfl
 show fO (qf (bp (dq ps))) _ _;rw[bF];refine eK (yM fR av Ρ) ?_;refine⟨⟨by decide,by decide,by decide,by decide,by exact rM,by exact Jn fR av Ρ,by exact Jm fR av Ρ⟩,?_⟩;rw[av,fR,NV,qY];refine m9 (f:=λi:Y=>.int (0+2*(i:J))) (λi:Y=>fE (ps.getD i (0,0))) (λo=>[some (cM T),some (.Ω l),some (.sym k),some (.lst (bp (dq ps))),none,o.map λi:Y=>O.int (0+2*(i:J))]) (fK ps.length) [] none (λi hi o acc K aC=>?_) λo=>?_
 ·have hi:=mw.mp hi;have e:ps=ps.take i++ps[i]::ps.drop (i+1):=(aiT i ps).symm.trans (cE _ (Hj hi));have lJ:=NW (pre:=ps.take i) (x:=ps[i]) (suf:=ps.drop (i+1)) (by rw[<-e];exact qa Ρ rfl);rw[<-e,B6,ahY (GJ hi)] at lJ;have zo:(0:J)+2*(i:J)=((2*i:Y):J):=mj _;rw[(by rw[lA,gY hi];rfl:ps.getD i (0,0)=ps[i])] at aC;rw[zo];exact cO lJ.1 (cO lJ.2 (zo▸aC))
 ·have Fs:(fK ps.length).map (λi=>fE (ps.getD i (0,0)))=ps.map fE:=by
   refine List.ext_getElem (by simp) λi Α Δ=>?_;rw[bV] at Δ;rw[aiU,aiU,List.getElem_range,lA,gY Δ];rfl
  rw[i6,Fs];refine⟨by rw[bV];exact aR Ρ rfl,?_⟩;refine FG (λo=>[some (cM T),some (.Ω l),some (.sym k),some (.lst (bp (dq ps))),some (.lst (ps.map fE)),o.map fE]) ps none (λy aX o K aC=>?_) λo=>h;refine e7 (Χ y aX) λzm mO sC=>?_;exact uH G (by decide) sC mO (by decide) (qM (rA.mpr zm) aC)
end
theorem acQ{a:J}{d:Y}{x:ai}(hd:d≠0)(Θ:kQ a d=1)(e:x=c8 a d):bb x= .tup [.int a,.int d]:=by
 have:x=⟨a,d,hd,Θ⟩:=by rw[e];exact yp ⟨a,d,hd,Θ⟩
 rw[this];rfl
theorem N1(x:ai)(k:J):bb (x+(k:ai))= .tup [.int (x.num+k*x.den),.int x.den]:=by
 refine acQ x.den_nz ?_ ?_
 ·have:=x.reduced;rw[Int.gcd_add_mul_right_left];exact this
 ·rw[NF];show c8 (x.num*1+k*x.den) (x.den*1)=_;rw[rB,rB]
section
variable{r s x:ai}{T:ε}{η:b5}{neg add:J}
theorem acR(G:ar p)(Ζ:1<=n)(Ν:bn 100 x)(γ:al 20 add)(Θ:count<=100)(h:Q (.lst (bp ((fK count).map (l8 x neg add)))) c):aF p n (.val (.ref 748)) [.lst [.int neg,.int add,.int count],.lst [bb x]] c Q Er:=by
 refine .at Ζ ?_;refine aa9 G rfl ?_;refine⟨⟨by decide,by decide,by decide,by decide,by exact rM,by exact Iw Θ,by exact Iv Θ⟩,?_⟩;rw[lm,n7];refine m9 (λk=>bb (l8 x neg add k)) (λo=>[some (.lst [.int neg,.int add,.int count]),some (.lst [bb x]),some (.int x.num),some (.int x.den),o.map λk:Y=>.int k]) (fK count) [] none (λk Η o acc K aC=>?_) λo=>?_
 ·have hm:vr (add+k) x.den:=bT (i:=21) (γ.add (al.of (n:=101) (aP (mw.mp Η) (aP Θ (by decide))) (by decide))) Ν.den (by decide);unfold l8 at aC;refine d4 (λe=>?_) λe=>?_
  ·rw[cz e,N1] at aC;exact⟨hm,aC⟩
  ·rw[bL e,N1,aiV,aiW,<-aiX] at aC;exact⟨hm,aC⟩
 ·unfold bp at h;rw[lG] at h;exact h
theorem acS{ls:I (J×J)}(G:ar p)(Ζ:2<=n)(Ν:bn 100 x)(γ:al 20 add)(Θ:count<=100)(Τ:ls.length=count)(h:Q (.lst (bp ((fK count).map (l8 x neg add)))) c):aF p n (.val (.ref 661)) [qV low high (some ls) neg add count,.lst [bb x],.val (.ref 748)] c Q Er:=by
 refine .at Ζ ?_;refine aaV G rfl ?_;refine acR G (by decide) Ν γ Θ ?_;refine n8 (by simp;exact aR Θ rfl) ?_;refine n8 (cJ Τ Θ rfl) ?_;show fO (!decide _) _ _;rw[bV,yq,Τ,jw rfl];exact h
theorem FI{bs:I h5}(G:ar p)(Ζ:1<=n)(h:Q (.bytes bs) c):aF p n (.val (.ref 736)) [v,l6 w (.bytes bs)] c Q Er:=by
 refine .at Ζ ?_;refine aa7 G rfl ?_;exact acg h
theorem N2{bs:I h5}(G:ar p)(Ζ:1<=n)(Ρ:bs.length<=10000)(h:Q (.lst (bs.map λc=>.int c.toNat)) c):aF p n (.val (.ref 743)) [.bytes bs] c Q Er:=by
 refine .at Ζ ?_;refine aa8 G rfl ?_;exact acf Ρ h
noncomputable def ma(s:ai)(count:Y):I (ai×J):=if s=1 then [(1,count)] else if s=0 then [(1,0)] else [(1 - s,0),(s,count)]
noncomputable def FJ(x:ai×J):O:=.tup [bb x.1,.int x.2]
theorem acT(h0:0<=s)(Α:s<=1):s.num / (s.den:J)=if s=1 then 1 else 0:=by
 have hd:=s.den_pos;split
 ·rename_i e;rw[e];rfl
 ·rename_i e;refine aiN (Rat.num_nonneg.mpr h0) ?_;have:=(Rat.le_iff s 1).mp Α;have Α:s.num*1<=1*(s.den:J):=this;rw[rB,rh] at Α;rcases Qd Α with h|h
  ·exact h
  ·refine absurd ?_ e;have q:=s.reduced;rw[h,aix,Nat.coprime_self] at q;exact RI (by rw[h,q];rfl) q
theorem AB{x y:ai}{P dt:Prop}(jL:x≠y->P)(eH:x=y->dt):hR (tM (bb x) (bb y)) P dt:=by
 show fO (!(decide (x.num=y.num)&&decide ((x.den:J)=y.den))) P dt;by_cases e:x=y
 ·subst e;rw[jw rfl,jw rfl];exact eH rfl
 ·have:(decide (x.num=y.num)&&decide ((x.den:J)=y.den))=false:=by
   rw[aiI,Ho,Ho];by_cases q:x.num=y.num
   ·exact .inr λfi=>e (RI q (CM fi))
   ·exact .inl q
  rw[this];exact jL e
end
section
variable{r s x:ai}{T:ε}{η:b5}{neg add:J}
theorem hw:bn 1 1:=⟨by decide,by decide⟩
theorem lq:bn 1 0:=⟨by decide,by decide⟩
theorem uT(r:ai):r - 0=r:=by rw[B7,show(-0:ai)=0 from rfl,RQ]
theorem acU:¬(0:ai)=1:=by decide
theorem acV{u e AD ss:O}(G:ar p)(Ζ:4<=n)(σ:bn 2000 s)(h0:0<=s)(Α:s<=1)(Θ:count<=100)(h:Q (.lst ((ma s count).map FJ)) c):aF p n (.val (.ref 647)) [.Ω [(28,.lst [.int 2]),(8,u),(18,e),(16,AD),(27,ss)],.lst [bb s],.int count] c Q Er:=by
 refine .at Ζ ?_;refine aaT G rfl ?_;dsimp only[eU,fz,vK,oI,i6,gj];have sc:al 7 (count:J):=.of (n:=101) (CI Θ) (by decide);refine ft (bu rfl) ⟨jk s,iO (i:=2000) σ.den (by decide)⟩ ?_;refine Ny ?_;rw[nx _ (oP),acT h0 Α];unfold ma at h;have cq:∀{l'} l c',l=l'->c'=c->Q (.lst l') c->Q (.lst l) c':=λl c' e aT h=>by rw[e,aT];exact h
 by_cases bd:s=1
 ·have fx:s - 1=0:=by rw[bd,Rat.sub_self]
  rw[cz bd] at h ⊢;refine qN (s:=1) G (by decide) σ hw (by decide) ?_;have Ρ:bn 2010 (s - 1):=(σ.sub hw).mono (by decide);generalize s - 1=r at fx Ρ ⊢;refine λd hd=>⟨bu rfl,?_⟩;dsimp only[eU,fz,vK,oI,i6,gj];refine AB (x:=r) (y:=1) (λH=>?_) λe=>absurd (fx.symm.trans e) acU;refine as _ (aj ..) ?_;refine qN (r:=1) (s:=r) G (by decide) hw Ρ (by decide) ?_;refine uG (r:=1) (s:=1 - r) G (by decide) hw (hw.sub Ρ) (by decide) ?_;refine⟨bT (i:=1) (by decide) sc (by decide),?_⟩;refine dj _ (aj ..) (bu rfl) ?_;refine AB (x:=r) (y:=0) (λe=>absurd fx e) λe=>?_;refine as _ (aj ..) ⟨bT sc (j:=2) (by decide) (by decide),?_⟩;refine cq _ _ ?_ (by rw[dX,qO hd]) h;rw[fx];show[O.tup [bb _,.int (0+1*(count:J))]]=[O.tup [bb 1,.int count]];rw[rh,mj,rC,uT]
 ·rw[bL bd] at h ⊢;refine qN (s:=0) G (by decide) σ lq (by decide) ?_;rw[uT];refine λd hd=>⟨bu rfl,?_⟩;dsimp only[eU,fz,vK,oI,i6,gj];refine AB (x:=s) (y:=1) (λH=>?_) λe=>absurd e bd;refine as _ (aj ..) ?_;refine qN (r:=1) G (by decide) hw σ (by decide) ?_;refine uG (r:=1) G (by decide) hw (hw.sub σ) (by decide) ?_;refine⟨bT (i:=1) (by decide) sc (by decide),?_⟩;refine dj _ (aj ..) (bu rfl) ?_;refine AB (x:=s) (y:=0) (λfx=>?_) λfx=>?_
  ·rw[bL fx] at h;refine as _ (aj ..) ?_;refine uG (r:=1) G (by decide) hw σ (by decide) ?_;refine⟨bT (i:=1) (by decide) sc (by decide),?_⟩;refine dj _ (aj ..) (bu rfl) ?_;refine as _ (aj ..) ⟨bT sc (j:=2) (by decide) (by decide),?_⟩;refine cq _ _ ?_ (by rw[dX,dX,qO hd]) h;show[O.tup [bb _,.int (0+0*(count:J))],O.tup [bb _,.int (0+1*(count:J))]]=[O.tup [bb _,.int 0],O.tup [bb _,.int count]];rw[rh,xX,mj,mj,rC,rC]
  ·rw[cz fx] at h;refine as _ (aj ..) ⟨bT sc (j:=2) (by decide) (by decide),?_⟩;refine cq _ _ ?_ (by rw[dX,qO hd]) h;show[O.tup [bb _,.int (0+0*(count:J))]]=[O.tup [bb 1,.int 0]];rw[xX,fx,rC,uT];rfl
end
section
variable{α:Type}{tgt:O->Ο->(Ο->Prop)->Prop}{body:Ο->Ι->(Ο->Ι->Prop)->Prop}{Q:Ο->Ι->Prop}{f:α->O}
theorem acW(g:α->O)(mb:Ο->Prop)(l:I α):∀(acc:I O) (ρ:Ο),mb ρ->acc.length+l.length<=10000->(∀x∈l,∀ρ acc (K:Ο->Ι->Prop),mb ρ->acc.length<=10000->(∀ρ,mb ρ->K ρ (upd c d (some (.lst (acc++[g x])))))->tgt (f x) ρ λρ=>body ρ (upd c d (some (.lst acc))) K)->(∀ρ,mb ρ->Q ρ (upd c d (some (.lst (acc++l.map g)))))->mJ tgt body (l.map f) ρ (upd c d (some (.lst acc))) Q:=by
 induction l with
 |nil=>
  exact λacc ρ s Ρ h eH=>by
   have:=eH ρ s;rw[RO,gj] at this;exact this
 |cons x l Ξ=>
  exact λacc ρ s Ρ h eH=>h x (.head _) ρ acc (λρ c=>mJ tgt body (l.map f) ρ c Q) s (aP (io _ _) Ρ) λρ s=>Ξ (acc++[g x]) ρ s (by simp at Ρ ⊢;exact θ [_,_] [] (.le (.a (.a (.v 0) (.c 1)) (.v 1)) (.c 10000)) [(.le (.a (.v 0) (.a (.v 1) (.c 1))) (.c 10000))] [[1,1]] rfl Ρ) (λy aX=>h y (.tail _ aX)) λρ s=>by rw[oy];exact eH ρ s
end
noncomputable def FK(S:J->ai):I (ai×J)->ai->ai
 |[],t=>t
 |x::l,t=>FK S l (t+x.1*S x.2)
theorem acX(S:J->ai)(s:ai)(count:Y):FK S (ma s count) 0=S 0+s*(S count - S 0):=by
 unfold ma;split
 ·rename_i e;rw[e];show 0+1*S count=_;rw[rC,rC,yo,aiY,aiH]
 ·split
  ·rename_i e;rw[e];show 0+1*S 0=_;rw[rC,RR,yo,RQ]
  ·show 0+(1 - s)*S 0+s*S count=_;rw[yo,B7,B7,Rat.add_mul,rC,Rat.mul_add,Rat.neg_mul,Rat.mul_neg,Rat.add_assoc,aiY (-_)]
theorem N3{l:I J}{i:J}(h0:0<=i)(Α:i<l.length)(Τ:l.length<=10000):eX (b2 l) i=some (.int (l.getD i.toNat 0)):=by
 rw[(HW h0:i=(i.toNat:J))];exact l9 (f:=O.int) (by rw[lA,gY ((RS h0).mpr Α)];rfl:l[i.toNat]?=some (l.getD i.toNat 0)) Τ
theorem N4{α β yP:Type}(f:α->β->yP)(a:α)(b:β):∀(l:I α) (l':I β),l.length=l'.length->iw f l l'=(fK l.length).map λi=>f (l.getD i a) (l'.getD i b)
 |[],l',_=>by rcases l' with ⟨⟩<;>rfl
 |x::l,[],h=>by contradiction
 |x::l,y::l',h=>by
  rw[List.zipWith_cons_cons,N4 f a b l l' (by simpa using h),kP,RP,i4,lG];rfl
section
variable{r s x y z:ai}{T:ε}{η:b5}{neg add:J}
theorem acY:aq (100*0)=0:=xp 0
theorem acZ(Ν:y<=x)(Ρ:x<=z):0<=moved x y z 0 1/\moved x y z 0 1<=1:=by
 unfold moved;split
 ·exact⟨by decide,by decide⟩
 ·rename_i e;have ζ:0<z - y:=by
   refine Rat.lt_of_le_of_ne ((aiZ _ _).mp (Rat.le_trans Ν Ρ)) ?_;exact λq=>xm e q.symm
  rw[yo,uT,ai0];constructor
  ·rw[<-rA,RK ζ,RR,rA];exact(aiZ _ _).mp Ν
  ·rw[<-rA,ai1 ζ,rC,rA,B7,B7];exact Rat.add_le_add_right.mpr Ρ
theorem ac0(h:0<=r/\r<=1):clip r 0 1=r:=by
 unfold clip;rw[bL (rA.mpr h.1),bL (rA.mpr h.2)]
theorem ac1(h:y≠0):moved x 0 y 0 y=x:=by
 unfold moved;rw[bL (λe=>h e.symm),uT,uT,yo,aiO h]
end
section
variable{r s x y z:ai}{T:ε}{η:b5}{neg add:J}
theorem m'{m:Y}(h:m<=20000):(0:J)<1/\(1:J)<1000∧-(2^60)<(0:J)/\(0:J)<2^60∧-(2^60)<(m:J)/\(m:J)<2^60/\(m:J) - 0<=20000:=⟨by decide,by decide,by decide,by decide,by exact rM,by exact nr.2 (mn h (by decide)),by exact ml.2 h⟩
theorem dN.eE(g:dN low high):bn 20 (aq (100*low))/\bn 20 (aq (100*high)):=by
 refine e7 g λa b c=>?_;try clear g
 exact⟨jW (.of (n:=200001) (H1 a c b) (by decide)) (by decide),jW (.of (n:=200001) (H2 a c b) (by decide)) (by decide)⟩
theorem FL(k:Y):(2:J)^(8*(k:J)).toNat=256^k:=by
 rw[show(8*(k:J)).toNat=8*k by exact rfl,Int.pow_mul];rfl
theorem uU(Η:k<=4):al 33 ((256:J)^k)/\(1:J)<=256^k:=by
 rcases(IB Η:k=0∨k=1∨k=2∨k=3∨k=4) with h|h|h|h|h<;>subst h<;>exact⟨by decide,by decide⟩
theorem ac2(Η:1<=k/\k<=4):(256:J)<=256^k:=by
 rcases(Ih Η.1 Η.2:k=1∨k=2∨k=3∨k=4) with h|h|h|h<;>subst h<;>decide
theorem ac3{l l':I J}(h:i<l.length):(l++l').getD i 0=l.getD i 0:=by
 rw[lA,rx h,lA]
theorem ac4{l l':I J}:(l++l').getD (l.length+i) 0=l'.getD i 0:=by
 rw[lA,to (io ..),ai2,lA]
theorem ac5{x:ai×J}(h0:bn 90 s)(Ν:x∈ma s count):bn 100 x.1/\(x.2=0∨x.2=count):=by
 unfold ma at Ν;split at Ν
 ·rcases eR.mp Ν with rfl|h
  ·exact⟨hw.mono (by decide),.inr rfl⟩
  ·contradiction
 ·split at Ν
  ·rcases eR.mp Ν with rfl|h
   ·exact⟨hw.mono (by decide),.inl rfl⟩
   ·contradiction
  ·cases Ν with
   |head=>exact⟨(hw.sub h0).mono (by decide),.inl rfl⟩
   |tail _ h=>cases h with
    |head=>exact⟨h0.mono (by decide),.inr rfl⟩
    |tail _ h=>contradiction
theorem N5:(ma s count).length<=2:=by
 unfold ma;split
 ·exact bu rfl
 ·split<;>exact bu rfl
noncomputable def N6(low high:J)(x s:ai)(k count:Y)(ak ag:I J)(na:ε)(hL hZ f9 eM eN:ξ O):Ο:=
 [some (qT low high (some (fq count k)) k ak ag),some (.lst [bb x]),some (.Ω [(28,.lst [.int 2]),(8,.int (8*k)),(18,.lst [fE (0,1)]),(16,pA (some (fq count k))),(27,.lst (b2 (ak++ag)))]),some (.lst [bb s]),hL,hZ,some (.int count),some (.lst ((ma s count).map FJ)),some (bb ((256^k - 1:J):ai)),some (.loc na),f9,eM,eN]
noncomputable def AE(ak ag:I J)(i:Y)(l:I (ai×J))(t:ai):ai:=FK (λz=>(((ak++ag).getD (z+(i:J)).toNat 0:J):ai)) l t
inductive N7(low high:J)(x s:ai)(k count:Y)(ak ag:I J)(na:ε):Ο->Prop
 |mk (hL hZ f9 eM eN):N7 low high x s k count ak ag na (N6 low high x s k count ak ag na hL hZ f9 eM eN)
inductive N8(low high:J)(x s:ai)(k count:Y)(ak ag:I J)(na:ε)(c:Ι)(acc:I O)(i:Y)(hZ:ξ O)(rest:I (ai×J)):Ο->Ι->Prop
 |mk (t m eM eN) (δ:bn (140*m+1) t) (hm:rest.length+m<=2) (Χ:∀x∈rest,x∈ma s count) (iM:AE ak ag i rest t=AE ak ag i (ma s count) 0):
  N8 low high x s k count ak ag na c acc i hZ rest (N6 low high x s k count ak ag na (some (.int (i:Y))) hZ (some (bb t)) eM eN) (upd c na (some (.lst acc)))
theorem ac6{ak ag:I J}(G:ar p)(Ζ:5<=n)(Ν:bn 20 x)(g:dN low high)(Η:1<=k/\k<=4)(h0:ak.length=count)(Α:ag.length=count)(eD:∀a∈ak,0<=a/\a<256^k)(dv:∀a∈ag,0<=a/\a<256^k)(Θ:count<=100)(FM:aq (100*low)<=x)(ac7:x<=aq (100*high))(h:Q (.lst (bp (iw (pD (moved x (aq (100*low)) (aq (100*high)) 0 1)) ak ag))) c):
 aF p n (.val (.ref 654)) [qT low high (some (fq count k)) k ak ag,.lst [bb x]] c Q Er:=by
 refine .at Ζ ?_;refine aaU G rfl ?_;dsimp only[eU,fz,vK,oI,i6,gj];refine λd hd=>?_;refine eK (bu rfl) ?_;refine⟨m' (m:=1) (by decide),?_⟩;rw[show fQ 0 (([bb x].length:Y):J) 1=1 from lm 1];have σ:=(Ν.moved g.eE.1 g.eE.2 lq hw).mono (by decide:4*20+3*1+4<=90);have AF:=acZ FM ac7;refine Fl (lo:=aq (100*low)) (hi:=aq (100*high)) (x:=0) (y:=1) G (by decide) Ν g.eE.1 g.eE.2 lq hw (by decide) ?_;generalize moved x (aq (100*low)) (aq (100*high)) 0 1=s at h σ AF ⊢;refine as _ (aj ..) ?_;refine Fk (lo:=0) (hi:=1) G (by decide) σ (lq.mono (by decide)) (hw.mono (by decide)) (by decide) ?_;rw[ac0 AF];refine dj _ (aj ..) (bu rfl) ?_;have gf:(fq count k).length=count:=p6;refine n8 (cJ gf Θ rfl) ?_;rw[gf];refine as _ (aj ..) ?_;refine acV G (by decide) (σ.mono (by decide)) AF.1 AF.2 Θ ?_;rw[dX,qO hd];have mc:=uU Η.2;refine⟨⟨by exact IE,kA (i:=2) (j:=(8*(k:J)).toNat) (by decide) (SY Η.2)⟩,?_⟩;rw[FL];refine λna fu=>⟨m' (aR Θ rfl),?_⟩;rw[lm,n7];have jo:(ak++ag).length=2*count:=by rw[fa];exact CQ Α h0
 have ac8:∀a∈ak++ag,al 33 a:=λa γ=>by
  have:0<=a/\a<256^k:=(hA.mp γ).elim (eD a) (dv a);exact mc.1.le (by omega)
 have pF:(((256:J)^k - 1:J):ai)≠0:=λe=>by
  have e:(256:J)^k - 1=0:=RT.mp e;have:=ac2 Η;omega
 refine acW (λi:Y=>bb (AE ak ag i (ma s count) 0)) (N7 low high x s k count ak ag na)
  (fK count) [] _ (.mk ..) (by simp;exact aR Θ rfl) ?_ ?_
 ·intro at_ jd ρ acc K be Ρ aC;cases be with|mk hL hZ f9 eM eN=>
  have jd:=mw.mp jd;refine⟨aP (by rw[bV];exact N5) (by decide),?_⟩;refine qX (α:=ai×J) (f:=FJ) (N8 low high x s k count ak ag na c acc at_ hZ) ?_ ?_ _ _ _ (.mk 0 0 eM eN lq N5 (λH h=>h) rfl)
  ·intro y rest ρ c' wP fv xt;cases fv with|mk t m eM eN δ hm Χ iM=>
   refine aa (ac5 σ (Χ y (.head _))) λAG uV=>?_;have N9:0<=y.2+(at_:J)/\y.2+(at_:J)<2*count:=by rcases uV with uV|uV<;>rw[uV]<;>omega
   refine cO (N3 N9.1 (jo▸N9.2) (aP (gw jo) (aP (mm _ Θ) (by decide)))) ?_;have Φ:bn 33 ((((ak++ag).getD (y.2+(at_:J)).toNat 0:J)):ai):=by
    refine⟨?_,(by decide:al 33 1)⟩;rw[lA,gY (uV.elim (λe=>by rw[e,mj];exact θ [_,_,_] [] (.le (.a (.v 0) (.c 1)) (.v 1)) [.eq (.v 1) (.m 2 (.v 2)),.le (.a (.v 0) (.c 1)) (.v 2)] [[1,0,1,1]] rfl jo jd) (λe=>by rw[e];exact θ [_,_,_] [] (.le (.a (.a (.v 2) (.v 0)) (.c 1)) (.v 1)) [.eq (.v 1) (.m 2 (.v 2)),.le (.a (.v 0) (.c 1)) (.v 2)] [[1,0,1,1]] rfl jo jd))];exact ac8 _ (kR _)
   refine uG (r:=y.1) (s:=(((ak++ag).getD (y.2+(at_:J)).toNat 0:J):ai)) G (by decide) AG Φ (by decide) ?_;refine Fj (r:=t) G (by decide) δ (AG.mul Φ) (θ [_,_] [] (.le (.a (.a (.m 140 (.v 1)) (.c 1)) (.a (.c 100) (.c 33))) (.c 9000)) [(.le (.a (.a (.v 0) (.c 1)) (.v 1)) (.c 2))] [[1,140]] rfl hm) ?_;exact xt _ _ (.mk _ (m+1) _ _ ((δ.add (AG.mul Φ)).mono ((by simp+arith))) (θ [_,_] [] (.le (.a (.v 0) (.a (.v 1) (.c 1))) (.c 2)) [(.le (.a (.a (.v 0) (.c 1)) (.v 1)) (.c 2))] [[1,1]] rfl hm) (λz Ρ=>Χ z (.tail _ Ρ)) iM)
  ·intro ρ c' be;cases be with|mk t m eM eN δ hm Χ iM=>
   refine as _ (aj ..) ?_;refine cO (l9 (f:=λx=>fE (ge x)) (x:=(0,100*(256^k - 1))) (i:=at_) (by unfold fq;rw[List.getElem?_replicate,cz jd]) (cJ gf Θ rfl)) ?_;have N':bn 34 (((256:J)^k - 1:J):ai):=⟨mc.1.sub (by decide),(by decide:al 34 1)⟩;have bd:ge (0,100*(256^k - 1))=(0,(((256:J)^k - 1:J):ai)):=by
    unfold ge;rw[acY];show(_,aq (100*(100*(256^k - 1))))=_;rw[<-ot,show(100*100:J)=10000 from rfl,xp]
   rw[bd];refine Fl (v:=t) (lo:=0) (x:=0) (y:=(((256:J)^k - 1:J):ai)) G (by decide) (i:=300) (j:=34) (δ.mono (θ [_] [] (.le (.a (.m 140 (.v 0)) (.c 1)) (.c 300)) [(.le (.a (.c 0) (.v 0)) (.c 2))] [[1,140]] rfl hm)) (lq.mono (by decide)) (N'.mono (by decide)) (lq.mono (by decide)) N' (by decide) ?_;rw[ac1 pF];refine dj _ (aj ..) Ρ ?_;rw[dX,show t=_ from iM];exact aC _ (.mk ..)
 ·intro ρ fv;cases fv with|mk hL hZ f9 eM eN=>
  refine as _ (aj ..) ?_;rw[N4 _ 0 0 _ _ (h0.trans Α.symm),h0] at h;refine(λl c' e aT=>by rw[e,aT];exact h:∀l c',l=_->c'=c->Q (.lst l) c') _ _ ?_ (qO fu _);rw[i6];unfold bp;rw[lG];refine BR λi hi=>?_;show bb _=bb _;unfold AE;rw[acX];unfold pD;simp only[mj,aiL,<-agW];rw[ac3 (tG h0 (mw.mp hi)),<-h0,ac4]
end
theorem Oa(a b:J):aq a*aq b=c8 (a*b) 100000000:=by
 unfold aq;rw[RH];rfl
theorem ac9{a b c d:ai}(Κ:b≠0)(h:a*c=d*b):a / b*c=d:=by
 rw[Hn,B8,ai3 b⁻¹,<-B8,h,B8,Rat.mul_inv_cancel _ Κ,ai0]
theorem ada{v b e st f2:J}(akx:b<=e)(h0:100*b<=v)(Α:v<=100*e)(ay:4∣v):moved (aq v) (aq (100*b)) (aq (100*e)) (aq (100*st)) (aq (100*st+25*f2*(e - b)))=aq (100*st+f2*(v - 100*b) / 4):=by
 obtain⟨k,Η⟩:4∣v - 100*b:=CB ay;rw[(by rw[Η,<-ot,vl f2,ot,Hl _ (by decide)]:f2*(v - 100*b) / 4=f2*k)];unfold moved;by_cases bd:aq (100*b)=aq (100*e)
 ·have:k=0:=θ [] [_,_,_,_] (.ff (.v 3) (.c 0)) [(.ff (.m 100 (.v 0)) (.m 100 (.v 1))),(.ff (.s (.v 2) (.m 100 (.v 0))) (.m 4 (.v 3))),(.ι (.m 100 (.v 0)) (.v 2)),(.ι (.v 2) (.m 100 (.v 1)))] [[4,0,1,0,1,0,1],[4,0,0,1,0,1]] rfl (Av.mp bd) Η h0 Α;rw[cz bd,this,By,s6]
 ·rw[bL bd,Fx,Fx,Fx,<-acK];congr 1;refine ac9 (λz=>bd ?_) ?_
  ·have z:aq (100*e - 100*b)=aq 0:=z;exact Av.mpr (θ [] [_,_] (.ff (.m 100 (.v 1)) (.m 100 (.v 0))) [(.ff (.s (.m 100 (.v 0)) (.m 100 (.v 1))) (.c 0))] [[1,0,1],[1,1]] rfl (Av.mp z))
  ·rw[Oa,Oa,Η];congr 1;grind
noncomputable def kB:I J->J->Y
 |[],_=>0
 |e::l,v=>if 100*e<=v then kB l v+1 else 0
theorem AH(e:J)(l:I J)(v:J):kB (e::l) v=if 100*e<=v then kB l v+1 else 0:=rfl
theorem Ob:∀l v,kB l v<=l.length
 |[],_=>i2 _
 |e::l,v=>by
  rw[AH];split
  ·exact tj (Ob l v)
  ·exact mv _
structure Seg(h:J)(b:J)(ς:I J)(parts:I cP)(v:J)(s:Y)(x:cP)(cv aT:J):Prop where
 part:parts[s]?=some x
 lo:(b::(ς++[h]))[s]?=some cv
 hi:(b::(ς++[h]))[s+1]?=some aT
 enc:(hY b (ς++[h]) parts)[s]?=some (100*x.2.1,100*x.2.1+25*x.2.2*(aT - cv))
 f:qW b ς parts v=x.1.f (100*x.2.1+x.2.2*(v - 100*cv) / 4)
 le:100*cv<=v/\v<=100*aT
 qZ:b<=cv/\cv<=aT/\aT<=h
theorem lp.le:∀{b l h},lp b l h->b<=h
 |_,[],_,h=>h
 |_,_::_,_,h=>hc h.1 h.2.le
theorem FN{h v:J}(Φ:v<=100*h)(ς:I J):∀(b:J) (parts:I cP),parts.length=ς.length+1->lp b ς h->100*b<=v->∃x cv aT,Seg h b ς parts v (kB ς v) x cv aT:=by
 induction ς with
 |nil=>
  intro b parts Τ a4 Κ;rcases parts with _|⟨x,l⟩
  ·rcases Τ with ⟨⟩
  ·cases l with
   |cons y l=>simp at Τ
   |nil=>exact Cd x b h (⟨rfl,rfl,rfl,rfl,rfl,⟨Κ,Φ⟩,Bz _,a4,Bz _⟩)
 |cons e ς Ξ=>
  intro b parts Τ a4 Κ;cases parts with
  |nil=>simp at Τ
  |cons x parts=>
  by_cases q:100*e<=v
  ·refine yt (Ξ e parts (by simpa using Τ) a4.2 q) λqk cv aT g=>?_;have bd:kB (e::ς) v=kB ς v+1:=cz q;refine Cd qk cv aT ?_;rw[bd];exact⟨g.part,g.lo,g.hi,g.enc,(cz q).trans g.f,g.le,hc a4.1 g.qZ.1,g.qZ.2⟩
  ·have bd:kB (e::ς) v=0:=bL q;refine Cd x b e ?_;rw[bd];exact⟨rfl,rfl,rfl,rfl,bL q,⟨Κ,by exact θ [] [_,_] (.ι (.v 1) (.m 100 (.v 0))) [(.ι (.a (.v 1) (.c 1)) (.m 100 (.v 0)))] [[1,1]] rfl (BB.mp q)⟩,Bz _,a4.1,a4.2.le⟩
theorem sL{low high pl:J}(g:dN low high):100*low<=dr low high pl/\dr low high pl<=100*high/\(4∣pl->4∣dr low high pl):=by
 refine e7 g λa b c=>?_;try clear g
 unfold dr;refine ft (ai4.mpr ⟨Hs _ _,ow b (by decide)⟩) (ai5 _ _) (λh=>?_);by_cases Α:pl<=100*low
 ·rw[RM Α];exact(ai6 (100*_) (100*_)).elim (λh=>(B4 h).symm▸Cs _) (λh=>(B5 h).symm▸Cs _)
 ·rw[RN (H7 Α)];by_cases Δ:pl<=100*high
  ·rw[B4 Δ];exact h
  ·rw[B5 (H7 Δ)];exact(by simp+arith)
theorem uW{low high pl:J}(g:dN low high):al 18 (dr low high pl):=by
 have:=sL (pl:=pl) g;refine e7 g λa b c=>?_;try clear g
 exact .of (n:=200001) (H9 this.1 a this.2.1 c) (by decide)
theorem AI(line:I J):∀(b:J) (parts:I cP),parts.length=line.length->(hY b line parts).length=parts.length:=by
 induction line with
 |nil=>intro b parts h;cases parts with
  |nil=>rfl
  |cons x l=>cases h
 |cons e line Ξ=>intro b parts h;cases parts with
  |nil=>rfl
  |cons x l=>
   exact cE (·+1) (Ξ _ _ (by simpa using h))
structure pG(p:bP)(count n:Y)(nd:cT):Prop where
 call:∀{m c Q Er pl},n<=m->al 24 pl->(nd.ev=true->4∣pl)->(∀c',fF c c'->Q (.lst (bp (nd.f pl))) c')->aF p m (.val (.ref 666)) [nd.fn,.lst [bb (aq pl)],.val (.ref 748)] c Q Er
 eE:∀pl,al 24 pl->hv 4000 (nd.f pl)
 len:∀pl,(nd.f pl).length=count
noncomputable abbrev a9:SL->SL
 | .cons _ l=>l
 | .nil=>.nil
noncomputable abbrev adb:SL:=a9 (a9 E3)
section
variable{r s x y z:ai}{T:ε}{η:b5}{neg add pl kind:J}{parts:I (Y×O)}
theorem AJ(G:ar p)(g:dN low high)(b0:al 24 pl)(Ζ:2<=n)(h:bh p a1 a6 Er n adb [some (ln kind low high η parts),some (.lst [bb (aq pl)]),some (.val (.ref 748)),some (.lst [bb (aq (dr low high pl))]),none] c (λH c'=>Q .none c') (λx H c'=>Q x c')):
 aF p (n+1) (.val (.ref 666)) [ln kind low high η parts,.lst [bb (aq pl)],.val (.ref 748)] c Q Er:=by
 refine aaW G rfl ?_;refine eK (bu rfl) ?_;refine FD G (b8 Ζ rfl) ?_;refine⟨bu rfl,?_⟩;have e:dN low high:=g;refine Fk (v:=aq pl) (lo:=aq (100*low)) (hi:=aq (100*high)) G Ζ ((jW b0 (by decide)).mono (by decide:24<=24)) (g.eE.1.mono (by decide)) (g.eE.2.mono (by decide)) (by decide) ?_;rw[acL (by have:=g.2.1;exact vW this)];exact h
theorem AK(Τ:∀ls,η=some ls->fG count ls)(h:rs.length=count):(jn η rs).length=count:=by
 rcases η with _|ls
 ·exact h
 ·show(iw _ rs ls).length=count;rw[List.length_zipWith,h,(Τ ls rfl).len,Nat.min_self]
theorem AL(Τ:∀ls,η=some ls->fG count ls)(h:hv 4000 rs):hv 4000 (jn η rs):=by
 cases η with
 |none=>exact h
 |some ls=>
  have:=(Τ ls rfl).ok;clear Τ
  induction rs generalizing ls with
  |nil=>intro r Χ;cases Χ
  |cons r rs Ξ=>cases ls with
   |nil=>intro r Χ;cases Χ
   |cons l ls=>
    intro q av;refine my av ?_ λav=>?_
    ·exact(h _ (.head _)).clip ((uQ (this l (.head _)).2.1).mono (by decide)) ((uQ (this l (.head _)).2.2).mono (by decide))
    ·exact Ξ (λr Χ=>h r (.tail _ Χ)) ls (λx Ν=>this x (.tail _ Ν)) q av
theorem AM(Τ:∀ls,η=some ls->fG count ls):∀ls,η=some ls->∀x∈ls,al 50 x.1/\al 50 x.2:=λls e x Ν=>((Τ ls e).ok x Ν).2
theorem Oc{α:Type}{f:α->α->ai}{l l':I α}(h:∀a∈l,∀b∈l',bn 4000 (f a b)):hv 4000 (iw f l l'):=by
 induction l generalizing l' with
 |nil=>intro r Χ;cases Χ
 |cons a l Ξ=>cases l' with
  |nil=>intro r Χ;cases Χ
  |cons b l'=>
   intro q av;rcases eR.mp av with rfl|av
   ·exact h _ (.head _) _ (.head _)
   ·exact Ξ (λa γ b Κ=>h a (.tail _ γ) b (.tail _ Κ)) q av
theorem AN{l:I J}(h:∀a∈l,-1000<=a/\a<=1000):hv 64 (b7 l):=λr Χ=>by
 apply iB (i5.mp Χ);intro a γ;have:=h a γ;exact jW (.of (n:=100001) (HU this.1 this.2) (by decide)) (by decide)
theorem ade{a b:J}(Ν:bn 90 x)(γ:al 33 a)(Κ:al 33 b):bn 4000 (pD x a b):=by
 have Α:∀{a:J},al 33 a->bn 33 (a:ai):=λh=>⟨h,(by decide:al 33 1)⟩;exact((Α γ).add (Ν.mul ((Α Κ).sub (Α γ)))).mono (by decide)
theorem AO(Η:k<=4):fG count (fq count k):=by
 refine⟨p6,λx Ν=>?_⟩;have:=uU Η;rw[Ht Ν];exact⟨by show(0:J)<=100*(256^k - 1);exact θ [] [((256^_):J)] (.ι (.c 0) (.m 100 (.s (.v 0) (.c 1)))) [(.ι (.c 1) (.v 0))] [[1,100]] rfl this.2,(by decide:al 50 0),(al.mul (a:=100) (i:=7) (by decide) (this.1.sub (b:=1) (by decide))).mono (by decide)⟩
theorem adf(Ν:bn 20 x)(γ:al 20 add){bH:Y}(ab:bH<=100):bn 4000 (l8 x neg add bH):=by
 have Α:bn 21 ((add+bH:J):ai):=⟨γ.add (al.of (n:=101) (CI ab) (by decide)),(by decide:al 21 1)⟩;unfold l8;split
 ·exact(Ν.add Α).mono (by decide)
 ·exact(bn.add (i:=20) ⟨by rw[aiV];exact Ν.num.neg,by rw[aiW];exact Ν.den⟩ Α).mono (by decide)
theorem Od{nd:cT}(G:ar p)(h:gs count nd)(Θ:count<=100):pG p count 6 nd:=by
 rcases h with ⟨low,high,η,N,ak,ag,g,Τ,bZ,h0,Α,eD,dv⟩|⟨low,high,k,ak,ag,g,Η,h0,Α,eD,dv⟩|⟨low,high,ls,neg,add,g,Τ,Ζ,γ⟩
 ·have Ν:∀pl,bn 20 (aq (dr low high pl)):=λpl=>(jW (uW g) (by decide)).mono (by decide);have σ:∀pl,hv 4000 (iw (jY (aq (dr low high pl)) N) (b7 ak) (b7 ag)):=λpl=>Oc λa γ b Κ=>acM (Ν pl) (AN eD a γ) (AN dv b Κ) N (by decide) bZ;have Ρ:∀pl,(iw (jY (aq (dr low high pl)) N) (b7 ak) (b7 ag)).length=count:=λpl=>by simp[b7,h0,Α]
  refine⟨λ{m c Q Er pl} hm b0 _ h=>?_,λpl H=>AL Τ (σ pl),λpl=>AK Τ (Ρ pl)⟩;obtain⟨m,rfl⟩:∃cR,m=cR+1:=⟨m - 1,by exact CG hm⟩;refine AJ G g b0 (hF hm rfl) ?_;refine acN G (hF hm rfl) (Ν pl) bZ (AN eD) (AN dv) (by simp[b7];exact cJ h0 Θ rfl) λc' eY=>?_;exact AA G (hF hm rfl) rfl (AM Τ) (σ pl) (by rw[Ρ];exact aR Θ rfl) (h c' eY)
 ·have Τ:∀ls,some (fq count k)=some ls->fG count ls:=λls e=>by obtain rfl:=bQ e;exact AO Η.2
  have mc:=uU Η.2;have Ν:∀pl,bn 90 (qU low high (dr low high pl)):=λpl=>((jW (uW g) (by decide)).mono (by decide:18<=20) |>.moved g.eE.1 g.eE.2 lq hw).mono (by decide);have σ:∀pl,hv 4000 (iw (pD (qU low high (dr low high pl))) ak ag):=λpl=>Oc λa γ b Κ=>ade (Ν pl) (mc.1.le (by have:=eD a γ;omega)) (mc.1.le (by have:=dv b Κ;omega));have Ρ:∀pl,(iw (pD (qU low high (dr low high pl))) ak ag).length=count:=λpl=>by simp[h0,Α]
  refine⟨λ{m c Q Er pl} hm b0 _ h=>?_,λpl H=>AL Τ (σ pl),λpl=>AK Τ (Ρ pl)⟩;obtain⟨m,rfl⟩:∃cR,m=cR+1:=⟨m - 1,by exact CG hm⟩;have Χ:=sL (pl:=pl) g;refine AJ G g b0 (hF hm rfl) ?_;refine ac6 G (hF hm rfl) ((jW (uW g) (by decide)).mono (by decide)) g Η h0 Α eD dv Θ (qS.mpr Χ.1) (qS.mpr Χ.2.1) ?_;exact AA G (hF hm rfl) rfl (AM Τ) (σ pl) (by have:=Ρ pl;unfold qU at this;exact cJ this Θ rfl) (h c (.refl c))
 ·have Ν:∀pl,bn 20 (aq (dr low high pl)):=λpl=>(jW (uW g) (by decide)).mono (by decide);have qD:∀iP,some ls=some iP->fG count iP:=λiP e=>by obtain rfl:=bQ e;exact Τ
  have gp:al 20 add:=.of (n:=256) (ej (fI (by decide) γ.1) (fI γ.2 (by decide))) (by decide);have σ:∀pl,hv 4000 ((fK count).map (l8 (aq (dr low high pl)) neg add)):=λpl r Χ=>by
   apply iB (i5.mp Χ);intro o ab;exact adf (Ν pl) gp (by have:=mw.mp ab;exact θ [_,_] [] (.le (.v 1) (.c 100)) [(.le (.v 0) (.c 100)),(.le (.a (.v 1) (.c 1)) (.v 0))] [[1,1,1]] rfl Θ this)
  have Ρ:∀pl,((fK count).map (l8 (aq (dr low high pl)) neg add)).length=count:=λpl=>by simp
  refine⟨λ{m c Q Er pl} hm b0 _ h=>?_,λpl H=>AL qD (σ pl),λpl=>AK qD (Ρ pl)⟩;obtain⟨m,rfl⟩:∃cR,m=cR+1:=⟨m - 1,by exact CG hm⟩;refine AJ G g b0 (hF hm rfl) ?_;refine acS G (hF hm rfl) ((Ν pl).mono (by decide)) gp Θ Τ.len ?_;exact AA G (hF hm rfl) rfl (AM qD) (σ pl) (by rw[Ρ];exact aR Θ rfl) (h c (.refl c))
end
section
variable{pl v:J}{η:b5}{ς:I J}{parts:I cP}{P:cT->Prop}
theorem FO{l:I J}{i:Y}{x:J}(h:l[i]?=some x)(Τ:l.length<=10000):eX (bp (b7 l)) (i:J)=some (bb (aq (100*x))):=by
 unfold bp b7;rw[lG];exact l9 (f:=λa=>bb (aq (100*a))) h Τ
theorem FP{st f2 D:J}(σ: -2000<=st/\st<=2000)(Τ: -8<=f2/\f2<=8)(eI:0<=D/\D<=400000):al 24 (100*st+f2*D / 4):=by
 have h:=al.mul (i:=4) (j:=19) (al.of (a:=f2) (n:=9) (Cv Τ.1 Τ.2) (by decide)) (al.of (a:=D) (n:=400001) (ej (fI (by decide) eI.1) (lz eI.2 (by decide))) (by decide));unfold al at*;generalize f2*D=y at*;exact mn (RD _ _) (Qq (ai7 (rK σ.1 σ.2) (mn (Int.natAbs_ediv_le_natAbs _ 4) h)) (by decide))
theorem Oe{st f2 D:J}(h:4∣D)(h':4∣f2):4∣100*st+f2*D / 4:=by
 apply dG h;intro w;apply dG h';intro q;rw[show 4*q*(4*w)=4*(4*(q*w)) by rw[ot,Int.mul_left_comm q],Hl _ (by decide)];exact(by simp+arith)
theorem uN.big(Ε:uN P count low high η ς parts):ς.length<=3:=by
 have:=Ε.len;have:=Ε.gI;exact θ [_,_] [] (.le (.v 1) (.c 3)) [(.eq (.v 0) (.a (.v 1) (.c 1))),(.le (.v 0) (.c 4))] [[1,0,1,1]] rfl ‹_› this
theorem sM{v:J}(h:al 24 v):bn 24 (aq v):=jW h (by decide)
theorem adg(G:ar p)(Ε:uN P count low high η ς parts)(Ξ:∀nd,P nd->pG p count n nd)(d':6<=n)(Φ:100*low<=v/\v<=100*high)(ay:4∣v)(h:∀c',fF c c'->Q (.lst (bp (qW low ς parts v))) c'):
 aF p (n+1) (.val (.ref 640)) [sJ low high η ς parts,bb (aq v),.val (.ref 748)] c Q Er:=by
 have Κ:=Ε.big;refine yt (FN Φ.2 ς low parts Ε.len Ε.up Φ.1) λx cv aT g=>?_;have aO:=Ε.g;unfold dN at aO;have xu:al 24 v:=.of (n:=200001) (H9 Φ.1 aO.1 Φ.2 aO.2.2) (by decide);have Ν:=Ε.ok x (j8 g.part);have hM:=g.qZ;refine aaS G rfl ?_;refine⟨λm ρ c'=>c'=c/\∃s:Y,ρ=[some (sJ low high η ς parts),some (bb (aq v)),some (.val (.ref 748)),some (.lst (bp (b7 ς))),some (.int s),none,none]/\s<=ς.length/\m=ς.length - s/\s+kB (ς.drop s) v=kB ς v,⟨_,rfl,0,rfl,mv _,rfl,Hk _⟩,?_⟩;intro m ρ c' be;refine aa be λaV aW=>?_;try clear be;rcases aV with rfl;refine rD aW λs bM σ cN sN=>?_;try clear aW;rcases bM with rfl;rcases cN with rfl
 have cq:s=kB ς v->bh p a1 a6 Er n (a9 (a9 (a9 E2))) [some (sJ low high η ς parts),some (bb (aq v)),some (.val (.ref 748)),some (.lst (bp (b7 ς))),some (.int s),none,none] c' (λH c'=>Q .none c') (λx H c'=>Q x c'):=by
  rintro rfl;refine ft (by simp[bp,b7];exact IA Κ) (by simp[bp,b7];exact aR Κ rfl) ?_;have gb:([bb (aq (100*low))]++bp (b7 ς))++[bb (aq (100*high))]=bp (b7 (low::(ς++[high]))):=by simp[bp,b7]
  have gf:(low::(ς++[high])).length<=10000:=by simp;exact aR Κ rfl
  refine cO (by rw[<-FO g.lo gf,<-gb];rfl) ?_;refine cO (by rw[<-FO g.hi gf,<-gb];rfl) ?_;refine cO (l9 (f:=λx=>fE (n6 x)) g.enc (by rw[AI _ _ _ (by rw[Ε.len];simp)];have:=Ε.gI;exact aR this rfl)) ?_;refine Fl (v:=aq v) (lo:=aq (100*cv)) (hi:=aq (100*aT)) (x:=aq (100*x.2.1)) (y:=aq (100*x.2.1+25*x.2.2*(aT - cv))) G (b8 d' rfl) (sM xu) (sM (.of (n:=200001) (θ [] [_,_,_,_] (.cA (.m 100 (.v 3)) (.c 200001)) [(.ι (.g (.c 2000)) (.v 0)),(.ι (.v 1) (.c 2000)),(.ι (.v 2) (.v 1)),(.ι (.v 0) (.v 3)),(.ι (.v 3) (.v 2))] [[1,0,100,100,0,100],[1,100,0,0,100]] rfl aO.1 aO.2.2 hM.2.2 hM.1 hM.2.1) (by decide))) (sM (.of (n:=200001) (θ [] [_,_,_,_] (.cA (.m 100 (.v 2)) (.c 200001)) [(.ι (.g (.c 2000)) (.v 0)),(.ι (.v 1) (.c 2000)),(.ι (.v 2) (.v 1)),(.ι (.v 0) (.v 3)),(.ι (.v 3) (.v 2))] [[1,0,100,100],[1,100,0,0,100,100]] rfl aO.1 aO.2.2 hM.2.2 hM.1 hM.2.1) (by decide))) (j:=24) (sM (.of (n:=200001) (by have:=Ν.start;exact rK this.1 this.2) (by decide))) (sM ?_) (by decide) ?_
  ·have h:=al.mul (i:=9) (j:=12) (al.of (a:=25*x.2.2) (n:=201) (by have:=Ν.eL;exact Cu this.1 this.2) (by decide)) (al.of (a:=aT - cv) (n:=4001) (θ [] [_,_,_,_] (.cA (.s (.v 2) (.v 3)) (.c 4001)) [(.ι (.g (.c 2000)) (.v 0)),(.ι (.v 1) (.c 2000)),(.ι (.v 2) (.v 1)),(.ι (.v 0) (.v 3)),(.ι (.v 3) (.v 2))] [[1,1,1,1,1],[1,0,0,0,0,1]] rfl aO.1 aO.2.2 hM.2.2 hM.1 hM.2.1) (by decide));have:=Ν.start;unfold al at*;generalize 25*x.2.2*(aT - cv)=y at*;exact mn (RD _ _) (Qq (ai7 (rK this.1 this.2) h) (by decide))
  rw[ada hM.2.1 g.le.1 g.le.2 ay];refine cO (l9 (f:=λx:cP=>x.1.fn) g.part (by have:=Ε.gI;exact aR this rfl)) ?_;refine(Ξ x.1 Ν.ok).call (i2 _) (FP Ν.start Ν.eL (H' g.le.1 aO.1 g.le.2 aO.2.2 hM.2.2 hM.1)) (λev=>Oe (CB ay) (Ν.whole ev)) λbz Θ=>?_;rw[<-g.f];exact h bz Θ
 have n9:(bp (b7 ς)).length=ς.length:=by simp[bp,b7]
 refine eK (cJ n9 Κ rfl) ?_;rw[n9];refine d4 (λdh=>?_) λqv=>?_
 ·have dh:s<ς.length:=by have h:(s:J)<ς.length:=dh;exact IQ h
  refine cO (FO (gY dh) (aR Κ rfl)) ?_;have adh:al 24 (100*ς[s]):=by
   have:∀(l:I J) (b h:J),lp b l h->∀x∈l,b<=x/\x<=h:=λl=>by
    induction l with
    |nil=>intro b h a4 x Ν;contradiction
    |cons e l Ξ=>
     intro b h a4 x Ν;rcases eR.mp Ν with rfl|Ν
     ·exact⟨a4.1,a4.2.le⟩
     ·have:=Ξ e h a4.2 x Ν;have:=a4.1;omega
   have:=this ς low high Ε.up ς[s] (kR _);exact .of (n:=200001) (θ [] [_,_,_] (.cA (.m 100 (.v 2)) (.c 200001)) [(.ι (.g (.c 2000)) (.v 0)),(.ι (.v 1) (.c 2000)),(.ι (.v 2) (.v 1)),(.ι (.v 0) (.v 2))] [[1,0,100,100],[1,100,0,0,100]] rfl aO.1 aO.2.2 this.2 this.1) (by decide)
  rw[Hj dh] at sN;refine uH G (b8 d' rfl) (sM xu) (sM adh) (by decide) ?_;refine d4 (λadi=>?_) λadj=>?_
  ·rw[AH,bL (by have:=pz.mp adi;exact BB.2 this)] at sN;exact cq sN
  ·rw[AH,cz (ly.mp λe=>adj (pz.mpr e))] at sN;exact dj _ (Nat.sub_lt_sub_left dh (yd _)) rfl ⟨s+1,rfl,by exact I1 dh,rfl,by exact yL sN⟩
 ·rw[ail (by exact θ [_,_] [] (.le (.v 1) (.v 0)) [(.ι (.n (.v 1)) (.n (.v 0)))] [[1,1]] rfl (ly.mp qv))] at sN;exact cq sN
theorem adk{nd:cT}(G:ar p)(h:Ay P count nd)(Θ:count<=100)(d':6<=n)(Ξ:∀nd,P nd->pG p count n nd):pG p count (n+2) nd:=by
 rcases h with ⟨low,high,η,ς,parts,more,Ε⟩
 have hS:∀pl,100*low<=dr low high pl/\dr low high pl<=100*high:=λpl=>⟨(sL Ε.g).1,(sL Ε.g).2.1⟩;have hf:∀pl,hv 4000 (qW low ς parts (dr low high pl))/\(qW low ς parts (dr low high pl)).length=count:=λpl=>by
  refine yt (FN (hS pl).2 ς low parts Ε.len Ε.up (hS pl).1) λx cv aT g=>?_;have Ν:=Ε.ok x (j8 g.part);have aO:=Ε.g;unfold dN at aO;rw[g.f];exact⟨(Ξ x.1 Ν.ok).eE _ (FP Ν.start Ν.eL (H' g.le.1 aO.1 g.le.2 aO.2.2 g.qZ.2.2 g.qZ.1)),(Ξ x.1 Ν.ok).len _⟩
 refine⟨λ{m c Q Er pl} hm b0 ay h=>?_,λpl H=>AL Ε.Τ (hf pl).1,λpl=>AK Ε.Τ (hf pl).2⟩;refine .at hm ?_;refine AJ G Ε.g b0 (Ij d') ?_;refine adg G Ε Ξ d' (hS pl) ((sL Ε.g).2.2 (ay rfl)) λc' eY=>?_;exact AA G (Ij d') rfl (AM Ε.Τ) (hf pl).1 (by rw[(hf pl).2];exact aR Θ rfl) (h c' eY)
theorem adl(G:ar p)(Θ:count<=100):∀(L:Y) {nd:cT},pE count L nd->pG p count (6+2*L) nd:=by
 intro L
 induction L with
 |zero=>exact λh=>Od G h Θ
 |succ L Ξ=>
  intro nd h;rcases h with h|h
  ·have:=Od G h Θ;exact⟨λhm=>this.call (aP (io ..) hm),this.eE,this.len⟩
  ·exact adk G h Θ (io ..) λnd h=>Ξ h
end
noncomputable def hx(a:J):O:=if a%10000=0 then .int (a / 10000) else pv (fo a 4).1 (fo a 4).2
noncomputable def ig(q:Y)(r:ai):J×Y:=fo (sE (r.num*10^q) r.den) q
noncomputable def iQ(x:J×Y):O:=.tup [.int x.1,.int x.2]
theorem adm(t:J)(q:Y):(fo t q).2<=q:=by
 induction q generalizing t with
 |zero=>exact i2 _
 |succ q Ξ=>
  show(if t%10=0 then fo (t / 10) q else (t,q+1)).2<=q+1;split
  ·exact ai8 (Ξ _)
  ·exact i2 _
theorem adn(t:J)(q:Y):c8 (fo t q).1 (10^(fo t q).2)=c8 t (10^q):=by
 induction q generalizing t with
 |zero=>rfl
 |succ q Ξ=>
  show c8 (if t%10=0 then fo (t / 10) q else (t,q+1)).1 (10^(if t%10=0 then fo (t / 10) q else (t,q+1)).2)=_;split
  ·rename_i e;rw[Ξ,RE]
   conv=>rhs;rw[<-Int.ediv_mul_cancel (Hu e)]
   rw[RL (by decide)]
  ·rfl
theorem n'(a:J):hX (hx a) (aq a):=by
 unfold hx;split
 ·rename_i e;have:aq a=((a / 10000:J):ai):=by rw[<-xp];congr 1;exact Ss e
  rw[this];exact .int _
 ·have:=hX.dec (fo a 4).1 (fo a 4).2 (aP (adm a 4) (by decide));rw[adn] at this;exact this
theorem Of(a:J):refOf (hx a)=none:=by
 unfold hx;split<;>rfl
section
variable{q:Y}{pl v:J}{η:b5}{nd:cT}{x:ai}
theorem pH(G:ar p)(Ζ:2<=n)(h:Q (hx a) c):aF p n (.val (.ref 700)) [.int a] c Q Er:=by
 refine .at Ζ ?_;refine aa2 G rfl ?_;unfold hx at h;rw[<-nv _ (by decide:(0:J)<=10000)] at h;refine⟨by decide,d4 (λe=>?_) λe=>?_⟩
 ·rw[cz e,<-nx _ (by decide)] at h;exact⟨⟨by decide,iO (i:=14) (by decide) (by decide)⟩,h⟩
 ·rw[bL e] at h;refine λd hd=>Fn (q:=4) G (by decide) (aj ..) ⟨rfl,_,aj ..,?_⟩;rw[ie hd];exact h
theorem ado(G:ar p)(Ζ:1<=n)(h:Q (.tup [.int a,.int q]) c):aF p n (.val (.ref 192)) [pv a q] c Q Er:=by
 refine .at Ζ ?_;exact aar G rfl h
theorem adp(G:ar p)(V:pG p count n nd)(Ζ:4<=n)(av:q<=10)(b0:al 24 pl)(ay:4∣pl)(Θ:count<=100)(h:∀c',fF c c'->Q (.lst ((nd.f pl).map λr=>pv (ig q r).1 (ig q r).2)) c'):aF p (n+1) (.val (.ref 671)) [nd.fn,.lst [hx pl],.int q,.val (.ref 748)] c Q Er:=by
 refine aaX G rfl ?_;refine⟨bu rfl,?_⟩;refine NM G (b8 Ζ rfl) (n' pl) ?_;refine V.call (i2 _) b0 (λH=>ay) λc' eY=>?_;refine⟨by rw[pw];exact cJ (V.len pl) Θ rfl,?_⟩;unfold bp;refine m9 (λr=>pv (ig q r).1 (ig q r).2) (λo=>[some nd.fn,some (.lst [hx pl]),some (.int q),some (.val (.ref 748)),o.map bb]) _ [] none (λr Χ o acc K aC=>?_) λo=>?_
 ·exact acu G (b8 Ζ rfl) (((V.eE pl b0) r Χ).mono (by decide)) (aR av rfl) aC
 ·exact h c' eY
theorem adq(G:ar p)(V:pG p count n nd)(Ζ:4<=n)(av:q<=10)(b0:al 24 (100*a))(ay:4∣100*a)(gp:al 24 a)(Θ:count<=100)(h:∀c',fF c c'->Q (.lst ((nd.f (100*a)).map λr=>iQ (ig q r))) c'):aF p (n+2) (.val (.ref 753)) [nd.fn,.int a,.int q] c Q Er:=by
 refine aba G rfl ?_;refine⟨bT (i:=7) (by decide) gp (by decide),?_⟩;refine pH G (θ [_] [] (.le (.c 2) (.a (.v 0) (.c 1))) [(.le (.c 4) (.v 0))] [[1,1]] rfl Ζ) ?_;refine adp G V Ζ av b0 ay Θ λc' eY=>?_;refine⟨by rw[bV];exact cJ (V.len (100*a)) Θ rfl,?_⟩;refine m9 (λr=>iQ (ig q r)) (λo=>[some nd.fn,some (.int a),some (.int q),o.map λr=>pv (ig q r).1 (ig q r).2]) _ [] none (λr Χ o acc K aC=>?_) λo=>?_
 ·exact ado G (tE) aC
 ·exact h c' eY
end
structure cC(t:I (J×O))(l:I (Y×O))(k:Y)(v:O):Prop where
 c7:bU ((bl l k).getD .none)
 eq:hu t l k=v
inductive e9(t:I (J×O))(l:I (Y×O))(k:Y)(rs:I ai):Prop
 |mk (items:I O) (s:cC t l k (.lst items)) (n:gd t items rs)
noncomputable def nc(t:I (J×O))(l:I (Y×O)):b5->Prop
 |none=>cC t l 25 .none
 |some ls=>e9 t l 25 (dq (ls.map ge))
structure gt(count:Y)(t:I (J×O))(kind low high:J)(η:b5)(l:I (Y×O)):Prop where
 kind:cC t l 20 (.int kind)
 c4:e9 t l 17 (dq [ge (low,high)])
 sO:nc t l η
 g:dN low high
 Τ:∀ls,η=some ls->fG count ls
 small:l.length<=30
noncomputable def aky(x:cP):Prop:=(-2000<=x.2.1/\x.2.1<=2000)/\(-8<=x.2.2/\x.2.2<=8)
structure AP(count:Y)(t:I (J×O))(low high:J)(η:b5)(ς:I J)(parts:I cP)(l:I (Y×O)):Prop where
 C:gt count t 3 low high η l
 up:lp low ς high
 len:parts.length=ς.length+1
 gI:parts.length<=4
 b:e9 t l 10 (b7 ς)
 e:e9 t l 18 (dq ((hY low (ς++[high]) parts).map n6))
inductive eF(count:Y)(t:I (J×O)):Y->O->O->Prop
 |pow {L low high η N ak ag l} (C:gt count t 2 low high η l) (bZ:N<=64) (h0:ak.length=count) (Α:ag.length=count) (n:cC t l 23 (.int (N:Y))) (jl:e9 t l 13 (b7 ak)) (ds:e9 t l 15 (b7 ag)):
  eF count t L (pC low high η N ak ag) (.Ω l)
 |sH {L low high k ak ag l s} (C:gt count t 0 low high (some (fq count k)) l) (Η:1<=k/\k<=4) (h0:ak.length=count) (Α:ag.length=count) (eD:∀a∈ak,0<=a/\a<256^k) (dv:∀a∈ag,0<=a/\a<256^k)
  (z:cC t l 28 (.lst [s])) (bc:bU s) (eC:cp t 30 s= .int 2) (b:cC t l 9 (.int (8*(k:Y)))) (e:cC t l 18 .none) (d:cC t l 16 .none):
  eF count t L (qT low high (some (fq count k)) k ak ag) (l6 (.Ω l) (.bytes ((ak++ag).flatMap (jm k))))
 |sI {L low high ls neg add l} (C:gt count t 4 low high (some ls) l) (Ζ:neg=0∨neg=1) (γ:0<=add/\add<256):
  eF count t L (qV low high (some ls) neg add count) (l6 (.Ω l) (.bytes [neg.toNat.toUInt8,add.toNat.toUInt8,(count:J).toNat.toUInt8]))
 |nf {L low high η ς parts l} (zs:I (O×O)) (S:AP count t low high η ς parts l) (f:cC t l 21 (.lst (zs.map (·.1)))) (Ρ:parts.map (λx=>x.1.fn)=zs.map (·.2)) (c7:∀z∈zs,bU z.1) (dO:∀z∈zs,eF count t L z.2 (cp t 30 z.1)):
  eF count t (L+1) (sJ low high η ς parts) (.Ω l)
theorem eF.up{count t L fn v}(h:eF count t L fn v):∀{M},L<=M->eF count t M fn v:=by
 induction h with
 |pow C bZ h0 Α n jl ds=>exact λH=>.pow C bZ h0 Α n jl ds
 |sH C Η h0 Α eD dv z bc eC b e d=>exact λH=>.sH C Η h0 Α eD dv z bc eC b e d
 |sI C Ζ γ=>exact λH=>.sI C Ζ γ
 |nf zs S f Ρ c7 dO Ξ=>
  intro M pF;obtain⟨M,rfl⟩:∃ads,M=ads+1:=⟨M - 1,by exact(il (aP (ei 1 _) pF)).symm⟩;exact .nf zs S f Ρ c7 λz Ρ=>Ξ z Ρ (pV pF)
inductive AQ:O->I (Y×O)->Prop
 |Ω (l:I (Y×O)):AQ (.Ω l) l
 |qP (l o):AQ (l6 (.Ω l) o) l
section
variable{q:Y}{pl kind:J}{η:b5}{x:ai}{T:ε}{fn c4:O}{ls:I (J×J)}{ak ag:I J}
theorem e9.ok{key:Y}(S:e9 t l key rs)(G:ar p)(Ζ:4<=n)(Θ:c T=some (.tab t))(δ:co t)(Ρ:rs.length<=1000)(h:Q (.lst (bp rs)) c):aF p n (.val (.ref 577)) [cM T,.Ω l,.sym key] c Q Er:=by
 rcases S with ⟨items,s,ej⟩
 exact Fq G Ζ Θ δ s.c7 s.eq (by rw[ej.length];exact Ρ) ej h
theorem e9.spans{key:Y}{ps:I (ai×ai)}(S:e9 t l key (dq ps))(G:ar p)(Ζ:5<=n)(Θ:c T=some (.tab t))(δ:co t)(Ρ:ps.length<=400)(h0:ps≠[])(Χ:px ps)(h:Q (.lst (ps.map fE)) c):aF p n (.val (.ref 582)) [cM T,.Ω l,.sym key] c Q Er:=by
 rcases S with ⟨items,s,ej⟩
 exact acP G Ζ Θ δ s.c7 s.eq Ρ h0 ej Χ h
theorem e9.pairs{key:Y}{ps:I (ai×ai)}(S:e9 t l key (dq ps))(G:ar p)(Ζ:5<=n)(Θ:c T=some (.tab t))(δ:co t)(Ρ:ps.length<=400)(h:Q (.lst (ps.map fE)) c):aF p n (.val (.ref 587)) [cM T,.Ω l,.sym key,.int ps.length,v] c Q Er:=by
 rcases S with ⟨items,s,ej⟩
 exact acF G Ζ Θ δ s.c7 s.eq Ρ ej h
theorem FQ{α:Type}{f:α->O}{l:I α}(h:1<=l.length):qf (l.map f)=false:=by
 rcases l with _|⟨x,l⟩
 ·simp at h
 ·rfl
theorem adt(h:a≠b){P dt:Prop}(jL:P):fO (!decide (a=b)) P dt:=by rw[ro h];exact jL
theorem AR(h:a=b){P dt:Prop}(jL:dt):fO (!decide (a=b)) P dt:=by rw[jw h];exact jL
theorem adu{N:Y}(G:ar p)(Ζ:5<=n)(Θ:c T=some (.tab t))(δ:co t)(h0:ak.length=count)(Α:ag.length=count)(af:1<=count/\count<=100)(bZ:N<=64)(xv:cC t l 23 (.int N))(jl:e9 t l 13 (b7 ak))(ds:e9 t l 15 (b7 ag))(h:Q (.Ω [(13,.lst (bp (b7 ak))),(15,.lst (bp (b7 ag))),(23,.int N)]) c):aF p n (.val (.ref 613)) [cM T,.Ω l,.lst [c4]] c Q Er:=by
 refine .at Ζ ?_;refine aaQ G rfl ?_;have fx:(bp (b7 ak)).length=count:=by simp[bp,b7,h0]
 have bd:(bp (b7 ag)).length=count:=by simp[bp,b7,Α]
 refine eK (bu rfl) ?_;refine jl.ok G (by decide) Θ δ (by simp[b7];exact cJ h0 af.2 rfl) ?_;refine ds.ok G (by decide) Θ δ (by simp[b7];exact cJ Α af.2 rfl) ?_;refine eK (cJ fx af.2 rfl) ?_;refine eK (cJ bd af.2 rfl) ?_;refine AR (by rw[fx,bd]) ?_;show fO (qf (bp (b7 ak))) _ _;rw[show qf (bp (b7 ak))=false from FQ (by simp[b7];exact Qk af.1 h0.symm)];refine Fw (i:=N) G (by decide) Θ δ xv.c7 xv.eq (oP) (ml.2 bZ) ?_;exact h
theorem adv{parts:I (Y×O)}(G:ar p)(Ζ:1<=n)(hd:c d=some (.cV [(60,.int 2),(47,c4),(75,.none),(76,.Ω [(13,.lst (bp (b7 ak))),(15,v),(23,w)])]))(Τ:ak.length<=100)(h:Q (.int ak.length) c):aF p n (.val (.ref 558)) [.ins 566 d] c Q Er:=by
 refine .at Ζ ?_;refine w' G rfl ?_;refine as _ hd ?_;refine as _ hd ?_;refine as _ hd ?_;have fx:(bp (b7 ak)).length=ak.length:=by simp[bp,b7]
 refine eK (cJ fx Τ rfl) ?_;rw[fx];exact h
theorem adw{kd:O}{bW:I O}(G:ar p)(hd:c d=some (.cV [(60,.int 3),(47,c4),(75,.none),(76,.Ω [(21,.lst (kd::bW)),(10,v),(18,w)])]))(Ξ:aF p n (.val (.ref 558)) [kd] c Q Er)(h0:∃f,kd= .obj 566 f/\we (bl f 44)=true)(Τ:bW.length<=100):aF p (n+1) (.val (.ref 558)) [.ins 566 d] c Q Er:=by
 refine w' G rfl ?_;refine as _ hd ?_;refine as _ hd ?_;refine as _ hd ?_;refine ψ h0 λf aV hf=>?_;try clear h0;rcases aV with rfl
 show nG (true&&we (bl f 44)) _;rw[hf];exact Ξ
theorem eF.obj(h:eF count t L fn v):∃kind low high η parts,fn=ln kind low high η parts:=by
 rcases h with ⟨⟩<;>exact R8 _ _ _ _ _ rfl
theorem AS(G:ar p)(Θ:1<=count/\count<=100):∀{L fn v},eF count t L fn v->∀{n c Q Er},L+1<=n->Q (.int count) c->aF p n (.val (.ref 558)) [fn] c Q Er:=by
 intro L fn v h;have AT:∀{kind low high ls parts n c Q Er},1<=n->fG count ls->Q (.int count) c->aF p n (.val (.ref 558)) [ln kind low high (some ls) parts] c Q Er:=by
  intro kind low high ls parts n c Q Er Ζ Τ h;refine .at Ζ ?_;refine w' G rfl ?_;refine n8 (by rw[Τ.len];exact aR Θ.2 rfl) ?_;rw[Τ.len];exact h
 induction h with
 |@pow L low high η N ak ag l C bZ h0 Α xv jl ds=>
  intro n c Q Er Ζ h;cases η with
  |some ls=>exact AT (oO Ζ rfl) (C.Τ ls rfl) h
  |none=>
   refine .at (oO Ζ rfl:1<=n) ?_;refine w' G rfl ?_;have fx:(bp (b7 ak)).length=count:=by simp[bp,b7,h0]
   refine eK (cJ fx Θ.2 rfl) ?_;rw[fx];exact h
 |@sH L low high k ak ag l s C=>exact λΖ h=>AT (oO Ζ rfl) (C.Τ _ rfl) h
 |@sI L low high ls neg add l C=>exact λΖ h=>AT (oO Ζ rfl) (C.Τ _ rfl) h
 |@nf L low high η ς parts l zs S f Ρ c7 dO Ξ=>
  intro n c Q Er Ζ h;cases η with
  |some ls=>exact AT (aP (ei _ _) Ζ) (S.C.Τ ls rfl) h
  |none=>
   obtain⟨n,rfl⟩:∃dy,n=dy+1:=⟨n - 1,by exact(il (aP (ei 1 _) Ζ)).symm⟩;refine w' G rfl ?_;have Τ:=S.len;cases parts with
   |nil=>simp at Τ
   |cons x parts=>
   cases zs with
   |nil=>contradiction
   |cons z zs=>
   have fx:x.1.fn=z.2:=(vz Ρ).1;refine vM ((dO z (.head _)).obj) λkind lo hi η kC e=>?_;have:=Ξ z (.head _) (n:=n) (c:=c) (Q:=Q) (Er:=Er) (pV Ζ) h;show yU a1 a6 c 44 x.1.fn (iG p a1 a6 Er n XL.nil _ c λvs ρ c=>nK p a1 a6 Er n c 44 x.1.fn vs λv c'=>Q v c');rw[fx,e];rw[e] at this;exact this
end
section
variable{q:Y}{pl kind:J}{η:b5}{x:ai}{T:ε}{fn c4 s:O}{ls:I (J×J)}{ak ag:I J}
theorem cC.get{key:Y}(S:cC t l key v)(G:ar p)(Ζ:2<=n)(Θ:c T=some (.tab t))(δ:co t)(h:Q v c):aF p n (.val (.ref 395)) [cM T,.Ω l,.sym key] c Q Er:=by
 refine xn G Ζ Θ δ S.c7 ?_;have e:=S.eq;unfold hu at e;rw[e];exact h
theorem FR(l:I J):(l.flatMap (jm k)).length=k*l.length:=by
 induction l with
 |nil=>rfl
 |cons x l Ξ=>rw[vJ,fa,uK,Ξ,kP,yn,vI]
theorem adx(Η:1<=k/\k<=4):rR (8*(k:J)) [1,2,4,8,12,16,24,32]=true:=by
 rcases(Ih Η.1 Η.2:k=1∨k=2∨k=3∨k=4) with h|h|h|h<;>subst h<;>rfl
theorem ady{P dt:Prop}(Η:1<=k/\k<=4)(h:dt):hR (jF .NotIn (.int (8*(k:J))) (.tup [.int 1,.int 2,.int 4,.int 8,.int 12,.int 16,.int 24,.int 32])) P dt:=by
 show fO (!rR (8*(k:J)) [1,2,4,8,12,16,24,32]) _ _;rw[adx Η];exact h
theorem adz(G:ar p)(Ζ:6<=n)(Θ:c T=some (.tab t))(δ:co t)(Η:1<=k/\k<=4)(h0:ak.length=count)(Α:ag.length=count)(eD:∀a∈ak,0<=a/\a<256^k)(dv:∀a∈ag,0<=a/\a<256^k)(af:count<=50)(z:cC t l 28 (.lst [s]))(bc:bU s)(eC:cp t 30 s= .int 2)(b:cC t l 9 (.int (8*(k:Y))))(e:cC t l 18 .none)(AD:cC t l 16 .none)(h:∀c',fF c c'->Q (.Ω [(28,.lst [.int 2]),(8,.int (8*k)),(18,.lst [fE (0,1)]),(16,Fy (fq count k)),(27,.lst (b2 (ak++ag)))]) c'):
 aF p n (.val (.ref 606)) [cM T,l6 (.Ω l) (.bytes ((ak++ag).flatMap (jm k))),.lst [c4],Fy (fq count k),.val (.ref 736)] c Q Er:=by
 refine .at Ζ ?_;refine aaP G rfl ?_;dsimp only[eU,fz,vK,oI,i6,gj];have gf:(fq count k).length=count:=p6;have jo:(ak++ag).length=2*count:=by rw[fa];exact CQ Α h0
 refine z.get G (by decide) Θ δ ?_;refine cG G rfl rfl (r:=true) rfl ?_;refine⟨bu rfl,?_⟩;refine uI G (by decide) Θ δ bc ?_;rw[eC];dsimp only[eU,fz,ai9,mu,oI,i6,gj,Hk,aja];refine eK (bu rfl) ?_;refine eK (bu rfl) ?_;refine⟨bu rfl,?_⟩;refine Ar G (by decide) (.int 2) ?_;refine Fw (i:=8*k) G (by decide) Θ δ b.c7 (by rw[b.eq];rfl) (SH Η.1) (S1 Η.2) ?_;rw[show((8*k:Y):J)=8*(k:J) from rfl];refine ady Η ?_;refine eK (bu rfl) ?_;refine eK (bu rfl) ?_;refine⟨bu rfl,?_⟩;dsimp only[eU,fz,ai9,mu,oI,i6,gj,Hk,aja];refine Fu G (by decide) Θ δ e.c7 e.eq ?_;refine n8 (cJ gf af rfl) ?_;refine xi (by rw[bV];exact cJ gf af rfl) ?_;refine Fu G (by decide) Θ δ AD.c7 AD.eq ?_;refine n8 (cJ gf af rfl) ?_;refine⟨bu rfl,?_⟩;rw[gf];refine⟨bT (i:=6) (j:=2) (.of (n:=51) (tj af) (by decide)) (by decide) (by decide),?_⟩;have adA:k*(2*count)<=4*100:=rn Η.2 (qa af rfl);refine FI G (by decide) ?_;refine Nx (by rw[FR,jo];exact aP adA (ei _ _)) ?_;refine ft (bT (i:=4) (j:=9) (by decide) (.of (n:=401) (by rw[FR,jo];omega) (by decide)) (by decide)) (bT (i:=6) (j:=7) (.of (n:=33) (SW Η.2) (by decide)) (.of (n:=101) (S3 af) (by decide)) (by decide)) ?_;refine qM ?_ ?_
 ·rw[FR,jo];have:((k*(2*count):Y):J)=(k:J)*((count:J)*2):=by rw[ou,ou,vl (count:J)];rfl
  rw[this,ot];exact(by simp+arith)
 rw[show(count:J)*2=((ak++ag).length:J) by rw[jo];exact vl _ _];refine acE G (by decide) rfl Η.2 (λx Ν=>(hA.mp Ν).elim (eD x) (dv x)) (aP (gw jo) (aP (mm _ af) (by decide))) λc' eY=>?_;refine xi (by unfold b2;rw[bV];exact aP (gw jo) (aP (mm _ af) (by decide))) ?_;exact h c' eY
end
theorem Og{tgt:O->Ο->(Ο->Prop)->Prop}{d1:Ο->Ι->(Ο->Ι->Prop)->(Ο->Ι->Prop)->Prop}{aN:Ο->Ι->(O->Ο->Ι->Prop)->Prop}{Q:I O->Ο->Ι->Prop}{l':I O}(l:I O):
 ∀{acc ρ c},dT tgt d1 aN l acc ρ c (λacc ρ c=>dT tgt d1 aN l' acc ρ c Q)->dT tgt d1 aN (l++l') acc ρ c Q:=by
 intro acc ρ c h;have e:∀{acc ρ c},dT tgt d1 aN (l++l') acc ρ c Q=dT tgt d1 aN l acc ρ c (λacc ρ c=>dT tgt d1 aN l' acc ρ c Q):=by
  clear h
  induction l with
  |nil=>intros;rfl
  |cons x l Ξ=>
   intro acc ρ c;show tgt x ρ (λρ=>d1 ρ c (λρ c=>aN ρ c λv ρ c=>dT tgt d1 aN (l++l') (acc++[v]) ρ c Q) (λρ c=>dT tgt d1 aN (l++l') acc ρ c Q))=_;simp only[Ξ];rfl
 rw[e];exact h
noncomputable abbrev j0(T:ε)(l:I (Y×O))(hy:I O)(df:O)(dp:J)(x5 x6 x7 dQ fW:ξ O):Ο:=[some (cM T),some (.Ω l),some (.lst hy),some df,some (.int dp),x5,x6,x7,dQ,fW]
noncomputable abbrev FS:SL:=a9 (a9 (a9 (a9 ux)))
noncomputable abbrev xw:SL:=a9 FS
noncomputable abbrev AU:SL:=a9 (a9 xw)
noncomputable abbrev FT:SL:=a9 (a9 AU)
section
variable{q:Y}{pl kind dp:J}{η:b5}{x:ai}{T:ε}{fn c4 s df:O}{hy pre post:I O}{ls:I (J×J)}{zs:I (O×O)}{ς:I J}{x5 x6 x7 dQ fW:ξ O}{ps:I (ai×ai)}
theorem AV(G:ar p)(Ζ:3<=n)(Θ:c T=some (.tab t))(δ:co t)(f:cC t l 21 (.lst hy))(h0:qf hy=false)(h:bh p a1 a6 Er n (a9 (a9 (a9 ux))) (j0 T l [c4] df dp (some (.lst hy)) none none none none) c (λH c'=>Q .none c') (λx H c'=>Q x c')):
 bh p a1 a6 Er n ux (j0 T l [c4] df dp none none none none none) c (λH c'=>Q .none c') (λx H c'=>Q x c'):=by
 refine eK (bu rfl) ?_;refine f.get G (b8 Ζ rfl) Θ δ ?_;refine cG G rfl rfl (r:=true) rfl ?_;show fO (qf hy) _ _;rw[h0];exact h
theorem AW(ζ:hy=zs.map (·.1)++post)(Τ:hy.length<=20)(Θ:c T=some (.tab t))(Ξ:∀z∈zs,∀c' Q,fF c c'->(∀bz,fF c' bz->Q z.2 bz)->aF p n (.val (.ref 626)) [cM T,z.1,df,.int (dp+1)] c' Q Er)(h:∀c',fF c c'->(post=[]->bh p a1 a6 Er n FS (j0 T l [c4] df dp (some (.lst hy)) (some (.lst (zs.map (·.2)))) none none none) c' (λH c'=>Q .none c') (λx H c'=>Q x c'))/\(∀x r,post=x::r->∀Q,aF p n (.val (.ref 626)) [cM T,x,df,.int (dp+1)] c' Q Er)):
 bh p a1 a6 Er n (a9 (a9 (a9 ux))) (j0 T l [c4] df dp (some (.lst hy)) none none none none) c (λH c'=>Q .none c') (λx H c'=>Q x c'):=by
 subst ζ;refine⟨by exact aR Τ rfl,Og _ ?_⟩;refine uS (f:=Prod.fst) (λrest acc ρ c'=>fF c c'/\∃done o,zs=done++rest/\acc=done.map (·.2)/\ρ=[some (cM T),some (.Ω l),some (.lst [c4]),some df,some (.int dp),some (.lst (zs.map (·.1)++post)),none,none,none,none,o]) ?_ ?_ zs [] _ c ⟨.refl c,[],none,rfl,rfl,rfl⟩
 ·intro z rest acc ρ c' K be aC;refine aa be λeO aV=>?_;try clear be;refine fb aV λdone o e aW bM=>?_;try clear aV;rcases aW with rfl;rcases bM with rfl
  refine Ξ z (by rw[e];simp) c' _ eO λbz jq=>?_;exact aC _ _ _ ⟨eO.trans jq,done++[z],_,by rw[e];simp,by simp,rfl⟩
 ·intro acc ρ c' be;refine aa be λeO aV=>?_;try clear be;refine fb aV λdone o e aW bM=>?_;try clear aV;rcases aW with rfl;rcases bM with rfl
  rw[gj] at e;subst e;rcases post with _|⟨x,r⟩
  ·exact((h c' eO)).1 rfl
  ·exact((h c' eO)).2 x r rfl _
theorem Oh{h9:I O}{dd:I O->Ο->Ι->Prop}{gK mx FU:ξ O}(G:ar p)(Ζ:L+2<=n)(af:1<=count/\count<=100)(dO:∀z∈zs,eF count t L z.2 (cp t 30 z.1))(hi:∀z∈zs,∃kD∈zs,eX h9 0=some kD.2)(h:∀o:ξ (O×O),dd [] [some (cM T),some (.Ω l),some (.lst hy),some df,some (.int dp),x5,some (.lst h9),gK,mx,FU,o.map vL] c):
 dT (hk (.var 10)) (mI p a1 a6 Er n (.cons (.or (.cons (.cmp .NotEq (.hG (.var 10) 43 .nil) (.cst (.int 1))) (.cons (.cmp .NotEq (.hG (.var 10) 44 .nil) (.hG (.sub (.var 6) (.cst (.int 0))) 44 .nil)) .nil))) .nil)) (bS p a1 a6 Er n (.var 10)) (zs.map vL) []
  [some (cM T),some (.Ω l),some (.lst hy),some df,some (.int dp),x5,some (.lst h9),gK,mx,FU,none] c dd:=by
 refine FG (f:=vL) (λo:ξ (O×O)=>[some (cM T),some (.Ω l),some (.lst hy),some df,some (.int dp),x5,some (.lst h9),gK,mx,FU,o.map vL]) zs none ?_ h;intro z Ρ o K aC;refine ψ (hi z Ρ) λkD q0 jd=>?_;have gc:=dO z Ρ;refine vM gc.obj λkind lo hi η kC uX=>?_;refine vM ((dO kD q0).obj) λadB adC AX adD adE FV=>?_;have zZ:=@AS p count t G af L z.2 _ gc n c;have z0:=@AS p count t G af L kD.2 _ (dO kD q0) n c;obtain⟨akz,adF⟩:=z;obtain rfl:adF=_:=uX;rw[FV] at jd z0;refine FD G (oO Ζ rfl) ?_;refine zZ (IS Ζ) ?_;refine cO jd ?_;refine z0 (IS Ζ) ?_;exact AR rfl aC
theorem Oi(G:ar p)(Ζ:L+2<=n)(af:1<=count/\count<=100)(q0:zs≠[])(Τ:zs.length<=20)(dO:∀z∈zs,eF count t L z.2 (cp t 30 z.1))(h:bh p a1 a6 Er n xw (j0 T l hy df dp x5 (some (.lst (zs.map (·.2)))) none none none) c (λH c'=>Q .none c') (λx H c'=>Q x c')):
 bh p a1 a6 Er n FS (j0 T l hy df dp x5 (some (.lst (zs.map (·.2)))) none none none) c (λH c'=>Q .none c') (λx H c'=>Q x c'):=by
 refine⟨by rw[bV];exact aR Τ rfl,?_⟩;refine Oh G Ζ af dO (λz Ρ=>?_) λo=>h;obtain⟨kD,uY,e⟩:∃kD uY,zs=kD::uY:=by cases zs with|nil=>exact absurd rfl q0|cons a r=>exact⟨a,r,rfl⟩
 exact⟨kD,by rw[e];exact .head _,by rw[e];exact l9 (f:=vL) (i:=0) (l:=kD::uY) rfl (by rw[<-e];exact aR Τ rfl)⟩
end
section
variable{q:Y}{kind dp:J}{η:b5}{line:I ai}{lo hi x:ai}{T:ε}{fn c4 s df:O}{hy pre post h9:I O}{ls:I (J×J)}{ς:I J}{x5 x6 x7 dQ fW:ξ O}{ps:I (ai×ai)}
theorem FW(G:ar p)(Ζ:4<=n)(Θ:c T=some (.tab t))(δ:co t)(b:e9 t l 10 rs)(Ρ:rs.length+1=h9.length)(Τ:h9.length<=100)(h:bh p a1 a6 Er n AU (j0 T l hy df dp x5 (some (.lst h9)) (some (.lst (bp rs))) none none) c (λH c'=>Q .none c') (λx H c'=>Q x c')):
 bh p a1 a6 Er n xw (j0 T l hy df dp x5 (some (.lst h9)) none none none) c (λH c'=>Q .none c') (λx H c'=>Q x c'):=by
 have av:=pw rs;refine b.ok G Ζ Θ δ (θ [_,_] [] (.le (.v 0) (.c 1000)) [(.eq (.a (.v 0) (.c 1)) (.v 1)),(.le (.v 1) (.c 100))] [[1,1,0,1]] rfl Ρ Τ) ?_;refine eK (θ [_,_,_] [] (.le (.v 2) (.c 100000)) [(.eq (.a (.v 0) (.c 1)) (.v 1)),(.eq (.v 2) (.v 0)),(.le (.v 1) (.c 100))] [[1,1,0,1,0,1]] rfl Ρ av Τ) ?_;refine eK (aR Τ rfl) ?_;exact AR (θ [_,_,_] [] (.ff (.n (.v 2)) (.s (.n (.v 1)) (.c 1))) [(.eq (.a (.v 0) (.c 1)) (.v 1)),(.eq (.v 2) (.v 0))] [[1,1,0,1],[1,0,1,0,1]] rfl Ρ av) h
theorem adG(G:ar p)(cK:Er)(Ζ:4<=n)(Θ:c T=some (.tab t))(δ:co t)(b:cC t l 10 .none):
 bh p a1 a6 Er n xw (j0 T l hy df dp x5 x6 none none none) c (λH c'=>Q .none c') (λx H c'=>Q x c'):=by
 refine Fp G (b8 Ζ rfl) Θ δ b.c7 b.eq ?_;exact cK
theorem akA(h:line[i]?=some x)(Τ:line.length<=100):eX (bp line) (i:J)=some (bb x):=l9 (f:=bb) h (aR Τ rfl)
theorem AY(gb:line=lo::(rs++[hi]))(Ρ:rs.length<=50)(h:line[i]?=some x)(γ:a=(i:Y)):eX (([bb lo]++bp rs)++[bb hi]) a=some (bb x):=by
 rw[(by rw[gb];simp[bp]:([bb lo]++bp rs)++[bb hi]=bp line),γ];exact l9 (f:=bb) h (by rw[gb];simp;exact aR Ρ rfl)
theorem Oj{m:Y}(h:1<=m):fQ 1 (m:J) 1=m - 1:=by unfold fQ;exact(by simp)
theorem Ol(G:ar p)(Ζ:1<=n)(Ρ:rs.length<=50)(gb:line=lo::(rs++[hi]))(eE:hv 64 line)(up:∀i x y,line[i]?=some x->line[i+1]?=some y->x<=y)(h:∀dQ,bh p a1 a6 Er n FT (j0 T l [.tup [bb lo,bb hi]] df dp x5 x6 (some (.lst (bp rs))) dQ none) c (λH c'=>Q .none c') (λx H c'=>Q x c')):
 bh p a1 a6 Er n AU (j0 T l [.tup [bb lo,bb hi]] df dp x5 x6 (some (.lst (bp rs))) none none) c (λH c'=>Q .none c') (λx H c'=>Q x c'):=by
 have av:=pw rs;have bB:(([bb lo]++bp rs)++[bb hi]).length=rs.length+2:=by simp[av]
 have n9:line.length=rs.length+2:=by rw[gb];simp
 refine ft (by simp;exact Jb av Ρ) (by simp;exact cJ av Ρ rfl) ?_;refine eK (I7 bB Ρ) ?_;refine⟨⟨by decide,by decide,by decide,by decide,by exact rM,by exact I6 bB Ρ,by exact I5 bB Ρ⟩,?_⟩;rw[Oj (I8 bB),qY];refine FG (λo:ξ Y=>[some (cM T),some (.Ω l),some (.lst [.tup [bb lo,bb hi]]),some df,some (.int dp),x5,x6,some (.lst (bp rs)),some (.lst (([bb lo]++bp rs)++[bb hi])),none,o.map λi=>.int (1+1*(i:Y))]) _ none (λk Η o K aC=>?_) λo=>h _;have Η:=mw.mp Η;have Α:line[k]?=some line[k]:=gY (Jx n9 bB Η);have Δ:line[k+1]?=some line[k+1]:=gY (Jw n9 bB Η);refine cO (AY gb Ρ Δ (IH)) ?_;refine cO (AY gb Ρ Α (IG)) ?_;refine uH G Ζ (eE _ (kR _)) (eE _ (kR _)) (by decide) ?_;exact qM (rA.mpr (up k _ _ Α Δ)) aC
theorem adH(G:ar p)(cK:Er)(Ζ:1<=n)(Ρ:rs.length<=50)(gb:line=lo::(rs++[hi]))(eE:hv 64 line){z:Y}{x y:ai}(Ν:line[z]?=some x)(aX:line[z+1]?=some y)(h1:y<x):
 bh p a1 a6 Er n AU (j0 T l [.tup [bb lo,bb hi]] df dp x5 x6 (some (.lst (bp rs))) none none) c (λH c'=>Q .none c') (λx H c'=>Q x c'):=by
 have av:=pw rs;have bB:(([bb lo]++bp rs)++[bb hi]).length=rs.length+2:=by simp[av]
 have n9:line.length=rs.length+2:=by rw[gb];simp
 refine ft (by simp;exact Jb av Ρ) (by simp;exact cJ av Ρ rfl) ?_;refine eK (I7 bB Ρ) ?_;refine⟨⟨by decide,by decide,by decide,by decide,by exact rM,by exact I6 bB Ρ,by exact I5 bB Ρ⟩,?_⟩;rw[Oj (I8 bB),qY];refine acO (λo:ξ Y=>[some (cM T),some (.Ω l),some (.lst [.tup [bb lo,bb hi]]),some df,some (.int dp),x5,x6,some (.lst (bp rs)),some (.lst (([bb lo]++bp rs)++[bb hi])),none,o.map λi=>.int (1+1*(i:Y))]) z _ [] none (λk Η o acc K aC xt=>?_) (.inl (mw.mpr ?_)) λv vs o=>cK
 ·have Η:=mw.mp Η;have Α:line[k]?=some line[k]:=gY (Jx n9 bB Η);have Δ:line[k+1]?=some line[k+1]:=gY (Jw n9 bB Η);refine cO (AY gb Ρ Δ (IH)) ?_;refine cO (AY gb Ρ Α (IG)) ?_;refine uH G Ζ (eE _ (kR _)) (eE _ (kR _)) (by decide) ?_;refine d4 (λH=>xt _) λqv=>aC λe=>qv ?_;subst e;rw[Α] at Ν;rw[Δ] at aX;obtain rfl:=bQ Ν;obtain rfl:=bQ aX;exact h1
 ·have:=(j7.mp aX).1;exact Te n9 bB this
theorem adI(G:ar p)(Ζ:5<=n)(Θ:c T=some (.tab t))(δ:co t)(e:e9 t l 18 (dq ps))(Ρ:ps.length=h9.length)(Τ:h9.length<=100)(h:Q (.Ω [(21,.lst h9),(10,w),(18,.lst (ps.map fE))]) c):
 bh p a1 a6 Er n FT (j0 T l hy df dp x5 (some (.lst h9)) (some w) dQ none) c (λH c'=>Q .none c') (λx H c'=>Q x c'):=by
 refine eK (aR Τ rfl) ?_;rw[<-Ρ];refine e.pairs G Ζ Θ δ (cJ Ρ Τ rfl) ?_;exact h
theorem adJ(G:ar p)(cK:Er)(Ζ:5<=n)(Θ:c T=some (.tab t))(δ:co t)(e:cC t l 18 .none)(Τ:h9.length<=100):
 bh p a1 a6 Er n FT (j0 T l hy df dp x5 (some (.lst h9)) (some w) dQ none) c (λH c'=>Q .none c') (λx H c'=>Q x c'):=by
 refine eK (aR Τ rfl) ?_;refine Fu G (b8 Ζ rfl) Θ δ e.c7 e.eq ?_;exact cK
theorem Om{ς:I J}{h:J}:∀{b:J},lp b ς h->∀i x y,((b::(ς++[h])).map λa=>aq (100*a))[i]?=some x->((b::(ς++[h])).map λa=>aq (100*a))[i+1]?=some y->x<=y:=by
 induction ς with
 |nil=>
  intro b a4 i x y Ν aX;rcases i with _|i
  ·obtain rfl:=bQ Ν;obtain rfl:=bQ aX;exact qS.mpr (by have:b<=h:=a4;exact vW this)
  ·rcases i with ⟨⟩<;>contradiction
 |cons e l Ξ=>
  intro b a4 i x y Ν aX;rcases i with _|i
  ·obtain rfl:=bQ Ν;obtain rfl:=bQ aX;exact qS.mpr (by have:=a4.1;exact vW this)
  ·exact Ξ a4.2 i x y Ν aX
end
noncomputable abbrev e'(T:ε)(item df:O)(dp:J)(x4 x5 x6 x7 dQ fW eG:ξ O):Ο:=[some (cM T),some item,some df,some (.int dp),x4,x5,x6,x7,dQ,fW,eG]
noncomputable abbrev AZ:SL:=a9 (a9 (a9 gU))
noncomputable abbrev A0:SL:=a9 AZ
noncomputable abbrev FX:SL:=a9 A0
noncomputable abbrev FY:SL:=a9 FX
noncomputable abbrev adK:SL:=a9 (a9 (a9 (a9 FY)))
noncomputable abbrev Oo:SL:=a9 adK
noncomputable abbrev iR:O:=.tup [.val (.ref 736),.val (.ref 743)]
section
variable{q kn:Y}{kind dp:J}{η:b5}{line:I ai}{x:ai}{T:ε}{fn c4 s df item:O}{ls:I (J×J)}{x4 x5 x6 x7 dQ fW:ξ O}{ps:I (ai×ai)}{parts:I (Y×O)}
theorem adL(cK:Er)(h:8<dp):bh p a1 a6 Er n gU (e' T item df dp none none none none none none none) c (λH c'=>Q .none c') (λx H c'=>Q x c'):=
 An (c:=dp>8) h cK
theorem xx(G:ar p)(Ζ:1<=n)(Θ:c T=some (.tab t))(δ:co t)(gg:dp<=8)(Η:bU item)(Φ:cp t 30 item=v)(bJ:AQ v l)(h:bh p a1 a6 Er n AZ (e' T item df dp (some v) (some (.Ω l)) none none none none none) c (λH c'=>Q .none c') (λx H c'=>Q x c')):
 bh p a1 a6 Er n gU (e' T item df dp none none none none none none none) c (λH c'=>Q .none c') (λx H c'=>Q x c'):=by
 refine qM (c:=dp>8) (ly.2 gg) ?_;refine uI G Ζ Θ δ Η ?_;rw[Φ];rcases bJ with _|_
 ·exact acH G Ζ h
 ·exact acI G Ζ h
theorem adM(G:ar p)(cK:Er)(Ζ:1<=n)(Θ:c T=some (.tab t))(δ:co t)(Η:bU item)(Φ:cp t 30 item= .none):
 bh p a1 a6 Er n gU (e' T item df dp none none none none none none none) c (λH c'=>Q .none c') (λx H c'=>Q x c'):=by
 refine d4 (c:=dp>8) (λH=>cK) λH=>?_;refine uI G Ζ Θ δ Η ?_;rw[Φ];exact acJ G cK Ζ
theorem A1(G:ar p)(Ζ:3<=n)(Θ:c T=some (.tab t))(δ:co t)(s:cC t l 20 (.int (kn:Y)))(Η:kn<=4)(h:bh p a1 a6 Er n A0 (e' T item df dp x4 (some (.Ω l)) (some (.int (kn:Y))) none none none none) c (λH c'=>Q .none c') (λx H c'=>Q x c')):
 bh p a1 a6 Er n AZ (e' T item df dp x4 (some (.Ω l)) none none none none none) c (λH c'=>Q .none c') (λx H c'=>Q x c'):=
 Fw G Ζ Θ δ s.c7 s.eq (oP) (ml.2 Η) h
theorem adN(G:ar p)(cK:Er)(Ζ:3<=n)(Θ:c T=some (.tab t))(δ:co t)(s:cC t l 20 .none):
 bh p a1 a6 Er n AZ (e' T item df dp x4 (some (.Ω l)) none none none none none) c (λH c'=>Q .none c') (λx H c'=>Q x c'):=
 acG G cK Ζ Θ δ s.c7 s.eq
theorem FZ(G:ar p)(Ζ:5<=n)(Θ:c T=some (.tab t))(δ:co t)(s:e9 t l 17 (dq ps))(Ρ:ps.length<=400)(h0:ps≠[])(Χ:px ps)(h:bh p a1 a6 Er n FX (e' T item df dp x4 (some (.Ω l)) x6 (some (.lst (ps.map fE))) none none none) c (λH c'=>Q .none c') (λx H c'=>Q x c')):
 bh p a1 a6 Er n A0 (e' T item df dp x4 (some (.Ω l)) x6 none none none none) c (λH c'=>Q .none c') (λx H c'=>Q x c'):=
 s.spans G Ζ Θ δ Ρ h0 Χ h
theorem adO(Τ:fG count ls):px (ls.map ge):=λx Ν=>by
 apply iB (i5.mp Ν);intro y aX;refine e7 (Τ.ok y aX) λΑ Δ κ=>?_;exact ft (qS.mpr (vW Α)) (uQ Δ) (uQ κ)
theorem A2(G:ar p)(Ζ:5<=n)(Θ:c T=some (.tab t))(δ:co t)(af:1<=count/\count<=50)(R:nc t l η)(Τ:∀ls,η=some ls->fG count ls)(h:bh p a1 a6 Er n FY (e' T item df dp x4 (some (.Ω l)) x6 x7 (some (pA η)) none none) c (λH c'=>Q .none c') (λx H c'=>Q x c')):
 bh p a1 a6 Er n FX (e' T item df dp x4 (some (.Ω l)) x6 x7 none none none) c (λH c'=>Q .none c') (λx H c'=>Q x c'):=by
 rcases η with _|ls
 ·exact NY G (b8 Ζ rfl) Θ δ R.c7 R.eq h
 ·have lr:=Τ ls rfl;have e:(ls.map ge).map fE=ls.map λx=>fE (ge x):=lG ..;refine e9.spans R G Ζ Θ δ (by rw[bV,lr.len];exact aR af.2 rfl) (λe=>?_) (adO lr) ?_
  ·have:=cE mu e;rw[bV,lr.len] at this;simp at this;omega
  ·rw[e];exact h
theorem adP(G:ar p)(cK:Er)(Ζ:5<=n)(Θ:c T=some (.tab t))(δ:co t)(af:1<=count/\count<=50)(s:cC t l 17 .none)(R:nc t l η)(Τ:∀ls,η=some ls->fG count ls):
 bh p a1 a6 Er n A0 (e' T item df dp x4 (some (.Ω l)) x6 none none none none) c (λH c'=>Q .none c') (λx H c'=>Q x c'):=by
 refine NY G (b8 Ζ rfl) Θ δ s.c7 s.eq ?_;refine A2 G Ζ Θ δ af R Τ ?_;exact cK
theorem Op(G:ar p)(Ζ:1<=n)(af:1<=count/\count<=50)(Τ:∀ls,η=some ls->fG count ls)(pe:∀d c' Q,c' d=some (.cV [(60,.int kind),(47,c4),(75,.none),(76,.Ω parts)])->Q (.int count) c'->aF p n (.val (.ref 558)) [.ins 566 d] c' Q Er)(h:Q (.obj 566 [(60,.int kind),(47,c4),(75,pA η),(76,.Ω parts)]) c):
 bh p a1 a6 Er n Oo (e' T item df dp x4 x5 (some (.int kind)) (some c4) (some (pA η)) (some (.Ω parts)) none) c (λH c'=>Q .none c') (λx H c'=>Q x c'):=by
 refine λd hd=>At G Ζ (aj ..) ⟨rfl,?_⟩;rw[dX];have cq:bh p a1 a6 Er n (a9 (a9 Oo)) (e' T item df dp x4 x5 (some (.int kind)) (some c4) (some (pA η)) (some (.Ω parts)) (some (.ins 566 d))) (upd c d (some (.cV [(60,.int kind),(47,c4),(75,.none),(76,.Ω parts)]))) (λH c'=>Q .none c') (λx H c'=>Q x c'):=by
  refine dj _ (aj ..) (bu rfl) ⟨_,aj ..,?_⟩;rw[dX,qO hd];exact h
 rcases η with _|ls
 ·exact cq
 ·have lr:=(Τ ls rfl).len;refine n8 (cJ lr af.2 rfl) ?_;refine as _ (aj ..) ?_;refine pe _ _ _ (aj ..) ?_;exact AR (cE _ lr) cq
end
section
variable{q kn:Y}{kind dp:J}{η:b5}{line:I ai}{x:ai}{T:ε}{fn c4 s df item:O}{ls:I (J×J)}{x4 x5 x6 x7 dQ fW:ξ O}{ps:I (ai×ai)}{parts:I (Y×O)}{zs:I (O×O)}{ς:I J}{kC:I cP}
theorem dN.Oq(g:dN low high):px [ge (low,high)]:=λx Ν=>by
 cases Ν with
 |tail _ h=>contradiction
 |head=>
  exact⟨qS.mpr (by have:=g.2.1;show 100*low<=100*high;exact vW this),g.eE.1.mono (by decide),g.eE.2.mono (by decide)⟩
theorem q1(G:ar p)(Ζ:5<=n)(Θ:c T=some (.tab t))(δ:co t)(af:1<=count/\count<=50)(gg:dp<=8)(Η:bU item)(Φ:cp t 30 item=v)(bJ:AQ v l)(C:gt count t (kn:Y) low high η l)(adQ:kn<=4)(h:bh p a1 a6 Er n FY (e' T item df dp (some v) (some (.Ω l)) (some (.int (kn:Y))) (some (.lst [fE (ge (low,high))])) (some (pA η)) none none) c (λH c'=>Q .none c') (λx H c'=>Q x c')):
 bh p a1 a6 Er n gU (e' T item df dp none none none none none none none) c (λH c'=>Q .none c') (λx H c'=>Q x c'):=by
 refine xx G (b8 Ζ rfl) Θ δ gg Η Φ bJ ?_;refine A1 G (b8 Ζ rfl) Θ δ C.kind adQ ?_;refine FZ G Ζ Θ δ C.c4 (bu rfl) (λe=>nomatch e) C.g.Oq ?_;exact A2 G Ζ Θ δ af C.sO C.Τ h
theorem mx(h:0<=a/\a<256):((a.toNat.toUInt8.toNat:Y):J)=a:=by
 have:a.toNat.toUInt8.toNat=a.toNat%256:=by simp
 exact(cE ri (this.trans (Nat.mod_eq_of_lt ((RS h.1).mpr h.2)))).trans (GG h.1)
theorem adR(G:ar p)(Ζ:L+6<=n)(Θ:c T=some (.tab t))(δ:co t)(af:1<=count/\count<=50)(S:AP count t low high η ς kC l)(f:cC t l 21 (.lst (zs.map (·.1))))(Ρ:kC.map (λx=>x.1.fn)=zs.map (·.2))(dO:∀z∈zs,eF count t L z.2 (cp t 30 z.1))(Ξ:∀z∈zs,∀c' Q,fF c c'->(∀bz,fF c' bz->Q z.2 bz)->aF p n (.val (.ref 626)) [cM T,z.1,df,.int (dp+1)] c' Q Er)(h:∀c',fF c c'->Q (.Ω [(21,.lst (zs.map (·.2))),(10,.lst (bp (b7 ς))),(18,.lst ((hY low (ς++[high]) kC).map λx=>fE (n6 x)))]) c'):
 aF p (n+1) (.val (.ref 618)) [cM T,.Ω l,.lst [fE (ge (low,high))],df,.int dp] c Q Er:=by
 have j1:zs.length=kC.length:=by have:=cE mu Ρ;simpa using this.symm
 have a':=S.len;have dD:=S.gI;have Ot:1<=zs.length:=Jq a' j1;have Ou:(b7 ς).length=ς.length:=by simp[b7]
 refine uB G rfl ?_;refine AV G (oO Ζ rfl) Θ δ f (FQ Ot) ?_;refine AW (zs:=zs) (post:=[]) (by simp) (by simp;exact cJ j1 dD rfl) Θ Ξ λc' eO=>⟨λH=>?_,λx r e=>nomatch e⟩;have eY:=eO _ _ Θ;refine Oi G (θ [_,_] [] (.le (.a (.v 0) (.c 2)) (.v 1)) [(.le (.a (.v 0) (.c 6)) (.v 1))] [[1,1]] rfl Ζ) ⟨af.1,by exact aR af.2 rfl⟩ (λe=>by rw[e] at Ot;contradiction) (cJ j1 dD rfl) dO ?_;refine FW (rs:=b7 ς) G (oO Ζ rfl) eY δ S.b (by rw[bV];exact θ [_,_,_,_] [] (.eq (.a (.v 2) (.c 1)) (.v 3)) [(.eq (.v 0) (.a (.v 1) (.c 1))),(.eq (.v 2) (.v 1)),(.eq (.v 3) (.v 0))] [[1,0,1,1,0,0,1],[1,1,0,0,1,1]] rfl a' Ou j1) (by rw[bV];exact cJ j1 dD rfl) ?_;have aO:=S.C.g.eE;have gb:aq (100*low)::(b7 ς++[aq (100*high)])=(low::(ς++[high])).map λa=>aq (100*a):=by simp[b7]
 refine Ol (lo:=aq (100*low)) (hi:=aq (100*high)) G (oO Ζ rfl) (θ [_,_,_] [] (.le (.v 2) (.c 50)) [(.eq (.v 0) (.a (.v 1) (.c 1))),(.eq (.v 2) (.v 1)),(.le (.v 0) (.c 4))] [[1,0,1,1,0,1]] rfl a' Ou dD) rfl ?_ ?_ λdQ=>?_
 ·have o6:∀(l:I J) (b h:J),lp b l h->∀x∈l,b<=x/\x<=h:=λl=>by
   induction l with
   |nil=>intro b h a4 x Ν;contradiction
   |cons e l Ξ=>
    intro b h a4 x Ν;rcases eR.mp Ν with rfl|Ν
    ·exact⟨a4.1,a4.2.le⟩
    ·have:=Ξ e h a4.2 x Ν;have:=a4.1;omega
  intro r Χ;have dE:=S.C.g;unfold dN at dE;rw[gb] at Χ;apply iB (i5.mp Χ);intro y aX;have: -2000<=y/\y<=2000:=by
   rcases eR.mp aX with rfl|aX
   ·exact tC dE.1 dE.2.2 dE.2.1
   ·rcases hA.mp aX with h|h
    ·have:=o6 ς low high S.up y h;exact tD dE.1 dE.2.2 this.2 this.1
    ·rcases eR.mp h with rfl|h
     ·exact vU dE.1 dE.2.2 dE.2.1
     ·contradiction
  exact jW (.of (n:=200001) (rK this.1 this.2) (by decide)) (by decide)
 ·rw[gb];exact Om S.up
 refine adI (ps:=(hY low (ς++[high]) kC).map n6) G (oO Ζ rfl) eY δ S.e (by rw[bV,bV,AI _ _ _ (by simp;exact yK a')];exact j1.symm) (by rw[bV];exact cJ j1 dD rfl) ?_;rw[lG];exact h c' eO
theorem A3(G:ar p)(af:1<=count/\count<=50)(δ:co t):∀{L:Y} {fn v:O},eF count t L fn v->∀{dp:J} {item:O} {n:Y} {c:Ι} {Q:O->Ι->Prop} {Er:Prop},cp t 30 item=v->bU item->dp+L<=8->2*L+8<=n->c T=some (.tab t)->(∀c',fF c c'->Q fn c')->
 bh p a1 a6 Er n gU (e' T item iR dp none none none none none none none) c (λH c'=>Q .none c') (λx H c'=>Q x c'):=by
 intro L fn v Ε
 induction Ε with
 |@pow L low high η N ak ag l C bZ h0 Α xv jl ds=>
  intro dp item n c Q Er Φ Η gg Ζ Θ h;refine q1 (kn:=2) G (yJ Ζ) Θ δ af (CE gg) Η Φ (.Ω l) C (bu rfl) ?_;refine adu G (yJ Ζ) Θ δ h0 Α ⟨af.1,by exact aR af.2 rfl⟩ bZ xv jl ds ?_;refine Op G (tF Ζ) af C.Τ (λd c' Q hd av=>?_) (h c (.refl c));exact adv (parts:=[]) G (tF Ζ) hd (cJ h0 af.2 rfl) (by rw[h0];exact av)
 |@sH L low high k ak ag l s C rW h0 Α eD dv z bc eC b e d=>
  intro dp item n c Q Er Φ Η gg Ζ Θ h;refine q1 (kn:=0) G (yJ Ζ) Θ δ af (CE gg) Η Φ (.qP _ _) C (bu rfl) ?_;refine cG G rfl rfl (r:=true) rfl ?_;refine adz G (aP (ei _ _) Ζ) Θ δ rW h0 Α eD dv af.2 z bc eC b e d λc' eO=>?_;refine λd hd=>At G (tF Ζ) (aj ..) ⟨rfl,_,aj ..,?_⟩;rw[ie hd];exact h c' eO
 |@sI L low high ls neg add l C d2 γ=>
  intro dp item n c Q Er Φ Η gg Ζ Θ h;refine q1 (kn:=4) G (yJ Ζ) Θ δ af (CE gg) Η Φ (.qP _ _) C (bu rfl) ?_;refine cG G rfl rfl (r:=true) rfl ?_;refine FI G (tF Ζ) ?_;refine N2 G (tF Ζ) (bu rfl) ?_;refine λd hd=>At G (tF Ζ) (aj ..) ⟨rfl,_,aj ..,?_⟩;rw[ie hd];have:=h c (.refl c);unfold qV ln at this;rw[<-mx (a:=neg) (HY d2),<-mx (a:=add) γ,<-mx (a:=(count:J)) (S4 af.2)] at this;exact this
 |@nf L low high η ς kC l zs S f Ρ c7 dO Ξ=>
  intro dp item n c Q Er Φ Η gg Ζ Θ h;obtain⟨n,rfl⟩:∃dy,n=dy+2:=⟨n - 2,by exact(il (aP (ei 2 _) Ζ)).symm⟩;refine q1 (kn:=3) G (aP (ei _ _) Ζ) Θ δ af (θ [_] [_] (.ι (.v 0) (.c 8)) [(.ι (.a (.v 0) (.a (.n (.v 0)) (.c 1))) (.c 8))] [[1,1]] rfl gg) Η Φ (.Ω l) S.C (bu rfl) ?_;refine adR (n:=n+1) G (θ [_,_] [] (.le (.a (.v 0) (.c 6)) (.a (.v 1) (.c 1))) [(.le (.a (.m 2 (.a (.v 0) (.c 1))) (.c 8)) (.a (.v 1) (.c 2)))] [[2,2]] rfl Ζ) Θ δ af S f Ρ dO (λz Ov c' Q eO av=>?_) λc' eO=>?_
  ·exact uC G rfl (Ξ z Ov rfl (c7 z Ov) (θ [_] [_] (.ι (.a (.a (.v 0) (.c 1)) (.n (.v 0))) (.c 8)) [(.ι (.a (.v 0) (.a (.n (.v 0)) (.c 1))) (.c 8))] [[1,1]] rfl gg) (θ [_,_] [] (.le (.a (.m 2 (.v 0)) (.c 8)) (.v 1)) [(.le (.a (.m 2 (.a (.v 0) (.c 1))) (.c 8)) (.a (.v 1) (.c 2)))] [[1,1]] rfl Ζ) (eO _ _ Θ) av)
  ·rw[<-Ρ];refine Op G (ei _ _) af S.C.Τ (λd c' Q hd av=>?_) (h c' eO);have a':=S.len;rcases zs with _|⟨z,zs⟩
   ·have:=cE mu Ρ;simp at this;rw[this] at a';contradiction
   ·rw[Ρ] at hd;refine vM ((dO z (.head _)).obj) λadB adC AX adD adE FV=>?_;refine adw G hd (AS G ⟨af.1,by exact aR af.2 rfl⟩ (dO z (.head _)) (θ [_,_] [] (.le (.a (.v 0) (.c 1)) (.a (.v 1) (.c 1))) [(.le (.a (.m 2 (.a (.v 0) (.c 1))) (.c 8)) (.a (.v 1) (.c 2)))] [[2,1]] rfl Ζ) av) ⟨_,FV,rfl⟩ ?_;have:=cE mu Ρ;simp at this ⊢;exact θ [_,_] [] (.le (.v 1) (.c 100)) [(.eq (.v 0) (.a (.v 1) (.c 1))),(.le (.v 0) (.c 4))] [[1,0,1,1]] rfl this S.gI
end
inductive j2(count:Y)(t:I (J×O)):Y->O->Prop
 |leaf (v:O):j2 count t 0 v
 |nf {L low high η l} (C:gt count t 3 low high η l) (zs:I (O×O)) (x:O) (post:I O) (f:cC t l 21 (.lst (zs.map (·.1)++x::post))) (gI:zs.length+post.length<=10)
  (dO:∀z∈zs,bU z.1/\∃M,M<L/\eF count t M z.2 (cp t 30 z.1)) (qL:bU x) (h:j2 count t L (cp t 30 x)):j2 count t (L+1) (.Ω l)
section
variable{q kn:Y}{kind dp:J}{η:b5}{line:I ai}{x y:ai}{T:ε}{fn c4 s df item:O}{ls:I (J×J)}{x4 x5 x6 x7 dQ fW:ξ O}{ps:I (ai×ai)}{parts:I (Y×O)}{zs:I (O×O)}{ς:I J}{kC:I cP}{post:I O}
theorem Ow(G:ar p)(Ζ:7<=n)(Θ:c T=some (.tab t))(δ:co t)(af:1<=count/\count<=50)(gg:dp<=8)(Η:bU item)(Φ:cp t 30 item= .Ω l)(C:gt count t 3 low high η l)(f:cC t l 21 (.lst (zs.map (·.1)++w::post)))(gI:zs.length+post.length<=10)(dO:∀z∈zs,bU z.1/\∃M:Y,dp+1+M<=8/\2*M+8<=n/\eF count t M z.2 (cp t 30 z.1))(bC:∀c' (Q:O->Ι->Prop),c' T=some (.tab t)->bh p a1 a6 Er n gU (e' T w iR (dp+1) none none none none none none none) c' (λH c'=>Q .none c') (λx H c'=>Q x c')):
 bh p a1 a6 Er (n+2) gU (e' T item iR dp none none none none none none none) c (λH c'=>Q .none c') (λx H c'=>Q x c'):=by
 refine q1 (kn:=3) G (θ [_] [] (.le (.c 5) (.a (.v 0) (.c 2))) [(.le (.c 7) (.v 0))] [[1,1]] rfl Ζ) Θ δ af gg Η Φ (.Ω l) C (bu rfl) ?_;refine uB G rfl ?_;refine AV G (θ [_] [] (.le (.c 3) (.a (.v 0) (.c 1))) [(.le (.c 7) (.v 0))] [[1,1]] rfl Ζ) Θ δ f ?_ ?_
 ·rcases zs with ⟨⟩<;>rfl
 refine AW (zs:=zs) (post:=w::post) rfl (by simp;exact mn gI (by decide)) Θ (λz Ρ c' Q eO av=>?_) λc' eO=>⟨(λe=>nomatch e),λx r e Q=>?_⟩
 ·refine aa (dO z Ρ) λf4 aV=>?_;refine ix aV λM Α Δ κ=>?_;try clear aV
  exact uC G rfl (A3 G af δ κ rfl f4 Α Δ (eO _ _ Θ) av)
 ·(injection e with e;subst e)
  exact uC G rfl (bC c' Q (eO _ _ Θ))
theorem Ox(G:ar p)(cK:Er)(af:1<=count/\count<=50)(δ:co t)(Ε:j2 count t L v):∀{dp:J} {item:O} {n:Y} {c:Ι} {Q:O->Ι->Prop},cp t 30 item=v->bU item->dp+L=9->2*L+10<=n->c T=some (.tab t)->
 bh p a1 a6 Er n gU (e' T item iR dp none none none none none none none) c (λH c'=>Q .none c') (λx H c'=>Q x c'):=by
 induction Ε with
 |leaf v=>exact λH H hd H H=>adL cK (θ [] [_] (.ι (.a (.c 8) (.c 1)) (.v 0)) [(.ff (.a (.v 0) (.c 0)) (.c 9))] [[1,0,1]] rfl hd)
 |@nf L low high η l C zs x post f gI dO qL h Ξ=>
  intro dp item n c Q Φ Η gg Ζ Θ;obtain⟨n,rfl⟩:∃dy,n=dy+2:=⟨n - 2,by exact(il (aP (ei 2 _) Ζ)).symm⟩;refine Ow G (θ [_,_] [] (.le (.c 7) (.v 1)) [(.le (.a (.m 2 (.a (.v 0) (.c 1))) (.c 10)) (.a (.v 1) (.c 2)))] [[1,1]] rfl Ζ) Θ δ af (θ [_] [_] (.ι (.v 0) (.c 8)) [(.ff (.a (.v 0) (.a (.n (.v 0)) (.c 1))) (.c 9))] [[1,1]] rfl gg) Η Φ C f gI (λz Ρ=>?_) λc' Q eY=>Ξ rfl qL (θ [_] [_] (.ff (.a (.a (.v 0) (.c 1)) (.n (.v 0))) (.c 9)) [(.ff (.a (.v 0) (.a (.n (.v 0)) (.c 1))) (.c 9))] [[1,1],[1,0,1]] rfl gg) (θ [_,_] [] (.le (.a (.m 2 (.v 0)) (.c 10)) (.v 1)) [(.le (.a (.m 2 (.a (.v 0) (.c 1))) (.c 10)) (.a (.v 1) (.c 2)))] [[1,1]] rfl Ζ) eY;refine aa (dO z Ρ) λf4 aW=>?_;refine ψ aW λM pF bJ=>?_;try clear aW
  exact⟨f4,M,by exact θ [_,_] [_] (.ι (.a (.a (.v 0) (.c 1)) (.n (.v 1))) (.c 8)) [(.ff (.a (.v 0) (.a (.n (.v 0)) (.c 1))) (.c 9)),(.le (.a (.v 1) (.c 1)) (.v 0))] [[1,1,0,1]] rfl gg pF,by exact θ [_,_,_] [] (.le (.a (.m 2 (.v 2)) (.c 8)) (.v 1)) [(.le (.a (.m 2 (.a (.v 0) (.c 1))) (.c 10)) (.a (.v 1) (.c 2))),(.le (.a (.v 2) (.c 1)) (.v 0))] [[1,1,2]] rfl Ζ pF,bJ⟩
theorem adS(G:ar p)(cK:Er)(Ζ:7<=n)(Θ:c T=some (.tab t))(δ:co t)(s:cC t l 20 .none):
 bh p a1 a6 Er n gU (e' T (.Ω l) iR 0 none none none none none none none) c (λH c'=>Q .none c') (λx H c'=>Q x c'):=by
 refine xx G (b8 Ζ rfl) Θ δ (by decide) (.Ω l) (fp rfl 30) (.Ω l) ?_;exact adN G cK (b8 Ζ rfl) Θ δ s
theorem adT(G:ar p)(cK:Er)(Ζ:7<=n)(Θ:c T=some (.tab t))(δ:co t)(af:1<=count/\count<=50)(s:cC t l 20 (.int 3))(μ:cC t l 17 .none)(R:nc t l η)(Τ:∀ls,η=some ls->fG count ls):
 bh p a1 a6 Er n gU (e' T (.Ω l) iR 0 none none none none none none none) c (λH c'=>Q .none c') (λx H c'=>Q x c'):=by
 refine xx G (b8 Ζ rfl) Θ δ (by decide) (.Ω l) (fp rfl 30) (.Ω l) ?_;refine A1 (kn:=3) G (b8 Ζ rfl) Θ δ s (bu rfl) ?_;exact adP G cK (b8 Ζ rfl) Θ δ af μ R Τ
theorem adU(G:ar p)(cK:Er)(Ζ:7<=n)(Θ:c T=some (.tab t))(δ:co t)(af:1<=count/\count<=50)(s:cC t l 20 (.int 3))(μ:e9 t l 17 (dq ps))(Χ:px ps)(Δ:ps.length=2)(R:nc t l η)(Τ:∀ls,η=some ls->fG count ls):
 bh p a1 a6 Er n gU (e' T (.Ω l) iR 0 none none none none none none none) c (λH c'=>Q .none c') (λx H c'=>Q x c'):=by
 obtain⟨n,rfl⟩:∃dy,n=dy+1:=⟨n - 1,by exact Ik Ζ⟩;refine xx G (tE) Θ δ (by decide) (.Ω l) (fp rfl 30) (.Ω l) ?_;refine A1 (kn:=3) G (aP (ei _ _) Ζ) Θ δ s (bu rfl) ?_;refine FZ G (CH Ζ) Θ δ μ (It Δ) (λe=>by rw[e] at Δ;contradiction) Χ ?_;refine A2 G (CH Ζ) Θ δ af R Τ ?_;refine uB G rfl ?_;refine n8 (Ir Δ) ?_;exact adt (Δ▸(by decide)) cK
theorem Oy(G:ar p)(cK:Er)(Ζ:7<=n)(Θ:c T=some (.tab t))(δ:co t)(af:1<=count/\count<=50)(C:gt count t 3 low high η l)(f:cC t l 21 w)(bC:w= .none∨∃l,w= .Ω l):
 bh p a1 a6 Er n gU (e' T (.Ω l) iR 0 none none none none none none none) c (λH c'=>Q .none c') (λx H c'=>Q x c'):=by
 obtain⟨n,rfl⟩:∃dy,n=dy+1:=⟨n - 1,by exact Ik Ζ⟩;refine q1 (kn:=3) G (CH Ζ) Θ δ af (by decide) (.Ω l) (fp rfl 30) (.Ω l) C (bu rfl) ?_;refine uB G rfl ?_;refine eK (bu rfl) ?_;refine f.get G (hF Ζ rfl) Θ δ ?_;rcases bC with rfl|⟨l',rfl⟩
 ·exact cG G rfl rfl (r:=false) rfl cK
 ·exact cG G rfl rfl (r:=false) rfl cK
theorem F0(G:ar p)(Ζ:L+12<=n)(uZ:2*L+12<=n)(bB:L<=7)(Θ:c T=some (.tab t))(δ:co t)(af:1<=count/\count<=50)(C:gt count t 3 low high η l)(f:cC t l 21 (.lst (zs.map (·.1))))(Ρ:1<=zs.length/\zs.length<=10)(dO:∀z∈zs,bU z.1/\eF count t L z.2 (cp t 30 z.1))(h:∀c' m (Q:O->Ι->Prop),c' T=some (.tab t)->5<=m->bh p a1 a6 Er m xw (j0 T l [fE (ge (low,high))] iR 0 (some (.lst (zs.map (·.1)))) (some (.lst (zs.map (·.2)))) none none none) c' (λH c'=>Q .none c') (λx H c'=>Q x c')):
 bh p a1 a6 Er n gU (e' T (.Ω l) iR 0 none none none none none none none) c (λH c'=>Q .none c') (λx H c'=>Q x c'):=by
 obtain⟨n,rfl⟩:∃dy,n=dy+2:=⟨n - 2,by exact(il (aP (ei 2 _) uZ)).symm⟩;refine q1 (kn:=3) G (aP (ei _ _) uZ) Θ δ af (by decide) (.Ω l) (fp rfl 30) (.Ω l) C (bu rfl) ?_;refine uB G rfl ?_;refine AV G (aP (ei _ _) (pV uZ)) Θ δ f (FQ Ρ.1) ?_;refine AW (zs:=zs) (post:=[]) (by simp) (by simp;exact aR Ρ.2 rfl) Θ (λz Ρ c' Q eO av=>?_) λc' eO=>⟨λH=>?_,λx r e=>nomatch e⟩
 ·exact uC G rfl (A3 G af δ (dO z Ρ).2 rfl (dO z Ρ).1 (S6 bB) (S8 uZ) (eO _ _ Θ) av)
 ·refine Oi G (θ [_,_] [] (.le (.a (.v 0) (.c 2)) (.a (.v 1) (.c 1))) [(.le (.a (.m 2 (.v 0)) (.c 12)) (.a (.v 1) (.c 2)))] [[2,1]] rfl uZ) ⟨af.1,by exact aR af.2 rfl⟩ (λe=>by rw[e] at Ρ;exact absurd Ρ.1 (by decide)) (aR Ρ.2 rfl) (λz Ρ=>(dO z Ρ).2) ?_;exact h c' _ _ (eO _ _ Θ) (aP (ei _ _) (pV uZ))
end
noncomputable abbrev xy(ps:I (ai×ai))(ls:I (J×J)):O:=.obj 566 [(60,.int 4),(47,.lst (ps.map fE)),(75,pA (some ls)),(76,.Ω [(24,.lst [])])]
section
variable{q kn:Y}{kind dp:J}{η:b5}{line:I ai}{x y lo hi:ai}{T:ε}{l':I (Y×O)}{fn c4 s df item:O}{ls:I (J×J)}{x4 x5 x6 x7 dQ fW:ξ O}{ps:I (ai×ai)}{parts:I (Y×O)}{zs:I (O×O)}{ς:I J}{kC:I cP}{post:I O}
theorem adV(G:ar p)(Ζ:5<=n)(Θ:c T=some (.tab t))(δ:co t)(af:1<=count/\count<=50)(gg:dp<=8)(s:cC t l 20 (.int 4))(μ:e9 t l 17 (dq ps))(Χ:px ps)(Δ:ps.length=2)(R:nc t l (some ls))(Τ:fG count ls)(h:Q (xy ps ls) c):
 bh p a1 a6 Er n gU (e' T (l6 (.Ω l) (.bytes [])) iR dp none none none none none none none) c (λH c'=>Q .none c') (λx H c'=>Q x c'):=by
 refine xx G (b8 Ζ rfl) Θ δ gg (.qP _ _) (fp rfl 30) (.qP _ _) ?_;refine A1 (kn:=4) G (b8 Ζ rfl) Θ δ s (bu rfl) ?_;refine FZ G (b8 Ζ rfl) Θ δ μ (It Δ) (λe=>by rw[e] at Δ;contradiction) Χ ?_;refine A2 G (b8 Ζ rfl) Θ δ af R (λls e=>by obtain rfl:=bQ e;exact Τ) ?_;refine cG G rfl rfl (r:=true) rfl ?_;refine FI G (b8 Ζ rfl) ?_;refine N2 G (b8 Ζ rfl) (bu rfl) ?_;refine λd hd=>At G (b8 Ζ rfl) (aj ..) ⟨rfl,_,aj ..,?_⟩;rw[ie hd];exact h
theorem adW(G:ar p)(cK:Er)(Ζ:12<=n)(Θ:c T=some (.tab t))(δ:co t)(af:1<=count/\count<=50)(C:gt count t 3 low high η l)(f:cC t l 21 (.lst (zs.map (·.1)++[l6 (.Ω l') (.bytes [])])))(Ρ:zs.length<=10)(dO:∀z∈zs,bU z.1/\eF count t 0 z.2 (cp t 30 z.1))(s:cC t l' 20 (.int 4))(μ:e9 t l' 17 (dq ps))(Χ:px ps)(Δ:ps.length=2)(R:nc t l' (some ls))(Τ:fG count ls):
 bh p a1 a6 Er n gU (e' T (.Ω l) iR 0 none none none none none none none) c (λH c'=>Q .none c') (λx H c'=>Q x c'):=by
 obtain⟨n,rfl⟩:∃dy,n=dy+2:=⟨n - 2,by exact(il (aP (by decide) Ζ)).symm⟩;refine q1 (kn:=3) G (aP (ei _ _) Ζ) Θ δ af (by decide) (.Ω l) (fp rfl 30) (.Ω l) C (bu rfl) ?_;refine uB G rfl ?_;refine AV G (aP (ei _ _) (pV Ζ)) Θ δ f (by rcases zs with ⟨⟩<;>rfl) ?_;refine AW (zs:=zs++[(l6 (.Ω l') (.bytes []),xy ps ls)]) (post:=[]) (by rw[gj];exact(by simp)) (by simp;exact aR Ρ rfl) Θ (λz Ρ c' Q eO av=>?_) λc' eO=>⟨λH=>?_,λx r e=>nomatch e⟩
 ·rcases hA.mp Ρ with Ρ|Ρ
  ·exact uC G rfl (A3 G af δ (dO z Ρ).2 rfl (dO z Ρ).1 (by decide) (ag2 (aP (by decide) Ζ)) (eO _ _ Θ) av)
  ·cases Ρ with
   |tail _ h=>contradiction
   |head=>exact uC G rfl (adV G (hF Ζ rfl) (eO _ _ Θ) δ af (by decide) s μ Χ Δ R Τ (av _ (.refl _)))
 ·rw[(by simp:(zs++[(l6 (.Ω l') (.bytes []),xy ps ls)]).map vL=zs.map vL++[xy ps ls])];refine⟨by simp;exact aR Ρ rfl,Og _ ?_⟩;refine Oh G (aP (ei _ _) (pV Ζ)) ⟨af.1,by exact aR af.2 rfl⟩ (λz Ρ=>(dO z Ρ).2) (λz Ρ=>?_) λo=>?_
  ·obtain⟨kD,uY,e⟩:∃kD uY,zs=kD::uY:=by cases zs with|nil=>cases Ρ|cons a r=>exact⟨a,r,rfl⟩
   refine⟨kD,by rw[e];exact .head _,?_⟩;rw[e];exact Au (i:=0) rfl (by simp) (by rw[<-e];simp;exact aR ‹_› rfl)
  ·have wy:∀Q,Q (.int 2) c'->aF p (n+1) (.val (.ref 551)) [xy ps ls] c' Q Er:=λQ h=>by
    refine .at (tE:1<=n+1) ?_;refine M6 G rfl ?_;exact n8 (Ir Δ) (by rw[Δ];exact h)
   refine wy _ ?_;exact cK
theorem adX(G:ar p)(cK:Er)(Ζ:2*L+12<=n)(bB:L<=7)(Θ:c T=some (.tab t))(δ:co t)(af:1<=count/\count<=50)(C:gt count t 3 low high η l)(f:cC t l 21 (.lst (zs.map (·.1))))(Ρ:1<=zs.length/\zs.length<=10)(dO:∀z∈zs,bU z.1/\eF count t L z.2 (cp t 30 z.1))(b:cC t l 10 .none):
 bh p a1 a6 Er n gU (e' T (.Ω l) iR 0 none none none none none none none) c (λH c'=>Q .none c') (λx H c'=>Q x c'):=
 F0 G (CL Ζ) Ζ bB Θ δ af C f Ρ dO λc' m Q eY hm=>adG G cK (b8 hm rfl) eY δ b
theorem adY(G:ar p)(cK:Er)(Ζ:2*L+12<=n)(bB:L<=7)(Θ:c T=some (.tab t))(δ:co t)(af:1<=count/\count<=50)(C:gt count t 3 low high η l)(f:cC t l 21 (.lst (zs.map (·.1))))(Ρ:1<=zs.length/\zs.length<=10)(dO:∀z∈zs,bU z.1/\eF count t L z.2 (cp t 30 z.1))(b:e9 t l 10 rs)(Κ:rs.length+1=zs.length)(gb:line=aq (100*low)::(rs++[aq (100*high)]))(eE:hv 64 line)(up:∀i x y,line[i]?=some x->line[i+1]?=some y->x<=y)(e:cC t l 18 .none):
 bh p a1 a6 Er n gU (e' T (.Ω l) iR 0 none none none none none none none) c (λH c'=>Q .none c') (λx H c'=>Q x c'):=
 F0 G (CL Ζ) Ζ bB Θ δ af C f Ρ dO λc' m Q eY hm=>by
  refine FW G (b8 hm rfl) eY δ b (by rw[bV];exact Κ) (by rw[bV];exact aR Ρ.2 rfl) ?_;refine Ol (lo:=aq (100*low)) (hi:=aq (100*high)) G (b8 hm rfl) (IR Κ Ρ.2) gb eE up λdQ=>?_;exact adJ G cK (b8 hm rfl) eY δ e (by rw[bV];exact aR Ρ.2 rfl)
theorem adZ{z:Y}(G:ar p)(cK:Er)(Ζ:2*L+12<=n)(bB:L<=7)(Θ:c T=some (.tab t))(δ:co t)(af:1<=count/\count<=50)(C:gt count t 3 low high η l)(f:cC t l 21 (.lst (zs.map (·.1))))(Ρ:1<=zs.length/\zs.length<=10)(dO:∀z∈zs,bU z.1/\eF count t L z.2 (cp t 30 z.1))(b:e9 t l 10 rs)(Κ:rs.length+1=zs.length)(gb:line=aq (100*low)::(rs++[aq (100*high)]))(eE:hv 64 line)(Ν:line[z]?=some x)(aX:line[z+1]?=some y)(h1:y<x):
 bh p a1 a6 Er n gU (e' T (.Ω l) iR 0 none none none none none none none) c (λH c'=>Q .none c') (λx H c'=>Q x c'):=
 F0 G (CL Ζ) Ζ bB Θ δ af C f Ρ dO λc' m Q eY hm=>by
  refine FW G (b8 hm rfl) eY δ b (by rw[bV];exact Κ) (by rw[bV];exact aR Ρ.2 rfl) ?_;exact adH (lo:=aq (100*low)) (hi:=aq (100*high)) G cK (b8 hm rfl) (IR Κ Ρ.2) gb eE Ν aX h1
end
noncomputable def SameBut(u:ε)(c c':Ι):Prop:=∀a,a≠u->c' a=c a
theorem SameBut.refl{u:ε}{c:Ι}:SameBut u c c:=λH H=>rfl
theorem SameBut.trans{u:ε}{c c' bz:Ι}(h:SameBut u c c')(h':SameBut u c' bz):SameBut u c bz:=λa γ=>(h' a γ).trans (h a γ)
theorem SameBut.upd{u:ε}{c c':Ι}{x:ξ fY}(h:SameBut u c c'):SameBut u c (Mine.Internal.upd c' u x):=λa γ=>(a3 _ _ γ).trans (h a γ)
structure CellsOk(cells:I J):Prop where
 ne:cells≠[]
 len:cells.length<=50
 DR:∀x∈cells,al 2000000 x
inductive en(c:Ι)(u:ε)(cells:I J)(k:Y):Prop
 |mk (a b:J) (Θ:c u=some (.lst [.lst (b2 cells),.int a,.int b])) (ok:CellsOk cells) (γ:0<=a/\a<=k) (Κ:0<=b) (e3:al 3000000 b):en c u cells k
section
variable{y:J}{u:ε}{cells:I J}
theorem en.same(h:en c u cells k)(e:c' u=c u):en c' u cells k:=by
 rcases h with ⟨a,b,Θ,ok,γ,Κ,e3⟩
 exact⟨a,b,e.trans Θ,ok,γ,Κ,e3⟩
theorem en.more(h:en c u cells k)(l:k<=j):en c u cells j:=by
 rcases h with ⟨a,b,Θ,ok,γ,Κ,e3⟩
 exact⟨a,b,Θ,ok,by exact θ [_,_] [_] (.an (.ι (.c 0) (.v 0)) (.ι (.v 0) (.n (.v 1)))) [(.ι (.c 0) (.v 0)),(.ι (.v 0) (.n (.v 0))),(.le (.v 0) (.v 1))] [[1,1],[1,0,1,1]] rfl γ.1 γ.2 l,Κ,e3⟩
theorem ad0(γ:0<=a)(Κ:0<b):0<=kN a b/\kN a b<=a:=by
 rw[nx _ (tA Κ)];exact⟨x' γ (tA Κ),RJ _ γ⟩
theorem fs(G:ar p)(Ζ:1<=n)(a4:en c u cells k)(aX:1<=y)(ad1:al 40 y)(Η:k<=1000000)(h:∀r c',0<=r->r<y->en c' u cells (k+1)->SameBut u c c'->Q (.int r) c'):aF p n (.val (.ref 678)) [.loc u,.int y] c Q Er:=by
 refine .at Ζ ?_;refine aaY G rfl ?_;dsimp only[eU,fz,vK,oI,i6,gj];rcases a4 with ⟨a,b,Θ,ok,γ,Κ,e3⟩
 have uM:y≠0:=GF aX;have hm:∀x,0<=fJ x y/\fJ x y<y:=λx=>by
  rw[nv _ (ov aX)];exact⟨tt _ uM,tu _ (HX aX)⟩
 have F1:∀x,0<=fJ x 2305843009213693951/\fJ x 2305843009213693951<2305843009213693951:=λx=>by
  rw[nv _ (by decide)];exact⟨tt _ (by decide),tu _ (by decide)⟩
 have cq:∀(a b:J) c' mO sC,c' u=some (.lst [.lst (b2 cells),.int a,.int b])->0<=a->a<=k+1->0<=b->al 3000000 b->SameBut u c c'->bh p a1 a6 Er 0 (a9 z9) [some (.loc u),some (.int y),mO,sC,none] c' (λH c'=>Q .none c') (λx H c'=>Q x c'):=by
  intro a b c' mO sC eY h0 Α Δ κ σ;refine as _ eY ⟨uM,?_⟩;refine as _ eY (⟨⟨uM,iO (i:=40) ad1 (by decide)⟩,?_⟩);refine .inl ⟨_,2,eY,rfl,by decide,by decide,?_⟩;have hf:=ad0 Δ (HX aX:0<y);exact h _ _ (hm b).1 (hm b).2 ⟨a,kN b y,aj ..,ok,by exact⟨h0,Α⟩,hf.1,κ.le (HR hf.1 hf.2)⟩ σ.upd
 have gf:(b2 cells).length=cells.length:=by simp[b2]
 refine as _ Θ (d4 (λe=>?_) λe=>?_)
 ·have e:b=0:=e;refine as _ Θ (.inl ⟨_,1,Θ,rfl,by decide,by decide,?_⟩);refine as _ (aj ..) (⟨_,aj ..,⟨_,aj ..,?_⟩⟩);refine eK (cJ gf ok.len rfl) ?_;rw[gf];have bB:((cells.length:Y):J)≠0:=yH (List.length_pos_iff.mpr ok.ne);have hi:0<=fJ (a+1 - 1) (cells.length:Y)/\fJ (a+1 - 1) (cells.length:Y)<(cells.length:Y):=by
   rw[nv _ (oP)];exact⟨tt _ bB,tu _ (nr.mpr (Nat.pos_of_ne_zero λe=>bB (cE ri e)))⟩
  refine⟨bB,cO (N3 hi.1 (hi.2) (aR ok.len rfl)) ?_⟩;have Φ:al 2000000 (cells.getD (fJ (a+1 - 1) (cells.length:Y)).toNat 0):=by
   rw[lA,gY ((RS hi.1).mpr hi.2)];exact ok.DR _ (kR _)
  generalize cells.getD (fJ (a+1 - 1) (cells.length:Y)).toNat 0=v at Φ ⊢;refine Nw ?_;dsimp only[eU];have Oz:bh p a1 a6 Er 0 (.cons (.asg (.var 3) (.bin .Mod (.bin .Pow (.bin .Add (.bin .Mod (.var 2) (.cst (.int 2305843009213693951))) (.bin .Mult (.cst (.int 60013)) (.sub (.var 0) (.cst (.int 1))))) (.cst (.int 3))) (.cst (.int 2305843009213693951)))) (.cons (.ret (.bin .Mod (.bin .FloorDiv (.bin .Mod (.bin .Pow (.bin .Add (.var 3) (.bin .Mult (.bin .Mult (.cst (.int 313)) (.sub (.var 0) (.cst (.int 1)))) (.sub (.var 0) (.cst (.int 1))))) (.cst (.int 7))) (.cst (.int 2305843009213693951))) (.cst (.int 128))) (.var 1))) .nil))
   [some (.loc u),some (.int y),some (.int v),none,none] (upd c u (some (.lst [.lst (b2 cells),.int (a+1),.int b]))) (λρ c'=>bh p a1 a6 Er 0 (a9 z9) ρ c' (λH c'=>Q .none c') (λx H c'=>Q x c')) (λx H c'=>Q x c'):=by
   have gp:al 20 (a+1):=.of (n:=1000002) (θ [_] [_] (.cA (.a (.v 0) (.c 1)) (.c 1000002)) [(.ι (.c 0) (.v 0)),(.ι (.v 0) (.n (.v 0))),(.le (.v 0) (.c 1000000))] [[1,0,1,1],[1,1]] rfl γ.1 γ.2 Η) (by decide);refine⟨by decide,_,aj ..,⟨bT (i:=16) (by decide) gp (by decide),⟨⟨by decide,kA (i:=62) (j:=3) ?_ (by decide)⟩,⟨by decide,?_⟩⟩⟩⟩
   ·have:=F1 v;exact .of (n:=2305843009213693951+60013*1000002) (SD this.1 γ.1 γ.2 Η this.2) (by decide)
   generalize Ρ:fJ _ 2305843009213693951=z;have gc:=F1 z;have OA:0<=z/\z<2305843009213693951:=by rw[<-Ρ];exact F1 _
   have ds:al 30 (313*(a+1)):=.of (n:=313*1000001+1) (θ [_] [_] (.cA (.m 313 (.a (.v 0) (.c 1))) (.a (.m 313 (.c 1000001)) (.c 1))) [(.ι (.c 0) (.v 0)),(.ι (.v 0) (.n (.v 0))),(.le (.v 0) (.c 1000000))] [[1,0,313,313],[1,313]] rfl γ.1 γ.2 Η) (by decide);refine as _ (aj ..) (⟨bT (i:=10) (by decide) gp (by decide),_,aj ..,⟨bT ds gp (by decide),⟨⟨by decide,kA (i:=63) (j:=7) ?_ (by decide)⟩,⟨by decide,⟨⟨by decide,iO (i:=8) (by decide) (by decide)⟩,⟨uM,?_⟩⟩⟩⟩⟩⟩)
   ·exact al.add (i:=62) (.of (n:=2305843009213693951) (ej (fI (by decide) OA.1) (fI OA.2 (by decide))) (by decide)) ((ds.mul gp).mono (by decide))
   ·exact h _ _ (hm _).1 (hm _).2 ⟨a+1,b,aj ..,ok,by exact θ [_] [_] (.an (.ι (.c 0) (.a (.v 0) (.c 1))) (.ι (.a (.v 0) (.c 1)) (.a (.n (.v 0)) (.c 1)))) [(.ι (.c 0) (.v 0)),(.ι (.v 0) (.n (.v 0)))] [[1,1],[1,0,1]] rfl γ.1 γ.2,Κ,e3⟩ SameBut.refl.upd
  refine as _ (aj ..) ⟨_,aj ..,?_⟩;refine eK (cJ gf ok.len rfl) ?_;refine d4 (λH=>?_) λH=>Oz;refine qK ?_;refine⟨⟨by decide,kA (i:=4) (j:=18) (by decide) (by decide)⟩,d4 (λsP=>?_) λH=>Oz⟩;refine qK ?_;refine⟨⟨by decide,kA (i:=4) (j:=18) (by decide) (by decide)⟩,.inl ⟨_,2,aj ..,rfl,by decide,by decide,?_⟩⟩;rw[dX];have ζ:(0:J)<10^18:=by decide
  exact cq (a+1) (v.natAbs - 10^(18:J).toNat) _ _ _ (aj ..) (Sp γ.1) (SE γ.2) (by rw[(rfl:(10:J)^(18:J).toNat=10^18)];exact Sr (sP:(10:J)^18<=v.natAbs)) ((Φ.le (by rw[(rfl:(10:J)^(18:J).toNat=10^18)];exact Sq (sP:(10:J)^18<=v.natAbs))).mono (by decide)) SameBut.refl.upd
 ·exact cq a b c _ _ Θ γ.1 (θ [_] [_] (.ι (.v 0) (.a (.n (.v 0)) (.c 1))) [(.ι (.v 0) (.n (.v 0)))] [[1,1]] rfl γ.2) Κ e3 .refl
end
section
variable{y:J}{u:ε}{cells:I J}
structure ad2{α β:Type}(u:ε)(cells:I J)(c:Ι)(k:Y)(bH:β->O)(P:β->Prop)(mb:Ο->Prop)(l rest:I α)(acc:I O)(ρ:Ο)(c':Ι)(vs:I β):Prop where
 acc:acc=vs.map bH
 len:vs.length+rest.length=l.length
 ok:∀v∈vs,P v
 eP:en c' u cells (k+vs.length)
 same:SameBut u c c'
 st:mb ρ
 mem:∀x∈rest,x∈l
theorem F2{α β:Type}{tgt:O->Ο->(Ο->Prop)->Prop}{d1:Ο->Ι->(Ο->Ι->Prop)->(Ο->Ι->Prop)->Prop}{aN:Ο->Ι->(O->Ο->Ι->Prop)->Prop}{dd:I O->Ο->Ι->Prop}{f:α->O}{ρ:Ο}(bH:β->O)(P:β->Prop)(mb:Ο->Prop)(l:I α)(step:∀x∈l,∀ρ c' acc (K:I O->Ο->Ι->Prop) j,mb ρ->en c' u cells j->j<k+l.length->SameBut u c c'->(∀v bz aM,P v->en bz u cells (j+1)->SameBut u c bz->mb aM->K (acc++[bH v]) aM bz)->uR tgt d1 aN (f x) acc ρ c' K)(a4:en c u cells k)(ad3:mb ρ)(cq:∀(vs:I β) c' aM,vs.length=l.length->(∀v∈vs,P v)->en c' u cells (k+l.length)->SameBut u c c'->mb aM->dd (vs.map bH) aM c'):dT tgt d1 aN (l.map f) [] ρ c dd:=by
 refine uS (λrest acc ρ c'=>∃vs,ad2 u cells c k bH P mb l rest acc ρ c' vs) ?_ ?_ l [] ρ c ⟨[],rfl,by simp,(λH h=>nomatch h),a4,.refl,ad3,λH h=>h⟩
 ·intro x rest acc ρ c' K be aC;refine a8 be λvs D=>?_;try clear be
  have Τ:=D.len;rw[kP] at Τ;refine step x (D.mem x (.head _)) ρ c' acc K _ D.st D.eP (θ [_,_,_,_] [] (.le (.a (.a (.v 3) (.v 0)) (.c 1)) (.a (.v 3) (.v 2))) [(.eq (.a (.v 0) (.a (.v 1) (.c 1))) (.v 2))] [[1,1]] rfl Τ) D.same λv bz aM Φ sQ σ ad4=>aC _ _ _ ⟨vs++[v],by rw[D.acc,h8];rfl,by rw[fa,lE];exact yL Τ,λw bC=>?_,?_,σ,ad4,λz Ρ=>D.mem z (.tail _ Ρ)⟩
  ·rcases hA.mp bC with h|h
   ·exact D.ok w h
   ·refine my h ?_ λh=>?_
    ·exact Φ
    ·contradiction
  ·rw[fa,lE];exact sQ
 ·intro acc ρ c' fv;refine a8 fv λvs D=>?_;try clear fv
  rw[D.acc];exact cq vs c' ρ (CN D.len) D.ok (by rw[<-D.len];exact D.eP) D.same D.st
theorem F3{need:aQ}(G:ar p)(Ζ:2<=n)(a4:en c u cells k)(Η:k<=900000)(af:count<=2)(h:∀η c',(∀ls,η=some ls->fG count ls)->(need=true->∃ls,η=some ls)->en c' u cells (k+5)->SameBut u c c'->Q (jX η) c'):aF p n (.val (.ref 683)) [.loc u,.int count,.bool need] c Q Er:=by
 refine .at Ζ ?_;refine aaZ G rfl ?_;refine fs G (by decide) a4 (by decide) (by decide) (aR Η rfl) λr Μ h0 Α ao ds=>?_;have go:bh p a1 a6 Er 1 (a9 E4) [some (.loc u),some (.int count),some (.bool need),none] Μ (λH c'=>Q .none c') (λx H c'=>Q x c'):=by
  refine⟨m' (aR af rfl),?_⟩;rw[lm,n7];refine F2 (k:=k+1) (β:=J) .int (λv=>-2000<=v/\v<2000) (λρ=>∃o,ρ=[some (.loc u),some (.int count),some (.bool need),none,o]) (fK count) ?_ ao ⟨_,rfl⟩ ?_
  ·intro x Ν ρ c' acc K j sg a4 cQ σ aC;apply dG sg;intro o;rw[yq] at cQ;refine fs G (by decide) a4 (by decide) (by decide) (θ [_,_,_] [] (.le (.v 2) (.c 1000000)) [(.le (.v 0) (.c 2)),(.le (.v 1) (.c 900000)),(.le (.a (.v 2) (.c 1)) (.a (.a (.v 1) (.c 1)) (.v 0)))] [[1,1,1,1]] rfl af Η cQ) λr bz ak ag sQ se=>?_;exact aC _ _ _ (θ [] [_] (.an (.ι (.g (.c 2000)) (.s (.v 0) (.c 2000))) (.ι (.a (.s (.v 0) (.c 2000)) (.c 1)) (.c 2000))) [(.ι (.c 0) (.v 0)),(.ι (.a (.v 0) (.c 1)) (.c 4000))] [[1,1],[1,0,1]] rfl ak ag) sQ (σ.trans se) ⟨_,rfl⟩
  ·intro vs az aM pI Φ aJ eC sh;apply dG sh;intro o;rw[yq] at aJ pI;refine⟨by rw[bV];exact cJ pI af rfl,?_⟩;refine F2 (k:=k+1+count) (β:=J×J) n5 (λv=>v.1<=v.2/\al 50 v.1/\al 50 v.2) (λρ=>∃o,ρ=[some (.loc u),some (.int count),some (.bool need),some (.lst (vs.map .int)),o]) vs ?_ aJ ⟨_,rfl⟩ ?_
   ·intro x Ν ρ c' acc K j zF a4 cQ σ aC;apply dG zF;intro o;have:=Φ x Ν;refine fs G (by decide) a4 (by decide) (by decide) (θ [_,_,_,_] [] (.le (.v 3) (.c 1000000)) [(.eq (.v 0) (.v 1)),(.le (.v 1) (.c 2)),(.le (.v 2) (.c 900000)),(.le (.a (.v 3) (.c 1)) (.a (.a (.a (.v 2) (.c 1)) (.v 1)) (.v 0)))] [[1,1,0,2,1,1]] rfl pI af Η cQ) λr bz ak ag sQ se=>?_;exact aC (x,x+r) _ _ ⟨by show x<=x+r;exact yG ak,.of (n:=2001) (by show x.natAbs<2001;exact ej (fI (by decide) this.1) (fI this.2 (by decide))) (by decide),.of (n:=8001) (by show(x+r).natAbs<8001;exact θ [] [_,_] (.cA (.a (.v 0) (.v 1)) (.c 8001)) [(.ι (.g (.c 2000)) (.v 0)),(.ι (.c 0) (.v 1)),(.ι (.a (.v 0) (.c 1)) (.c 2000)),(.ι (.a (.v 1) (.c 1)) (.c 6000))] [[1,0,0,1,1],[1,1,1]] rfl this.1 ak this.2 ag) (by decide)⟩ sQ (σ.trans se) ⟨_,rfl⟩
   ·intro ls cH aM gf Τ bf g9 ad5;apply dG ad5;intro o;exact h (some ls) cH (λiP e=>by obtain rfl:=bQ e;exact⟨gf.trans pI,Τ⟩) (λH=>⟨_,rfl⟩) (bf.more (θ [_,_,_] [] (.le (.a (.a (.a (.v 2) (.c 1)) (.v 1)) (.v 0)) (.a (.v 2) (.c 5))) [(.eq (.v 0) (.v 1)),(.le (.v 1) (.c 2))] [[1,1,0,2]] rfl pI af)) (ds.trans (eC.trans g9))
 refine d4 (λe=>?_) λe=>go;cases need with
 |true=>exact go
 |false=>exact h none Μ (λls e=>nomatch e) (λe=>nomatch e) (ao.more ((by simp))) ds
end
structure gJ(u d:ε)(cells:I J)(c c':Ι)(k:Y)(D:I (Y×O)):Prop where
 eP:en c' u cells k
 cell:c' d=some (.Ω D)
 same:∀a,a≠u->a≠d->c' a=c a
structure q2(nd:cT)(l:I (Y×O)):Prop where
 ek:nd.ek= .Ω l
 kind:∃c7:J,bl l 60=some (.int c7)/\(c7=3↔nd.ev=true)
 low:bl l 64=some (.int nd.low)
 high:bl l 57=some (.int nd.high)
 sR:(bl l 78).getD .none= .none∨∃N:J,(bl l 78).getD .none= .int N
 qZ: -1900<=nd.low/\nd.low<=nd.high/\nd.high<=1900
section
variable{bz:Ι}{y:J}{u:ε}{cells:I J}{D:I (Y×O)}
theorem gJ.draw(M:gJ u d cells c c' k D)(bF:d≠u)(a4:en bz u cells j)(s:SameBut u c' bz):gJ u d cells c bz j D:=
 ⟨a4,(s d bF).trans M.cell,λa h h'=>(s a h).trans (M.same a h h')⟩
theorem gJ.set(M:gJ u d cells c c' k D)(bF:d≠u)(OB:I (Y×O)):gJ u d cells c (upd c' d (some (.Ω OB))) k OB:=
 ⟨M.eP.same (a3 _ _ λe=>bF e.symm),aj ..,λa h h'=>(a3 _ _ h').trans (M.same a h h')⟩
theorem gJ.more(M:gJ u d cells c c' k D)(l:k<=j):gJ u d cells c c' j D:=⟨M.eP.more l,M.cell,M.same⟩
theorem gJ.free(M:gJ u d cells c c' k D)(bF:d≠u)(hd:c d=none):en (upd c' d none) u cells k/\SameBut u c (upd c' d none):=
 ⟨M.eP.same (a3 _ _ λe=>bF e.symm),λa γ=>by
  by_cases e:a=d
  ·rw[e,aj,hd]
  ·rw[a3 _ _ e];exact M.same a γ e⟩
theorem OC{aN:X}{x2 x3:O}{OD:I O->Ο->Ι->Prop}(G:ar p)(P:J->Prop)(bF:d≠u)(af:count<=2)(M:gJ u d cells c c' k D)(δ:∀ρ hZ F4 bz j (K:O->Ο->Ι->Prop),ρ=[some (.loc u),some (.int count),some x2,some x3,some (.loc d),hZ,F4]->j<k+4->gJ u d cells c bz j D->(∀v cH,P v->gJ u d cells c cH (j+1) D->K (.int v) ρ cH)->bS p a1 a6 Er n aN ρ bz K)(h:∀ak ag bz o,ak.length=count->ag.length=count->(∀v∈ak,P v)->(∀v∈ag,P v)->gJ u d cells c bz (k+4) D->OD [.lst (b2 ak),.lst (b2 ag)] [some (.loc u),some (.int count),some x2,some x3,some (.loc d),o] bz):
 dT (hk (.var 5)) (mI p a1 a6 Er n .nil) (bS p a1 a6 Er n (.comp 1 aN (.var 6) (.range (.cst (.int 0)) (.var 1) (.cst (.int 1))) .nil)) (fP 0 1 (fQ 0 2 1)) [] [some (.loc u),some (.int count),some x2,some x3,some (.loc d),none] c' OD:=by
 have row:∀(Μ:Ι) (qI:Y) (hZ:ξ O) (K:I O->Ο->Ι->Prop),qI+count<=k+4->gJ u d cells c Μ qI D->(∀r az o,r.length=count->(∀v∈r,P v)->gJ u d cells c az (qI+count) D->K (b2 r) [some (.loc u),some (.int count),some x2,some x3,some (.loc d),hZ,o] az)->
  dT (hk (.var 6)) (mI p a1 a6 Er n .nil) (bS p a1 a6 Er n aN) (fP 0 1 (fQ 0 count 1)) [] [some (.loc u),some (.int count),some x2,some x3,some (.loc d),hZ,none] Μ K:=by
  intro Μ qI hZ K ad6 q3 aC;rw[lm,n7];refine uS (λrest acc ρ az=>∃vs:I J,∃o,acc=b2 vs/\vs.length+rest.length=count/\(∀v∈vs,P v)/\gJ u d cells c az (qI+vs.length) D/\ρ=[some (.loc u),some (.int count),some x2,some x3,some (.loc d),hZ,o]) ?_ ?_ (fK count) [] _ Μ ⟨[],none,rfl,by simp,(λH h=>nomatch h),q3,rfl⟩
  ·intro x rest acc ρ az akB be ad7;refine oK be λvs o aV Τ Φ xz aW=>?_;try clear be;rcases aV with rfl;rcases aW with rfl
   rw[kP] at Τ;refine δ _ hZ _ az _ _ rfl (θ [_,_,_,_,_] [] (.le (.a (.a (.v 3) (.v 0)) (.c 1)) (.a (.v 4) (.c 4))) [(.eq (.a (.v 0) (.a (.v 1) (.c 1))) (.v 2)),(.le (.a (.v 3) (.v 2)) (.a (.v 4) (.c 4)))] [[1,1,0,1]] rfl Τ ad6) xz λv cH ζ ad8=>ad7 _ _ _ ⟨vs++[v],_,by unfold b2;rw[h8];rfl,by rw[fa,lE];exact yL Τ,λw bC=>?_,by rw[fa,lE];exact ad8,rfl⟩;rcases hA.mp bC with h|h
   ·exact Φ w h
   ·refine my h ?_ λh=>?_
    ·exact ζ
    ·contradiction
  ·intro acc ρ az be;refine oK be λvs o aV Τ Φ xz aW=>?_;try clear be;rcases aV with rfl;rcases aW with rfl
   exact aC vs az o (CN Τ) Φ (by rw[<-Τ];exact xz)
 rw[show fQ 0 2 1=2 from lm 2];refine⟨m' (aR af rfl),row c' k _ _ (θ [_,_] [] (.le (.a (.v 1) (.v 0)) (.a (.v 1) (.c 4))) [(.le (.v 0) (.c 2))] [[1,1]] rfl af) M λak Μ o dI u0 q3=>?_⟩;refine⟨m' (aR af rfl),row Μ (k+count) _ _ (Jg af) q3 λag az aU cY ch xz=>?_⟩;exact h ak ag az _ dI cY u0 ch (xz.more (Jg af))
end
section
variable{bz:Ι}{y r:J}{u:ε}{cells:I J}{D:I (Y×O)}
theorem ad9(h0:0<=r)(Α:r<3):∃c7:J,eX [.int 2,.int 0,.int 4] r=some (.int c7)/\(c7=2∨c7=0∨c7=4):=by
 rcases((fL h0).imp_right λh=>(fL h).imp_right λh=>np (vo Α) h:r=0∨r=1∨r=2) with e|e|e<;>subst e<;>exact as _ rfl (by decide)
theorem aea(h0:0<=r)(Α:r<6):∃N:Y,eX [.int 1,.int 2,.int 3,.int 7,.int 0,.int 64] r=some (.int N)/\N<=64:=by
 rcases((fL h0).imp_right λh=>(fL h).imp_right λh=>(fL h).imp_right λh=>(fL h).imp_right λh=>(fL h).imp_right λh=>np (vo Α) h:r=0∨r=1∨r=2∨r=3∨r=4∨r=5) with e|e|e|e|e|e<;>subst e<;>first|exact as 1 rfl (by decide)|exact as 2 rfl (by decide)|exact as 3 rfl (by decide)|exact as 7 rfl (by decide)|exact as 0 rfl (by decide)|exact as 64 rfl (by decide)
theorem aeb(h0:0<=r)(Α:r<4):∃k:Y,eX [.int 8,.int 16,.int 24,.int 32] r=some (.int (8*(k:Y)))/\(1<=k/\k<=4):=by
 rcases(Cx h0 Α:r=0∨r=1∨r=2∨r=3) with e|e|e|e<;>subst e<;>first|exact as 1 rfl (by decide)|exact as 2 rfl (by decide)|exact as 3 rfl (by decide)|exact as 4 rfl (by decide)
theorem A4:(2:J)=3↔false=true:=by decide
theorem aec:(0:J)=3↔false=true:=by decide
theorem aed:(4:J)=3↔false=true:=by decide
theorem A5{nd:cT}{l:I (Y×O)}{x2 x3:O}(bF:d≠u)(hd:c d=none)(M:gJ u d cells c c' k l)(V:q2 nd l)(h:∀c',en c' u cells k->SameBut u c c'->Q nd.ek c'):
 bh p a1 a6 Er n (a9 (a9 (a9 (a9 uy)))) [some (.loc u),some (.int count),some x2,some x3,some (.loc d)] c' (λH c'=>Q .none c') (λx H c'=>Q x c'):=by
 have hf:=M.free bF hd;refine as _ M.cell ?_;have:=h _ hf.1 hf.2;rw[V.ek] at this;exact this
theorem aee(G:ar p)(bF:d≠u)(hd:c d=none)(Η:k<=800000)(af:1<=count/\count<=2)(j3: -600<=low/\low<600)(jr:low<=high/\high<1400)(M:gJ u d cells c c' (k+3) [(60,.int 2),(64,.int low),(57,.int high),(63,.none)])(h:∀nd l c',gs count nd->q2 nd l->en c' u cells (k+20)->SameBut u c c'->Q nd.ek c'):
 bh p a1 a6 Er 3 (a9 (a9 (a9 uy))) [some (.loc u),some (.int count),some (.int 2),some (.int low),some (.loc d)] c' (λH c'=>Q .none c') (λx H c'=>Q x c'):=by
 refine fs G (by decide) M.eP (by decide) (by decide) (gL Η rfl) λr nU h0 Α cF kE=>?_;have M:=M.draw bF cF kE;refine ψ (aea h0 Α) λN γ bZ=>?_;refine cO γ ?_;refine dj _ M.cell (bu rfl) ?_;have M:=M.set bF [(60,.int 2),(64,.int low),(57,.int high),(63,.none),(78,.int N)];refine⟨m' (m:=2) (by decide),?_⟩;refine OC G (λv=>-1000<=v/\v<=1000) bF af.2 M ?_ ?_
 ·rintro ρ hZ F4 bz j K rfl cQ M aC;refine fs G (by decide) M.eP (by decide) (by decide) (Jh Η cQ) λr nU h0 Α cF kE=>?_;exact aC _ _ (θ [] [_] (.an (.ι (.g (.c 1000)) (.s (.v 0) (.c 450))) (.ι (.s (.v 0) (.c 450)) (.c 1000))) [(.ι (.c 0) (.v 0)),(.ι (.a (.v 0) (.c 1)) (.c 900))] [[1,1],[1,0,1]] rfl h0 Α) (M.draw bF cF kE)
 rintro ak ag A6 o dI cY u0 ch M;refine dj _ M.cell (bu rfl) ?_;have M:=M.set bF [(60,.int 2),(64,.int low),(57,.int high),(63,.none),(78,.int N),(83,pB ak ag)];refine F3 (need:=false) G (by decide) M.eP (θ [_] [] (.le (.a (.a (.a (.v 0) (.c 3)) (.c 1)) (.c 4)) (.c 900000)) [(.le (.v 0) (.c 800000))] [[1,1]] rfl Η) af.2 λη aef Τ H gK F5=>?_;have M:=M.draw bF gK F5;refine dj _ M.cell (bu rfl) ?_;have M:=M.set bF [(60,.int 2),(64,.int low),(57,.int high),(63,jX η),(78,.int N),(83,pB ak ag)];refine as _ M.cell ?_;refine d4 (λe=>?_) λe=>?_
 ·refine as _ M.cell ?_;have Aj:=nv high (by decide:(0:J)<=3);have ng:0<=fJ high 4/\fJ high 4<4:=(by rw[(nv high (by decide:(0:J)<=4))];exact⟨tt _ (by decide),tu _ (by decide)⟩);have gV:0<=fJ high 3/\fJ high 3<3:=(by rw[Aj];exact⟨tt _ (by decide),tu _ (by decide)⟩);refine as _ M.cell ⟨by decide,bT (i:=6) (j:=3) (by decide) (.of (n:=4) (ej (fI (by decide) ng.1) (fI ng.2 (by decide))) (by decide)) (by decide),?_⟩;refine as _ M.cell ⟨by decide,bT (i:=6) (j:=3) (by decide) (.of (n:=3) ((by rw[Aj];exact ej (fI (by decide) (tt _ (by decide))) (tu _ (by decide)))) (by decide)) (by decide),?_⟩;refine dj _ M.cell (bu rfl) ?_;have M:=M.set bF [(60,.int 2),(64,.int (0 - 50*fJ high 4)),(57,.int (50*fJ high 3)),(63,jX η),(78,.int N),(83,pB ak ag)];generalize Ν:0 - 50*fJ high 4=lo at M;generalize aX:50*fJ high 3=hi at M;exact A5 (p:=p) (Er:=Er) (n:=3) (count:=count) (x2:=.int 2) (x3:=.int low) (nd:=⟨sG lo hi η N ak ag,pC lo hi η N ak ag,lo,hi,false,Aw lo hi η N ak ag⟩) bF hd (M.more (IJ:_<=k+20)) ⟨rfl,⟨2,rfl,A4⟩,rfl,rfl,.inr ⟨N,rfl⟩,by show -1900<=lo;exact H3 Ν ng.2,by show lo<=hi;exact CD aX Ν gV.1 ng.1,by show hi<=1900;exact H4 aX gV.2⟩ (λc' a4 σ=>h _ _ c' (.pow lo hi η N ak ag ⟨by exact Sv Ν ng.2,by exact CD aX Ν gV.1 ng.1,by exact Sx aX gV.2⟩ Τ bZ dI cY u0 ch) ⟨rfl,⟨2,rfl,A4⟩,rfl,rfl,.inr ⟨N,rfl⟩,by show -1900<=lo;exact H3 Ν ng.2,by show lo<=hi;exact CD aX Ν gV.1 ng.1,by show hi<=1900;exact H4 aX gV.2⟩ a4 σ)
 ·exact A5 (p:=p) (Er:=Er) (n:=3) (count:=count) (x2:=.int 2) (x3:=.int low) (nd:=⟨sG low high η N ak ag,pC low high η N ak ag,low,high,false,Aw low high η N ak ag⟩) bF hd (M.more (IJ:_<=k+20)) ⟨rfl,⟨2,rfl,A4⟩,rfl,rfl,.inr ⟨N,rfl⟩,by show -1900<=low;exact yD j3.1,jr.1,by show high<=1900;exact yF jr.2⟩ (λc' a4 σ=>h _ _ c' (.pow low high η N ak ag ⟨by exact Ct j3.1,by exact CC jr.1,by exact Cy jr.2⟩ Τ bZ dI cY u0 ch) ⟨rfl,⟨2,rfl,A4⟩,rfl,rfl,.inr ⟨N,rfl⟩,by show -1900<=low;exact yD j3.1,jr.1,by show high<=1900;exact yF jr.2⟩ a4 σ)
theorem aeg(G:ar p)(bF:d≠u)(hd:c d=none)(Η:k<=800000)(af:1<=count/\count<=2)(j3: -600<=low/\low<600)(jr:low<=high/\high<1400)(M:gJ u d cells c c' (k+3) [(60,.int 0),(64,.int low),(57,.int high),(63,.none)])(h:∀nd l c',gs count nd->q2 nd l->en c' u cells (k+20)->SameBut u c c'->Q nd.ek c'):
 bh p a1 a6 Er 3 (a9 (a9 (a9 uy))) [some (.loc u),some (.int count),some (.int 0),some (.int low),some (.loc d)] c' (λH c'=>Q .none c') (λx H c'=>Q x c'):=by
 refine fs G (by decide) M.eP (by decide) (by decide) (gL Η rfl) λr nU h0 Α cF kE=>?_;have M:=M.draw bF cF kE;refine ψ (aeb h0 Α) λiS γ kq=>?_;refine cO γ ?_;refine dj _ M.cell (bu rfl) ?_;have M:=M.set bF [(60,.int 0),(64,.int low),(57,.int high),(63,.none),(40,.int (8*(iS:Y)))];have mc:=uU kq.2;have sR:(0<=8*(iS:J)/\(s9 2:J)*(8*(iS:J))<=2^27):=by
  have:=kA (a:=2) (i:=2) (j:=8*iS) (by decide) (S0 kq.2);exact⟨by exact IE,this⟩
 refine⟨m' (m:=2) (by decide),?_⟩;refine OC G (λv=>0<=v/\v<256^iS) bF af.2 M ?_ ?_
 ·rintro ρ hZ F4 bz j K rfl cQ M aC;refine as _ M.cell ⟨sR,?_⟩;rw[FL];refine fs G (by decide) M.eP mc.2 (mc.1.mono (by decide)) (Jh Η cQ) λr nU h0 Α cF kE=>?_;exact aC _ _ ⟨h0,Α⟩ (M.draw bF cF kE)
 rintro ak ag A6 o dI cY u0 ch M;refine dj _ M.cell (bu rfl) ?_;have M:=M.set bF [(60,.int 0),(64,.int low),(57,.int high),(63,.none),(40,.int (8*(iS:Y))),(83,pB ak ag)];refine⟨m' (aR af.2 rfl),?_⟩;rw[lm,n7];refine m9 (λH=>n5 (0,100*(256^iS - 1))) (λo:ξ Y=>[some (.loc u),some (.int count),some (.int 0),some (.int low),some (.loc d),o.map λi=>.int (i:Y)]) (fK count) [] none (λx Ν o acc K aC=>?_) λo=>?_
 ·refine as _ M.cell ⟨sR,?_⟩;rw[FL];exact⟨bT (i:=7) (j:=34) (by decide) (mc.1.sub (b:=1) (by decide)) (by decide),aC⟩
 ·refine dj _ M.cell (bu rfl) ?_;have e:[]++(fK count).map (λH=>n5 (0,100*(256^iS - 1)))=(fq count iS).map n5:=by
   unfold fq;rw[i6,List.map_const',B9,yq]
  rw[e];have V:q2 ⟨xq low high (some (fq count iS)) iS ak ag,qT low high (some (fq count iS)) iS ak ag,low,high,false,Fz low high (some (fq count iS)) ak ag⟩ _:=⟨rfl,⟨0,rfl,aec⟩,rfl,rfl,.inl rfl,by show -1900<=low;exact yD j3.1,jr.1,by show high<=1900;exact yF jr.2⟩;exact A5 (p:=p) (Er:=Er) (n:=3) (count:=count) (x2:=.int 0) (x3:=.int low) bF hd ((M.set bF [(60,.int 0),(64,.int low),(57,.int high),(63,jX (some (fq count iS))),(40,.int (8*(iS:Y))),(83,pB ak ag)]).more ((by simp):_<=k+20)) V λc' a4 σ=>h _ _ c' (.sH low high iS ak ag ⟨by exact Ct j3.1,by exact CC jr.1,by exact Cy jr.2⟩ kq dI cY u0 ch) V a4 σ
theorem aeh(G:ar p)(bF:d≠u)(hd:c d=none)(Η:k<=800000)(af:1<=count/\count<=2)(j3: -600<=low/\low<600)(jr:low<=high/\high<1400)(M:gJ u d cells c c' (k+3) [(60,.int 4),(64,.int low),(57,.int high),(63,.none)])(h:∀nd l c',gs count nd->q2 nd l->en c' u cells (k+20)->SameBut u c c'->Q nd.ek c'):
 bh p a1 a6 Er 3 (a9 (a9 (a9 uy))) [some (.loc u),some (.int count),some (.int 4),some (.int low),some (.loc d)] c' (λH c'=>Q .none c') (λx H c'=>Q x c'):=by
 refine fs G (by decide) M.eP (by decide) (by decide) (gL Η rfl) λr nU h0 Α cF kE=>?_;have M:=M.draw bF cF kE;refine fs G (by decide) M.eP (by decide) (by decide) (θ [_] [] (.le (.a (.a (.v 0) (.c 3)) (.c 1)) (.c 1000000)) [(.le (.v 0) (.c 800000))] [[1,1]] rfl Η) λdJ A6 xA xB fc F6=>?_;have M:=M.draw bF fc F6;refine dj _ M.cell (bu rfl) ?_;have M:=M.set bF [(60,.int 4),(64,.int low),(57,.int high),(63,.none),(79,.lst [.int r,.int dJ,.int count])];refine F3 (need:=true) G (by decide) M.eP (θ [_] [] (.le (.a (.a (.a (.v 0) (.c 3)) (.c 1)) (.c 1)) (.c 900000)) [(.le (.v 0) (.c 800000))] [[1,1]] rfl Η) af.2 λη aef Τ aei gK F5=>?_;have M:=M.draw bF gK F5;refine a8 (aei rfl) λls aV=>?_;rcases aV with rfl
 refine dj _ M.cell (bu rfl) ?_;have V:q2 ⟨Ax low high (some ls) r dJ count,qV low high (some ls) r dJ count,low,high,false,FA low high (some ls) r dJ count⟩ _:=⟨rfl,⟨4,rfl,aed⟩,rfl,rfl,.inl rfl,by show -1900<=low;exact yD j3.1,jr.1,by show high<=1900;exact yF jr.2⟩;exact A5 (p:=p) (Er:=Er) (n:=3) (count:=count) (x2:=.int 4) (x3:=.int low) bF hd ((M.set bF [(60,.int 4),(64,.int low),(57,.int high),(63,jX (some ls)),(79,.lst [.int r,.int dJ,.int count])]).more ((by simp):_<=k+20)) V λc' a4 σ=>h _ _ c' (.sI low high ls r dJ ⟨by exact Ct j3.1,by exact CC jr.1,by exact Cy jr.2⟩ (Τ ls rfl) ((fL h0).imp_right λh=>np (vo Α) h) ⟨xA,xB⟩) V a4 σ
theorem aej(G:ar p)(Ζ:4<=n)(a4:en c u cells k)(Η:k<=800000)(af:1<=count/\count<=2)(h:∀nd l c',gs count nd->q2 nd l->en c' u cells (k+20)->SameBut u c c'->Q nd.ek c'):
 aF p n (.val (.ref 688)) [.loc u,.int count] c Q Er:=by
 refine .at Ζ ?_;refine aa0 G rfl ?_;refine fs G (by decide) a4 (by decide) (by decide) (aR Η rfl) λr Μ h0 Α ao ds=>?_;refine ψ (ad9 h0 Α) λc7 γ F7=>?_;refine cO γ ?_;refine fs G (by decide) ao (by decide) (by decide) (gL Η rfl) λdJ az h0 Α aJ eC=>?_;refine fs G (by decide) aJ (by decide) (by decide) (θ [_] [] (.le (.a (.a (.v 0) (.c 1)) (.c 1)) (.c 1000000)) [(.le (.v 0) (.c 800000))] [[1,1]] rfl Η) λmS cH xA xB bf g9=>?_;have OE:=ds.trans (eC.trans g9);refine λd OF=>?_;have bF:d≠u:=λe=>by
  rcases bf with ⟨a,b,Θ⟩
  rw[e,Θ] at OF;contradiction
 have hd:c d=none:=(OE d bF).symm.trans OF;have M:gJ u d cells c (upd cH d (some (.Ω [(60,.int c7),(64,.int (dJ - 600)),(57,.int (dJ - 600+mS)),(63,.none)]))) (k+3) [(60,.int c7),(64,.int (dJ - 600)),(57,.int (dJ - 600+mS)),(63,.none)]:=
  ⟨bf.same (a3 _ _ λe=>bF e.symm),aj ..,λa h h'=>(a3 _ _ h').trans (OE a h)⟩
 rcases F7 with rfl|rfl|rfl
 ·exact aee G bF hd Η af (Cw h0 Α) (CA xA Α xB) M h
 ·exact aeg G bF hd Η af (Cw h0 Α) (CA xA Α xB) M h
 ·exact aeh G bF hd Η af (Cw h0 Α) (CA xA Α xB) M h
end
noncomputable abbrev pJ(low high:J)(η:b5)(ς:I J)(parts:I cP)(more:I (Y×O)):cT:=⟨.Ω (jZ low high η ς parts++more),sJ low high η ς parts,low,high,true,xr low high η ς parts⟩
noncomputable def Tree(count:Y):Y->cT->Prop
 |0,nd=>gs count nd
 |L+1,nd=>∃low high η ς parts more,nd=pJ low high η ς parts more/\uN (λx=>gs count x∨Tree count L x) count low high η ς parts/\∃pre x post,parts=pre++x::post/\(∀y∈pre,gs count y.1/\0<L)/\Tree count L x.1
structure u1(bq:Ι)(u dp:ε)(cells:I J)(k:Y)(acc:I O)(c:Ι):Prop where
 eP:en c u cells k
 cell:c dp=some (.lst acc)
 same:∀a,a≠u->a≠dp->c a=bq a
inductive h2(bq:Ι)(u dp:ε)(cells:I J)(k:Y)(acc:I O)(l:I (Y×O))(c:Ι):O->Prop
 |Ω (S:u1 bq u dp cells k acc c):h2 bq u dp cells k acc l c (.Ω l)
 |loc (h1:ε) (a4:h1≠u) (ζ:h1≠dp) (h0:bq h1=none) (eP:en c u cells k) (cell:c dp=some (.lst acc)) (node:c h1=some (.Ω l)) (same:∀a,a≠u->a≠dp->a≠h1->c a=bq a):h2 bq u dp cells k acc l c (.loc h1)
section
variable{bq bz:Ι}{y r:J}{u dp:ε}{cells:I J}{D:I (Y×O)}{acc:I O}{x:O}{nd:cT}
theorem h2.eP(h:h2 bq u dp cells k acc l c v):en c u cells k:=by
 rcases h with S|_
 ·exact S.eP
 ·assumption
theorem h2.draw(h:h2 bq u dp cells k acc l c v)(bF:dp≠u)(a4:en c' u cells j)(s:SameBut u c c'):h2 bq u dp cells j acc l c' v:=by
 rcases h with S|⟨h1,Α,Δ,h0,eP,cell,node,same⟩
 ·exact .Ω ⟨a4,(s dp bF).trans S.cell,λa h h'=>(s a h).trans (S.same a h h')⟩
 ·exact .loc h1 Α Δ h0 a4 ((s dp bF).trans cell) ((s h1 Α).trans node) λa h h' oQ=>(s a h).trans (same a h h' oQ)
theorem h2.sub{s:Y}{K:O->Prop}(h:h2 bq u dp cells k acc l c v)(e:bl l s=some x)(aC:K x):oT c v (.sym s) K:=by
 rcases h with S|⟨h1,Α,Δ,h0,eP,cell,node,same⟩
 ·exact cO e aC
 ·exact⟨_,node,cO e aC⟩
theorem h2.get{s:Y}{K:O->Ι->Prop}(h:h2 bq u dp cells k acc l c v)(aC:K ((bl l s).getD .none) c):yU a1 a6 c 54 v (nK p a1 a6 Er n c 54 v [.sym s] K):=by
 rcases h with S|⟨h1,Α,Δ,h0,eP,cell,node,same⟩
 ·exact aC
 ·exact⟨_,node,_,node,aC⟩
theorem h2.i'{K:O->Ι->Prop}(h:h2 bq u dp cells k acc l c v)(aC:∀c',u1 bq u dp cells k acc c'->K (.Ω l) c'):rU c v K:=by
 rcases h with S|⟨h1,Α,Δ,h0,eP,cell,node,same⟩
 ·exact aC _ S
 ·refine⟨_,node,aC _ ⟨eP.same (a3 _ _ λe=>Α e.symm),(a3 _ _ λe=>Δ e.symm).trans cell,λa h h'=>?_⟩⟩;by_cases e:a=h1
  ·rw[e,aj,h0]
  ·rw[a3 _ _ e];exact same a h h' e
theorem aek(h0:0<=r)(Α:r<if nd.ev=true then 3 else 6):∃s:J,eX [.int 4,.int (-4),.int 8,.int 3,.int 1,.int (-5)] r=some (.int s)/\(-8<=s/\s<=8)/\(nd.ev=true->4∣s):=by
 have d':r<6:=by split at Α<;>omega
 rcases((fL h0).imp_right λh=>(fL h).imp_right λh=>fL h:r=0∨r=1∨r=2∨3<=r) with e|e|e|e
 ·subst e;exact⟨4,rfl,by decide,λH=>by decide⟩
 ·subst e;exact⟨-4,rfl,by decide,λH=>by decide⟩
 ·subst e;exact⟨8,rfl,by decide,λH=>by decide⟩
 ·have Η:¬nd.ev=true:=λh=>by rw[cz h] at Α;omega
  rcases((fL e).imp_right λh=>(fL h).imp_right λh=>np (vo d') h:r=3∨r=4∨r=5) with e|e|e<;>subst e
  ·exact⟨3,rfl,by decide,λh=>absurd h Η⟩
  ·exact⟨1,rfl,by decide,λh=>absurd h Η⟩
  ·exact⟨-5,rfl,by decide,λh=>absurd h Η⟩
noncomputable abbrev xC:SL:=match E5 with
 | .cons _ (.cons _ (.cons _ (.cons _ (.cons _ (.cons _ (.cons (.for _ _ b) _))))))=>b
 |_=>.nil
noncomputable abbrev q4(u:ε)(u2 u3 oa ob oe kF og:O)(dp:ε)(fW eG hz iT:ξ O):Ο:=[some (.loc u),some u2,some u3,some oa,some ob,some oe,some kF,some og,some (.loc dp),fW,eG,hz,iT]
theorem h2.cell(h:h2 bq u dp cells k acc l c v):c dp=some (.lst acc):=by
 rcases h with S|_
 ·exact S.cell
 ·assumption
theorem OG{u2 u3 oa ob oe kF og:O}{fW hz iT:ξ O}{K:Ο->Ι->Prop}(G:ar p)(Ζ:1<=n)(bF:dp≠u)(Η:k<=900000)(xj:acc.length<=100)(V:q2 nd l)(Ε:h2 bq u dp cells k acc l c v)(aC:∀start eL c' h3 f9 eM eN,(-2000<=start/\start<=2000)->(-8<=eL/\eL<=8)->(nd.ev=true->4∣eL)->u1 bq u dp cells (k+2) (acc++[m8 (nd,start,eL)]) c'->K (q4 u u2 u3 oa ob oe kF og dp h3 f9 eM eN) c'):
 bh p a1 a6 aK n (a9 xC) (q4 u u2 u3 oa ob oe kF og dp fW (some v) hz iT) c K (λx H c'=>Q x c'):=by
 refine ψ V.kind λc7 F7 OH=>?_;refine e7 V.qZ λfH e1 ew=>?_;have cq:∀start eL az j,j=k+2->h2 bq u dp cells j acc l az v->(-2000<=start/\start<=2000)->(-8<=eL/\eL<=8)->(nd.ev=true->4∣eL)->bh p a1 a6 aK n (a9 (a9 (a9 (a9 xC)))) (q4 u u2 u3 oa ob oe kF og dp fW (some v) (some (.int eL)) (some (.int start))) az K (λx H c'=>Q x c'):=by
  rintro start eL az j rfl Ε nW pk po;refine⟨_,Ε.cell,?_⟩;refine Ε.i' λcH P=>?_;refine⟨_,P.cell,by exact aR xj rfl,?_⟩;have e:nd.ek= .Ω l:=V.ek;refine aC start eL _ _ _ _ _ nW pk po ⟨P.eP.same (a3 _ _ λe=>bF e.symm),?_,λa h h'=>(a3 _ _ h').trans (P.same a h h')⟩;unfold m8;rw[e];exact aj ..
 have rest:∀eL Μ j,j=k+1->h2 bq u dp cells j acc l Μ v->(-8<=eL/\eL<=8)->(nd.ev=true->4∣eL)->bh p a1 a6 aK n (a9 (a9 xC)) (q4 u u2 u3 oa ob oe kF og dp fW (some v) (some (.int eL)) iT) Μ K (λx H c'=>Q x c'):=by
  rintro eL Μ j rfl Ε pk po;refine Ε.sub V.low ?_;refine Ε.sub V.high ?_;refine Ε.sub V.low ?_;refine fs G Ζ Ε.eP (θ [] [_,_] (.ι (.c 1) (.a (.s (.v 1) (.v 0)) (.c 41))) [(.ι (.v 0) (.v 1))] [[1,1]] rfl e1) (.of (n:=4000) (θ [] [_,_] (.cA (.a (.s (.v 1) (.v 0)) (.c 41)) (.c 4000)) [(.ι (.g (.c 1900)) (.v 0)),(.ι (.v 1) (.c 1900)),(.ι (.v 0) (.v 1))] [[1,1,1],[1,0,0,1]] rfl fH ew e1) (by decide)) (gL Η rfl) λr az h0 Α aJ eC=>?_;have Ε:=Ε.draw bF aJ eC;have nW: -2000<=nd.low+r - 20/\nd.low+r - 20<=2000:=θ [] [_,_,_] (.an (.ι (.g (.c 2000)) (.s (.a (.v 0) (.v 1)) (.c 20))) (.ι (.s (.a (.v 0) (.v 1)) (.c 20)) (.c 2000))) [(.ι (.g (.c 1900)) (.v 0)),(.ι (.c 0) (.v 1)),(.ι (.v 2) (.c 1900)),(.ι (.a (.v 1) (.c 1)) (.a (.s (.v 2) (.v 0)) (.c 41)))] [[1,1,1],[1,0,0,1,1]] rfl fH h0 ew Α;have hf:∀x:J,0<=fJ x 6/\fJ x 6<6:=λx=>by
   rw[nv _ (by decide)];exact⟨tt _ (by decide),tu _ (by decide)⟩
  refine Ε.get ?_;rcases V.sR with e|⟨N,e⟩
  ·rw[e];exact cq _ _ _ _ rfl Ε nW pk po
  ·rw[e];refine d4 (λH=>?_) λH=>cq _ _ _ _ rfl Ε nW pk po;have:=hf (nd.low+r - 20);refine⟨by decide,bT (i:=6) (j:=3) (by decide) (.of (n:=6) (ej (fI (by decide) this.1) (fI this.2 (by decide))) (by decide)) (by decide),?_⟩;exact cq _ _ _ _ rfl Ε (Sw this.1 this.2) (by decide) (λH=>by decide)
 have OI:∀y:J,y=(if nd.ev=true then 3 else 6)->∀wP:O->Ι->Prop,(∀s Μ,h2 bq u dp cells (k+1) acc l Μ v->(-8<=s/\s<=8)->(nd.ev=true->4∣s)->wP (.int s) Μ)->aF p n (.val (.ref 678)) [.loc u,.int y] c (λr Μ=>oT Μ (.lst [.int 4,.int (-4),.int 8,.int 3,.int 1,.int (-5)]) r λw=>wP w Μ) aK:=by
  rintro y rfl wP xt;refine fs G Ζ Ε.eP (by split<;>decide) (by split<;>decide) (aR Η rfl) λr Μ h0 Α ao ds=>?_;refine ψ (aek h0 Α) λs γ σ=>?_;exact cO γ (xt s Μ (Ε.draw bF ao ds) σ.1 σ.2)
 refine Ε.sub F7 ?_;refine d4 (λe=>?_) λe=>?_
 ·exact OI 3 (by rw[cz (OH.mp e)]) _ λs Μ Ε Α Δ=>rest s Μ _ rfl Ε Α Δ
 ·exact OI 6 (by rw[bL λh=>e (OH.mpr h)]) _ λs Μ Ε Α Δ=>rest s Μ _ rfl Ε Α Δ
end
noncomputable def pK(count L:Y)(low high:J)(η:b5)(ς:I J)(parts:I cP):Prop:=
 uN (λx=>gs count x∨Tree count L x) count low high η ς parts/\∃pre x post,parts=pre++x::post/\(∀y∈pre,gs count y.1/\0<L)/\Tree count L x.1
theorem pK.tree{count L:Y}{low high:J}{η:b5}{ς:I J}{parts:I cP}(h:pK count L low high η ς parts)(more:I (Y×O)):Tree count (L+1) (pJ low high η ς parts more):=
 ⟨low,high,η,ς,parts,more,rfl,h.1,h.2⟩
theorem ael{low high:J}{hl:I J}(ζ:hl.Pairwise (·<=·))(h0:low<=high)(h:∀x∈hl,low<=x/\x<=high):lp low hl high:=by
 induction hl generalizing low with
 |nil=>exact h0
 |cons e l Ξ=>
  have:=List.pairwise_cons.mp ζ;have aH:=h e (.head _);exact⟨aH.1,Ξ this.2 aH.2 λx Ν=>⟨this.1 x Ν,(h x (.tail _ Ν)).2⟩⟩
noncomputable def F8(count L g':Y)(i:Y)(y:cP):Prop:=(if i=g'/\0<L then Tree count L y.1 else gs count y.1)/\(-2000<=y.2.1/\y.2.1<=2000)/\(-8<=y.2.2/\y.2.2<=8)/\(y.1.ev=true->4∣y.2.2)
theorem aem{count L g':Y}{parts:I cP}(hd:g'<parts.length)(h:∀i y,parts[i]?=some y->F8 count L g' i y):∃pre x post,parts=pre++x::post/\(∀y∈pre,gs count y.1/\0<L)/\Tree count L x.1:=by
 rcases Nat.eq_zero_or_pos L with e|e
 ·subst e;rcases parts with _|⟨x,r⟩
  ·contradiction
  ·have:=(h 0 x rfl).1;rw[bL ((by simp+arith))] at this;exact vQ [] x r rfl (λH h=>nomatch h) this
 ·refine vQ (parts.take g') parts[g'] (parts.drop (g'+1)) (by rw[<-Hj hd,aiT]) (λy aX=>⟨?_,e⟩) ?_
  ·obtain⟨i,hi⟩:=s7 aX;have dh:=(j7.mp hi).1;rw[B6] at dh;have:=(h i y (by rw[<-hi,List.getElem?_take_of_lt (vG dh (Hv _ _))])).1
   rwa [bL (λe=>absurd e.1 (vy (vG dh (Hv _ _))))] at this
  ·have:=(h g' parts[g'] (gY hd)).1
   rwa [cz ⟨rfl,e⟩] at this
section
variable{bq bz:Ι}{y r:J}{u dp:ε}{cells:I J}{D:I (Y×O)}{acc:I O}{x:O}{nd:cT}
noncomputable def xD(p:bP)(count:Y)(u:ε)(cells:I J)(L:Y):Prop:=∀{n c} {Q:O->Ι->Prop} {Er k},6+2*L<=n->en c u cells k->k+10000*L<=300000->
 (∀low high η ς parts d c',pK count L low high η ς parts->(-1900<=low/\low<=high/\high<=1900)->d≠u->c d=none->gJ u d cells c c' (k+(100+300*L)) (jZ low high η ς parts)->Q (.loc d) c')->
 aF p n (.val (.ref 693)) [.loc u,.int count,.int ((L+1:Y):J)] c Q Er
theorem aen{oa ob oe og:O}{g':Y}{parts:I cP}{f9 eM eN:ξ O}{K:Ο->Ι->Prop}(G:ar p)(Ζ:5+2*L<=n)(af:1<=count/\count<=2)(Ξ:∀M,L=M+1->xD p count u cells M)(bF:dp≠u)(Η:k+10000*L<=302000)(b0:parts.length<=10)(bB:L<=1)(S:u1 bq u dp cells k (parts.map m8) c)(aC:∀y c' h3 f9 eM eN,F8 count L g' parts.length y->u1 bq u dp cells (k+(30+80*L)) ((parts++[y]).map m8) c'->K (q4 u (.int count) (.int ((L+1:Y):J)) oa ob oe (.int g') og dp h3 f9 eM eN) c'):
 bh p a1 a6 aK n xC (q4 u (.int count) (.int ((L+1:Y):J)) oa ob oe (.int g') og dp (some (.int (parts.length:Y))) f9 eM eN) c K (λx H c'=>Q x c'):=by
 have app:∀y,parts.map m8++[m8 y]=(parts++[y]).map m8:=λy=>by rw[h8];rfl
 have leaf:¬(parts.length=g'/\0<L)->aF p n (.val (.ref 688)) [.loc u,.int count] c (λv c'=>bh p a1 a6 aK n (a9 xC) (q4 u (.int count) (.int ((L+1:Y):J)) oa ob oe (.int g') og dp (some (.int (parts.length:Y))) (some v) eM eN) c' K (λx H c'=>Q x c')) aK:=λaeo=>by
  refine aej G (aP (by decide) (aP (io _ _) Ζ)) S.eP (θ [_,_] [] (.le (.v 0) (.c 800000)) [(.le (.a (.v 0) (.m 10000 (.v 1))) (.c 302000))] [[1,1]] rfl Η) af λnd l Μ Τ V ao ds=>?_;rw[V.ek];refine OG G (aP (by decide) (aP (io _ _) Ζ)) bF (by exact θ [_,_] [] (.le (.a (.v 0) (.c 20)) (.c 900000)) [(.le (.a (.v 0) (.m 10000 (.v 1))) (.c 302000))] [[1,1]] rfl Η) (by rw[bV];exact aR b0 rfl) V (.Ω ⟨ao,(ds dp bF).trans S.cell,λa h h'=>(ds a h).trans (S.same a h h')⟩) λstart eL az h3 f9 eM eN Α Δ κ P=>?_;rw[app] at P;exact aC (nd,start,eL) az _ _ _ _ ⟨by rw[bL aeo];exact Τ,Α,Δ,κ⟩ ⟨P.eP.more (by exact(by simp+arith)),P.cell,P.same⟩
 refine d4 (λe=>?_) λe=>?_
 ·have e:((parts.length:Y):J)=g':=e;refine d4 (λaT=>?_) λaT=>?_
  ·obtain⟨M,rfl⟩:∃M,L=M+1:=⟨L - 1,by exact(il (BC (nr.mp aT))).symm⟩;show aF p n (.val (.ref 693)) [.loc u,.int count,.int (((M+1+1:Y):J) - 1)] c _ _;rw[show((M+1+1:Y):J) - 1=((M+1:Y):J) by exact(by simp)];refine Ξ M rfl (θ [_,_] [] (.le (.a (.c 6) (.m 2 (.v 0))) (.v 1)) [(.le (.a (.c 5) (.m 2 (.a (.v 0) (.c 1)))) (.v 1))] [[1,1]] rfl Ζ) S.eP (θ [_,_] [] (.le (.a (.v 0) (.m 10000 (.v 1))) (.c 300000)) [(.le (.a (.v 0) (.m 10000 (.a (.v 1) (.c 1)))) (.c 302000))] [[1,1]] rfl Η) λlow high η ς kC d Μ T g hd lV q3=>?_;have gg:dp≠d:=λe=>by rw[<-e,S.cell] at lV;rcases lV with ⟨⟩
   refine OG (nd:=pJ low high η ς kC []) G (aP (ei _ _) Ζ) bF (θ [_,_] [] (.le (.a (.v 0) (.a (.c 100) (.m 300 (.v 1)))) (.c 900000)) [(.le (.a (.v 0) (.m 10000 (.a (.v 1) (.c 1)))) (.c 302000))] [[1,1]] rfl Η) (by rw[bV];exact aR b0 rfl) (⟨by show O.Ω (_++[])=_;rw[gj],⟨3,rfl,by simp⟩,rfl,rfl,.inl rfl,g⟩) (.loc d hd gg.symm (by rw[<-S.same d hd gg.symm];exact lV) q3.eP ((q3.same dp bF gg).trans S.cell) q3.cell λa h h' oQ=>(q3.same a h oQ).trans (S.same a h h')) λstart eL az h3 f9 eM eN Α Δ κ P=>?_;rw[app] at P;exact aC (pJ low high η ς kC [],start,eL) az _ _ _ _ ⟨by rw[cz ⟨by exact CM e,by exact ei _ _⟩];exact T.tree [],Α,Δ,κ⟩ ⟨P.eP.more (θ [_,_] [] (.le (.a (.a (.v 1) (.a (.c 100) (.m 300 (.v 0)))) (.c 2)) (.a (.v 1) (.a (.c 30) (.m 80 (.a (.v 0) (.c 1)))))) [(.le (.a (.v 0) (.c 1)) (.c 1))] [[1,220]] rfl bB),P.cell,P.same⟩
  ·exact leaf (Tb aT)
 ·exact leaf (Tc e)
end
section
variable{bq bz:Ι}{y r:J}{u dp:ε}{cells:I J}{D:I (Y×O)}{acc:I O}{x:O}{nd:cT}
structure aep(count L g' m:Y)(bq:Ι)(u dp:ε)(cells:I J)(k:Y)(rest:I Y)(c':Ι)(parts:I cP):Prop where
 rest:rest=Hw parts.length (m - parts.length)
 le:parts.length<=m
 at_:∀i y,parts[i]?=some y->F8 count L g' i y
 pm:u1 bq u dp cells (k+(30+80*L)*parts.length) (parts.map m8) c'
theorem OJ(G:ar p)(af:1<=count/\count<=2)(bB:L<=1)(Ξ:∀M,L=M+1->xD p count u cells M):xD p count u cells L:=by
 intro n c Q Er k Ζ a4 Η h;obtain⟨n,rfl⟩:∃dy,n=dy+1:=⟨n - 1,by exact(il (aP (aP (by decide) (io 6 _)) Ζ)).symm⟩;refine aa1 G rfl ?_;dsimp only[eU,fz,vK,oI,i6,gj];refine fs G (vX Ζ) a4 (by decide) (by decide) (θ [_,_] [] (.le (.v 0) (.c 1000000)) [(.le (.a (.v 0) (.m 10000 (.v 1))) (.c 300000))] [[1,1]] rfl Η) λag Μ hq dv ao ds=>?_;refine fs G (vX Ζ) ao (by decide) (by decide) (θ [_,_] [] (.le (.a (.v 0) (.c 1)) (.c 1000000)) [(.le (.a (.v 0) (.m 10000 (.v 1))) (.c 300000))] [[1,1]] rfl Η) λwidth az gP q5 aJ eC=>?_;refine fs G (vX Ζ) aJ (θ [_] [] (.ι (.c 1) (.a (.c 1) (.a (.n (.v 0)) (.c 1)))) [] [[1]] rfl) (.of (n:=100) (θ [_,_] [] (.cA (.a (.c 1) (.a (.n (.v 1)) (.c 1))) (.c 100)) [(.le (.a (.v 0) (.m 10000 (.v 1))) (.c 300000))] [[10000,1],[1]] rfl Η) (by decide)) (θ [_,_] [] (.le (.a (.a (.v 0) (.c 1)) (.c 1)) (.c 1000000)) [(.le (.a (.v 0) (.m 10000 (.v 1))) (.c 300000))] [[1,1]] rfl Η) λmS cH jf gV bf g9=>?_;refine a8 (ts jf) λq aV=>?_;rcases aV with rfl
 refine fs G (vX Ζ) bf ((by simp+arith)) (.of (n:=100) (θ [_,_,_] [] (.cA (.a (.c 1) (.n (.v 2))) (.c 100)) [(.le (.a (.v 0) (.m 10000 (.v 1))) (.c 300000)),(.ι (.a (.n (.v 2)) (.c 1)) (.a (.c 1) (.a (.n (.v 1)) (.c 1))))] [[10000,1,10000],[1]] rfl Η gV) (by decide)) (θ [_,_] [] (.le (.a (.a (.a (.v 0) (.c 1)) (.c 1)) (.c 1)) (.c 1000000)) [(.le (.a (.v 0) (.m 10000 (.v 1))) (.c 300000))] [[1,1]] rfl Η) λwO e0 lZ ng cm nh=>?_;refine a8 (ts lZ) λg' aW=>?_;rcases aW with rfl
 have j3: -500<=ag - 500/\ag - 500<500:=θ [] [_] (.an (.ι (.g (.c 500)) (.s (.v 0) (.c 500))) (.ι (.a (.s (.v 0) (.c 500)) (.c 1)) (.c 500))) [(.ι (.c 0) (.v 0)),(.ι (.a (.v 0) (.c 1)) (.c 1000))] [[1,1],[1,0,1]] rfl hq dv;generalize ag - 500=low at j3 ⊢;refine⟨⟨by decide,by decide,by decide,by decide,by exact θ [_] [] (.ι (.a (.g (.c 1152921504606846976)) (.c 1)) (.s (.a (.c 1) (.n (.v 0))) (.c 1))) [] [[1]] rfl,by exact S' Η gV,by exact θ [_,_,_] [] (.ι (.s (.s (.a (.c 1) (.n (.v 2))) (.c 1)) (.c 0)) (.c 20000)) [(.le (.a (.v 0) (.m 10000 (.v 1))) (.c 300000)),(.ι (.a (.n (.v 2)) (.c 1)) (.a (.c 1) (.a (.n (.v 1)) (.c 1))))] [[10000,1,10000]] rfl Η gV⟩,?_⟩;rw[show(1:J)+q - 1=(q:Y) by exact(by simp+arith),lm,n7];refine F2 (k:=k+4) (c:=e0) .int (λv=>low<=v/\v<=low+width) (λρ=>∃o,ρ=[some (.loc u),some (.int count),some (.int ((L+1:Y):J)),some (.int low),some (.int width),some (.int (1+(q:Y))),some (.int g'),none,none,none,none,none,none,o]) (fK q) ?_ cm ⟨_,rfl⟩ ?_
 ·intro x Ν ρ c' acc K j be a4 cQ σ aC;refine a8 be λo aV=>?_;try clear be;rcases aV with rfl
  rw[yq] at cQ;refine fs G (vX Ζ) a4 (by decide) (by decide) (θ [_,_,_,_] [] (.le (.v 3) (.c 1000000)) [(.le (.a (.v 0) (.m 10000 (.v 1))) (.c 300000)),(.ι (.a (.n (.v 2)) (.c 1)) (.a (.c 1) (.a (.n (.v 1)) (.c 1)))),(.le (.a (.v 3) (.c 1)) (.a (.a (.v 0) (.c 4)) (.v 2)))] [[1,1,10000,1]] rfl Η gV cQ) λr bz ak F9 sQ se=>?_;refine⟨bT (i:=11) (j:=3) (.of (n:=1000) (ej (fI (by decide) gP) (fI q5 (by decide))) (by decide)) (.of (n:=5) (ej (fI (by decide) ak) (fI F9 (by decide))) (by decide)) (by decide),⟨⟨by decide,iO (i:=4) (by decide) (by decide)⟩,?_⟩⟩;refine aC _ _ _ ?_ sQ (σ.trans se) ⟨_,rfl⟩;rw[nx _ (by decide)];exact⟨Int.le_add_of_nonneg_right (x' (agZ gP ak) (by decide)),Int.add_le_add_left (Int.ediv_le_of_le_mul (by decide) (ow (by exact θ [] [_] (.ι (.v 0) (.c 4)) [(.ι (.a (.v 0) (.c 1)) (.c 5))] [[1,1]] rfl F9) gP)) _⟩
 intro vs nU aM pI Φ cF kE be;refine a8 be λo aV=>?_;try clear be;rcases aV with rfl
 rw[yq] at pI cF;refine abX (θ [_,_,_,_] [] (.le (.a (.v 0) (.c 1)) (.c 64)) [(.eq (.v 0) (.v 1)),(.le (.a (.v 2) (.m 10000 (.v 3))) (.c 300000)),(.ι (.a (.n (.v 1)) (.c 1)) (.a (.c 1) (.a (.n (.v 3)) (.c 1))))] [[10000,10000,0,1,10000]] rfl pI Η gV) λhl OK aeq=>?_;have aer:=ael aeq (yG gP:low<=low+width) (λx Ν=>Φ x (OK.mem_iff.mp Ν));refine λdp OL=>?_;have bF:dp≠u:=λe=>by
  rcases cF with ⟨a,b,Θ⟩
  rw[e,Θ] at OL;contradiction
 have OM:=(ds.trans (eC.trans (g9.trans nh))).trans kE;refine⟨⟨by decide,by decide,by decide,by decide,by exact jt _,by exact Ta Η gV,by exact θ [_,_,_] [] (.ι (.s (.a (.c 1) (.n (.v 2))) (.c 0)) (.c 20000)) [(.le (.a (.v 0) (.m 10000 (.v 1))) (.c 300000)),(.ι (.a (.n (.v 2)) (.c 1)) (.a (.c 1) (.a (.n (.v 1)) (.c 1))))] [[10000,1,10000]] rfl Η gV⟩,?_⟩;rw[show(1:J)+(q:Y)=((q+1:Y):J) by exact CJ,lm,n7];refine qX (λrest ρ c'=>∃parts h3 f9 eM eN,ρ=q4 u (.int count) (.int ((L+1:Y):J)) (.int low) (.int width) (.int ((q+1:Y):J)) (.int g') (.lst (pt hl)) dp h3 f9 eM eN/\aep count L g' (q+1) c u dp cells (k+4+q) rest c' parts) ?_ ?_ (fK (q+1)) _ _ ⟨[],none,none,none,none,rfl,by simp[Hx],mv _,(λi y h=>nomatch h),cF.same (a3 _ _ λe=>bF e.symm),aj ..,λa h h'=>(a3 _ _ h').trans (OM a h)⟩
 ·intro x rest ρ c' K fv aC;refine HC fv λparts h3 f9 eM eN aW aG=>?_;try clear fv;rcases aW with rfl
  have Χ:=aG.rest;have dh:parts.length<q+1:=by
   rcases oF parts.length (q+1) with h|h
   ·exact h
   ·rw[Hy h] at Χ;contradiction
  rw[show q+1 - parts.length=(q - parts.length)+1 by exact Nat.succ_sub (Nat.le_of_lt_succ dh)] at Χ;refine aa (vz Χ) λbM cN=>?_;rcases bM with rfl;rcases cN with rfl
  refine aen G (θ [_,_] [] (.le (.a (.c 5) (.m 2 (.v 0))) (.v 1)) [(.le (.a (.c 6) (.m 2 (.v 0))) (.a (.v 1) (.c 1)))] [[1,1]] rfl Ζ) af Ξ bF (θ [_,_,((((30+(80*_)))*_):Y),_] [] (.le (.a (.a (.a (.a (.v 0) (.c 4)) (.v 3)) (.v 2)) (.m 10000 (.v 1))) (.c 302000)) [(.le (.a (.v 0) (.m 10000 (.v 1))) (.c 300000)),(.le (.v 2) (.m 110 (.c 10))),(.ι (.a (.n (.v 3)) (.c 1)) (.a (.c 1) (.a (.n (.v 1)) (.c 1))))] [[10000,10001,10000,10000]] rfl Η (rn (Iu bB) (Jr bB gV dh)) gV) (Jr bB gV dh) bB aG.pm λy bz h3 f9 eM eN aX P=>aC _ _ ⟨parts++[y],_,_,_,_,rfl,?_,by simp;exact pV dh,λi z hi=>?_,by rw[fa,lE,yn,<-RU];exact P⟩
  ·rw[fa,lE];congr 1;exact(by simp)
  ·rcases oF i parts.length with Τ|Τ
   ·rw[rx Τ] at hi;exact aG.at_ i z hi
   ·rw[to Τ] at hi;have:i=parts.length:=by
     have:=(j7.mp hi).1;simp at this;exact I0 this Τ
    subst this;rw[Hq] at hi;obtain rfl:=bQ hi;exact aX
 ·intro ρ c' fv;refine HC fv λparts h3 f9 eM eN aW aG=>?_;try clear fv;rcases aW with rfl
  have Χ:=cE mu aG.rest;rw[Hz] at Χ;have b0:parts.length=q+1:=by
   have:=aG.le;exact vn this (GI Χ.symm)
  have akC:(30+80*L)*parts.length<=110*10:=rn (Iu bB) (θ [_,_,_] [] (.le (.v 0) (.c 10)) [(.eq (.v 0) (.a (.v 1) (.c 1))),(.le (.v 2) (.c 1)),(.ι (.a (.n (.v 1)) (.c 1)) (.a (.c 1) (.a (.n (.v 2)) (.c 1))))] [[1,1,0,1,1]] rfl b0 bB gV);have ha:k+4+q+(30+80*L)*parts.length+5<=k+(100+300*L):=by
   rw[b0];rcases(yI bB:L=0∨L=1) with e|e<;>subst e<;>omega
  refine as _ aG.pm.cell ?_;refine F3 (need:=false) G (θ [_,_] [] (.le (.c 2) (.v 1)) [(.le (.a (.c 6) (.m 2 (.v 0))) (.a (.v 1) (.c 1)))] [[1,1]] rfl Ζ) (aG.pm.eP.same (a3 _ _ λe=>bF e.symm)) (θ [_,_,((((30+(80*_)))*_):Y),_] [] (.le (.a (.a (.a (.v 0) (.c 4)) (.v 1)) (.v 2)) (.c 900000)) [(.le (.a (.a (.a (.a (.v 0) (.c 4)) (.v 1)) (.v 2)) (.c 5)) (.a (.v 0) (.a (.c 100) (.m 300 (.v 3))))),(.le (.a (.v 0) (.m 10000 (.v 3))) (.c 300000))] [[1,1,1]] rfl ha Η) af.2 λη A6 Τ H fc F6=>?_;refine λd hd=>?_;have q6:d≠u:=λe=>by
   rcases fc with ⟨a,b,Θ⟩
   rw[e,Θ] at hd;contradiction
  have kc:∀a,a≠u->A6 a=c a:=λa γ=>(F6 a γ).trans (by
   by_cases e:a=dp
   ·rw[e,aj,((OM dp bF).symm.trans OL)]
   ·rw[a3 _ _ e];exact aG.pm.same a γ e)
  have T:pK count L low (low+width) η hl parts:=by
   refine⟨⟨⟨by exact hc (by decide) j3.1,by exact yG gP,by exact θ [] [_,_] (.ι (.a (.v 1) (.v 0)) (.c 2000)) [(.ι (.a (.v 0) (.c 1)) (.c 1000)),(.ι (.a (.v 1) (.c 1)) (.c 500))] [[1,1,1]] rfl q5 j3.2⟩,aer,by exact(by rw[OK.length_eq];exact pI:hl.length=q)▸b0,by exact θ [_,_,_] [] (.le (.v 0) (.c 4)) [(.eq (.v 0) (.a (.v 1) (.c 1))),(.le (.v 2) (.c 1)),(.ι (.a (.n (.v 1)) (.c 1)) (.a (.c 1) (.a (.n (.v 2)) (.c 1))))] [[1,1,0,1,1]] rfl b0 bB gV,Τ,λx Ν=>?_⟩,aem (θ [_,_,_] [] (.le (.a (.v 2) (.c 1)) (.v 0)) [(.eq (.v 0) (.a (.v 1) (.c 1))),(.ι (.a (.n (.v 2)) (.c 1)) (.a (.c 1) (.n (.v 1))))] [[1,0,1,1]] rfl b0 ng) aG.at_⟩;refine a8 (s7 Ν) λi hi=>?_;refine lH (aG.at_ i x hi) λΑ Δ κ ay=>?_;refine⟨?_,Δ,κ,ay⟩;split at Α
   ·exact .inr Α
   ·exact .inl Α
  exact h low (low+width) η hl parts d _ T ⟨by exact hc (by decide) j3.1,by exact yG gP,by exact θ [] [_,_] (.ι (.a (.v 1) (.v 0)) (.c 1900)) [(.ι (.a (.v 0) (.c 1)) (.c 1000)),(.ι (.a (.v 1) (.c 1)) (.c 500))] [[1,1,1]] rfl q5 j3.2⟩ q6 ((kc d q6).symm.trans hd) ⟨(fc.same (a3 _ _ λe=>q6 e.symm)).more ha,aj ..,λa h h'=>(a3 _ _ h').trans (kc a h)⟩
theorem aes(G:ar p)(af:1<=count/\count<=2)(bB:L<=1):xD p count u cells L:=by
 have h0:xD p count u cells 0:=@OJ p 0 count u cells G af (by decide) λM e=>by contradiction
 rcases(yI bB:L=0∨L=1) with e|e
 ·subst e;exact @h0
 ·subst e;exact @OJ p 1 count u cells G af bB λM e=>by(injection e with e;subst e);exact @h0
end
noncomputable def b3(t χ:I (J×O)):Prop:=∀k e,cW t k=some e->cW χ k=some e
theorem b3.refl{t}:b3 t t:=λH H h=>h
theorem b3.trans{t χ b9}(h:b3 t χ)(h':b3 χ b9):b3 t b9:=λk e q=>h' k e (h k e q)
theorem js(t:I (J×O))(k j:J)(e:O):cW (f3 t k e) j=if j=k then some e else cW t j:=by
 induction t with
 |nil=>
  show(if k=j then some e else none)=_;by_cases h:j=k
  ·rw[cz h,cz h.symm]
  ·rw[bL h,bL (λq=>h q.symm)];rfl
 |cons x t Ξ=>
  obtain⟨a,v⟩:=x;show cW (if a=k then (a,e)::t else (a,v)::f3 t k e) j=_;by_cases h:a=k
  ·rw[cz h];show(if a=j then some e else cW t j)=if j=k then some e else (if a=j then some v else cW t j)
   by_cases h':j=k
   ·rw[cz h',cz (h.trans h'.symm)]
   ·rw[bL h',bL (λq=>h' (q.symm.trans h)),bL (λq=>h' (q.symm.trans h))]
  ·rw[bL h];show(if a=j then some v else cW (f3 t k e) j)=if j=k then some e else (if a=j then some v else cW t j)
   rw[Ξ];by_cases h':a=j
   ·rw[cz h',cz h',bL (λq=>h (h'.trans q))]
   ·rw[bL h',bL h']
theorem xE(t:I (J×O))(k:J)(e:O):(f3 t k e).length<=t.length+1:=by
 induction t with
 |nil=>exact i2 _
 |cons x t Ξ=>
  obtain⟨a,v⟩:=x;show(if a=k then (a,e)::t else (a,v)::f3 t k e).length<=_;split
  ·exact BY _
  ·exact tj Ξ
theorem b3.put{t:I (J×O)}{k:J}{e:O}(h:cW t k=none):b3 t (f3 t k e):=λj x Ν=>by
 rw[js,bL (λq=>by rw[q,h] at Ν;contradiction)];exact Ν
theorem co.put{t:I (J×O)}{k g:J}{v:O}(h:co t)(Φ:bU v):co (f3 t k (.tup [.int g,v])):=λj x Ν=>by
 rw[js] at Ν;split at Ν
 ·obtain rfl:=bQ Ν;exact nz g v rfl Φ
 ·exact h j x Ν
structure Laid(t:I (J×O))(x v:O):Prop where
 c7:bU x
 eq:∀χ,b3 t χ->cp χ 30 x=v
theorem Laid.mono{t χ x v}(h:Laid t x v)(l:b3 t χ):Laid χ x v:=⟨h.c7,λb9 l'=>h.eq b9 (l.trans l')⟩
theorem Laid.plain{t v}(Η:bU v)(Χ:refOf v=none):Laid t v v:=⟨Η,λχ H=>fp Χ 30⟩
theorem xF{t:I (J×O)}{k g:J}{v:O}(h:cW t k=some (.tup [.int g,v]))(n:Y):cp t (n+1) (dM k g)=cp t n v:=by
 show(if (dY t k).1=g then cp t n (dY t k).2 else .none)=_;rw[(by unfold dY;rw[h]:dY t k=(g,v)),cz rfl]
theorem Laid.ref{t:I (J×O)}{k g:J}{v:O}(h:cW t k=some (.tup [.int g,v]))(Χ:refOf v=none):Laid t (dM k g) v:=
 ⟨.ref k g,λχ l=>by rw[xF (l _ _ h) 29,fp Χ]⟩
noncomputable def u4(t:I (J×O))(items:I O)(rs:I ai):Prop:=∀χ,b3 t χ->gd χ items rs
inductive oh(t:I (J×O))(x:O)(rs:I ai):Prop
 |mk (items:I O) (l:Laid t x (.lst items)) (n:u4 t items rs)
theorem oh.mono{t χ x rs}(h:oh t x rs)(l:b3 t χ):oh χ x rs:=by
 rcases h with ⟨items,l',n⟩
 exact⟨items,l'.mono l,λb9 q=>n b9 (l.trans q)⟩
theorem u4.snoc{t items rs x r}(h:u4 t items rs)(Η:bU x)(Ζ:∀χ,b3 t χ->hX (cp χ 30 x) r)(σ:bn 64 r):u4 t (items++[x]) (rs++[r]):=λχ l=>by
 have:=h χ l;clear h
 induction this with
 |nil=>exact .cons Η (Ζ χ l) σ .nil
 |cons k n s l Ξ=>exact .cons k n s Ξ
inductive dZ(w T:ε)(N:Y)(c:Ι)(t:I (J×O)):Prop
 |mk (kG kS next:J) (bC:c w=some (.Ω [(86,cM T),(48,.int kG),(85,.int kS),(66,.int next)])) (δ:c T=some (.tab t)) (tab:co t) (cS:∀k e,cW t k=some e->1000<k/\k<=next/\k%7=6) (Ζ:next%7=6/\1000<=next) (ne:w≠T) (len:t.length<=N)
noncomputable def hb(w T:ε)(c c':Ι):Prop:=∀a,a≠w->a≠T->c' a=c a
theorem hb.refl{w T c}:hb w T c c:=λH H H=>rfl
theorem hb.trans{w T c c' bz}(h:hb w T c c')(h':hb w T c' bz):hb w T c bz:=λa Α Δ=>(h' a Α Δ).trans (h a Α Δ)
section
variable{N M:Y}{bq bz:Ι}{y r:J}{u w T:ε}{χ:I (J×O)}{x item:O}
theorem dZ.more(h:dZ w T N c t)(l:N<=M):dZ w T M c t:=by
 rcases h with ⟨kG,kS,next,bC,δ,tab,cS,Ζ,ne,len⟩
 exact⟨kG,kS,next,bC,δ,tab,cS,Ζ,ne,by exact aP len l⟩
theorem dZ.keep(h:dZ w T N c t)(bd:c' w=c w)(bk:c' T=c T):dZ w T N c' t:=by
 rcases h with ⟨kG,kS,next,bC,δ,tab,cS,Ζ,ne,len⟩
 exact⟨kG,kS,next,bd.trans bC,bk.trans δ,tab,cS,Ζ,ne,len⟩
theorem ni(G:ar p)(Ζ:2<=n)(W:dZ w T N c t)(bZ:N<=90000)(Η:bU item)(Χ:refOf item=none)(h:∀x c' χ,dZ w T (N+1) c' χ->b3 t χ->hb w T c c'->Laid χ x item->Q x c'):aF p n (.val (.ref 707)) [.loc w,item] c Q Er:=by
 refine .at Ζ ?_;refine aa3 G rfl ?_;rcases W with ⟨kG,kS,next,bC,δ,tab,cS,sS,ne,len⟩
 refine as _ bC ⟨_,bC,bu rfl,?_⟩;refine as _ (aj ..) ?_;have plain:bh p a1 a6 Er 1 (.cons (.ret (.var 1)) .nil) [some (.loc w),some item] (upd c w (some (.Ω [(86,cM T),(48,.int kG),(85,.int (kS+1)),(66,.int next)]))) (λH c'=>Q .none c') (λx H c'=>Q x c'):=
  h item _ t ⟨kG,kS+1,next,aj ..,(a3 _ _ λe=>ne e.symm).trans δ,tab,cS,sS,ne,by exact ai8 len⟩ .refl (λa Α H=>a3 _ _ Α) (.plain Η Χ)
 refine d4 (λe=>plain) λe=>?_;refine as _ (aj ..) (⟨_,aj ..,⟨e,?_⟩⟩);refine d4 (λe=>plain) λe=>?_;refine as _ (aj ..) ⟨_,aj ..,bu rfl,?_⟩;rw[dX];refine as _ (aj ..) ?_;refine as _ (aj ..) (⟨_,aj ..,⟨by decide,?_⟩⟩);have fresh:cW t (next+7)=none:=by
  rcases q:cW t (next+7) with _|e
  ·rfl
  ·have:=(cS _ e q).2.1;omega
 refine qR G (by decide) ((a3 _ _ λe=>ne e.symm).trans δ) (aP len (aP bZ (by decide))) ?_;refine as _ ((a3 _ _ ne).trans (aj ..)) (⟨_,(a3 _ _ ne).trans (aj ..),⟨by decide,?_⟩⟩);refine λd hd=>qQ G (by decide) (aj ..) ⟨rfl,_,aj ..,?_⟩;rw[ie hd];refine h (dM (next+7) (fJ (next+7) 3)) _ (f3 t (next+7) (.tup [.int (fJ (next+7) 3),item])) ⟨kG,kS+1,next+7,(a3 _ _ ne).trans (aj ..),aj ..,tab.put Η,λk e aH=>?_,by exact⟨(ag3 _ 7).trans sS.1,θ [] [_] (.ι (.c 1000) (.a (.v 0) (.c 7))) [.ι (.c 1000) (.v 0)] [[1,1]] rfl sS.2⟩,ne,?_⟩ (.put fresh) (λa Α Δ=>(a3 _ _ Δ).trans (a3 _ _ Α)) (.ref (by rw[js,cz rfl]) Χ)
 ·rw[js] at aH;split at aH
  ·exact Sy sS.1 ‹_› sS.2
  ·have:=cS k e aH;exact θ [] [((_%(7:J)):J),_,_] (.an (.ι (.a (.c 1000) (.c 1)) (.v 1)) (.an (.ι (.v 1) (.a (.v 2) (.c 7))) (.ff (.v 0) (.c 6)))) [(.ff (.v 0) (.c 6)),(.ι (.v 1) (.v 2)),(.ι (.a (.c 1000) (.c 1)) (.v 1))] [[1,0,0,0,1],[1,0,0,1],[1,1],[1,0,1]] rfl this.2.2 this.2.1 this.1
 ·have:=xE t (next+7) (.tup [.int (fJ (next+7) 3),item]);exact θ [_,_,_] [] (.le (.v 0) (.a (.v 2) (.c 1))) [(.le (.v 0) (.a (.v 1) (.c 1))),(.le (.v 1) (.v 2))] [[1,1,1]] rfl this len
theorem u5{tops:I J}(G:ar p)(Ζ:3<=n)(W:dZ w T N c t)(bZ:N+tops.length<=80000)(Ρ:tops.length<=1000)(σ:∀a∈tops,al 60 a)(h:∀x c' χ,dZ w T (N+(tops.length+1)) c' χ->b3 t χ->hb w T c c'->oh χ x (tops.map aq)->Q x c'):
 aF p n (.val (.ref 712)) [.loc w,.lst (tops.map .int)] c Q Er:=by
 refine .at Ζ ?_;refine aa4 G rfl ?_;refine⟨by rw[bV];exact aR Ρ rfl,?_⟩;refine uS (λrest acc ρ c'=>∃(done:I J) (χ:I (J×O)) (o:ξ O),tops=done++rest/\dZ w T (N+done.length) c' χ/\b3 t χ/\hb w T c c'/\u4 χ acc (done.map aq)/\ρ=[some (.loc w),some (.lst (tops.map .int)),o]) ?_ ?_ tops [] _ c ⟨[],t,none,rfl,W,.refl,.refl,λH H=>.nil,rfl⟩
 ·intro a rest acc ρ c' K be aC;refine Cb be λdone χ o e W l s Ζ aV=>?_;try clear be;rcases aV with rfl
  refine pH G (by decide) ?_;refine ni G (by decide) W (θ [_,_,_,_] [] (.le (.a (.v 3) (.v 1)) (.c 90000)) [(.eq (.v 0) (.a (.v 1) (.a (.v 2) (.c 1)))),(.le (.a (.v 3) (.v 0)) (.c 80000))] [[1,0,1,1]] rfl (by rw[e];simp:tops.length=done.length+(rest.length+1)) bZ) (n' a).c7 (Of a) λx bz b9 fN l' μ Ν=>?_;refine aC _ _ _ ⟨done++[a],b9,_,by rw[e];simp,by rw[fa,lE];exact fN,l.trans l',s.trans μ,?_,rfl⟩;rw[h8];exact u4.snoc (λh4 q=>Ζ h4 (l'.trans q)) Ν.c7 (λh4 q=>by rw[Ν.eq h4 q];exact n' a) (jW (al.mono (σ a (by rw[e];simp)) (by decide)) (by decide))
 ·intro acc ρ c' be;refine Cb be λdone χ o e W l s Ζ aV=>?_;try clear be;rcases aV with rfl
  rw[gj] at e;subst e;refine ni G (by decide) W (aP bZ (ei _ _)) (.lst acc) rfl λx bz b9 fN l' μ Ν=>?_;exact h x bz b9 fN (l.trans l') (s.trans μ) ⟨acc,Ν,λh4 q=>Ζ h4 (l'.trans q)⟩
end
theorem oi(l:I (Y×O))(k:Y)(v:O):bl (putN l k v) k=some v:=by
 induction l with
 |nil=>show(match bE k k with|true=>some v|false=>none)=_;rw[(Nat.beq_refl k)]
 |cons x l Ξ=>
  obtain⟨a,y⟩:=x;show bl (match bE a k with|true=>(a,v)::l|false=>(a,y)::putN l k v) k=_;cases e:bE a k with
  |true=>show(match bE a k with|true=>some v|false=>bl l k)=_;rw[e]
  |false=>show(match bE a k with|true=>some y|false=>bl (putN l k v) k)=_;rw[e];exact Ξ
theorem eo{j k:Y}(l:I (Y×O))(v:O)(h:bE k j=false):bl (putN l k v) j=bl l j:=by
 induction l with
 |nil=>show(match bE k j with|true=>some v|false=>none)=_;rw[h];rfl
 |cons x l Ξ=>
  obtain⟨a,y⟩:=x;show bl (match bE a k with|true=>(a,v)::l|false=>(a,y)::putN l k v) j=(match bE a j with|true=>some y|false=>bl l j);cases e:bE a k with
  |true=>
   rw[oz e];show(match bE k j with|true=>some v|false=>bl l j)=_;rw[h]
  |false=>
   show(match bE a j with|true=>some y|false=>bl (putN l k v) j)=_;rw[Ξ]
theorem ih(l:I (Y×O))(k:Y)(v:O):(putN l k v).length<=l.length+1:=by
 induction l with
 |nil=>exact i2 _
 |cons x l Ξ=>
  obtain⟨a,y⟩:=x;show(match bE a k with|true=>(a,v)::l|false=>(a,y)::putN l k v).length<=_;cases bE a k with
  |true=>exact BY _
  |false=>exact tj Ξ
theorem Laid.say{t χ l k x v}(h:Laid t x v)(e:bl l k=some x)(q:b3 t χ):cC χ l k v:=by
 have z:(bl l k).getD O.none=x:=by rw[e];rfl
 exact⟨by rw[z];exact h.c7,by unfold hu;rw[z];exact h.eq χ q⟩
theorem oh.say{t χ l k x rs}(h:oh t x rs)(e:bl l k=some x)(q:b3 t χ):e9 χ l k rs:=by
 rcases h with ⟨items,bm,n⟩
 exact⟨items,bm.say e q,n χ q⟩
theorem xG{t l k}(e:bl l k=none):cC t l k .none:=by
 have z:(bl l k).getD O.none= .none:=by rw[e];rfl
 exact⟨by rw[z];exact .none,by unfold hu;rw[z];exact fp rfl 30⟩
noncomputable def iU(t:I (J×O)):Prop:=(dY t 900).1≠1
theorem aet{t l k}(Χ:iU t)(e:bl l k=some (dM 900 1)):cC t l k .none:=by
 have z:(bl l k).getD O.none=dM 900 1:=by rw[e];rfl
 refine⟨by rw[z];exact .ref _ _,?_⟩;unfold hu;rw[z];exact bL Χ
noncomputable def F'(t:I (J×O))(l:I (Y×O)):b5->Prop
 |none=>bl l 25=none∨bl l 25=some (dM 900 1)
 |some ls=>∃x,bl l 25=some x/\oh t x (dq (ls.map ge))
structure nj(t:I (J×O))(kind low high:J)(η:b5)(l:I (Y×O)):Prop where
 kind:∃x,bl l 20=some x/\Laid t x (.int kind)
 c4:∃x,bl l 17=some x/\oh t x (dq [ge (low,high)])
 sO:F' t l η
 ON:bl l 18=none
 OO:bl l 16=none
 len:l.length<=3
theorem F'.is{t χ l l'}{η:b5}(h:F' t l η)(e:bl l' 25=bl l 25)(q:b3 t χ)(Χ:iU χ):nc χ l' η:=by
 rcases η with _|ls
 ·rcases h with h|h
  ·exact xG (e.trans h)
  ·exact aet Χ (e.trans h)
 ·refine ψ h λx Ν Τ=>?_;try clear h
  exact Τ.say (e.trans Ν) q
theorem nj.mono{t χ kind low high η l}(h:nj t kind low high η l)(q:b3 t χ):nj χ kind low high η l:=by
 refine ψ h.kind λx Ν Α=>?_;refine ψ h.c4 λy aX Δ=>?_;refine⟨⟨x,Ν,Α.mono q⟩,⟨y,aX,Δ.mono q⟩,?_,h.ON,h.OO,h.len⟩;have Χ:=h.sO;rcases η with _|ls
 ·exact Χ
 ·(refine ψ Χ λz Ρ κ=>?_;try clear Χ);exact⟨z,Ρ,κ.mono q⟩
theorem nj.A7{count:Y}{t χ kind low high η l l'}(h:nj t kind low high η l)(q:b3 t χ)(Χ:iU χ)(g:dN low high)(Τ:∀ls,η=some ls->fG count ls)(KG:bl l' 20=bl l 20)(HE:bl l' 17=bl l 17)(oK:bl l' 25=bl l 25)(Ρ:l'.length<=30):gt count χ kind low high η l':=by
 refine ψ h.kind λx Ν Α=>?_;refine ψ h.c4 λy aX Δ=>?_;exact⟨Α.say (KG.trans Ν) q,Δ.say (HE.trans aX) q,h.sO.is oK q Χ,g,Τ,Ρ⟩
structure iV(w T d:ε)(N:Y)(bq c:Ι)(t0 t:I (J×O))(l:I (Y×O)):Prop where
 c2:dZ w T N c t
 cell:c d=some (.Ω l)
 le:b3 t0 t
 same:∀a,a≠w->a≠T->a≠d->c a=bq a
 nw:d≠w
 hj:d≠T
 fresh:bq d=none
noncomputable abbrev pL(w:ε)(nd:O)(x2 x3 x4 x5 x6 x7 dQ fW eG hz iT:ξ O):Ο:=[some (.loc w),some nd,x2,x3,x4,x5,x6,x7,dQ,fW,eG,hz,iT]
noncomputable abbrev u6:SL:=a9 (a9 z')
section
variable{N M:Y}{bq bz:Ι}{y r kind:J}{u w T:ε}{t0 χ:I (J×O)}{x item:O}{D:I (Y×O)}{η:b5}{ls:I (J×J)}
theorem iV.step(h:iV w T d N bq c t0 t l)(W:dZ w T M c' χ)(q:b3 t χ)(s:hb w T c c'):iV w T d M bq c' t0 χ l:=
 ⟨W,(s d h.nw h.hj).trans h.cell,h.le.trans q,λa Α Δ κ=>(s a Α Δ).trans (h.same a Α Δ κ),h.nw,h.hj,h.fresh⟩
theorem iV.set(h:iV w T d N bq c t0 t l)(l':I (Y×O)):iV w T d N bq (upd c d (some (.Ω l'))) t0 t l':=
 ⟨h.c2.keep (a3 _ _ λe=>h.nw e.symm) (a3 _ _ λe=>h.hj e.symm),aj ..,h.le,λa Α Δ κ=>(a3 _ _ κ).trans (h.same a Α Δ κ),h.nw,h.hj,h.fresh⟩
theorem iV.free(h:iV w T d N bq c t0 t l):dZ w T N (upd c d none) t/\hb w T bq (upd c d none):=
 ⟨h.c2.keep (a3 _ _ λe=>h.nw e.symm) (a3 _ _ λe=>h.hj e.symm),λa Α Δ=>by
  by_cases e:a=d
  ·rw[e,aj,h.fresh]
  ·rw[a3 _ _ e];exact h.same a Α Δ e⟩
noncomputable def pM:I (J×J)->I J
 |[]=>[]
 |x::l=>100*x.1::100*x.2::pM l
theorem aeu(ls:I (J×J)):(pM ls).map aq=dq (ls.map ge):=by
 induction ls with
 |nil=>rfl
 |cons x l Ξ=>show aq _::aq _::(pM l).map aq=_::_::dq (l.map ge);rw[Ξ];rfl
theorem aev(ls:I (J×J)):(pM ls).length=2*ls.length:=by
 induction ls with
 |nil=>rfl
 |cons x l Ξ=>show(pM l).length+2=2*(l.length+1);exact I4 Ξ
theorem aew(h:∀x∈ls,al 50 x.1/\al 50 x.2):∀a∈pM ls,al 60 a:=by
 induction ls with
 |nil=>intro a h;contradiction
 |cons x l Ξ=>
  intro a γ;have Ν:=h x (.head _);have m:∀{b:J},al 50 b->al 60 (100*b):=λh=>(al.mul (a:=100) (i:=7) (by decide) h).mono (by decide);rcases eR.mp γ with rfl|γ
  ·exact m Ν.1
  ·cases γ with
    |head=>exact m Ν.2
    |tail _ γ=>exact Ξ (λy aX=>h y (.tail _ aX)) a γ
end
noncomputable abbrev OP(w:ε)(nd:O)(x2:ξ O)(md nk:ξ O):Ο:=[some (.loc w),some nd,x2,none,none,none,none,none,none,none,none,none,none,md,nk]
section
variable{N M:Y}{bq bz:Ι}{y r kind:J}{u w T:ε}{t0 χ:I (J×O)}{x item nd:O}{D:I (Y×O)}{η:b5}{ls:I (J×J)}{x2:ξ O}
theorem aex{dd:I O->Ο->Ι->Prop}(σ:∀x∈ls,al 50 x.1/\al 50 x.2):∀(acc:I O) (md nk:ξ O),(∀md nk,dd (acc++(pM ls).map .int) (OP w nd x2 md nk) c)->
 wg (hk (.var 13)) (λacc ρ c Q=>kl p a1 a6 aK n (.val (.var 13)) ρ c λitems ρ c=>items.length<=100/\dT (hk (.var 14)) (λρ c P H=>P ρ c) (bS p a1 a6 aK n (.bin .Mult (.cst (.int 100)) (.var 14))) items acc ρ c Q) (ls.map n5) acc (OP w nd x2 md nk) c dd:=by
 induction ls with
 |nil=>
  intro acc md nk h;have:=h md nk;rw[show(pM []).map O.int=[] from rfl,gj] at this;exact this
 |cons x ls Ξ=>
  intro acc md nk h;have Ν:=σ x (.head _);have m:∀{b:J},al 50 b->vr 100 b:=λh=>bT (i:=7) (by decide) h (by decide);refine HG (by simp) (bu rfl) (m Ν.1) (m Ν.2) ?_;refine Ξ (λy aX=>σ y (.tail _ aX)) _ _ _ λmd nk=>?_;rw[oy,oy];exact h md nk
theorem A8(G:ar p)(Ζ:4<=n)(W:dZ w T N c t)(bZ:N<=70000)(aey:bl D 60=some (.int kind))(jV:bl D 64=some (.int low))(me:bl D 57=some (.int high))(xH:bl D 63=some (jX η))(g:dN low high)(Τ:∀ls,η=some ls->fG count ls)(af:count<=2)(h:∀d c' χ l,iV w T d (N+12) c c' t χ l->nj χ kind low high η l->bh p a1 a6 Er n u6 (pL w (.Ω D) (some (.loc d)) none none none none none none none none none none) c' (λH c'=>Q .none c') (λx H c'=>Q x c')):
 bh p a1 a6 Er n z' (pL w (.Ω D) none none none none none none none none none none none) c (λH c'=>Q .none c') (λx H c'=>Q x c'):=by
 refine e7 g λfH e1 ew=>?_;try clear g
 refine cO aey ?_;refine ni G (b8 Ζ rfl) W (aR bZ rfl) (.int kind) rfl λsT Μ Ga oj cY ds Η=>?_;refine cO jV ⟨bT (i:=7) (j:=11) (by decide) (.of (n:=2001) (rL fH ew e1) (by decide)) (by decide),cO me ⟨bT (i:=7) (j:=11) (by decide) (.of (n:=2001) (vV fH ew e1) (by decide)) (by decide),?_⟩⟩;refine u5 (tops:=[100*low,100*high]) G (b8 Ζ rfl) oj (by simp;exact aR bZ rfl) (bu rfl) (λa γ=>?_) λkF az sU nl fM eC hd=>?_
 ·rcases eR.mp γ with rfl|γ
  ·exact .of (n:=200001) (H1 fH ew e1) (by decide)
  ·cases γ with
    |head=>exact .of (n:=200001) (H2 fH ew e1) (by decide)
    |tail _ γ=>contradiction
 refine λd Gb=>?_;have nw:d≠w:=λe=>by
  rcases nl with ⟨kG,kS,next,bC⟩
  rw[e,bC] at Gb;contradiction
 have hj:d≠T:=λe=>by
  rcases nl with ⟨kG,kS,next,bC,δ⟩
  rw[e,δ] at Gb;contradiction
 have OQ:=ds.trans eC;have Ε:iV w T d (N+4) c (upd az d (some (.Ω [(20,sT),(17,kF)]))) t sU [(20,sT),(17,kF)]:=
  ⟨nl.keep (a3 _ _ λe=>nw e.symm) (a3 _ _ λe=>hj e.symm),aj ..,cY.trans fM,λa Α Δ κ=>(a3 _ _ κ).trans (OQ a Α Δ),nw,hj,(OQ d nw hj).symm.trans Gb⟩
 have Η:=Η.mono fM;refine cO xH ?_;rcases η with _|ls
 ·cases Ε.c2 with
  |mk kG kS next bC δ tab cS sS ne len=>
  refine as _ bC ?_;refine d4 (λH=>?_) λH=>?_
  ·refine λe aH=>qQ G (b8 Ζ rfl) (aj ..) ⟨rfl,_,aj ..,?_⟩;rw[ie aH];refine dj _ Ε.cell (bu rfl) ?_;have Ε:=Ε.set [(20,sT),(17,kF),(25,dM 900 1)];exact h d _ sU _ ⟨Ε.c2.more (IK),Ε.cell,Ε.le,Ε.same,nw,hj,Ε.fresh⟩ ⟨⟨sT,rfl,Η⟩,⟨kF,rfl,hd⟩,.inr rfl,rfl,rfl,bu rfl⟩
  ·exact h d _ sU _ ⟨Ε.c2.more (IK),Ε.cell,Ε.le,Ε.same,nw,hj,Ε.fresh⟩ ⟨⟨sT,rfl,Η⟩,⟨kF,rfl,hd⟩,.inl rfl,rfl,rfl,bu rfl⟩
 ·have lr:=Τ ls rfl;have u7:∀x∈ls,al 50 x.1/\al 50 x.2:=λx Ν=>(lr.ok x Ν).2;have fR:=aev ls;have gf:=lr.len;refine cO xH ?_;refine ft (by rw[bV];exact cJ gf af rfl) (by rw[bV];exact cJ gf af rfl) ?_;refine aex (x2:=some (.loc d)) u7 [] none none λmd nk=>?_;refine u5 (tops:=pM ls) G (b8 Ζ rfl) Ε.c2 (θ [_,_,_,_] [] (.le (.a (.a (.v 3) (.c 4)) (.v 0)) (.c 80000)) [(.eq (.v 0) (.m 2 (.v 1))),(.eq (.v 1) (.v 2)),(.le (.v 2) (.c 2)),(.le (.v 3) (.c 70000))] [[1,1,0,2,0,2,1]] rfl fR gf af bZ) (θ [_,_,_] [] (.le (.v 0) (.c 1000)) [(.eq (.v 0) (.m 2 (.v 1))),(.eq (.v 1) (.v 2)),(.le (.v 2) (.c 2))] [[1,1,0,2,0,2]] rfl fR gf af) (aew u7) λOR cH h4 j4 m5 g9 Χ=>?_;have Ε:=Ε.step j4 m5 g9;refine dj _ Ε.cell (bu rfl) ?_;have Ε:=Ε.set [(20,sT),(17,kF),(25,OR)];rw[aeu] at Χ;exact h d _ h4 _ ⟨Ε.c2.more (θ [_,_,_,_] [] (.le (.a (.a (.v 3) (.c 4)) (.a (.v 0) (.c 1))) (.a (.v 3) (.c 12))) [(.eq (.v 0) (.m 2 (.v 1))),(.eq (.v 1) (.v 2)),(.le (.v 2) (.c 2))] [[1,1,0,2,0,2]] rfl fR gf af),Ε.cell,Ε.le,Ε.same,nw,hj,Ε.fresh⟩ ⟨⟨sT,rfl,Η.mono m5⟩,⟨kF,rfl,hd.mono m5⟩,⟨OR,rfl,Χ⟩,rfl,rfl,bu rfl⟩
end
structure sV(count:Y)(t:I (J×O))(L:Y)(fn x v:O):Prop where
 laid:Laid t x v
 y0:refOf v=none
 hd:∀χ,b3 t χ->iU χ->eF count χ L fn v
noncomputable def lt:Y->J->I J
 |0,_=>[]
 |k+1,r=>(r / 256^k)%256::lt k r
theorem OS(k:Y)(r:J):(lt k r).length=k:=by
 induction k with
 |zero=>rfl
 |succ k Ξ=>show(lt k r).length+1=_;rw[Ξ]
theorem aez(k:Y)(r:J):(lt k r).map (λn=>n.toNat.toUInt8)=jm k r:=by
 induction k with
 |zero=>rfl
 |succ k Ξ=>show _::(lt k r).map _=_::jm k r;rw[Ξ]
theorem aeA(k:Y)(r:J):(fK k).map (λi=>(r / 256^(k - 1 - i))%256)=lt k r:=by
 induction k with
 |zero=>rfl
 |succ k Ξ=>
  rw[RP,i4,lG];show _::_=_::lt k r;rw[<-Ξ];congr 1;apply BR;intro i _;show(r / 256^(k+1 - 1 - (i+1)))%256=_;rw[show k+1 - 1 - (i+1)=k - 1 - i by exact(Qe (_+1) 1 (_+1)).trans (by rw[Qe,vI 1 (_+1),Nat.add_sub_add_right,vI])]
theorem aeB{k:Y}{r a:J}(h:a∈lt k r):0<=a/\a<256:=by
 induction k with
 |zero=>contradiction
 |succ k Ξ=>
  rcases eR.mp h with rfl|h
  ·exact⟨tt _ (by decide),tu _ (by decide)⟩
  ·exact Ξ h
theorem aeC(k:Y)(l:I J):(l.flatMap (lt k)).map (λn=>n.toNat.toUInt8)=l.flatMap (jm k):=by
 induction l with
 |nil=>rfl
 |cons x l Ξ=>rw[vJ,h8,aez,Ξ,vJ]
theorem OT(k:Y)(l:I J):(l.flatMap (lt k)).length=k*l.length:=by
 induction l with
 |nil=>rfl
 |cons x l Ξ=>rw[vJ,fa,OS,Ξ,kP,yn,vI]
section
variable{N M:Y}{bq bz:Ι}{y r kind:J}{u w T o:ε}{t0 χ:I (J×O)}{x item nd fn:O}{D:I (Y×O)}{η:b5}{ls:I (J×J)}{x2:ξ O}{ak ag:I J}
theorem aeD{x y:ξ fY}(h:c o=none)(bF:o≠d):upd (upd (upd c o x) d y) o none=upd c d y:=by
 funext b;by_cases e:b=o
 ·rw[e,aj,a3 _ _ bF,h]
 ·rw[a3 _ _ e];by_cases aT:b=d
  ·rw[aT,aj,aj]
  ·rw[a3 _ _ aT,a3 _ _ aT,a3 _ _ e]
theorem Gc(l:I J):[]++l.map (λa=>O.int (100*a))=(l.map λa=>100*a).map .int:=by rw[i6,lG];rfl
theorem OU(l:I J):(l.map λa=>100*a).map aq=b7 l:=by unfold b7;rw[lG];rfl
theorem aeE{pN:Y}(G:ar p)(Ζ:4<=n)(g:dN low high)(Τ:∀ls,η=some ls->fG count ls)(af:count<=2)(Gd:pN<=64)(h0:ak.length=count)(Α:ag.length=count)(eD:∀a∈ak,-1000<=a/\a<=1000)(dv:∀a∈ag,-1000<=a/\a<=1000)(bZ:N<=70000)(Ε:iV w T d N bq c t0 t l)(P:nj t 2 low high η l)(h:∀x c' χ v,dZ w T (N+20) c' χ->b3 t0 χ->hb w T bq c'->sV count χ 0 (pC low high η pN ak ag) x v->Q x c'):
 bh p a1 a6 Er n u6 (pL w (sG low high η pN ak ag) (some (.loc d)) none none none none none none none none none none) c (λH c'=>Q .none c') (λx H c'=>Q x c'):=by
 have OV:∀{r:I J},(∀a∈r,-1000<=a/\a<=1000)->∀a∈r.map λa=>100*a,al 60 a:=λh a γ=>by
  apply iB (i5.mp γ);intro b Κ;have:=h b Κ;exact .of (n:=100001) (HU this.1 this.2) (by decide)
 refine ni G (b8 Ζ rfl) Ε.c2 (aR bZ rfl) (.int pN) rfl λu8 Μ Ga oj cY ds aeF=>?_;have Ε:=Ε.step oj cY ds;refine dj _ Ε.cell (aR P.len rfl) ?_;have ht:=ih l 23 u8;have Ε:=Ε.set (putN l 23 u8);refine⟨by unfold b2;rw[bV];exact cJ h0 af rfl,?_⟩;refine m9 (f:=O.int) (λa=>.int (100*a)) (λo:ξ J=>[some (.loc w),some (sG low high η pN ak ag),some (.loc d),none,none,none,none,none,none,none,none,none,none,o.map .int]) ak [] none (λa γ o acc K aC=>⟨bT (i:=7) (j:=11) (by decide) (.of (n:=1001) (by have:=eD a γ;exact yB this.1 this.2) (by decide)) (by decide),aC⟩) λo=>?_;rw[Gc];refine u5 G (b8 Ζ rfl) Ε.c2 (by rw[bV];exact θ [_,_,_] [] (.le (.a (.a (.v 2) (.c 1)) (.v 0)) (.c 80000)) [(.eq (.v 0) (.v 1)),(.le (.v 1) (.c 2)),(.le (.v 2) (.c 70000))] [[1,1,0,1,1]] rfl h0 af bZ) (by rw[bV];exact cJ h0 af rfl) (OV eD) λpO az sU nl fM eC OW=>?_;have Ε:=Ε.step nl fM eC;refine dj _ Ε.cell (mA ht P.len rfl) ?_;have gS:=ih (putN l 23 u8) 13 pO;have Ε:=Ε.set (putN (putN l 23 u8) 13 pO);refine⟨by unfold b2;rw[bV];exact cJ Α af rfl,?_⟩;refine m9 (f:=O.int) (λa=>.int (100*a)) (λo:ξ J=>[some (.loc w),some (sG low high η pN ak ag),some (.loc d),none,none,none,none,none,none,none,none,none,none,o.map .int]) ag [] none (λa γ o acc K aC=>⟨bT (i:=7) (j:=11) (by decide) (.of (n:=1001) (by have:=dv a γ;exact yB this.1 this.2) (by decide)) (by decide),aC⟩) λo=>?_;rw[Gc];refine u5 G (b8 Ζ rfl) Ε.c2 (by rw[bV,bV];exact θ [_,_,_,_] [] (.le (.a (.a (.a (.v 3) (.c 1)) (.a (.v 2) (.c 1))) (.v 0)) (.c 80000)) [(.eq (.v 0) (.v 1)),(.eq (.v 2) (.v 1)),(.le (.v 1) (.c 2)),(.le (.v 3) (.c 70000))] [[1,1,0,1,0,2,1]] rfl Α h0 af bZ) (by rw[bV];exact cJ Α af rfl) (OV dv) λΒ cH h4 j4 m5 g9 us=>?_;have Ε:=Ε.step j4 m5 g9;refine dj _ Ε.cell (Jl gS ht P.len) ?_;have Ε:=Ε.set (putN (putN (putN l 23 u8) 13 pO) 15 Β);refine as _ Ε.cell ?_;refine ni G (b8 Ζ rfl) Ε.free.1 (by rw[bV,bV];exact θ [_,_,_,_] [] (.le (.a (.a (.a (.v 3) (.c 1)) (.a (.v 2) (.c 1))) (.a (.v 0) (.c 1))) (.c 90000)) [(.eq (.v 0) (.v 1)),(.eq (.v 2) (.v 1)),(.le (.v 1) (.c 2)),(.le (.v 3) (.c 70000))] [[1,1,0,1,0,2,1]] rfl Α h0 af bZ) (.Ω _) rfl λx e0 sW sX u9 nh Ν=>?_;rw[OU] at OW us;refine h x e0 sW _ (sX.more (by rw[bV,bV];exact θ [_,_,_,_] [] (.le (.a (.a (.a (.a (.v 3) (.c 1)) (.a (.v 2) (.c 1))) (.a (.v 0) (.c 1))) (.c 1)) (.a (.v 3) (.c 20))) [(.eq (.v 0) (.v 1)),(.eq (.v 2) (.v 1)),(.le (.v 1) (.c 2))] [[1,1,0,1,0,2]] rfl Α h0 af)) (Ε.le.trans u9) (Ε.free.2.trans nh) ⟨Ν,rfl,λχ q Χ=>?_⟩;have ol:=u9.trans q;have e8:=m5.trans ol;have fB:=fM.trans e8;refine .pow (P.A7 (cY.trans fB) Χ g Τ ?_ ?_ ?_ (Ju (ih (putN (putN l 23 u8) 13 pO) 15 Β) ht gS P.len)) Gd h0 Α (aeF.say ?_ fB) (OW.say ?_ e8) (us.say (oi ..) ol)
 ·rw[eo _ _ rfl,eo _ _ rfl,eo _ _ rfl]
 ·rw[eo _ _ rfl,eo _ _ rfl,eo _ _ rfl]
 ·rw[eo _ _ rfl,eo _ _ rfl,eo _ _ rfl]
 ·rw[eo _ _ rfl,eo _ _ rfl,oi]
 ·rw[eo _ _ rfl,oi]
end
section
variable{N M:Y}{bq bz:Ι}{y r kind neg add:J}{u w T o:ε}{t0 χ:I (J×O)}{x item nd fn:O}{D:I (Y×O)}{η:b5}{ls:I (J×J)}{x2:ξ O}{ak ag:I J}
theorem aeG{dd:I O->Ο->Ι->Prop}{x3:O}(Η:1<=k/\k<=4)(Χ:0<=r/\r<256^k)(h:∀o,dd ((lt k r).map .int) [some (.loc w),some nd,x2,some x3,some (.int r),none,none,none,none,none,none,none,none,o] c):
 dT (hk (.var 13)) (mI p a1 a6 aK n .nil) (bS p a1 a6 aK n (.bin .Mod (.bin .FloorDiv (.var 4) (.bin .Pow (.cst (.int 256)) (.var 13))) (.cst (.int 256)))) (fP ((k:J) - 1) (-1) k) [] [some (.loc w),some nd,x2,some x3,some (.int r),none,none,none,none,none,none,none,none,none] c dd:=by
 rw[qY];refine m9 (λi=>.int ((r / 256^(k - 1 - i))%256)) (λo:ξ Y=>[some (.loc w),some nd,x2,some x3,some (.int r),none,none,none,none,none,none,none,none,o.map λi=>.int ((k:J) - 1+-1*(i:Y))]) (fK k) [] none (λi hi o acc K aC=>?_) λo=>?_
 ·have hi:=mw.mp hi;have ζ:=kA (a:=256) (i:=9) (j:=((k:J) - 1+-1*(i:Y)).toNat) (by decide) (aP (mm 9 (gw HS)) (aP (mm 9 (aP (ox _ _) (aP (ox _ _) Η.2))) (by decide)));have OX:(0:J)<256^(k - 1 - i):=B2 (by decide);refine⟨⟨by exact Jf hi,?_⟩,?_⟩
  ·rw[show(((k:J) - 1+-1*(i:Y)).toNat:J)=(k:J) - 1+-1*(i:Y) by exact GG (Jf hi)] at ζ;exact ζ
  rw[(HS:((k:J) - 1+-1*(i:Y)).toNat=k - 1 - i)];refine⟨⟨by exact GF OX,iO (i:=33) ((uU (k:=k - 1 - i) (aP (ox _ _) (aP (ox _ _) Η.2))).1) (by decide)⟩,⟨by decide,?_⟩⟩;rw[nx _ (ov OX),nv _ (by decide)];exact aC
 ·have e:[]++(fK k).map (λi=>O.int ((r / 256^(k - 1 - i))%256))=(lt k r).map .int:=by
   rw[i6,<-aeA,lG];rfl
  rw[e];exact h _
theorem OY(G:ar p)(Ζ:2<=n)(W:dZ w T N c t)(bZ:N<=80000)(Η:bU v)(Χ:refOf v=none)(hd:∀χ,b3 t χ->iU χ->eF count χ L fn v)(h:∀x c' χ v,dZ w T (N+1) c' χ->b3 t χ->hb w T c c'->sV count χ L fn x v->Q x c'):aF p n (.val (.ref 707)) [.loc w,v] c Q Er:=
 ni G Ζ W (aR bZ rfl) Η Χ λx c' χ fN l s Ν=>h x c' χ v fN l s ⟨Ν,Χ,λb9 q Χ=>hd b9 (l.trans q) Χ⟩
theorem aeH(G:ar p)(Ζ:4<=n)(g:dN low high)(af:count<=2)(Η:1<=k/\k<=4)(h0:ak.length=count)(Α:ag.length=count)(eD:∀a∈ak,0<=a/\a<256^k)(dv:∀a∈ag,0<=a/\a<256^k)(bZ:N<=70000)(Ε:iV w T d N bq c t0 t l)(P:nj t 0 low high (some (fq count k)) l)(h:∀x c' χ v,dZ w T (N+20) c' χ->b3 t0 χ->hb w T bq c'->sV count χ 0 (qT low high (some (fq count k)) k ak ag) x v->Q x c'):
 bh p a1 a6 Er n u6 (pL w (xq low high (some (fq count k)) k ak ag) (some (.loc d)) none none none none none none none none none none) c (λH c'=>Q .none c') (λx H c'=>Q x c'):=by
 have Ρ:=P.len;refine ni G (b8 Ζ rfl) Ε.c2 (aR bZ rfl) (.int 2) rfl λs Μ Ga oj cY ds σ=>?_;have Ε:=Ε.step oj cY ds;refine ni G (b8 Ζ rfl) Ε.c2 (gL bZ rfl) (.lst [s]) rfl λA9 az sU nl fM eC aeI=>?_;have Ε:=Ε.step nl fM eC;refine dj _ Ε.cell (aR Ρ rfl) ?_;have ht:=ih l 28 A9;have Ε:=Ε.set (putN l 28 A9);refine ni G (b8 Ζ rfl) Ε.c2 (θ [_] [] (.le (.a (.a (.v 0) (.c 1)) (.c 1)) (.c 90000)) [(.le (.v 0) (.c 70000))] [[1,1]] rfl bZ) (.int (8*(k:Y))) rfl λfW cH h4 j4 m5 g9 aeJ=>?_;have Ε:=Ε.step j4 m5 g9;refine dj _ Ε.cell (mA ht Ρ rfl) ?_;have Ε:=Ε.set (putN (putN l 28 A9) 9 fW);generalize upd cH d _=z2 at Ε ⊢;refine λo ab=>?_;have Ge:o≠d:=λe=>by rw[e,Ε.cell] at ab;contradiction
 have jo:(ak++ag).length=2*count:=by rw[fa];exact CQ Α h0
 have AX:(b2 ak).length=count:=by unfold b2;rw[bV];exact h0
 have jM:(b2 ag).length=count:=by unfold b2;rw[bV];exact Α
 refine ft (θ [_,_,_] [] (.le (.a (.v 2) (.v 0)) (.c 10000)) [(.eq (.v 0) (.v 1)),(.eq (.v 2) (.v 1)),(.le (.v 1) (.c 2))] [[1,1,0,1,0,2]] rfl jM AX af) (by rw[fa];exact θ [_,_,_] [] (.le (.a (.v 2) (.v 0)) (.c 20000)) [(.eq (.v 0) (.v 1)),(.eq (.v 2) (.v 1)),(.le (.v 1) (.c 2))] [[1,1,0,1,0,2]] rfl jM AX af) ?_;rw[(by unfold b2;rw[h8]:b2 ak++b2 ag=(ak++ag).map .int)];refine qX (λrest ρ c'=>∃(done:I J) (hL:ξ O),ak++ag=done++rest/\c'=upd z2 o (some (.lst ((done.flatMap (lt k)).map .int)))/\ρ=pL w (xq low high (some (fq count k)) k ak ag) (some (.loc d)) (some (.loc o)) hL none none none none none none none none) ?_ ?_ (ak++ag) _ _ ⟨[],none,rfl,rfl,rfl⟩
 ·intro a rest ρ c' K be aC;refine fb be λdone hL e aV aW=>?_;try clear be;rcases aV with rfl;rcases aW with rfl
  have γ:0<=a/\a<256^k:=by
   have:a∈ak++ag:=by rw[e];simp
   exact(hA.mp this).elim (eD a) (dv a)
  have aeK:k*done.length<=4*4:=rn Η.2 (θ [_,_,_] [] (.le (.v 0) (.c 4)) [(.eq (.a (.v 0) (.a (.v 1) (.c 1))) (.m 2 (.v 2))),(.le (.v 2) (.c 2))] [[1,1,0,2]] rfl (by rw[<-jo,e];simp:done.length+(rest.length+1)=2*count) af);refine as _ (aj ..) (⟨⟨by decide,iO (i:=4) (by decide) (by decide)⟩,?_⟩);rw[show kN (8*(k:J)) 8=k by rw[nx _ (by decide)];exact(by simp+arith)];refine⟨by exact SX Η.2,?_⟩;rw[show(k:J).toNat=k from rfl];refine aeG Η γ λmd=>?_;refine dj _ (aj ..) (by rw[bV,bV,OT,OS];exact aP (Qt aeK Η.2) (by decide)) ?_;rw[dX];refine aC _ _ ⟨done++[a],_,by rw[e];simp,?_,rfl⟩;rw[List.flatMap_append,h8,vJ,List.flatMap_nil,gj]
 ·intro ρ c' be;refine fb be λdone hL e aV aW=>?_;try clear be;rcases aV with rfl;rcases aW with rfl
  rw[gj] at e;subst e;refine as _ ((a3 _ _ Ge.symm).trans Ε.cell) ?_;refine as _ ((a3 _ _ Ge).trans (aj ..)) ?_;rw[aeD ab Ge];refine NC (λa γ=>?_) (by rw[OT,jo];exact aP (rn Η.2 (qa af rfl):k*(2*count)<=4*4) (ei _ _)) (aeC k _) ?_
  ·refine ψ (List.mem_flatMap.mp γ) λz H Ρ=>?_;exact aeB Ρ
  refine λe aH=>Fo G (b8 Ζ rfl) (aj ..) ⟨rfl,_,aj ..,?_⟩;rw[ie aH];refine OY (L:=0) (fn:=qT low high (some (fq count k)) k ak ag) G (b8 Ζ rfl) Ε.free.1 (θ [_] [] (.le (.a (.a (.a (.v 0) (.c 1)) (.c 1)) (.c 1)) (.c 80000)) [(.le (.v 0) (.c 70000))] [[1,1]] rfl bZ) (.qP _ _) rfl (λχ q Χ=>?_) λx e0 sW v sX u9 nh Ν=>h x e0 sW v (sX.more ((by simp))) (Ε.le.trans u9) (Ε.free.2.trans nh) Ν;have e8:=m5.trans q;have fB:=fM.trans e8;refine .sH (P.A7 (cY.trans fB) Χ g (λls e=>by obtain rfl:=bQ e;exact AO Η.2) ?_ ?_ ?_ (θ [_,_,_] [] (.le (.v 0) (.c 30)) [(.le (.v 0) (.a (.v 1) (.c 1))),(.le (.v 1) (.a (.v 2) (.c 1))),(.le (.v 2) (.c 3))] [[1,1,1,1]] rfl (ih (putN l 28 A9) 9 fW) ht Ρ)) Η h0 Α eD dv (aeI.say ?_ e8) σ.c7 (σ.eq _ fB) (aeJ.say (oi ..) q) (xG ?_) (xG ?_)
  ·rw[eo _ _ rfl,eo _ _ rfl]
  ·rw[eo _ _ rfl,eo _ _ rfl]
  ·rw[eo _ _ rfl,eo _ _ rfl]
  ·rw[eo _ _ rfl,oi]
  ·rw[eo _ _ rfl,eo _ _ rfl];exact P.ON
  ·rw[eo _ _ rfl,eo _ _ rfl];exact P.OO
theorem aeL(G:ar p)(Ζ:4<=n)(g:dN low high)(Τ:fG count ls)(af:count<=2)(A':neg=0∨neg=1)(γ:0<=add/\add<256)(bZ:N<=70000)(Ε:iV w T d N bq c t0 t l)(P:nj t 4 low high (some ls) l)(h:∀x c' χ v,dZ w T (N+20) c' χ->b3 t0 χ->hb w T bq c'->sV count χ 0 (qV low high (some ls) neg add count) x v->Q x c'):
 bh p a1 a6 Er n u6 (pL w (Ax low high (some ls) neg add count) (some (.loc d)) none none none none none none none none none none) c (λH c'=>Q .none c') (λx H c'=>Q x c'):=by
 refine as _ Ε.cell ?_;refine NC (ns:=[neg,add,(count:J)]) (bs:=[neg.toNat.toUInt8,add.toNat.toUInt8,(count:J).toNat.toUInt8]) (λa hm=>?_) (bu rfl) rfl ?_
 ·cases hm with
  |head=>exact HY A'
  |tail _ hm=>cases hm with
   |head=>exact γ
   |tail _ hm=>cases hm with
    |head=>exact SR af
    |tail _ hm=>rcases hm with ⟨⟩
 refine λe aH=>Fo G (b8 Ζ rfl) (aj ..) ⟨rfl,_,aj ..,?_⟩;rw[ie aH];refine OY (L:=0) (fn:=qV low high (some ls) neg add count) G (b8 Ζ rfl) Ε.free.1 (aR bZ rfl) (.qP _ _) rfl (λχ q Χ=>?_) λx e0 sW v sX u9 nh Ν=>h x e0 sW v (sX.more ((by simp))) (Ε.le.trans u9) (Ε.free.2.trans nh) Ν;exact .sI (P.A7 q Χ g (λiP e=>by cases e;exact Τ) rfl rfl rfl (aR P.len rfl)) A' γ
theorem OZ{nd:cT}(G:ar p)(Ζ:5<=n)(af:count<=2)(Τ:gs count nd)(W:dZ w T N c t)(bZ:N<=60000)(h:∀x c' χ v,dZ w T (N+32) c' χ->b3 t χ->hb w T c c'->sV count χ 0 nd.fn x v->Q x c'):aF p n (.val (.ref 717)) [.loc w,nd.ek] c Q Er:=by
 obtain⟨n,rfl⟩:∃dy,n=dy+1:=⟨n - 1,by exact(il (aP (by decide) Ζ)).symm⟩;rcases Τ with ⟨low,high,η,pN,ak,ag,g,Τ,Gd,h0,Α,eD,dv⟩|⟨low,high,k,ak,ag,g,Η,h0,Α,eD,dv⟩|⟨low,high,ls,neg,add,g,Τ,A',γ⟩
 ·refine Ad G rfl ?_;exact A8 G (hF Ζ rfl) W (aR bZ rfl) rfl rfl rfl rfl g Τ af λd c' χ l Ε P=>aeE G (hF Ζ rfl) g Τ af Gd h0 Α eD dv (gL bZ rfl) Ε P λx bz b9 v fN=>h x bz b9 v (fN.more (CK))
 ·refine Ad G rfl ?_;exact A8 G (hF Ζ rfl) W (aR bZ rfl) rfl rfl rfl rfl g (λls e=>by obtain rfl:=bQ e;exact AO Η.2) af λd c' χ l Ε P=>aeH G (hF Ζ rfl) g af Η h0 Α eD dv (gL bZ rfl) Ε P λx bz b9 v fN=>h x bz b9 v (fN.more (CK))
 ·refine Ad G rfl ?_;exact A8 G (hF Ζ rfl) W (aR bZ rfl) rfl rfl rfl rfl g (λiP e=>by obtain rfl:=bQ e;exact Τ) af λd c' χ l Ε P=>aeL G (hF Ζ rfl) g Τ af A' γ (gL bZ rfl) Ε P λx bz b9 v fN=>h x bz b9 v (fN.more (CK))
end
structure u'(count:Y)(t:I (J×O))(L:Y)(y:cP)(x v:O):Prop where
 hd:sV count t L y.1.fn x v
 leaf:gs count y.1->∀χ,b3 t χ->iU χ->eF count χ 0 y.1.fn v
 deep:Tree count L y.1->∀χ,b3 t χ->iU χ->j2 count χ L v
inductive iW(count:Y)(t:I (J×O))(L:Y):I cP->I O->Prop
 |nil:iW count t L [] []
 |snoc {ps xs y x v} (r:iW count t L ps xs) (h:u' count t L y x v):iW count t L (ps++[y]) (xs++[x])
theorem u'.mono{count t χ L y x v}(h:u' count t L y x v)(q:b3 t χ):u' count χ L y x v:=
 ⟨⟨h.hd.laid.mono q,h.hd.y0,λb9 fi=>h.hd.hd b9 (q.trans fi)⟩,λl b9 fi=>h.leaf l b9 (q.trans fi),λl b9 fi=>h.deep l b9 (q.trans fi)⟩
theorem iW.mono{count t χ L ps xs}(h:iW count t L ps xs)(q:b3 t χ):iW count χ L ps xs:=by
 induction h with
 |nil=>exact .nil
 |snoc r h Ξ=>exact .snoc Ξ (h.mono q)
noncomputable def vb(p:bP)(count:Y)(w T:ε)(L:Y):Prop:=∀{n:Y} {c:Ι} {Q:O->Ι->Prop} {Er:Prop} {N:Y} {t:I (J×O)} {nd:cT},5+L<=n->Tree count L nd->dZ w T N c t->N+32*8^L<=60000->
 (∀x c' χ v,dZ w T (N+32*8^L) c' χ->b3 t χ->hb w T c c'->sV count χ L nd.fn x v->(∀b9,b3 χ b9->iU b9->j2 count b9 L v)->Q x c')->aF p n (.val (.ref 717)) [.loc w,nd.ek] c Q Er
theorem O0{count L:Y}{nd:cT}(h:gs count nd)(h':Tree count L nd):L=0:=by
 rcases L with _|L
 ·rfl
 ·refine HF h' λH H H H H H e H=>?_;try clear h'
  have k:nd.ev=true:=by rw[e]
  rcases h with ⟨⟩<;>contradiction
structure q7(w T d e i:ε):Prop where
 Ba:d≠w
 Bb:d≠T
 q8:e≠w
 q9:e≠T
 sY:i≠w
 it:i≠T
 l7:e≠d
 id:i≠d
 eh:i≠e
structure lu(w T d e i:ε)(N:Y)(bq c:Ι)(t0 t:I (J×O))(l:I (Y×O))(E xs:I O):Prop where
 c2:dZ w T N c t
 cd:c d=some (.Ω l)
 ce:c e=some (.lst E)
 ci:c i=some (.lst xs)
 le:b3 t0 t
 same:∀a,a≠w->a≠T->a≠d->a≠e->a≠i->c a=bq a
noncomputable def ij:I (J×J)->I J
 |[]=>[]
 |x::l=>x.1::x.2::ij l
theorem aeM(l:I (J×J)):(ij l).map aq=dq (l.map n6):=by
 induction l with
 |nil=>rfl
 |cons x l Ξ=>show aq _::aq _::(ij l).map aq=_::_::dq (l.map n6);rw[Ξ];rfl
theorem O1(l:I (J×J)):(ij l).length=2*l.length:=by
 induction l with
 |nil=>rfl
 |cons x l Ξ=>show(ij l).length+2=2*(l.length+1);exact I4 Ξ
theorem aeN(l l':I (J×J)):ij (l++l')=ij l++ij l':=by
 induction l with
 |nil=>rfl
 |cons x l Ξ=>show _::_::ij (l++l')=_::_::(ij l++ij l');rw[Ξ]
section
variable{N M:Y}{bq bz:Ι}{y r kind neg add:J}{u w T o e i:ε}{t0 χ:I (J×O)}{x item fn:O}{nd:cT}{D:I (Y×O)}{η:b5}{E xs:I O}{ς:I J}{parts:I cP}
theorem lu.step(h:lu w T d e i N bq c t0 t l E xs)(K:q7 w T d e i)(W:dZ w T M c' χ)(q:b3 t χ)(s:hb w T c c'):lu w T d e i M bq c' t0 χ l E xs:=
 ⟨W,(s d K.Ba K.Bb).trans h.cd,(s e K.q8 K.q9).trans h.ce,(s i K.sY K.it).trans h.ci,h.le.trans q,λa Α Δ κ ay cc=>(s a Α Δ).trans (h.same a Α Δ κ ay cc)⟩
theorem lu.aeO(h:lu w T d e i N bq c t0 t l E xs)(K:q7 w T d e i)(nF:I O):lu w T d e i N bq (upd c e (some (.lst nF))) t0 t l nF xs:=
 ⟨h.c2.keep (a3 _ _ K.q8.symm) (a3 _ _ K.q9.symm),(a3 _ _ K.l7.symm).trans h.cd,aj ..,(a3 _ _ K.eh).trans h.ci,h.le,λa Α Δ κ ay cc=>(a3 _ _ ay).trans (h.same a Α Δ κ ay cc)⟩
theorem lu.aeP(h:lu w T d e i N bq c t0 t l E xs)(K:q7 w T d e i)(uL:I O):lu w T d e i N bq (upd c i (some (.lst uL))) t0 t l E uL:=
 ⟨h.c2.keep (a3 _ _ K.sY.symm) (a3 _ _ K.it.symm),(a3 _ _ K.id.symm).trans h.cd,(a3 _ _ K.eh.symm).trans h.ce,aj ..,h.le,λa Α Δ κ ay cc=>(a3 _ _ cc).trans (h.same a Α Δ κ ay cc)⟩
theorem aeQ(G:ar p)(Ζ:5+L<=n)(af:count<=2)(Ξ:vb p count w T L){y:cP}(aX:gs count y.1∨Tree count L y.1)(W:dZ w T N c t)(bZ:N+32*8^L<=60000)(h:∀x c' χ v,dZ w T (N+32*8^L) c' χ->b3 t χ->hb w T c c'->u' count χ L y x v->Q x c'):aF p n (.val (.ref 717)) [.loc w,y.1.ek] c Q Er:=by
 rcases aX with aX|aX
 ·refine OZ G (aP (io _ _) Ζ) af aX W (aP (io _ _) bZ) λx c' χ v fN q s Ε=>h x c' χ v (fN.more (θ [((8^_):Y),_] [] (.le (.a (.v 1) (.c 32)) (.a (.v 1) (.m 32 (.v 0)))) [(.le (.c 1) (.v 0))] [[1,32]] rfl (RV _ _ (by decide)))) q s ⟨⟨Ε.laid,Ε.y0,λb9 fi Χ=>(Ε.hd b9 fi Χ).up (mv _)⟩,λH=>Ε.hd,λcj b9 fi Χ=>?_⟩;have:=O0 aX cj;subst this;exact .leaf v
 ·refine Ξ Ζ aX W bZ λx c' χ v fN q s Ε D=>h x c' χ v fN q s ⟨Ε,λΤ b9 fi Χ=>?_,λH=>D⟩;have:=O0 Τ aX;subst this;exact Ε.hd b9 fi Χ
end
noncomputable abbrev O2:SL->SL
 | .cons (.for _ _ b) _=>b
 |_=>.nil
noncomputable abbrev aeR:SL:=match u6 with
 | .cons (.qe _ _ (.cons (.qe _ _ (.cons (.qe _ _ s) _)) _)) _=>s
 |_=>.nil
noncomputable abbrev O3:SL:=a9 (a9 (a9 (a9 aeR)))
structure aeS(count:Y)(w T d e i:ε)(bq:Ι)(t0:I (J×O))(l:I (Y×O))(L pN:Y)(low:J)(line:I J)(parts:I cP)(rest:I (cP×J))(c':Ι)(b:J):Prop where
 ex:∃pP ps mf pQ xs χ,rest=ps.zip mf/\ps.length=mf.length/\parts=pP++ps/\hY low line parts=pQ++hY b mf ps/\pQ.length=pP.length/\iW count χ L pP xs/\xs.length=pP.length/\
  lu w T d e i (pN+(32*8^L)*pP.length) bq c' t0 χ l ((ij pQ).map .int) xs/\(-2000<=b/\b<=2000)/\∀z∈mf,-2000<=z/\z<=2000
section
variable{N M:Y}{bq bz:Ι}{y r kind neg add:J}{u w T o e i:ε}{t0 χ:I (J×O)}{x item fn:O}{nd:cT}{D:I (Y×O)}{η:b5}{E xs:I O}{ς line:I J}{parts:I cP}{P:cT->Prop}
theorem aeT{ek xI:O}{K:Ο->Ι->Prop}{hL h3 f9 eM eN:ξ O}(G:ar p)(Ζ:5+L<=n)(af:count<=2)(Ξ:vb p count w T L)(hd:q7 w T d e i)(sy:∀x∈parts,NZ (λx=>gs count x∨Tree count L x) x)(dD:parts.length<=4)(bZ:N+(32*8^L)*5<=60000)(rest:I (cP×J))(aG:aeS count w T d e i bq t0 l L N low line parts rest c' b)(h:∀bz b xs χ hL h3 f9 eM eN,iW count χ L parts xs->xs.length=parts.length->lu w T d e i (N+(32*8^L)*4) bq bz t0 χ l ((ij (hY low line parts)).map .int) xs->K (pL w ek (some (.loc d)) none hL (some xI) (some (.int b)) (some (.loc e)) (some (.loc i)) h3 f9 eM eN) bz):
 mJ (hk (.tup [4,9])) (λρ c K=>bh p a1 a6 aK n (O2 O3) ρ c K (λx H c'=>Q x c')) (rest.map λx=>.tup [m8 x.1,.int x.2]) (pL w ek (some (.loc d)) none hL (some xI) (some (.int b)) (some (.loc e)) (some (.loc i)) h3 f9 eM eN) c' K:=by
 have nA:1<=8^L:=RV _ _ (by decide)
 induction rest generalizing c' b hL h3 f9 eM eN with
 |nil=>
  refine Cc aG.ex λpP ps mf pQ xs χ bd bk aV=>?_;refine HD aV λdu l1 t' vc Bc Ε Κ Ρ=>?_;try clear aV
  have aeU:ps=[]:=by
   cases ps with
   |nil=>rfl
   |cons y ps=>cases mf with
    |nil=>cases bk
    |cons z mf=>cases bd
  subst aeU;have aeV:mf=[]:=p5.mp bk.symm;subst aeV;rw[gj] at du;subst du;rw[show hY b [] []=[] from rfl,gj] at l1;rw[<-l1] at Ε;exact h c' b xs χ _ _ _ _ _ vc Bc ⟨Ε.c2.more (xY (mm _ dD) _),Ε.cd,Ε.ce,Ε.ci,Ε.le,Ε.same⟩
 |cons x rest aeW=>
  refine Cc aG.ex λpP ps mf pQ xs χ bd bk aW=>?_;refine HD aW λdu l1 t' vc Bc Ε Κ Ρ=>?_;try clear aW
  cases ps with
  |nil=>cases bd
  |cons y ps=>
  cases mf with
  |nil=>cases bk
  |cons z mf=>
  cases bd;have b0:pP.length+(ps.length+1)<=4:=by rw[du] at dD;simpa using dD
  have aX:=sy y (by rw[du];simp);have q0:=Ρ z (.head _);have kH:vr 100 y.2.1:=bT (i:=7) (by decide) (.of (n:=2001) (yC aX.start.1 aX.start.2) (by decide):al 11 y.2.1) (by decide);refine as _ Ε.ce ⟨kH,kH,bT (i:=5) (by decide) (.of (n:=9) (Cv aX.eL.1 aX.eL.2) (by decide):al 4 y.2.2) (by decide),bT (.of (n:=201) (Cu aX.eL.1 aX.eL.2) (by decide):al 9 (25*y.2.2)) (.of (n:=4001) (H0 q0.1 Κ.1 q0.2 Κ.2) (by decide):al 12 (z - b)) (by decide),?_⟩;refine dj _ Ε.ce (by rw[bV];show(ij pQ).length+2<=10000;exact θ [_,_,_,_] [] (.le (.a (.v 0) (.c 2)) (.c 10000)) [(.eq (.v 0) (.m 2 (.v 1))),(.eq (.v 1) (.v 2)),(.le (.a (.v 2) (.a (.v 3) (.c 1))) (.c 4))] [[1,1,0,2,0,2]] rfl (O1 pQ) t' b0) ?_;have Ε:=Ε.aeO hd ((ij pQ).map .int++[.int (100*y.2.1),.int (100*y.2.1+25*y.2.2*(z - b))]);refine as _ Ε.ci ?_;refine aeQ G Ζ af Ξ aX.ok Ε.c2 (θ [_,((8^_):Y),(((32*(8^_))*_):Y)] [] (.le (.a (.a (.v 0) (.v 2)) (.m 32 (.v 1))) (.c 60000)) [(.le (.a (.v 0) (.r (.m 32 (.v 1)) 5)) (.c 60000)),(.le (.v 2) (.r (.m 32 (.v 1)) 3))] [[3,3,4]] rfl bZ (mm _ (θ [_,_] [] (.le (.v 0) (.c 3)) [(.le (.a (.v 0) (.a (.v 1) (.c 1))) (.c 4))] [[1,1]] rfl b0))) λx bz b9 v W q s Gf=>?_;have Ε:=Ε.step hd W q s;refine dj _ Ε.ci (θ [_,_,_] [] (.le (.v 0) (.c 10000)) [(.eq (.v 0) (.v 1)),(.le (.a (.v 1) (.a (.v 2) (.c 1))) (.c 4))] [[1,1,0,1]] rfl Bc b0) ?_;refine aeW ⟨pP++[y],ps,mf,pQ++[(100*y.2.1,100*y.2.1+25*y.2.2*(z - b))],xs++[x],b9,rfl,by simpa using bk,by rw[du];simp,by rw[l1,oy];rfl,by simp;exact Jc t',.snoc (vc.mono q) Gf,by simp;exact Jc Bc,?_,q0,λaeX gc=>Ρ aeX (.tail _ gc)⟩;rw[aeN,h8,fa,lE,yn,<-RU];exact(Ε.aeP hd (xs++[x]))
end
section
variable{N M:Y}{bq bz:Ι}{y r kind neg add:J}{u w T o e i:ε}{t0 χ:I (J×O)}{x item fn:O}{nd:cT}{D more:I (Y×O)}{η:b5}{E xs:I O}{ς line:I J}{parts:I cP}{P:cT->Prop}
theorem vd{l:I J}:∀{b h:J},lp b l h->∀x∈l,b<=x/\x<=h:=by
 induction l with
 |nil=>intro b h a4 x Ν;contradiction
 |cons e l Ξ=>
  intro b h a4 x Ν;rcases eR.mp Ν with rfl|Ν
  ·exact⟨a4.1,a4.2.le⟩
  ·have:=Ξ a4.2 x Ν;have:=a4.1;omega
theorem iW.zs(h:iW count t L parts xs){b9:I (J×O)}(q:b3 t b9)(Χ:iU b9):∃zs:I (O×O),xs=zs.map (·.1)/\parts.map (λx=>x.1.fn)=zs.map (·.2)/\(∀z∈zs,bU z.1)/\∀z∈zs,eF count b9 L z.2 (cp b9 30 z.1):=by
 induction h with
 |nil=>exact Ce [] rfl rfl (λH h=>nomatch h) (λH h=>nomatch h)
 |@snoc ps xs y x v r h Ξ=>
  refine rD Ξ λzs bd bk du l1=>?_;try clear Ξ
  refine Ce (zs++[(x,y.1.fn)]) (by rw[bd];simp) (by rw[h8,h8,bk];rfl) (λz Ρ=>?_) (λz Ρ=>?_)
  ·rcases hA.mp Ρ with Ρ|Ρ
   ·exact du z Ρ
   ·rcases eR.mp Ρ with rfl|h
    ·exact h.hd.laid.c7
    ·contradiction
  ·rcases hA.mp Ρ with Ρ|Ρ
   ·exact l1 z Ρ
   ·rcases eR.mp Ρ with rfl|h
    ·rw[h.hd.laid.eq _ q];exact h.hd.hd _ q Χ
    ·contradiction
theorem iW.split(h:iW count t L parts xs):∀{pre:I cP} {y:cP} {post:I cP},parts=pre++y::post->∃m6 x sZ v,xs=m6++x::sZ/\m6.length=pre.length/\sZ.length=post.length/\iW count t L pre m6/\u' count t L y x v:=by
 induction h with
 |nil=>intro pre y post e;rcases pre with ⟨⟩<;>contradiction
 |@snoc ps xs y x v r h Ξ=>
  intro pre y' post e;rcases List.eq_nil_or_concat post with ζ|⟨aeY,z,ζ⟩
  ·subst ζ;apply Se (ajb e rfl);intro bk
   (injection bk with bk;subst bk)
   exact yx xs x [] v rfl (by
    clear e Ξ h
    induction r with
    |nil=>rfl
    |snoc r h Ξ=>simp[Ξ]) rfl r h
  ·rw[List.concat_eq_append] at ζ;subst ζ;have e:ps++[y]=(pre++y'::aeY)++[z]:=by rw[e];simp
   refine aa (ajb e rfl) λbd bk=>?_;refine rG (Ξ bd) λm6 qk sZ iD Α Δ κ ay cc=>?_;exact yx m6 qk (sZ++[x]) iD (by rw[Α];simp) Δ (by simp[κ]) ay cc
theorem iW.aeZ(h:iW count t L parts xs)(Τ:∀y∈parts,gs count y.1){b9:I (J×O)}(q:b3 t b9)(Χ:iU b9):∃zs:I (O×O),xs=zs.map (·.1)/\∀z∈zs,bU z.1/\eF count b9 0 z.2 (cp b9 30 z.1):=by
 induction h with
 |nil=>exact as [] rfl (λH h=>nomatch h)
 |@snoc ps xs y x v r h Ξ=>
  refine ψ (Ξ λy aX=>Τ y (ye _ aX)) λzs bd l1=>?_;refine as (zs++[(x,y.1.fn)]) (by rw[bd];simp) (λz Ρ=>?_);rcases hA.mp Ρ with Ρ|Ρ
  ·exact l1 z Ρ
  ·rcases eR.mp Ρ with rfl|h
   ·refine⟨h.hd.laid.c7,?_⟩;rw[h.hd.laid.eq _ q];exact h.leaf (Τ y (by simp)) _ q Χ
   ·contradiction
theorem ae0(line:I J):∀(b:J) (parts:I cP),(-2000<=b/\b<=2000)->(∀z∈line,-2000<=z/\z<=2000)->(∀x∈parts,(-2000<=x.2.1/\x.2.1<=2000)/\(-8<=x.2.2/\x.2.2<=8))->∀a∈ij (hY b line parts),al 60 a:=by
 induction line with
 |nil=>intro b parts _ _ _ a γ;rcases parts with ⟨⟩<;>contradiction
 |cons e line Ξ=>
  intro b parts Κ Τ ζ a γ;rcases parts with _|⟨x,parts⟩
  ·contradiction
  ·have Ν:=ζ x (.head _);have aH:=Τ e (.head _);refine my γ ?_ λγ=>?_
   ·exact .of (n:=200001) (by omega) (by decide)
   ·refine my γ ?_ λγ=>?_
    ·exact((.of (n:=200001) (rK Ν.1.1 Ν.1.2) (by decide):al 21 (100*x.2.1)).add (al.mul (i:=9) (j:=12) (.of (n:=201) (Cu Ν.2.1 Ν.2.2) (by decide)) (.of (n:=4001) (H0 aH.1 Κ.1 aH.2 Κ.2) (by decide)):al 21 (25*x.2.2*(e - b)))).mono (by decide)
    ·exact Ξ e parts aH (λz Ρ=>Τ z (.tail _ Ρ)) (λy aX=>ζ y (.tail _ aX)) a γ
structure s0(w T d e:ε)(N:Y)(bq c:Ι)(t0 t:I (J×O))(l:I (Y×O))(E:I O):Prop where
 c2:dZ w T N c t
 cd:c d=some (.Ω l)
 ce:c e=some (.lst E)
 le:b3 t0 t
 same:∀a,a≠w->a≠T->a≠d->a≠e->c a=bq a
theorem s0.step(h:s0 w T d e N bq c t0 t l E)(K:q7 w T d e i)(W:dZ w T M c' χ)(q:b3 t χ)(s:hb w T c c'):s0 w T d e M bq c' t0 χ l E:=
 ⟨W,(s d K.Ba K.Bb).trans h.cd,(s e K.q8 K.q9).trans h.ce,h.le.trans q,λa Α Δ κ ay=>(s a Α Δ).trans (h.same a Α Δ κ ay)⟩
theorem s0.set(h:s0 w T d e N bq c t0 t l E)(K:q7 w T d e i)(l':I (Y×O)):s0 w T d e N bq (upd c d (some (.Ω l'))) t0 t l' E:=
 ⟨h.c2.keep (a3 _ _ K.Ba.symm) (a3 _ _ K.Bb.symm),aj ..,(a3 _ _ K.l7).trans h.ce,h.le,λa Α Δ κ ay=>(a3 _ _ κ).trans (h.same a Α Δ κ ay)⟩
structure s1(count L:Y)(t:I (J×O))(low high:J)(η:b5)(ς:I J)(parts:I cP)(l:I (Y×O)):Prop where
 S:AP count t low high η ς parts l
 ex:∃zs:I (O×O),cC t l 21 (.lst (zs.map (·.1)))/\parts.map (λx=>x.1.fn)=zs.map (·.2)/\(∀z∈zs,bU z.1)/\∀z∈zs,eF count t L z.2 (cp t 30 z.1)
 small:l.length<=12
theorem ae1{iX eG kI:O}{dA jb gO:I (J×O)}(gW:pK count L low high η ς parts)(P:nj t0 3 low high η l)(dn:iW count t L parts xs)(xJ:xs.length=parts.length)(kH:b3 t0 t)(fB:b3 t dA)(e8:b3 dA jb)(ol:b3 jb gO)(Gg:Laid dA iX (.lst xs))(Be:oh jb eG (b7 ς))(sP:oh gO kI (dq ((hY low (ς++[high]) parts).map n6))):
 ∀χ,b3 gO χ->iU χ->s1 count L χ low high η ς parts (putN (putN (putN l 21 iX) 10 eG) 18 kI)/\j2 count χ (L+1) (.Ω (putN (putN (putN l 21 iX) 10 eG) 18 kI)):=by
 intro χ q Χ;refine aa gW λS aW=>?_;try clear gW;refine gz aW λpre y post aH Bf aX=>?_;try clear aW
 have fH:=ol.trans q;have e1:=e8.trans fH;have ew:=fB.trans e1;have ht:=ih l 21 iX;have gS:=ih (putN l 21 iX) 10 eG;have z7:=ih (putN (putN l 21 iX) 10 eG) 18 kI;have C:gt count χ 3 low high η (putN (putN (putN l 21 iX) 10 eG) 18 kI):=by
  refine P.A7 (kH.trans ew) Χ S.g S.Τ ?_ ?_ ?_ (Ju z7 ht gS P.len)
  ·rw[eo _ _ rfl,eo _ _ rfl,eo _ _ rfl]
  ·rw[eo _ _ rfl,eo _ _ rfl,eo _ _ rfl]
  ·rw[eo _ _ rfl,eo _ _ rfl,eo _ _ rfl]
 have Bg:=Gg.say (by rw[eo _ _ rfl,eo _ _ rfl,oi]:bl (putN (putN (putN l 21 iX) 10 eG) 18 kI) 21=some iX) e1;have dD:=S.gI;constructor
 ·refine rD (dn.zs ew Χ) λzs gD f' jc n3=>?_;rw[gD] at Bg;exact⟨⟨C,S.up,S.len,S.gI,Be.say (by rw[eo _ _ rfl,oi]) fH,sP.say (oi ..) q⟩,⟨zs,Bg,f',jc,n3⟩,by exact θ [_,_,_,_] [] (.le (.v 0) (.c 12)) [(.le (.v 0) (.a (.v 1) (.c 1))),(.le (.v 2) (.a (.v 3) (.c 1))),(.le (.v 1) (.a (.v 2) (.c 1))),(.le (.v 3) (.c 3))] [[1,1,1,1,1]] rfl z7 ht gS P.len⟩
 ·refine rG (dn.split aH) λm6 x sZ v gD f' jc n3 Gh=>?_;refine ψ (n3.aeZ (λy aX=>(Bf y aX).1) ew Χ) λzs O4 O5=>?_;rw[gD,O4] at Bg;have Ρ:zs.length=m6.length:=by rw[O4,bV]
  refine .nf C zs x sZ Bg (θ [_,_,_,_] [] (.le (.a (.v 3) (.v 1)) (.c 10)) [(.eq (.a (.v 0) (.a (.v 1) (.c 1))) (.v 2)),(.eq (.v 3) (.v 0)),(.le (.v 2) (.c 4))] [[1,1,0,1,0,1]] rfl (by rw[<-xJ,gD];simp:m6.length+(sZ.length+1)=parts.length) Ρ dD) (λz gc=>?_) Gh.hd.laid.c7 ?_
  ·refine⟨((O5 z gc)).1,0,?_,((O5 z gc)).2⟩;rcases pre with _|⟨y',pre⟩
   ·rw[f'] at Ρ;rw[p5.mp Ρ] at gc;contradiction
   ·exact(Bf y' (.head _)).2
  ·rw[Gh.hd.laid.eq _ ew];exact Gh.deep aX _ ew Χ
theorem ae2{xI:O}{hL h3 f9 eM eN:ξ O}(G:ar p)(Ζ:5+L<=n)(gW:pK count L low high η ς parts)(K:q7 w T d e i)(P:nj t0 3 low high η l)(dn:iW count t L parts xs)(xJ:xs.length=parts.length)(bZ:N<=60000)(Ε:lu w T d e i N bq c t0 t l ((ij (hY low (ς++[high]) parts)).map .int) xs)(gD:bq e=none)(f':bq i=none)(jc:bq d=none)(h:∀x c' χ l,dZ w T (N+30) c' χ->b3 t0 χ->hb w T bq c'->Laid χ x (.Ω l)->(∀b9,b3 χ b9->iU b9->s1 count L b9 low high η ς parts l/\j2 count b9 (L+1) (.Ω l))->Q x c'):
 bh p a1 a6 Er n (a9 O3) (pL w (.Ω (jZ low high η ς parts++more)) (some (.loc d)) none hL (some xI) (some (.int b)) (some (.loc e)) (some (.loc i)) h3 f9 eM eN) c (λρ c=>bh p a1 a6 Er n (a9 u6) ρ c (λH c'=>Q .none c') (λx H c'=>Q x c')) (λx H c'=>Q x c'):=by
 have S:=gW.1;have om:=S.big;have dD:=S.gI;have a':=S.len;have aO:=S.g;unfold dN at aO;have Gi:∀z∈ς,-2000<=z/\z<=2000:=λz Ρ=>by have:=vd S.up z Ρ;exact tD aO.1 aO.2.2 this.2 this.1
 have s2:(hY low (ς++[high]) parts).length=parts.length:=AI _ _ _ (by simp;exact yK a');have Bh:=O1 (hY low (ς++[high]) parts);refine as _ Ε.ci ?_;have iY:s0 w T d e N bq (upd c i none) t0 t l ((ij (hY low (ς++[high]) parts)).map .int):=
  ⟨Ε.c2.keep (a3 _ _ K.sY.symm) (a3 _ _ K.it.symm),(a3 _ _ K.id.symm).trans Ε.cd,(a3 _ _ K.eh.symm).trans Ε.ce,Ε.le,λa Α Δ κ ay=>by
   by_cases aT:a=i
   ·rw[aT,aj,f']
   ·rw[a3 _ _ aT];exact Ε.same a Α Δ κ ay aT⟩
 refine ni G (IM Ζ) iY.c2 (aR bZ rfl) (.lst xs) rfl λiX Μ Ga oj fB ds Gg=>?_;have iY:=iY.step K oj fB ds;refine dj _ iY.cd (aR P.len rfl) ?_;have ht:=ih l 21 iX;have iY:=iY.set K (putN l 21 iX);refine⟨by unfold b2;rw[bV];exact θ [_,_] [] (.le (.v 1) (.c 20000)) [(.eq (.v 0) (.a (.v 1) (.c 1))),(.le (.v 0) (.c 4))] [[1,0,1,1]] rfl a' dD,?_⟩;refine m9 (f:=O.int) (λa=>.int (100*a)) (λo:ξ J=>[some (.loc w),some (.Ω (jZ low high η ς parts++more)),some (.loc d),none,hL,some xI,some (.int b),some (.loc e),some (.lst xs),h3,f9,eM,eN,o.map .int]) ς [] none (λa γ o acc K aC=>⟨bT (i:=7) (j:=11) (by decide) (.of (n:=2001) (by have:=Gi a γ;exact yC this.1 this.2) (by decide)) (by decide),aC⟩) λo=>?_;rw[Gc];refine u5 G (IN Ζ) iY.c2 (by rw[bV];exact θ [_,_,_] [] (.le (.a (.a (.v 2) (.c 1)) (.v 1)) (.c 80000)) [(.eq (.v 0) (.a (.v 1) (.c 1))),(.le (.v 0) (.c 4)),(.le (.v 2) (.c 60000))] [[1,0,1,1,1]] rfl a' dD bZ) (by rw[bV];exact θ [_,_] [] (.le (.v 1) (.c 1000)) [(.eq (.v 0) (.a (.v 1) (.c 1))),(.le (.v 0) (.c 4))] [[1,0,1,1]] rfl a' dD) (λa γ=>?_) λeG az sU nl e8 eC Be=>?_
 ·apply iB (i5.mp γ);intro z Ρ;have:=Gi z Ρ;exact .of (n:=200001) (rK this.1 this.2) (by decide)
 have iY:=iY.step K nl e8 eC;refine dj _ iY.cd (mA ht P.len rfl) ?_;have iY:=iY.set K (putN (putN l 21 iX) 10 eG);refine as _ iY.ce ?_;have oo:iV w T d (N+1+((ς.map λa=>100*a).length+1)) bq (upd (upd az d (some (.Ω (putN (putN l 21 iX) 10 eG)))) e none) t0 sU (putN (putN l 21 iX) 10 eG):=
  ⟨iY.c2.keep (a3 _ _ K.q8.symm) (a3 _ _ K.q9.symm),(a3 _ _ K.l7.symm).trans iY.cd,iY.le,λa Α Δ κ=>by
   by_cases aT:a=e
   ·rw[aT,aj,gD]
   ·rw[a3 _ _ aT];exact iY.same a Α Δ κ aT,K.Ba,K.Bb,jc⟩
 refine u5 G (IN Ζ) oo.c2 (by rw[bV];exact θ [_,_,_,_,_] [] (.le (.a (.a (.a (.v 4) (.c 1)) (.a (.v 1) (.c 1))) (.v 2)) (.c 80000)) [(.eq (.v 0) (.a (.v 1) (.c 1))),(.eq (.v 2) (.m 2 (.v 3))),(.eq (.v 3) (.v 0)),(.le (.v 0) (.c 4)),(.le (.v 4) (.c 60000))] [[1,0,1,1,0,2,0,3,1]] rfl a' Bh s2 dD bZ) (θ [_,_,_] [] (.le (.v 0) (.c 1000)) [(.eq (.v 0) (.m 2 (.v 1))),(.eq (.v 1) (.v 2)),(.le (.v 2) (.c 4))] [[1,1,0,2,0,2]] rfl Bh s2 dD) (ae0 _ _ _ (tC aO.1 aO.2.2 aO.2.1) (λz Ρ=>?_) λx Ν=>⟨(S.ok x Ν).start,(S.ok x Ν).eL⟩) λkI cH h4 j4 ol g9 sP=>?_
 ·rcases hA.mp Ρ with Ρ|Ρ
  ·exact Gi z Ρ
  ·cases Ρ with
   |head=>exact vU aO.1 aO.2.2 aO.2.1
   |tail _ h=>cases h
 have oo:=oo.step j4 ol g9;refine dj _ oo.cell (Jl (ih (putN l 21 iX) 10 eG) ht P.len) ?_;have oo:=oo.set (putN (putN (putN l 21 iX) 10 eG) 18 kI);refine as _ oo.cell ?_;rw[OU] at Be;rw[aeM] at sP;refine ni G (IM Ζ) oo.free.1 (by rw[bV];exact θ [_,_,_,_,_] [] (.le (.a (.a (.a (.v 4) (.c 1)) (.a (.v 1) (.c 1))) (.a (.v 2) (.c 1))) (.c 90000)) [(.eq (.v 0) (.a (.v 1) (.c 1))),(.eq (.v 2) (.m 2 (.v 3))),(.eq (.v 3) (.v 0)),(.le (.v 0) (.c 4)),(.le (.v 4) (.c 60000))] [[1,0,1,1,0,2,0,3,1]] rfl a' Bh s2 dD bZ) (.Ω _) rfl λx e0 sW sX O6 nh Ν=>?_;exact h x e0 sW _ (sX.more (by rw[bV];exact θ [_,_,_,_,_] [] (.le (.a (.a (.a (.a (.v 4) (.c 1)) (.a (.v 1) (.c 1))) (.a (.v 2) (.c 1))) (.c 1)) (.a (.v 4) (.c 30))) [(.eq (.v 0) (.a (.v 1) (.c 1))),(.eq (.v 2) (.m 2 (.v 3))),(.eq (.v 3) (.v 0)),(.le (.v 0) (.c 4))] [[1,0,1,1,0,2,0,3]] rfl a' Bh s2 dD)) (oo.le.trans O6) (oo.free.2.trans nh) Ν λχ q Χ=>(ae1 gW P dn xJ Ε.le fB e8 ol Gg Be sP) χ (O6.trans q) Χ
end
section
variable{N M:Y}{bq bz:Ι}{y r kind neg add:J}{u w T o e i:ε}{t0 χ:I (J×O)}{x item fn:O}{nd:cT}{D more:I (Y×O)}{η:b5}{E xs:I O}{ς line:I J}{parts:I cP}{P:cT->Prop}
theorem dZ.has(h:dZ w T N c t):c w≠none/\c T≠none:=by
 rcases h with ⟨kG,kS,next,bC,δ⟩
 rw[bC,δ];exact⟨nofun,nofun⟩
theorem iV.loop(Ε:iV w T d N bq c t0 t l)(aH:c e=none)(hi:upd c e (some (.lst [])) i=none):q7 w T d e i/\lu w T d e i N bq (upd (upd c e (some (.lst []))) i (some (.lst []))) t0 t l [] []/\bq e=none/\bq i=none:=by
 refine aa Ε.c2.has λbC cj=>?_;have pR:i≠e:=λq=>by rw[q,aj] at hi;contradiction
 rw[a3 _ _ pR] at hi;have q8:e≠w:=λq=>bC (q▸aH);have q9:e≠T:=λq=>cj (q▸aH);have sY:i≠w:=λq=>bC (q▸hi);have it:i≠T:=λq=>cj (q▸hi);have l7:e≠d:=λq=>by rw[q,Ε.cell] at aH;contradiction
 have id:i≠d:=λq=>by rw[q,Ε.cell] at hi;contradiction
 refine⟨⟨Ε.nw,Ε.hj,q8,q9,sY,it,l7,id,pR⟩,⟨Ε.c2.keep ?_ ?_,?_,?_,aj ..,Ε.le,λa Α Δ κ ay cc=>?_⟩,(Ε.same e q8 q9 l7).symm.trans aH,(Ε.same i sY it id).symm.trans hi⟩
 ·rw[a3 _ _ sY.symm,a3 _ _ q8.symm]
 ·rw[a3 _ _ it.symm,a3 _ _ q9.symm]
 ·rw[a3 _ _ id.symm,a3 _ _ l7.symm];exact Ε.cell
 ·rw[a3 _ _ pR.symm,aj]
 ·rw[a3 _ _ cc,a3 _ _ ay];exact Ε.same a Α Δ κ
theorem O7(G:ar p)(af:count<=2)(Ξ:vb p count w T L)(Ζ:6+L<=n)(gW:pK count L low high η ς parts)(W:dZ w T N c t)(bZ:N+32*8^(L+1)<=60000)(h:∀x c' χ l,dZ w T (N+32*8^(L+1)) c' χ->b3 t χ->hb w T c c'->Laid χ x (.Ω l)->(∀b9,b3 χ b9->iU b9->s1 count L b9 low high η ς parts l/\j2 count b9 (L+1) (.Ω l))->Q x c'):
 aF p n (.val (.ref 717)) [.loc w,.Ω (jZ low high η ς parts++more)] c Q Er:=by
 obtain⟨n,rfl⟩:∃dy,n=dy+1:=⟨n - 1,by exact(il (aP (aP (by decide) (io 6 _)) Ζ)).symm⟩;have S:=gW.1;have om:=S.big;have dD:=S.gI;have a':=S.len;have nA:1<=8^L:=RV _ _ (by decide);have HJ:8^(L+1)=8^L*8:=aio ..;have aO:=S.g;unfold dN at aO;refine Ad G rfl ?_;refine A8 G (θ [_,_] [] (.le (.c 4) (.v 1)) [(.le (.a (.c 6) (.v 0)) (.a (.v 1) (.c 1)))] [[1,1]] rfl Ζ) W (θ [_,((8^((_+1))):Y)] [] (.le (.v 0) (.c 70000)) [(.le (.a (.v 0) (.m 32 (.v 1))) (.c 60000))] [[1,1]] rfl bZ) rfl rfl rfl rfl S.g S.Τ af λd c' χ l Ε P=>?_;refine⟨by rw[(by unfold b2;rw[bV]:(b2 ς).length=ς.length)];show ς.length+1<=10000;exact a'▸aP dD (by decide),?_⟩;refine λe aH i hi=>?_;refine lH ((⟨Ε.c2,Ε.cell,.refl,Ε.same,Ε.nw,Ε.hj,Ε.fresh⟩:iV w T d (N+12) c c' χ χ l).loop aH hi) λK Gj gD f'=>?_;refine⟨by rw[bV];exact aR dD rfl,?_⟩;rw[(by unfold b2;rw[h8];rfl:b2 ς++[.int high]=(ς++[high]).map .int),N0];refine aeT (N:=N+12) G (IP Ζ) af Ξ K S.ok dD (θ [_,8^_] [] (.le (.a (.a (.v 0) (.c 12)) (.r (.m 32 (.v 1)) 5)) (.c 60000)) [.le (.a (.v 0) (.m 32 (.r (.v 1) 8))) (.c 60000),.le (.c 1) (.v 1)] [[1,1,96]] rfl bZ nA) _ ⟨[],parts,ς++[high],[],[],χ,rfl,by simp;exact yK a',rfl,rfl,rfl,.nil,rfl,Gj,by exact tC aO.1 aO.2.2 aO.2.1,λz Ρ=>?_⟩ λbz b xs b9 hL h3 f9 eM eN dn xJ Gj=>?_
 ·rcases hA.mp Ρ with Ρ|Ρ
  ·have:=vd S.up z Ρ;exact tD aO.1 aO.2.2 this.2 this.1
  ·rcases eR.mp Ρ with rfl|h
   ·exact vU aO.1 aO.2.2 aO.2.1
   ·contradiction
 ·refine ae2 (N:=N+12+(32*8^L)*4) G (IP Ζ) gW K P dn xJ (θ [_,8^_] [] (.le (.a (.a (.v 0) (.c 12)) (.r (.m 32 (.v 1)) 4)) (.c 60000)) [.le (.a (.v 0) (.m 32 (.r (.v 1) 8))) (.c 60000),.le (.c 1) (.v 1)] [[1,1,128]] rfl bZ nA) Gj gD f' Ε.fresh λx cH h4 v j4 ol g9 Ν gg=>?_;exact h x cH h4 v (j4.more (θ [_,8^_] [] (.le (.a (.a (.a (.v 0) (.c 12)) (.r (.m 32 (.v 1)) 4)) (.c 30)) (.a (.v 0) (.m 32 (.r (.v 1) 8)))) [.le (.c 1) (.v 1)] [[1,128]] rfl nA)) (Ε.le.trans ol) g9 Ν gg
theorem s1.hd(h:s1 count L t low high η ς parts l):eF count t (L+1) (sJ low high η ς parts) (.Ω l):=by
 refine rD h.ex λzs gD f' jc n3=>?_;exact .nf zs h.S gD f' jc n3
theorem ae3(G:ar p)(af:count<=2)(Ξ:vb p count w T L):vb p count w T (L+1):=by
 intro n c Q Er N t nd Ζ cj W bZ h;refine HF cj λlow high η ς parts more aV gW=>?_;try clear cj;rcases aV with rfl
 exact O7 G af Ξ (θ [_,_] [] (.le (.a (.c 6) (.v 0)) (.v 1)) [(.le (.a (.c 5) (.a (.v 0) (.c 1))) (.v 1))] [[1,1]] rfl Ζ) gW W bZ λx c' χ l fN q s Ν σ=>h x c' χ _ fN q s ⟨Ν,rfl,λb9 fi Χ=>(σ b9 fi Χ).1.hd⟩ λb9 fi Χ=>(σ b9 fi Χ).2
theorem ae4(G:ar p)(af:count<=2)(L:Y):vb p count w T L:=by
 induction L with
 |zero=>
  intro n c Q Er N t nd Ζ cj W bZ h;exact OZ G (θ [_] [] (.le (.c 5) (.v 0)) [(.le (.a (.c 5) (.c 0)) (.v 0))] [[1,1]] rfl Ζ) af cj W (aP (io _ _) bZ) λx c' χ v fN q s Ε=>h x c' χ v (fN.more (i2 _)) q s Ε λH H H=>.leaf v
 |succ L Ξ=>exact @ae3 p L count w T G af @Ξ
end
theorem O8{a b c d:J}(Κ:0<b)(hd:0<d):c8 a b<c8 c d↔a*d<c*b:=by
 rw[lF,lF,ai1 (ajc.mpr hd),show(a:ai) / b*d=(a*d:ai) / b by rw[Hn,Hn,B8,ai3 _ (d:ai),<-B8],RK (ajc.mpr Κ),<-yr,<-yr,aiP]
theorem Bi(a:J):aq (100*a)=c8 a 100:=by
 unfold aq;exact aiR (n:=a) (d:=100) (a:=100) (by decide)
noncomputable def ve(a b lo hi:J):J×J:=if 100*a<lo*b then (lo,100) else if 100*a>hi*b then (hi,100) else (a,b)
theorem ae5{a b lo hi:J}(Κ:0<b):c8 (ve a b lo hi).1 (ve a b lo hi).2=clip (c8 a b) (aq (100*lo)) (aq (100*hi)):=by
 unfold ve clip;rw[Bi,Bi];simp only[(by rw[O8 Κ (by decide)];exact(by simp+arith):c8 a b<c8 lo 100↔100*a<lo*b),(by rw[O8 (by decide) Κ];exact(by simp+arith):c8 hi 100<c8 a b↔100*a>hi*b)];split
 ·rfl
 ·split<;>rfl
theorem ae6(f g pl:J)(N:Y):jY (aq pl) N (aq (100*f)) (aq (100*g))=c8 (f*10000^N+pl^N*(g - f)) (100*10000^N):=by
 unfold jY;rw[Bi,Bi];unfold aq;rw[lF,lF,lF,lF];simp only[yr,HA,Ca,ajd];have eI:((10000:J):ai)^N≠0:=by rw[<-ajd];exact λe=>NL 0 (by have:=RT.mp e;exact absurd this (aiJ (by decide)))
 have e:((pl:ai) / ((10000:J):ai))^N=(pl:ai)^N / ((10000:J):ai)^N:=by
  clear eI
  induction N with
  |zero=>rw[RW,RW,RW];grind
  |succ N Ξ=>rw[RX,Ξ,RX,RX];grind
 rw[e];generalize ((10000:J):ai)^N=D at eI;generalize (pl:ai)^N=P;grind
theorem ae7(a b pl low high:J)(h:low<=high)(ζ:100*low<=pl/\pl<=100*high):pD (qU low high pl) a b=c8 (a*max 1 (100*(high - low))+(b - a)*(pl - 100*low)) (max 1 (100*(high - low))):=by
 unfold pD qU moved;by_cases e:aq (100*low)=aq (100*high)
 ·have bk:=Av.mp e;have:low=high:=θ [] [_,_] (.ff (.v 0) (.v 1)) [(.ff (.m 100 (.v 0)) (.m 100 (.v 1)))] [[100,1],[100,0,1]] rfl bk;subst this;have:pl=100*low:=np ζ.2 ζ.1;subst this;rw[cz e,Hp,Hp];show _=c8 (a*1+(b - a)*0) 1;rw[rB,By,s6,RR,RQ];exact(yp (a:ai)).symm
 ·have bF:low≠high:=λq=>e (by rw[q]);rw[bL e,RM (SA ζ.1 ζ.2 bF)];have Ρ:((high:ai) - low)≠0:=by rw[<-Ca];exact λq=>by have:=RT.mp q;omega
  unfold aq;rw[lF,lF,lF,lF];simp only[yr,HA,Ca];have Α:((100:J):ai)=100:=rfl;have Δ:((10000:J):ai)=10000:=rfl;rw[Α,Δ];generalize (high:ai)=Ε at Ρ;generalize (low:ai)=L at Ρ;grind
theorem ae8(pl neg add:J)(bH:Y):l8 (aq pl) neg add bH=c8 ((if neg=0 then pl else 0 - pl)+10000*(add+bH)) 10000:=by
 unfold l8 aq;rw[lF,lF];have Δ:((10000:J):ai)=10000:=rfl;split
 ·simp only[yr,HA,Ca];rw[Δ];grind
 ·simp only[yr,HA,Ca];rw[Δ,show((0:J):ai)=0 from rfl];grind
theorem ae9{h v:J}(ς:I J):∀{b:J},lp b ς h->∀j z,(b::ς)[j]?=some z->100*z<=v->j<=kB ς v:=by
 induction ς with
 |nil=>
  intro b a4 j z Ρ Φ;rcases j with _|j
  ·exact i2 _
  ·rcases j with ⟨⟩<;>contradiction
 |cons e l Ξ=>
  intro b a4 j z Ρ Φ;rcases j with _|j
  ·exact mv _
  ·have Ρ:(e::l)[j]?=some z:=Ρ;have aH:e<=z:=by
    have hm:=j8 Ρ;refine my hm ?_ λhm=>?_
    ·exact Bz _
    ·exact(vd a4.2 z hm).1
   rw[AH,cz (by exact θ [] [_,_,_] (.ι (.m 100 (.v 2)) (.v 1)) [(.ι (.m 100 (.v 0)) (.v 1)),(.ι (.v 2) (.v 0))] [[1,1,100]] rfl Φ aH)];exact tj (Ξ a4.2 j z Ρ Φ)
structure oq(p:bP)(count n:Y)(nd:cT):Prop where
 ok:∀{m:Y} {c:Ι} {Q:O->Ι->Prop} {Er:Prop} {pl:J} {bH:Y},n<=m->al 24 pl->(nd.ev=true->4∣pl)->bH<count->(∀a b,0<b->al 3900 a->al 3900 b->(nd.f pl)[bH]?=some (c8 a b)->Q (.tup [.int a,.int b]) c)->
  aF p m (.val (.ref 722)) [nd.ek,.int (bH:Y),.int pl] c Q Er
noncomputable abbrev O9(ek:O)(bH:Y)(pl:J)(x3 x4 x5 x6 x7 dQ fW eG:ξ O):Ο:=[some ek,some (.int bH),some (.int pl),x3,x4,x5,x6,x7,dQ,fW,eG,none,none]
section
variable{α:Type}{tgt:O->Ο->(Ο->Prop)->Prop}{d1:Ο->Ι->(Ο->Ι->Prop)->(Ο->Ι->Prop)->Prop}{aN:Ο->Ι->(O->Ο->Ι->Prop)->Prop}{dd:I O->Ο->Ι->Prop}{f:α->O}
theorem afa(O':α->aQ)(st:ξ α->Ο)(l:I α):∀(acc:I O) (o:ξ α),(∀x∈l,∀o acc (K:I O->Ο->Ι->Prop),K (if O' x=true then acc++[f x] else acc) (st (some x)) c->uR tgt d1 aN (f x) acc (st o) c K)->(∀o,dd (acc++(l.filter O').map f) (st o) c)->
 dT tgt d1 aN (l.map f) acc (st o) c dd:=by
 induction l with
 |nil=>intro acc o h eH;have:=eH o;rw[List.filter_nil,RO,gj] at this;exact this
 |cons x l Ξ=>
  intro acc o h eH;refine h x (.head _) o acc (λacc ρ c=>dT tgt d1 aN (l.map f) acc ρ c dd) (Ξ _ _ (λy aX=>h y (.tail _ aX)) λo=>?_);have:=eH o;rw[List.filter_cons] at this;split at this
  ·rename_i e;rw[cz e];rw[i4] at this;rw[oy];exact this
  ·rename_i e;rw[bL e];exact this
end
section
variable{pl:J}{bH:Y}{D:I (Y×O)}{η:b5}{nd:cT}
theorem Bj(G:ar p)(jV:bl D 64=some (.int low))(me:bl D 57=some (.int high))(g:dN low high)(h:bh p a1 a6 Er n (a9 Aa) (O9 (.Ω D) bH (dr low high pl) none none none none none none none none) c (λH c'=>Q .none c') (λx H c'=>Q x c')):aF p (n+1) (.val (.ref 722)) [.Ω D,.int (bH:Y),.int pl] c Q Er:=by
 refine e7 g λfH e1 ew=>?_;try clear g
 refine aa5 G rfl ?_;refine cO jV ⟨bT (i:=7) (j:=11) (by decide) (.of (n:=2001) (rL fH ew e1) (by decide)) (by decide),?_⟩;refine Nz ?_;refine cO me ⟨bT (i:=7) (j:=11) (by decide) (.of (n:=2001) (vV fH ew e1) (by decide)) (by decide),?_⟩;refine Ny ?_;exact h
theorem xK{x3 x4 x5 x6 x7 eG:ξ O}(xH:bl D 63=some (jX η))(Τ:∀ls,η=some ls->fG count ls)(ab:bH<count)(Θ:count<=2)(Κ:0<b)(gp:al 3900 a)(e3:al 3900 b)(Χ:rs[bH]?=some (c8 a b))(h:∀a b,0<b->al 3900 a->al 3900 b->(jn η rs)[bH]?=some (c8 a b)->Q (.tup [.int a,.int b]) c):
 bh p a1 a6 Er n (a9 (a9 Aa)) (O9 (.Ω D) bH pl x3 x4 x5 x6 x7 (some (.int a)) (some (.int b)) eG) c (λH c'=>Q .none c') (λx H c'=>Q x c'):=by
 refine cO xH ?_;rcases η with _|ls
 ·exact h a b Κ (gp.mono (by decide)) (e3.mono (by decide)) Χ
 ·have lr:=Τ ls rfl;have dh:bH<ls.length:=by rw[lr.len];exact ab
  have jd:ls[bH]?=some ls[bH]:=gY dh;refine e7 (lr.ok _ (kR dh)) λf4 gN ev=>?_;generalize ls[bH]=x at jd f4 gN ev;refine cO xH ?_;refine cO (v:=.int bH) rfl ?_;refine cO (l9 (f:=n5) jd (by rw[lr.len];exact aR Θ rfl)) ?_;have Φ:(jn (some ls) rs)[bH]?=some (c8 (ve a b x.1 x.2).1 (ve a b x.1 x.2).2):=by
   rw[ae5 Κ];show(iw _ rs ls)[bH]?=_;rw[RY,Χ,jd]
  have cq:∀dU cv,ve a b x.1 x.2=(dU,cv)->0<cv->al 3900 dU->al 3900 cv->Q (.tup [.int dU,.int cv]) c:=λdU cv e Α Δ κ=>h dU cv Α Δ κ (by rw[e] at Φ;exact Φ);have Pa:vr 100 a:=bT (i:=7) (by decide) gp (by decide);refine ft Pa (bT gN e3 (by decide)) ?_;refine d4 (λe=>?_) λe=>?_
  ·exact cq _ _ (cz e) (by decide) (gN.mono (by decide)) (by decide)
  ·refine ft Pa (bT ev e3 (by decide)) ?_;refine d4 (λaT=>?_) λaT=>?_
   ·exact cq _ _ ((bL e).trans (cz aT)) (by decide) (ev.mono (by decide)) (by decide)
   ·exact cq _ _ ((bL e).trans (bL aT)) Κ (gp.mono (by decide)) (e3.mono (by decide))
end
section
variable{pl:J}{bH:Y}{D:I (Y×O)}{η:b5}{nd:cT}{P:cT->Prop}
theorem vf{l:I J}(h:bH<l.length)(Τ:l.length<=10000):eX (b2 l) (bH:Y)=some (.int l[bH]):=l9 (f:=O.int) (gY h) Τ
theorem afb{N:Y}{ak ag:I J}(G:ar p)(Θ:count<=2)(g:dN low high)(Τ:∀ls,η=some ls->fG count ls)(bZ:N<=64)(h0:ak.length=count)(Α:ag.length=count)(eD:∀a∈ak,-1000<=a/\a<=1000)(dv:∀a∈ag,-1000<=a/\a<=1000):
 oq p count 1 ⟨sG low high η N ak ag,pC low high η N ak ag,low,high,false,Aw low high η N ak ag⟩:=by
 refine⟨λ{m c Q Er pl bH} hm b0 _ ab h=>?_⟩;obtain⟨m,rfl⟩:∃cR,m=cR+1:=⟨m - 1,by exact CF hm⟩;refine Bj G rfl rfl g ?_;have sc:=uW (pl:=pl) g;have dI:bH<ak.length:=tG h0 ab;have cY:bH<ag.length:=tG Α ab;have Bk:18*N<=18*64:=mm _ bZ;have kH:=eD _ (kR dI);have fB:=dv _ (kR cY);have eA:=vf dI (cJ h0 Θ rfl);have hq:=vf cY (cJ Α Θ rfl);have Bl:al 1200 ((10000:J)^N):=(al.pow (a:=10000) (i:=14) (by decide) (by decide) N).mono (θ [_] [] (.le (.a (.m 14 (.v 0)) (.c 1)) (.c 1200)) [(.le (.m 18 (.v 0)) (.m 18 (.c 64)))] [[9,7]] rfl Bk);have Pb:al 1200 (dr low high pl^N):=(sc.pow (by decide) N).mono (mn Bk (by decide));have Φ:(iw (jY (aq (dr low high pl)) N) (b7 ak) (b7 ag))[bH]?=some (c8 (ak[bH]*10000^N+dr low high pl^N*(ag[bH] - ak[bH])) (100*10000^N)):=by
  rw[RY];unfold b7;rw[p1,p1,gY dI,gY cY,<-ae6];rfl
 generalize ak[bH]=pO at kH eA Φ;generalize ag[bH]=Β at fB hq Φ;have jl:al 11 pO:=.of (n:=1001) (yB kH.1 kH.2) (by decide);have ds:al 11 Β:=.of (n:=1001) (yB fB.1 fB.2) (by decide);have sR:(0<=((N:Y):J)/\(s9 10000:J)*((N:Y):J)<=2^27):=⟨jt N,kA (i:=14) (j:=N) (by decide) (θ [_] [] (.le (.m 14 (.v 0)) (.c 100000000)) [(.le (.m 18 (.v 0)) (.m 18 (.c 64)))] [[9,7]] rfl Bk)⟩;refine cO eA ?_;refine ft sR (bT (i:=7) (by decide) Bl (by decide)) ?_;refine ft sR (bT jl Bl (by decide)) (⟨⟨jt N,kA (i:=18) (j:=N) sc (aP Bk (ei _ _))⟩,?_⟩);refine cO hq ⟨bT Pb (ds.sub jl) (by decide),?_⟩;refine xK (D:=[(60,.int 2),(64,.int low),(57,.int high),(63,jX η),(78,.int N),(83,pB ak ag)]) rfl Τ ab Θ ?_ ?_ ?_ Φ h
 ·show(0:J)<100*10000^N;exact θ [] [((10000^_):J)] (.ι (.a (.c 0) (.c 1)) (.m 100 (.v 0))) [(.ι (.a (.c 0) (.c 1)) (.v 0))] [[1,100]] rfl (B2 (by decide))
 ·exact(al.add ((jl.mul Bl).mono (by decide:11+1200<=1300)) ((Pb.mul (ds.sub jl)).mono (by decide))).mono (by decide)
 ·exact(al.mul (a:=100) (i:=7) (by decide) Bl).mono (by decide)
theorem afc{k:Y}{ak ag:I J}(G:ar p)(Θ:count<=2)(g:dN low high)(Η:1<=k/\k<=4)(h0:ak.length=count)(Α:ag.length=count)(eD:∀a∈ak,0<=a/\a<256^k)(dv:∀a∈ag,0<=a/\a<256^k):
 oq p count 1 ⟨xq low high (some (fq count k)) k ak ag,qT low high (some (fq count k)) k ak ag,low,high,false,Fz low high (some (fq count k)) ak ag⟩:=by
 refine⟨λ{m c Q Er pl bH} hm b0 _ ab h=>?_⟩;obtain⟨m,rfl⟩:∃cR,m=cR+1:=⟨m - 1,by exact CF hm⟩;refine Bj G rfl rfl g ?_;have hS:=sL (pl:=pl) g;have mc:=uU Η.2;have dI:bH<ak.length:=tG h0 ab;have cY:bH<ag.length:=tG Α ab;have kH:al 33 ak[bH]:=mc.1.le (by have:=eD _ (kR dI);omega);have fB:al 33 ag[bH]:=mc.1.le (by have:=dv _ (kR cY);omega);have eA:=vf dI (cJ h0 Θ rfl);have hq:=vf cY (cJ Α Θ rfl);refine e7 g λfH e1 ew=>?_;try clear g
 have Φ:(iw (pD (qU low high (dr low high pl))) ak ag)[bH]?=some (c8 (ak[bH]*max 1 (100*(high - low))+(ag[bH] - ak[bH])*(dr low high pl - 100*low)) (max 1 (100*(high - low)))):=by
  rw[RY,gY dI,gY cY,<-ae7 _ _ _ _ _ e1 ⟨hS.1,hS.2.1⟩]
 generalize ak[bH]=pO at kH eA Φ;generalize ag[bH]=Β at fB hq Φ;refine⟨bT (i:=7) (j:=13) (by decide) (.of (n:=4001) (θ [] [_,_] (.cA (.s (.v 1) (.v 0)) (.c 4001)) [(.ι (.g (.c 2000)) (.v 0)),(.ι (.v 1) (.c 2000)),(.ι (.v 0) (.v 1))] [[1,1,1],[1,0,0,1]] rfl fH ew e1) (by decide)) (by decide),?_⟩;refine Nz ?_;have e3:al 20 (max 1 (100*(high - low))):=.of (n:=400001) (ej (fI (by decide) (aje _ _)) (Int.max_lt.mpr ⟨by decide,θ [] [_,_] (.ι (.a (.m 100 (.s (.v 0) (.v 1))) (.c 1)) (.c 400001)) [.ι (.g (.c 2000)) (.v 1),.ι (.v 0) (.c 2000)] [[1,100,100]] rfl fH ew⟩)) (by decide);have Pc:al 20 (dr low high pl - 100*low):=.of (n:=400001) (θ [] [_,_,_] (.cA (.s (.v 1) (.m 100 (.v 0))) (.c 400001)) [(.ι (.m 100 (.v 0)) (.v 1)),(.ι (.g (.c 2000)) (.v 0)),(.ι (.v 1) (.m 100 (.v 2))),(.ι (.v 2) (.c 2000))] [[1,0,100,1,100],[1,1]] rfl hS.1 fH hS.2.1 ew) (by decide);refine cO eA ⟨bT kH e3 (by decide),cO hq (cO eA ⟨bT (i:=7) (j:=11) (by decide) (.of (n:=2001) (rL fH ew e1) (by decide)) (by decide),bT (fB.sub kH) Pc (by decide),?_⟩)⟩;exact xK (D:=[(60,.int 0),(64,.int low),(57,.int high),(63,jX (some (fq count k))),(40,.int (8*k)),(83,pB ak ag)]) rfl (λls e=>by obtain rfl:=bQ e;exact AO Η.2) ab Θ (fI (by decide) (aje _ _)) ((al.add ((kH.mul e3).mono (by decide:33+20<=100)) (((fB.sub kH).mul Pc).mono (by decide))).mono (by decide)) (e3.mono (by decide)) Φ h
theorem afd{ls:I (J×J)}{neg add:J}(G:ar p)(Θ:count<=2)(g:dN low high)(Τ:fG count ls)(γ:0<=add/\add<256):
 oq p count 1 ⟨Ax low high (some ls) neg add count,qV low high (some ls) neg add count,low,high,false,FA low high (some ls) neg add count⟩:=by
 refine⟨λ{m c Q Er pl bH} hm b0 _ ab h=>?_⟩;obtain⟨m,rfl⟩:∃cR,m=cR+1:=⟨m - 1,by exact CF hm⟩;refine Bj G rfl rfl g ?_;have sc:=uW (pl:=pl) g;have qD:∀iP,some ls=some iP->fG count iP:=λiP e=>by obtain rfl:=bQ e;exact Τ
 have Φ:((fK count).map (l8 (aq (dr low high pl)) neg add))[bH]?=some (c8 ((if neg=0 then dr low high pl else 0 - dr low high pl)+10000*(add+bH)) 10000):=by
  rw[p1,List.getElem?_range ab,<-ae8];rfl
 have eC:al 30 (10000*(add+bH)):=.of (n:=10000*300) (θ [_,_] [_] (.cA (.m 10000 (.a (.v 0) (.n (.v 1)))) (.m 10000 (.c 300))) [(.ι (.c 0) (.v 0)),(.le (.v 0) (.c 2)),(.ι (.a (.v 0) (.c 1)) (.c 256)),(.le (.a (.v 1) (.c 1)) (.v 0))] [[1,0,10000,10000,10000],[1,10000]] rfl γ.1 Θ γ.2 ab) (by decide);have m:vr 10000 (add+bH):=bT (i:=14) (j:=9) (by decide) (.of (n:=300) (θ [_,_] [_] (.cA (.a (.v 0) (.n (.v 1))) (.c 300)) [(.ι (.c 0) (.v 0)),(.le (.v 0) (.c 2)),(.ι (.a (.v 0) (.c 1)) (.c 256)),(.le (.a (.v 1) (.c 1)) (.v 0))] [[1,0,1,1,1],[1,1]] rfl γ.1 Θ γ.2 ab) (by decide)) (by decide);refine d4 (λe=>⟨m,?_⟩) λe=>⟨m,?_⟩
 ·have e:neg=0:=e;rw[cz e] at Φ;exact xK (D:=[(60,.int 4),(64,.int low),(57,.int high),(63,jX (some ls)),(79,.lst [.int neg,.int add,.int count])]) rfl qD ab Θ (by decide) ((al.add (sc.mono (by decide:18<=30)) eC).mono (by decide)) (by decide) Φ h
 ·have e:¬neg=0:=e;rw[bL e] at Φ;exact xK (D:=[(60,.int 4),(64,.int low),(57,.int high),(63,jX (some ls)),(79,.lst [.int neg,.int add,.int count])]) rfl qD ab Θ (by decide) ((al.add (al.sub (a:=0) (i:=29) (by decide) (sc.mono (by decide))) eC).mono (by decide)) (by decide) Φ h
theorem Pd(G:ar p)(Θ:count<=2)(h:gs count nd):oq p count 1 nd:=by
 rcases h with ⟨low,high,η,N,ak,ag,g,Τ,bZ,h0,Α,eD,dv⟩|⟨low,high,k,ak,ag,g,Η,h0,Α,eD,dv⟩|⟨low,high,ls,neg,add,g,Τ,Ζ,γ⟩
 ·exact afb G Θ g Τ bZ h0 Α eD dv
 ·exact afc G Θ g Η h0 Α eD dv
 ·exact afd G Θ g Τ γ
end
section
variable{pl:J}{bH:Y}{D:I (Y×O)}{η:b5}{nd:cT}{P:cT->Prop}
theorem afe(G:ar p)(Θ:count<=2)(h:Ay P count nd)(Ξ:∀nd,P nd->oq p count n nd):oq p count (n+1) nd:=by
 cases h with
 |mk low high η ς parts more Ε=>
 refine⟨λ{m c Q Er pl bH} hm b0 ay ab h=>?_⟩;refine .at hm ?_;refine Bj G rfl rfl Ε.g ?_;have hS:=sL (pl:=pl) Ε.g;have om:=Ε.big;have dD:=Ε.gI;refine yt (FN hS.2.1 ς low parts Ε.len Ε.up hS.1) λx cv aT g=>?_;have Ν:=Ε.ok x (j8 g.part);have gl:=g.le;have hM:=g.qZ;have aO:=Ε.g;unfold dN at aO;have nW:=Ν.start;have xL:=Ν.eL;have dH:(xr low high η ς parts pl)=jn η (qW low ς parts (dr low high pl)):=rfl;have h:∀a b,0<b->al 3900 a->al 3900 b->(jn η (qW low ς parts (dr low high pl)))[bH]?=some (c8 a b)->Q (.tup [.int a,.int b]) c:=h;have aff:=g.f;have afg:=g.part;have σ:=Ob ς (dr low high pl);have Pe:(low::ς)[kB ς (dr low high pl)]?=some cv:=by
  have:=g.lo;rw[<-oI,rx (by rw[kP];exact Jd σ)] at this;exact this
 have afh:=ae9 (v:=dr low high pl) ς Ε.up;clear dH g;generalize dr low high pl=cl at*;generalize kB ς cl=s at*;have gb:[O.int low]++b2 ς=b2 (low::ς):=rfl;have gf:(b2 (low::ς)).length=ς.length+1:=by unfold b2;rw[bV];rfl
 refine⟨by rw[(by unfold b2;rw[bV]:(b2 ς).length=ς.length)];show 1+ς.length<=10000;exact IA om,?_⟩;rw[gb];refine eK (aP (gw gf) (aP (BA om _) (by decide))) ?_;rw[gf];refine⟨m' (gL om rfl),?_⟩;rw[lm,n7];have afi:∀z∈low::ς,-2000<=z/\z<=2000:=λz Ρ=>by
  rcases eR.mp Ρ with e|e
  ·rw[e];exact tC aO.1 aO.2.2 aO.2.1
  ·have:=vd Ε.up z e;exact tD aO.1 aO.2.2 this.2 this.1
 refine afa (λi=>decide (100*(low::ς).getD i 0<=cl)) (λo:ξ Y=>[some (.Ω (jZ low high η ς parts++more)),some (.int bH),some (.int cl),some (.lst (b2 (low::ς))),none,none,none,none,none,none,none,none,none,o.map λi=>.int (i:Y)]) (fK (ς.length+1)) [] none (λi hi o acc K aC=>?_) λo=>?_
 ·have xk:i<(low::ς).length:=(mw.mp hi);have e:(low::ς).getD i 0=(low::ς)[i]:=by rw[lA,gY xk];rfl
  have Ρ:=afi _ (kR xk);rw[e] at aC;refine cO (vf xk (by rw[kP];exact gL om rfl)) ⟨bT (i:=7) (j:=11) (by decide) (.of (n:=2001) (yC Ρ.1 Ρ.2) (by decide)) (by decide),?_⟩;refine d4 (λh=>?_) λh=>?_
  ·rw[cz (jw h)] at aC;exact aC
  ·rw[bL (by rw[ro h];decide)] at aC;exact aC
 have fR:[]++((fK (ς.length+1)).filter λi=>decide (100*(low::ς).getD i 0<=cl)).map (λi=>O.int (i:Y))=pt (((fK (ς.length+1)).filter λi=>decide (100*(low::ς).getD i 0<=cl)).map λi:Y=>(i:J)):=by
  unfold pt;rw[i6,lG];rfl
 rw[fR];have u7:(s:J)∈((fK (ς.length+1)).filter λi=>decide (100*(low::ς).getD i 0<=cl)).map λi:Y=>(i:J):=by
  refine i5.mpr ⟨s,ajf.mpr ⟨mw.mpr (Jd σ),jw ?_⟩,rfl⟩;rw[lA,Pe];exact gl.1
 refine abW (λe=>by rw[e] at u7;cases u7) λM pF afj=>?_;have afk:M=(s:J):=by
  refine ψ (i5.mp pF) λj cQ aV=>?_;rcases aV with rfl
  refine aa (ajf.mp cQ) λPg Bm=>?_;have Bm:=air Bm;rw[lA,gY ((mw.mp Pg):j<(low::ς).length)] at Bm;have:=afh j _ (gY ((mw.mp Pg):j<(low::ς).length)) Bm;exact θ [_,_] [] (.ff (.n (.v 1)) (.n (.v 0))) [(.ι (.n (.v 0)) (.n (.v 1))),(.le (.v 1) (.v 0))] [[1,0,1],[1,1]] rfl (afj _ u7) this
 subst afk;refine cO (l9 (f:=m8) afg (aR dD rfl)) ?_;refine⟨bT (i:=7) (j:=11) (by decide) (.of (a:=x.2.1) (n:=2001) (yC nW.1 nW.2) (by decide)) (by decide),cO (l9 (f:=O.int) Pe (by rw[kP];exact gL om rfl):eX (b2 (low::ς)) (s:Y)=some (.int cv)) ⟨bT (i:=7) (j:=11) (by decide) (.of (a:=cv) (n:=2001) (θ [] [_,_,_,_] (.cA (.v 2) (.c 2001)) [(.ι (.g (.c 2000)) (.v 0)),(.ι (.v 1) (.c 2000)),(.ι (.v 0) (.v 2)),(.ι (.v 3) (.v 1)),(.ι (.v 2) (.v 3))] [[1,0,1,0,1,1],[1,1,0,1]] rfl aO.1 aO.2.2 hM.1 hM.2.2 hM.2.1) (by decide)) (by decide),bT (.of (a:=x.2.2) (n:=9) (Cv xL.1 xL.2) (by decide):al 4 x.2.2) (.of (n:=400001) (θ [] [_,_,_,_,_] (.cA (.s (.v 1) (.m 100 (.v 0))) (.c 400001)) [(.ι (.m 100 (.v 0)) (.v 1)),(.ι (.g (.c 2000)) (.v 2)),(.ι (.v 1) (.m 100 (.v 3))),(.ι (.v 4) (.c 2000)),(.ι (.v 2) (.v 0)),(.ι (.v 3) (.v 4))] [[1,0,100,1,100,100,100],[1,1]] rfl gl.1 aO.1 gl.2 aO.2.2 hM.1 hM.2.2) (by decide):al 20 (cl - 100*cv)) (by decide),⟨⟨by decide,iO (i:=4) (by decide) (by decide)⟩,?_⟩⟩⟩;rw[nx _ (by decide)];refine(Ξ x.1 Ν.ok).ok (i2 _) (FP Ν.start Ν.eL (θ [] [_,_,_,_,_] (.an (.ι (.c 0) (.s (.v 1) (.m 100 (.v 0)))) (.ι (.s (.v 1) (.m 100 (.v 0))) (.c 400000))) [(.ι (.m 100 (.v 0)) (.v 1)),(.ι (.g (.c 2000)) (.v 2)),(.ι (.v 1) (.m 100 (.v 3))),(.ι (.v 4) (.c 2000)),(.ι (.v 2) (.v 0)),(.ι (.v 3) (.v 4))] [[1,1],[1,0,100,1,100,100,100]] rfl gl.1 aO.1 gl.2 aO.2.2 hM.1 hM.2.2)) (λev=>Oe (CB (hS.2.2 (ay rfl))) (Ν.whole ev)) ab λa b Κ gp e3 Χ=>?_;rw[<-aff] at Χ;exact xK (D:=jZ low high η ς parts++more) rfl Ε.Τ ab Θ Κ gp e3 Χ h
theorem afl(G:ar p)(Θ:count<=2):∀(L:Y) {nd:cT},pE count L nd->oq p count (1+L) nd:=by
 intro L
 induction L with
 |zero=>exact λh=>Pd G Θ h
 |succ L Ξ=>
  intro nd h;rcases h with h|h
  ·have:=Pd G Θ h;exact⟨λhm=>this.ok (aP (io _ _) hm)⟩
  ·exact afe G Θ h λnd h=>Ξ h
end
theorem afm(t:J)(q:Y):fo (-t) q=(-(fo t q).1,(fo t q).2):=by
 induction q generalizing t with
 |zero=>rfl
 |succ q Ξ=>
  show(if -t%10=0 then fo (-t / 10) q else (-t,q+1))=(-(if t%10=0 then fo (t / 10) q else (t,q+1)).1,(if t%10=0 then fo (t / 10) q else (t,q+1)).2);by_cases h:t%10=0
  ·rw[cz h,cz (ajg (ajh.mpr (Hu h))),show -t / 10= -(t / 10) by exact RG (Hu h),Ξ]
  ·rw[bL h,bL (λe=>h (ajg (ajh.mp (Hu e))))]
theorem afn{N D A B:J}(eI:0<D)(gR:0<B)(h:N*B=A*D):(2*N+D) / (2*D)=(A*2 / B+1) / 2:=by
 rw[(by rw[Int.add_ediv_of_dvd_right (aji B),Int.ediv_self (tB gR)]:A*2 / B+1=(A*2+B) / B),aiK (tA gR),<-ajj _ _ gR,<-ajj (A*2+B) (B*2) eI];congr 1
 ·rw[Bx,Bx,ot,h];grind
 ·grind
theorem afo{a b:J}(Κ:0<b)(q:Y):sE ((c8 a b).num*10^q) (c8 a b).den=(((a.natAbs*10^q:Y):J)*2 / b+1) / 2*a.sign:=by
 have hd:0<((c8 a b).den:J):=by have:=(c8 a b).den_pos;exact nr.2 this
 have ζ:(0:J)<10^q:=B2 (by decide);have qn:(c8 a b).num*b=a*(c8 a b).den:=by
  have:=yp (c8 a b);exact(Rat.divInt_eq_divInt_iff (GF hd) (tB Κ)).mp this
 unfold sE;generalize (c8 a b).num=N at*;generalize ((c8 a b).den:J)=D at*;have σ:N.sign=a.sign:=by
  have:=cE Int.sign qn
  rwa [RZ,RZ,rz Κ,rz hd,rB,rB] at this
 have γ:(N.natAbs:J)*b=(a.natAbs:J)*D:=by
  have:=cE Int.natAbs qn;rw[ym,ym] at this;have:=cE (λn:Y=>(n:J)) this;simp only[ou] at this
  rwa [show(b.natAbs:J)=b by exact yE Κ,show(D.natAbs:J)=D by exact yE hd] at this
 rw[RZ,σ,rz ζ,rz hd,rB,rB,show(D.natAbs:J)=D by exact yE hd];congr 1;refine afn hd Κ ?_;rw[ym,ou,ou,show((10^q:J).natAbs:J)=10^q by omega,Hr];show(N.natAbs:J)*10^q*b=(a.natAbs:J)*10^q*D;rw[ot,vl _ b,<-ot,γ,ot,vl D,<-ot]
section
variable{pl:J}{bH q:Y}
theorem afp(G:ar p)(Ζ:1<=n)(Κ:0<b)(gp:al 3900 a)(e3:al 3900 b)(av:q<=10)(h:Q (iQ (ig q (c8 a b))) c):aF p n (.val (.ref 729)) [.int a,.int b,.int q] c Q Er:=by
 refine .at Ζ ?_;refine aa6 G rfl ?_;refine qK ?_;have ζ:al 41 ((10:J)^q):=(As q).mono (SK av);refine p7 ⟨jt q,kA (i:=4) (j:=q) (by decide) (qa av rfl)⟩ (bT gp.abs ζ (by decide)) (bT (j:=2) (gp.abs.mul ζ) (by decide) (by decide)) (⟨⟨by exact tB Κ,iO e3 (by decide)⟩,⟨⟨by decide,iO (i:=2) (by decide) (by decide)⟩,?_⟩⟩);unfold ig at h;rw[afo Κ] at h;have iM:kN (kN ((a.natAbs:J)*10^(q:J).toNat*2) b+1) 2=(((a.natAbs*10^q:Y):J)*2 / b+1) / 2:=by
  rw[nx _ (by decide:(0:J)<=2),nx _ (tA Κ),(by rw[ou,Hr];rfl:(a.natAbs:J)*10^(q:J).toNat*2=((a.natAbs*10^q:Y):J)*2)]
 have Ph:a=0->(((a.natAbs*10^q:Y):J)*2 / b+1) / 2=0:=λe=>by subst e;simp
 generalize ((((a.natAbs*10^q:Y):J)*2 / b+1) / 2)=S at iM h Ph;refine⟨λm ρ c'=>c'=c/\∃t:J,ρ=[some (.int a),some (.int b),some (.int (m:Y)),some (.int t)]/\fo t m=fo S q,⟨q,rfl,_,rfl,by rw[iM]⟩,?_⟩;intro m ρ c' be;refine aa be λaV aW=>?_;try clear be;rcases aV with rfl;refine ψ aW λt bM δ=>?_;try clear aW;rcases bM with rfl
 have cq:¬(0<(m:J)/\fJ t 10=0)->bh p a1 a6 Er 0 (a9 (a9 E6)) [some (.int a),some (.int b),some (.int (m:Y)),some (.int t)] c' (λH c'=>Q .none c') (λx H c'=>Q x c'):=λe=>by
  rw[NI t m e] at δ;refine d4 (λΑ=>?_) λΑ=>?_
  ·rw[rz Α,rB,<-δ] at h;exact h
  ·have bk:iQ (fo (S*a.sign) q)= .tup [.int (0 - t),.int m]:=by
    have du:S*a.sign= -S:=by
     rcases Qd (ly.mp Α) with Δ|Δ
     ·rw[B1 Δ];exact(by simp)
     ·rw[Ph Δ,xX];rfl
    rw[du,afm,<-δ,aiX];rfl
   rw[bk] at h;exact h
 refine d4 (λh0=>?_) λh0=>?_
 ·refine⟨by decide,?_⟩;refine d4 (λΑ=>?_) λΑ=>?_
  ·refine⟨⟨by decide,iO (i:=4) (by decide) (by decide)⟩,m - 1,by exact Ie h0,rfl,kN t 10,?_,?_⟩
   ·show[some (O.int a),some (O.int b),some (.int ((m:J) - 1)),some (.int _)]=_;rw[show(m:J) - 1=((m - 1:Y):J) by omega]
   ·rw[NJ t _ Α,show m - 1+1=m by exact Ic h0,δ]
  ·exact cq λe=>Α e.2
 ·exact cq λe=>h0 e.1
end
noncomputable abbrev kJ(low high:J):O:=.lst [hx (100*low),hx (100*high)]
noncomputable abbrev Pj(low high:J)(v:O):I (Y×O):=[(20,.int 3),(17,kJ low high),(21,.lst [v]),(10,.lst []),(18,kJ low high)]
noncomputable def lw(low high:J):Y->O->O
 |0,v=>v
 |n+1,v=>.Ω (Pj low high (lw low high n v))
noncomputable def pS(low high:J)(nd:cT):Y->cT
 |0=>nd
 |n+1=>pJ low high none [] [(pS low high nd n,low,4)] []
section
variable{pl:J}{bH q:Y}{x fn:O}{nd:cT}{η:b5}{ς:I J}{parts:I cP}{more:I (Y×O)}
theorem Pk{s3:Y}(G:ar p)(Ζ:1<=n)(Τ:s3<=100)(h:Q (lw low high s3 v) c):aF p n (.val (.ref 767)) [v,kJ low high,.int s3] c Q Er:=by
 refine .at Ζ ?_;refine abb G rfl ?_;refine⟨m' (aR Τ rfl),?_⟩;rw[lm,n7];refine qX (λrest ρ c'=>c'=c/\∃(k:Y) (o:ξ O),k+rest.length=s3/\ρ=[some (lw low high k v),some (kJ low high),some (.int s3),o]) ?_ ?_ (fK s3) _ _ ⟨rfl,0,none,by simp,rfl⟩
 ·intro x rest ρ c' K be aC;apply p8 be;intro aW;refine gy aW λk o Η bM=>?_;try clear aW;rcases bM with rfl
  exact aC _ _ ⟨rfl,k+1,_,by rw[kP] at Η;exact yL Η,rfl⟩
 ·intro ρ c' be;apply p8 be;intro aW;refine gy aW λk o Η bM=>?_;try clear aW;rcases bM with rfl
  have:k=s3:=CN Η;subst this;exact h
theorem Bn(g:dN low high):bn 64 (aq (100*low))/\bn 64 (aq (100*high)):=⟨g.eE.1.mono (by decide),g.eE.2.mono (by decide)⟩
theorem vg(a:J):hX (cp t 30 (hx a)) (aq a):=by rw[fp (Of a)];exact n' a
theorem Pl{l:I (Y×O)}{k:Y}(g:dN low high)(e:bl l k=some (kJ low high)):e9 t l k [aq (100*low),aq (100*high)]:=by
 have z:(bl l k).getD O.none=kJ low high:=by rw[e];rfl
 refine⟨[hx (100*low),hx (100*high)],⟨by rw[z];exact .lst _,by unfold hu;rw[z];exact fp rfl 30⟩,?_⟩;exact .cons (n' _).c7 (vg _) (Bn g).1 (.cons (n' _).c7 (vg _) (Bn g).2 .nil)
theorem mg{l:I (Y×O)}{k:Y}{v:O}(e:bl l k=some v)(Η:bU v)(Χ:refOf v=none):cC t l k v:=by
 have z:(bl l k).getD O.none=v:=by rw[e];rfl
 exact⟨by rw[z];exact Η,by unfold hu;rw[z];exact fp Χ 30⟩
theorem Pm(g:dN low high):gt count t 3 low high none (Pj low high v):=
 ⟨mg rfl (.int 3) rfl,Pl g rfl,xG rfl,g,(λH e=>nomatch e),bu rfl⟩
theorem vh(Η:bU v)(Χ:refOf v=none):∀n,bU (lw low high n v)/\refOf (lw low high n v)=none
 |0=>⟨Η,Χ⟩
 |n+1=>⟨.Ω _,rfl⟩
theorem afq(g:dN low high)(Η:bU v)(Χ:refOf v=none)(Ε:eF count t L nd.fn v)(n:Y):eF count t (L+n) (pS low high nd n).fn (lw low high n v):=by
 induction n with
 |zero=>exact Ε
 |succ n Ξ=>
  have ζ:=vh (low:=low) (high:=high) Η Χ n;refine .nf [(lw low high n v,(pS low high nd n).fn)] ⟨Pm g,g.2.1,rfl,bu rfl,⟨[],mg rfl (.lst []) rfl,.nil⟩,?_⟩ (mg rfl (.lst _) rfl) rfl (λz Ρ=>?_) λz Ρ=>?_
  ·have e:dq ((hY low ([]++[high]) [(pS low high nd n,low,4)]).map n6)=[aq (100*low),aq (100*high)]:=by
    show[aq (100*low),aq (100*low+25*4*(high - low))]=_;rw[show 100*low+25*4*(high - low)=100*high by exact(by simp+arith)]
   rw[e];exact Pl g rfl
  ·rcases eR.mp Ρ with rfl|h
   ·exact ζ.1
   ·contradiction
  ·rcases eR.mp Ρ with rfl|h
   ·rw[fp ζ.2];exact Ξ
   ·contradiction
theorem afr(g:dN low high)(Η:bU v)(Χ:refOf v=none)(Ε:j2 count t L v)(n:Y):j2 count t (L+n) (lw low high n v):=by
 induction n with
 |zero=>exact Ε
 |succ n Ξ=>
  have ζ:=vh (low:=low) (high:=high) Η Χ n;refine .nf (Pm g) [] (lw low high n v) [] (mg rfl (.lst _) rfl) (bu rfl) (λH h=>nomatch h) ζ.1 ?_;rw[fp ζ.2];exact Ξ
theorem pE.of(L:Y):∀{nd:cT},Tree count L nd->pE count L nd:=by
 induction L with
 |zero=>exact λh=>h
 |succ L Ξ=>
  intro nd h;refine Cc h λlow high η ς parts more aV S H=>?_;try clear h;rcases aV with rfl
  have afs:∀L {nd:cT},gs count nd->pE count L nd:=λL nd h=>by
   rcases L with _|L
   ·exact h
   ·exact .inl h
  exact .inr ⟨low,high,η,ς,parts,more,⟨S.g,S.up,S.len,S.gI,S.Τ,λx Ν=>⟨(S.ok x Ν).ok.elim (afs L) Ξ,(S.ok x Ν).start,(S.ok x Ν).eL,(S.ok x Ν).whole⟩⟩⟩
theorem aft(g:dN low high)(Ε:pE count L nd)(n:Y):pE count (L+n) (pS low high nd n):=by
 induction n with
 |zero=>exact Ε
 |succ n Ξ=>
  refine e7 g λfH e1 ew=>?_;try clear g
  refine .inr ⟨low,high,none,[],[(pS low high nd n,low,4)],[],⟨⟨fH,e1,ew⟩,e1,rfl,bu rfl,(λH e=>nomatch e),λx Ν=>?_⟩⟩;refine my Ν ?_ λh=>?_
  ·exact⟨Ξ,⟨fH,by show low<=2000;exact hc e1 ew⟩,(by decide:(-8:J)<=4/\(4:J)<=8),λH=>aji 4⟩
  ·contradiction
theorem afu(g:low<=high):dr low high (dr low high pl)=dr low high pl:=by unfold dr;exact(ai6 (100*_) (100*_)).elim (λh=>(cE (min · (100*_)) (RN (ai4.mpr ⟨Hs _ _,h⟩))).trans (B4 (ai5 _ _))) (λh=>(B5 (hc h (Hs _ _))).trans (B5 (hc h (Hs _ _))).symm)
theorem afv(g:low<=high)(n:Y):∀pl,(pS low high (pJ low high η ς parts more) n).f pl=xr low high η ς parts pl:=by
 induction n with
 |zero=>exact λH=>rfl
 |succ n Ξ=>
  intro pl;show(pS low high (pJ low high η ς parts more) n).f (100*low+4*(dr low high pl - 100*low) / 4)=_;rw[Ξ,Hl _ (by decide),show 100*low+(dr low high pl - 100*low)=dr low high pl by exact(by simp+arith)];unfold xr;rw[afu g]
end
section
variable{N:Y}{k g pl kind:J}{bH q:Y}{χ:I (J×O)}{x fn:O}{nd:cT}{η:b5}{ς:I J}{parts:I cP}{more:I (Y×O)}{T:ε}{items:I O}
theorem Pn(Τ:b3 t χ)(n:Y):∀{x v:O},cp t n x=v->v≠.none->cp χ n x=v:=by
 induction n with
 |zero=>exact λh H=>h
 |succ n Ξ=>
  intro x v h Φ;have h:(match refOf x with|some y=>if (dY t y.1).1=y.2 then cp t n (dY t y.1).2 else .none|none=>x)=v:=h;show(match refOf x with|some y=>if (dY χ y.1).1=y.2 then cp χ n (dY χ y.1).2 else .none|none=>x)=v;rcases e:refOf x with _|y
  ·rw[e] at h;exact h
  ·rw[e] at h;have h:(if (dY t y.1).1=y.2 then cp t n (dY t y.1).2 else .none)=v:=h;rcases aT:cW t y.1 with _|z
   ·rw[(by unfold dY;rw[aT]:dY t y.1=(-1,.none)),fp rfl] at h;exact absurd (by split at h<;>exact h.symm) Φ
   ·rw[<-(by unfold dY;rw[aT,Τ _ _ aT]:dY χ y.1=dY t y.1)] at h;show(if (dY χ y.1).1=y.2 then cp χ n (dY χ y.1).2 else .none)=v;split at h
    ·rename_i q;rw[cz q];exact Ξ h Φ
    ·rename_i q;rw[bL q];exact h
theorem cC.mono{key:Y}(h:cC t l key v)(Τ:b3 t χ)(Φ:v≠.none):cC χ l key v:=⟨h.c7,Pn Τ 30 h.eq Φ⟩
theorem hX.ne(h:hX v qk):v≠.none:=by rcases h with ⟨⟩<;>exact nofun
theorem gd.mono(h:gd t items rs)(Τ:b3 t χ):gd χ items rs:=by
 induction h with
 |nil=>exact .nil
 |cons k n s l Ξ=>exact .cons k (by rw[Pn Τ 30 rfl n.ne];exact n) s Ξ
theorem gd.app{Po:I O}{m7:I ai}(h:gd t items rs)(h':gd t Po m7):gd t (items++Po) (rs++m7):=by
 induction h with
 |nil=>exact h'
 |cons k n s l Ξ=>exact .cons k n s Ξ
theorem cC.put{eB key:Y}(h:cC t l key v)(Η:bE eB key=false):cC t (putN l eB x) key v:=by
 have e:=eo (j:=key) l x Η;exact⟨by rw[e];exact h.c7,by unfold hu;rw[e];exact h.eq⟩
theorem e9.put{eB key:Y}(h:e9 t l key rs)(Η:bE eB key=false):e9 t (putN l eB x) key rs:=by
 rcases h with ⟨items,s,n⟩
 exact⟨items,s.put Η,n⟩
theorem nc.put{eB:Y}(h:nc t l η)(Η:bE eB 25=false):nc t (putN l eB x) η:=by
 rcases η with _|ls
 ·exact cC.put h Η
 ·exact e9.put h Η
theorem gt.put{eB:Y}(h:gt count t kind low high η l)(Α:bE eB 20=false)(Δ:bE eB 17=false)(κ:bE eB 25=false)(Ρ:l.length<=20):gt count t kind low high η (putN l eB x):=
 ⟨h.kind.put Α,h.c4.put Δ,h.sO.put κ,h.g,h.Τ,by have:=ih l eB x;exact mA this Ρ rfl⟩
theorem no{eB:Y}(Η:bU x)(Φ:cp t 30 x=v):cC t (putN l eB x) eB v:=by
 have z:(bl (putN l eB x) eB).getD O.none=x:=by rw[(oi l eB x)];rfl
 exact⟨by rw[z];exact Η,by unfold hu;rw[z];exact Φ⟩
theorem afw{e:O}(h:cW t k=some (.tup [.int g,dM k g]))(n:Y):cp t n (dM k g)= .none:=by
 induction n with
 |zero=>rfl
 |succ n Ξ=>rw[xF h];exact Ξ
theorem afx(h:cW t k=some (.tup [.int a,v]))(bF:a≠g)(n:Y):cp t n (dM k g)= .none:=by
 rcases n with _|n
 ·rfl
 ·show(if (dY t k).1=g then cp t n (dY t k).2 else O.none)=_;rw[(by unfold dY;rw[h]:dY t k=(a,v)),bL bF]
theorem afy(h:cW t k=none)(bF:g≠-1)(n:Y):cp t n (dM k g)= .none:=by
 rcases n with _|n
 ·rfl
 ·show(if (dY t k).1=g then cp t n (dY t k).2 else O.none)=_;rw[(by unfold dY;rw[h]:dY t k=(-1,.none)),bL λq=>bF q.symm]
theorem Pp{s:J}(h:∀i:Y,i<j->cW t (s+i+1)=some (.tup [.int 0,dM (s+i) 0]))(n:Y):cp t (n+j) (dM (s+j) 0)=cp t n (dM s 0):=by
 induction j with
 |zero=>rw[show s+((0:Y):J)=s by exact s6 _];rfl
 |succ j Ξ=>
  rw[show s+((j+1:Y):J)=s+j+1 by exact(by simp+arith),<-RU,xF (h j (yd j)),Ξ λi hi=>h i (I2 hi)]
end
noncomputable def iZ(p:bP)(T:ε)(v:O)(c:Ι):Prop:=∀Q:O->Ι->Prop,aF p 40 (.val (.ref 626)) [cM T,v,iR] c Q rl
structure s4(count L:Y)(t:I (J×O))(low high:J)(η:b5)(ς:I J)(parts:I cP)(l:I (Y×O))(In eQ eh:I O):Prop where
 S:AP count t low high η ς parts l
 zs:∃zs:I (O×O),zs.map (·.1)=In/\∀z∈zs,bU z.1/\eF count t L z.2 (cp t 30 z.1)
 f:cC t l 21 (.lst In)
 len:In.length=parts.length
 nb:gd t eQ (b7 ς)
 ne:gd t eh (dq ((hY low (ς++[high]) parts).map n6))
 small:l.length<=12
section
variable{N:Y}{k g pl kind:J}{bH q:Y}{χ:I (J×O)}{x fn:O}{nd:cT}{η:b5}{ς:I J}{parts:I cP}{more:I (Y×O)}{T:ε}{items In eQ eh:I O}
theorem q'(G:ar p)(h:∀Q:O->Ι->Prop,bh p a1 a6 rl 39 gU (e' T v iR 0 none none none none none none none) c (λH c'=>Q .none c') (λx H c'=>Q x c')):iZ p T v c:=λQ=>Na G rfl (h Q)
theorem Gk(C:gt count t kind low high η l)(up:lp low ς high):hv 64 (aq (100*low)::(b7 ς++[aq (100*high)])):=by
 have aO:=C.g;unfold dN at aO;have eE:∀y:J,-2000<=y/\y<=2000->bn 64 (aq (100*y)):=λy h=>jW (.of (n:=200001) (rK h.1 h.2) (by decide)) (by decide);intro r Χ;refine my Χ ?_ λΧ=>?_
 ·exact eE low (tC aO.1 aO.2.2 aO.2.1)
 ·rcases hA.mp Χ with h|h
  ·apply iB (i5.mp h);intro y aX;have:=vd up y aX;exact eE y (tD aO.1 aO.2.2 this.2 this.1)
  ·refine my h ?_ λh=>?_
   ·exact eE high (vU aO.1 aO.2.2 aO.2.1)
   ·contradiction
theorem afz:aq (100*low)::(b7 ς++[aq (100*high)])=(low::(ς++[high])).map λa=>aq (100*a):=by simp[b7]
theorem afA(G:ar p)(af:1<=count/\count<=50)(bB:L<=2)(B:s4 count L t low high η ς parts l In eQ eh)(Θ:c T=some (.tab t))(δ:co t)(Η:bU x)(Ν:cp t 30 x= .none){eB:Y}(h0:eB=21∨eB=20∨eB=17∨eB=10∨eB=18):iZ p T (.Ω (putN l eB x)) c:=by
 have C:=B.S.C;refine ψ B.zs λzs e dO=>?_;have j1:zs.length=parts.length:=by rw[<-B.len,<-e,bV]
 have f:=B.f;rw[<-e] at f;refine q' G λQ=>?_;rcases h0 with rfl|rfl|rfl|rfl|rfl
 ·exact Oy G trivial (by decide) Θ δ af (C.put rfl rfl rfl (aR B.small rfl)) (no Η Ν) (.inl rfl)
 ·exact adS G trivial (by decide) Θ δ (no Η Ν)
 ·exact adT G trivial (by decide) Θ δ af (C.kind.put rfl) (no Η Ν) (C.sO.put rfl) C.Τ
 ·exact adX (zs:=zs) G trivial (Iy bB) (aR bB rfl) Θ δ af (C.put rfl rfl rfl (aR B.small rfl)) (f.put rfl) (Jp B.S.len j1 B.S.gI) dO (no Η Ν)
 ·refine adY (zs:=zs) G trivial (Iy bB) (aR bB rfl) Θ δ af (C.put rfl rfl rfl (aR B.small rfl)) (f.put rfl) (Jp B.S.len j1 B.S.gI) dO (B.S.b.put rfl) (by simp[b7];exact(by rw[j1,B.S.len])) rfl (Gk C B.S.up) (by rw[afz];exact Om B.S.up) (no Η Ν)
theorem afB(G:ar p)(af:1<=count/\count<=50)(bB:L<=2)(B:s4 count L t low high η ς parts l In eQ eh)(Θ:c T=some (.tab t))(δ:co t)(Η:bU x)(Ν:cp t 30 x= .none):iZ p T (.Ω (putN l 21 (.lst (In.take (In.length - 1)++[x])))) c:=by
 refine ψ B.zs λzs e dO=>?_;have j1:zs.length=parts.length:=by rw[<-B.len,<-e,bV]
 refine q' G λQ=>?_;rw[(by rw[<-e,ajk]:In.take (In.length - 1)++[x]=(zs.take (In.length - 1)).map (·.1)++x::[])];refine Ow (n:=37) (zs:=zs.take (In.length - 1)) (post:=[]) G (by decide) Θ δ af (by decide) (.Ω _) (fp rfl 30) (B.S.C.put rfl rfl rfl (aR B.small rfl)) (no (.lst _) (fp rfl 30)) (by rw[B6];show _+0<=10;exact aP (Hv _ _) (aP (ox _ _) (aP (gw B.len) (aP B.S.gI (by decide))))) (λz gc=>?_) λc' Q eY=>adM G trivial (by decide) eY δ Η Ν;exact⟨((dO z (R0 gc))).1,L,by exact SQ bB,by exact SS bB,((dO z (R0 gc))).2⟩
theorem afC(G:ar p)(af:1<=count/\count<=50){r:I O}(Χ:r.length<=8)(Ρ:l.length<=12)(C:gt count t 3 low high η l)(Θ:c T=some (.tab t))(δ:co t)(h:cW t 1100=some (.tup [.int 0,.Ω (putN l 21 (.lst (dM 1100 0::r)))])):iZ p T (.Ω (putN l 21 (.lst (dM 1100 0::r)))) c:=by
 have hd:∀j,j2 count t j (.Ω (putN l 21 (.lst (dM 1100 0::r)))):=by
  intro j
  induction j with
  |zero=>exact .leaf _
  |succ j Ξ=>
   refine .nf (C.put rfl rfl rfl (aR Ρ rfl)) [] (dM 1100 0) r (no (.lst _) (fp rfl 30)) (by simpa using (aR Χ rfl:r.length<=10)) (λH h=>nomatch h) (.ref _ _) ?_;rw[xF h 29,fp rfl];exact Ξ
 exact q' G λQ=>Ox G trivial af δ (hd 9) (fp rfl 30) (.Ω _) rfl (by decide) Θ
theorem afD(G:ar p)(af:1<=count/\count<=50)(Θ:c T=some (.tab t))(δ:co t)(Η:bU v)(Χ:refOf v=none)(Ε:j2 count t 9 v):iZ p T v c:=
 q' G λQ=>Ox G trivial af δ Ε (fp Χ 30) Η rfl (by decide) Θ
theorem afE(G:ar p)(af:1<=count/\count<=50)(Ρ:l.length<=12)(C:gt count t 3 low high η l)(Θ:c T=some (.tab t))(δ:co t){l':I (Y×O)}:iZ p T (.Ω (putN l 21 (.Ω l'))) c:=
 q' G λQ=>Oy G trivial (by decide) Θ δ af (C.put rfl rfl rfl (aR Ρ rfl)) (no (.Ω _) (fp rfl 30)) (.inr ⟨l',rfl⟩)
theorem Bo:hX (cp t 30 (.int 1)) 1:=hX.int 1
theorem Bp:hX (cp t 30 (.int 0)) 0:=hX.int 0
theorem Pq{eB:Y}(g:dN low high)(h:bl l eB=some (.lst ([hx (100*low),hx (100*high)]++[.int 0,.int 1]))):e9 t l eB (dq [ge (low,high),(0,1)]):=by
 refine⟨_,mg h (.lst _) rfl,?_⟩;exact .cons (n' _).c7 (vg _) (Bn g).1 (.cons (n' _).c7 (vg _) (Bn g).2 (.cons (.int 0) Bp (lq.mono (by decide)) (.cons (.int 1) Bo (hw.mono (by decide)) .nil)))
theorem Pr(g:dN low high):px [ge (low,high),(0,1)]:=λx Ν=>by
 cases Ν with
 |head=>exact g.Oq _ (.head _)
 |tail _ Ν=>cases Ν with
  |head=>exact⟨by decide,lq.mono (by decide),hw.mono (by decide)⟩
  |tail _ h=>rcases h with ⟨⟩
theorem afF(G:ar p)(af:1<=count/\count<=50)(C:gt count t 3 low high η l)(Θ:c T=some (.tab t))(δ:co t):iZ p T (.Ω (putN l 17 (.lst ([hx (100*low),hx (100*high)]++[.int 0,.int 1])))) c:=
 q' G λQ=>adU G trivial (by decide) Θ δ af (C.kind.put rfl) (Pq C.g (oi ..)) (Pr C.g) rfl (C.sO.put rfl) C.Τ
end
noncomputable def i0(count:Y):I (Y×O):=[(20,.int 2),(17,.lst [.int 0,.int 1]),(13,.lst (d0 count (.int 0))),(15,.lst (d0 count (.int 1))),(23,.int 1)]
noncomputable def Ps(count:Y)(low high:J):I (Y×O):=[(20,.int 4),(17,.lst ([hx (100*low),hx (100*high)]++[.int 0,.int 1])),(25,.lst (d0 count [O.int 0,.int 1]).flatten)]
section
variable{N:Y}{k g pl kind:J}{bH q:Y}{χ:I (J×O)}{x fn:O}{nd:cT}{η:b5}{ς:I J}{parts:I cP}{more:I (Y×O)}{T:ε}{items In eQ eh B' nF:I O}
theorem Gl:aq (100*0)=0:=xp 0
theorem Gm:aq (100*100)=1:=xp 1
theorem Pu{x:O}{r:ai}(Η:bU x)(Ζ:hX (cp t 30 x) r)(σ:bn 64 r):gd t (d0 count x) (d0 count r):=by
 induction count with
 |zero=>exact .nil
 |succ c Ξ=>exact .cons Η Ζ σ Ξ
theorem afG:dN 0 100:=⟨by decide,by decide,by decide⟩
theorem Pw:eF count t 0 (pC 0 100 none 1 (d0 count 0) (d0 count 100)) (.Ω (i0 count)):=by
 have xe:gd t [.int 0,.int 1] (dq [ge (0,100)]):=by
  show gd t _ [aq (100*0),aq (100*100)];rw[Gl,Gm];exact .cons (.int 0) Bp (lq.mono (by decide)) (.cons (.int 1) Bo (hw.mono (by decide)) .nil)
 refine .pow ⟨mg rfl (.int 2) rfl,⟨_,mg rfl (.lst _) rfl,xe⟩,xG rfl,afG,(λH e=>nomatch e),bu rfl⟩ (by decide) p6 p6 (mg rfl (.int 1) rfl) ⟨_,mg rfl (.lst _) rfl,?_⟩ ⟨_,mg rfl (.lst _) rfl,?_⟩
 ·unfold b7;rw[B9,Gl];exact Pu (.int 0) Bp (lq.mono (by decide))
 ·unfold b7;rw[B9,Gm];exact Pu (.int 1) Bo (hw.mono (by decide))
theorem Px{z:Y}{y y':ai}{m:Y}(G:ar p)(af:1<=count/\count<=50)(Ρ:l.length<=12)(C:gt count t 3 low high η l)(Θ:c T=some (.tab t))(δ:co t)(hm:1<=m/\m<=8)(nb:gd t B' rs)(Κ:rs.length+1=m)(eE:hv 64 (aq (100*low)::(rs++[aq (100*high)])))(Ν:(aq (100*low)::(rs++[aq (100*high)]))[z]?=some y)(aX:(aq (100*low)::(rs++[aq (100*high)]))[z+1]?=some y')(h1:y'<y):
 iZ p T (.Ω (putN (putN (putN l 21 (.lst (d0 m (.Ω (i0 count))))) 18 x) 10 (.lst B'))) c:=by
 have ht:=ih l 21 (.lst (d0 m (.Ω (i0 count))));refine q' G λQ=>?_;refine adZ (L:=0) (zs:=d0 m (.Ω (i0 count),pC 0 100 none 1 (d0 count 0) (d0 count 100))) G trivial (by decide) (by decide) Θ δ af (((C.put rfl rfl rfl (aR Ρ rfl)).put rfl rfl rfl (mA ht Ρ rfl)).put rfl rfl rfl (θ [_,_,_] [] (.le (.v 0) (.c 20)) [(.le (.v 0) (.a (.v 1) (.c 1))),(.le (.v 1) (.a (.v 2) (.c 1))),(.le (.v 2) (.c 12))] [[1,1,1,1]] rfl (ih (putN l 21 (.lst (d0 m (.Ω (i0 count))))) 18 x) ht Ρ)) ?_ (by rw[p6];exact θ [_,_] [] (.an (.le (.c 1) (.v 1)) (.le (.v 1) (.c 10))) [(.eq (.a (.v 0) (.c 1)) (.v 1)),(.le (.v 1) (.c 8))] [[1,1],[1,0,0,1]] rfl Κ hm.2) (λw bC=>?_) ⟨B',no (.lst _) (fp rfl 30),nb⟩ (by rw[p6];exact Κ) rfl eE Ν aX h1
 ·rw[B9];exact((no (.lst _) (fp rfl 30)).put rfl).put rfl
 ·rw[Ht bC];exact⟨.Ω _,by rw[fp rfl];exact Pw⟩
theorem afH:fG count (d0 count (0,100)):=by
 refine⟨p6,λx Ν=>?_⟩;rw[Ht Ν];exact⟨by decide,by decide,by decide⟩
theorem afI:gd t (d0 count [O.int 0,.int 1]).flatten (dq ((d0 count ((0:J),(100:J))).map ge)):=by
 induction count with
 |zero=>exact .nil
 |succ c Ξ=>
  rw[s',s'];show gd t (.int 0::.int 1::(d0 c [O.int 0,.int 1]).flatten) (aq (100*0)::aq (100*100)::dq ((d0 c ((0:J),(100:J))).map ge));rw[Gl,Gm];exact .cons (.int 0) Bp (lq.mono (by decide)) (.cons (.int 1) Bo (hw.mono (by decide)) Ξ)
theorem afJ{m:Y}(G:ar p)(af:1<=count/\count<=50)(Ρ:l.length<=12)(C:gt count t 3 low high η l)(Θ:c T=some (.tab t))(δ:co t)(hm:m<=8):
 iZ p T (.Ω (putN l 21 (.lst (d0 m (.Ω (i0 count))++[l6 (.Ω (Ps count low high)) (.bytes [])])))) c:=by
 refine q' G λQ=>?_;refine adW (zs:=d0 m (.Ω (i0 count),pC 0 100 none 1 (d0 count 0) (d0 count 100))) (ps:=[ge (low,high),(0,1)]) (ls:=d0 count (0,100)) (l':=Ps count low high) G trivial (by decide) Θ δ af (C.put rfl rfl rfl (aR Ρ rfl)) ?_ (by rw[p6];exact aR hm rfl) (λw bC=>?_) (mg rfl (.int 4) rfl) (Pq C.g rfl) (Pr C.g) rfl ⟨_,mg rfl (.lst _) rfl,afI⟩ afH
 ·rw[B9];exact no (.lst _) (fp rfl 30)
 ·rw[Ht bC];exact⟨.Ω _,by rw[fp rfl];exact Pw⟩
end
noncomputable def gu(b:J)(t:I (J×O)):Y->I (J×O)
 |0=>t
 |k+1=>f3 (gu b t k) (b+k+1) (.tup [.int 0,dM (b+k) 0])
section
variable{N:Y}{bq:Ι}{k g pl kind:J}{bH q:Y}{χ:I (J×O)}{x fn:O}{nd:cT}{η:b5}{ς:I J}{parts:I cP}{more:I (Y×O)}{T:ε}{items In eQ eh B' nF:I O}
theorem xM(h:∀i:Y,i<n->k≠b+i+1):cW (gu b t n) k=cW t k:=by
 induction n with
 |zero=>rfl
 |succ n Ξ=>
  show cW (f3 _ _ _) k=_;rw[js,bL (h n (yd n)),Ξ λi hi=>h i (I2 hi)]
theorem Py(h:i<n):cW (gu b t n) (b+i+1)=some (.tup [.int 0,dM (b+i) 0]):=by
 induction n with
 |zero=>cases h
 |succ n Ξ=>
  show cW (f3 _ _ _) _=_;rw[js];by_cases e:i=n
  ·subst e;rw[cz rfl]
  ·rw[bL (SF e),Ξ (S9 h e)]
theorem Pz(h:∀i:Y,i<n->cW t (b+i+1)=none):b3 t (gu b t n):=λk e aH=>by
 rw[xM λi hi q=>by rw[q,h i hi] at aH;cases aH];exact aH
theorem PA(h:co t):co (gu b t n):=by
 induction n with
 |zero=>exact h
 |succ n Ξ=>exact Ξ.put (.ref _ _)
theorem Gn:(gu b t n).length<=t.length+n:=by
 induction n with
 |zero=>exact i2 _
 |succ n Ξ=>have:=xE (gu b t n) (b+n+1) (.tup [.int 0,dM (b+n) 0]);show(f3 _ _ _).length<=_;exact θ [_,_,_,_] [] (.le (.v 0) (.a (.v 2) (.a (.v 3) (.c 1)))) [(.le (.v 0) (.a (.v 1) (.c 1))),(.le (.v 1) (.a (.v 2) (.v 3)))] [[1,1,1]] rfl this Ξ
structure ra(count L:Y)(t:I (J×O))(low high:J)(η:b5)(ς:I J)(parts:I cP)(l:I (Y×O)):Prop where
 hf:∀χ,b3 t χ->iU χ->s1 count L χ low high η ς parts l/\j2 count χ (L+1) (.Ω l)
 ring:cW t 900=some (.tup [.int 0,dM 900 0])
 free:∀k:J,(960<=k/\k<=999)∨k=1100->cW t k=none
 tab:co t
 len:t.length<=70000
theorem Bq(h:cW t 900=some (.tup [.int 0,dM 900 0]))(Τ:b3 t χ):iU χ:=by
 unfold iU;rw[(by unfold dY;rw[Τ _ _ h]:dY χ 900=(0,dM 900 0))];decide
theorem ra.lists(B:ra count L t low high η ς parts l):∃In eQ eh,cC t l 21 (.lst In)/\cC t l 10 (.lst eQ)/\cC t l 18 (.lst eh)/\eQ.length<=4/\eh.length<=10/\In.length=parts.length/\1<=parts.length/\parts.length<=4/\∀χ,b3 t χ->s4 count L χ low high η ς parts l In eQ eh:=by
 obtain⟨S,⟨zs,gD,f',jc,n3⟩,sK⟩:=(B.hf t .refl (Bq B.ring .refl)).1;have a':=S.len;have dD:=S.gI;have j1:zs.length=parts.length:=by have:=cE mu f';simpa using this.symm
 rcases Κ:S.b with ⟨eQ,e3,nb⟩
 rcases aH:S.e with ⟨eh,afK,ne⟩
 refine Sa (zs.map (·.1)) eQ eh gD e3 afK (θ [_,_,_] [] (.le (.v 2) (.c 4)) [(.eq (.v 0) (.a (.v 1) (.c 1))),(.eq (.v 2) (.v 1)),(.le (.v 0) (.c 4))] [[1,0,1,1,0,1]] rfl a' (by rw[nb.length];simp[b7]:eQ.length=ς.length) dD) (aP (gw (by rw[ne.length,uJ,bV,AI _ _ _ (by simp;exact yK a')]:eh.length=2*parts.length)) (aP (mm _ dD) (by decide))) ⟨by rw[bV];exact j1,by exact θ [_,_] [] (.le (.c 1) (.v 0)) [(.eq (.v 0) (.a (.v 1) (.c 1)))] [[1,0,1]] rfl a',dD,λχ Τ=>?_⟩;obtain⟨cn,⟨PB,fH,e1,ew,afL⟩,afM⟩:=(B.hf χ Τ (Bq B.ring Τ)).1;have PC:=gD.mono Τ nofun;have e:PB.map (·.1)=zs.map (·.1):=by
  have:=fH.eq.symm.trans PC.eq;injection this
 exact⟨cn,⟨PB,e,λz Ρ=>⟨ew z Ρ,afL z Ρ⟩⟩,PC,by rw[bV];exact j1,nb.mono Τ,ne.mono Τ,afM⟩
end
noncomputable abbrev pT(cI b':J)(T:ε)(l D:I (Y×O))(count:Y)(x6 x7 dQ fW eG hz iT x13 x14 Br:ξ O):Ο:=[some (.int cI),some (.int b'),some (cM T),some (.Ω l),some (.Ω D),some (.int count),x6,x7,dQ,fW,eG,hz,iT,x13,x14,Br,none,none]
noncomputable abbrev rb:SL:=a9 (a9 (a9 (a9 (a9 (a9 Ab)))))
theorem xN(v:O)(k:Y):(d0 (k:J).toNat [v]).flatten=d0 k v:=by
 rw[show(k:J).toNat=k from rfl]
 induction k with
 |zero=>rfl
 |succ k Ξ=>rw[s',s',GO,Ξ];rfl
section
variable{N:Y}{bq:Ι}{k g pl kind cI b':J}{bH q:Y}{χ:I (J×O)}{x fn:O}{nd:cT}{η:b5}{ς:I J}{parts:I cP}{more D:I (Y×O)}{T:ε}{items In eQ eh B' nF:I O}
theorem afN(G:ar p)(Ζ:3<=n)(af:1<=count/\count<=2)(Θ:c T=some (.tab t))(δ:co t)(jV:bl D 64=some (.int low))(me:bl D 57=some (.int high))(g:dN low high)(Ρ:l.length<=30)(f:cC t l 21 (.lst In))(Go:cC t l 10 (.lst eQ))(Gp:cC t l 18 (.lst eh))(hi:In.length<=100)(Κ:eQ.length<=100)(aH:eh.length<=100)(h:∀d,c d=none->d≠T->bh p a1 a6 Er n rb (pT cI b' T l D count (some (.loc d)) (some (kJ low high)) (some (.Ω (i0 count))) (some (.lst In)) (some (.lst eQ)) (some (.lst eh)) none none none none) (upd c d (some (.Ω l))) (λH c'=>Q .none c') (λx H c'=>Q x c')):
 bh p a1 a6 Er n Ab (pT cI b' T l D count none none none none none none none none none none) c (λH c'=>Q .none c') (λx H c'=>Q x c'):=by
 refine e7 g λfH e1 ew=>?_;try clear g
 refine ab3 G.Ψ.ζ (aR Ρ rfl) λd hd=>?_;have dw:T≠d:=λe=>by rw[<-e,Θ] at hd;contradiction
 have w3:upd c d (some (.Ω l)) T=some (.tab t):=(a3 _ _ dw).trans Θ;refine cO jV ⟨bT (i:=7) (j:=11) (by decide) (.of (n:=2001) (rL fH ew e1) (by decide)) (by decide),?_⟩;refine pH G (b8 Ζ rfl) ?_;refine cO me ⟨bT (i:=7) (j:=11) (by decide) (.of (n:=2001) (vV fH ew e1) (by decide)) (by decide),?_⟩;refine pH G (b8 Ζ rfl) ?_;refine⟨⟨by exact oP,by exact Iz af.2,bu rfl⟩,⟨⟨by exact oP,by exact Iz af.2,bu rfl⟩,?_⟩⟩;have h:=h d hd (λe=>dw e.symm);unfold i0 at h;rw[<-xN,<-xN] at h;refine f.get G (b8 Ζ rfl) w3 δ ?_;refine xi (aR hi rfl) ?_;refine Go.get G (b8 Ζ rfl) w3 δ ?_;refine xi (aR Κ rfl) ?_;refine Gp.get G (b8 Ζ rfl) w3 δ ?_;refine xi (aR aH rfl) ?_;exact h
theorem akD{x7 dQ fW eG hz iT x13 x14 Br rc rd:ξ O}{xs:Ο}(hd:c' d=some (.Ω l))(h:∀bz,(∀a,a≠d->bz a=c' a)->Q (.Ω l) bz):
 bh p a1 a6 Er n (.cons (.ret (.i' 6)) .nil) (some v::some w::x7::dQ::fW::eG::some (.loc d)::xs) c' (λH c'=>Q .none c') (λx H c'=>Q x c'):=
 ⟨_,hd,h _ λa γ=>a3 _ _ γ⟩
theorem afO(G:ar p)(Ζ:3<=n)(af:1<=count/\count<=2)(bB:L<=1)(E:ra count L t low high η ς parts l)(Θ:c T=some (.tab t))(bC:4<=cI/\cI<11)(ab:0<=b'/\b'<5)(jV:bl D 64=some (.int low))(me:bl D 57=some (.int high))(xO:bl D 62=some (.int ((L+1:Y):J)))(h:∀v c',iZ p T v c'->Q v c')(kK:∀χ,b3 t χ->s4 count L χ low high η ς parts l In eQ eh)(xP:eQ.length<=4)(pR:eh.length<=10)(hd:c d=none)(dw:d≠T):
 bh p a1 a6 Er n rb (pT cI b' T l D count (some (.loc d)) (some (kJ low high)) (some (.Ω (i0 count))) (some (.lst In)) (some (.lst eQ)) (some (.lst eh)) none none none none) (upd c d (some (.Ω l))) (λH c'=>Q .none c') (λx H c'=>Q x c'):=by
 have B:=kK t .refl;have S:=B.S;have C:=S.C;have Ρ:=B.small;have a':=B.len;have b0:=S.len;have dD:=S.gI;have dE:=C.g;unfold dN at dE;have j5:1<=count/\count<=50:=⟨af.1,by exact aR af.2 rfl⟩;have ret:∀(l':I (Y×O)) c',c' d=some (.Ω l')->(∀a,a≠d->c' a=c a)->(∀bz,bz T=some (.tab t)->iZ p T (.Ω l') bz)->Q (.Ω l') (upd c' d none):=λl' c' Α Δ κ=>h _ _ (κ _ ((a3 _ _ dw.symm).trans ((Δ T dw.symm).trans Θ)));have ht:∀k x,(putN l k x).length<=13:=λk x=>by have:=ih l k x;exact mA this Ρ rfl
 have xQ:∀(x:ξ fY) a,a≠d->upd c d x a=c a:=λx a γ=>a3 _ _ γ;rcases((fL bC.1).imp_right λh=>(fL h).imp_right λh=>(fL h).imp_right λh=>(fL h).imp_right λh=>(fL h).imp_right λh=>(fL h).imp_right λh=>np (vo bC.2) h:cI=4∨cI=5∨cI=6∨cI=7∨cI=8∨cI=9∨cI=10) with e|e|e|e|e|e|e<;>subst e
 ·refine λe aH=>qQ G (b8 Ζ rfl) (aj ..) ⟨rfl,_,aj ..,?_⟩;rw[ie aH];refine⟨by exact cJ a' dD rfl,⟨by show 1+(In.drop 1).length<=10000;rw[ajl];exact aP (xY (aP (ox _ _) (aP (gw a') dD)) 1) (by decide),?_⟩⟩;refine dj _ (aj ..) (aR Ρ rfl) ?_;refine as _ (aj ..) ?_;refine qR (a:=1100) (b:=0) (v:=.Ω (putN l 21 (.lst (dM 1100 0::In.drop 1)))) G (b8 Ζ rfl) ((a3 _ _ dw.symm).trans ((a3 _ _ dw.symm).trans ((a3 _ _ dw.symm).trans Θ))) (aR E.len rfl) ?_;have av:b3 t (f3 t 1100 (.tup [.int 0,.Ω (putN l 21 (.lst (dM 1100 0::In.drop 1)))])):=.put (E.free 1100 (.inr rfl));exact h _ _ (afC (r:=In.drop 1) G j5 (by rw[ajl];exact Ja a' dD) (kK _ av).small (kK _ av).S.C (aj ..) (E.tab.put (.Ω _)) (by rw[js,cz rfl]))
 ·have afP:=B.nb.length;refine eK (cJ a' dD rfl) ?_;refine⟨⟨by exact IF,by exact I' a' dD,bu rfl⟩,⟨_,aj ..,by exact aR Ρ rfl,?_⟩⟩;rw[show((In.length:Y):J)+1=((In.length+1:Y):J) from rfl,xN,dX];have gS:=ih l 21 (.lst (d0 (In.length+1) (.Ω (i0 count))));refine⟨by show eh.length+2<=10000;exact gL pR rfl,⟨_,aj ..,by exact mA gS Ρ rfl,?_⟩⟩;rw[dX];refine cO jV ⟨bT (i:=7) (j:=11) (by decide) (.of (n:=2001) (rL dE.1 dE.2.2 dE.2.1) (by decide)) (by decide),?_⟩;refine pH G (b8 Ζ rfl) ?_;refine⟨by show 1+eQ.length<=10000;exact aP (xY xP _) (by decide),⟨_,aj ..,by exact Jk (ih (putN l 21 (.lst (d0 (In.length+1) (.Ω (i0 count))))) 18 (.lst (eh++[.int 0,.int 1]))) gS Ρ,?_⟩⟩;rw[dX];refine as _ (aj ..) ?_;refine ret _ _ (aj ..) (λa γ=>xQ _ a γ) λbz jq=>?_;have xR:bn 64 (aq (100*low - 1 - b')):=jW (.of (n:=300000) (θ [] [_,_,_] (.cA (.s (.s (.m 100 (.v 0)) (.c 1)) (.v 1)) (.c 300000)) [(.ι (.g (.c 2000)) (.v 0)),(.ι (.c 0) (.v 1)),(.ι (.v 2) (.c 2000)),(.ι (.v 0) (.v 2)),(.ι (.a (.v 1) (.c 1)) (.c 5))] [[1,0,1,100,100],[1,100,0,0,0,1]] rfl dE.1 ab.1 dE.2.2 dE.2.1 ab.2) (by decide)) (by decide);refine Px (B':=hx (100*low - 1 - b')::eQ) (rs:=aq (100*low - 1 - b')::b7 ς) (z:=0) G j5 (aR Ρ rfl) C jq E.tab (I9 a' dD) (.cons (n' _).c7 (vg _) xR B.nb) (by rw[kP];exact Jz b0 (by simp[b7]) a') (λr Χ=>?_) rfl rfl (pz.mpr (θ [] [_,_] (.ι (.a (.s (.s (.m 100 (.v 1)) (.c 1)) (.v 0)) (.c 1)) (.m 100 (.v 1))) [(.ι (.c 0) (.v 0))] [[1,1]] rfl ab.1));have vi:=Gk C S.up;rcases eR.mp Χ with rfl|Χ
  ·exact vi _ (.head _)
  ·cases Χ with
    |head=>exact xR
    |tail _ Χ=>exact vi _ (.tail _ Χ)
 ·have afP:=B.nb.length;have xS:(b7 ς).length=ς.length:=by simp[b7]
  refine eK (cJ a' dD rfl) ?_;refine⟨⟨by exact IF,by exact I' a' dD,bu rfl⟩,⟨_,aj ..,by exact aR Ρ rfl,?_⟩⟩;rw[show((In.length:Y):J)+1=((In.length+1:Y):J) from rfl,xN,dX];have gS:=ih l 21 (.lst (d0 (In.length+1) (.Ω (i0 count))));refine⟨by show eh.length+2<=10000;exact gL pR rfl,⟨_,aj ..,by exact mA gS Ρ rfl,?_⟩⟩;rw[dX];refine cO jV ⟨bT (i:=7) (j:=11) (by decide) (.of (n:=2001) (rL dE.1 dE.2.2 dE.2.1) (by decide)) (by decide),?_⟩;refine pH G (b8 Ζ rfl) ?_;refine cO me ⟨bT (i:=7) (j:=11) (by decide) (.of (n:=2001) (vV dE.1 dE.2.2 dE.2.1) (by decide)) (by decide),?_⟩;refine pH G (b8 Ζ rfl) ?_;refine⟨by show eQ.length+1<=10000;exact gL xP rfl,⟨_,aj ..,by exact Jk (ih (putN l 21 (.lst (d0 (In.length+1) (.Ω (i0 count))))) 18 (.lst (eh++[.int 0,.int 1]))) gS Ρ,?_⟩⟩;rw[dX];refine as _ (aj ..) ?_;refine ret _ _ (aj ..) (λa γ=>xQ _ a γ) λbz jq=>?_;have xR:bn 64 (aq (100*high+1+b')):=jW (.of (n:=300000) (θ [] [_,_,_] (.cA (.a (.a (.m 100 (.v 2)) (.c 1)) (.v 1)) (.c 300000)) [(.ι (.g (.c 2000)) (.v 0)),(.ι (.c 0) (.v 1)),(.ι (.v 2) (.c 2000)),(.ι (.v 0) (.v 2)),(.ι (.a (.v 1) (.c 1)) (.c 5))] [[1,0,0,100,0,1],[1,100,1,0,100]] rfl dE.1 ab.1 dE.2.2 dE.2.1 ab.2) (by decide)) (by decide);have vi:=Gk C S.up;refine Px (B':=eQ++[hx (100*high+1+b')]) (rs:=b7 ς++[aq (100*high+1+b')]) (z:=ς.length+1) (y:=aq (100*high+1+b')) (y':=aq (100*high)) G j5 (aR Ρ rfl) C jq E.tab (I9 a' dD) (B.nb.app (.cons (n' _).c7 (vg _) xR .nil)) (by rw[fa,lE];exact Jz b0 xS a') (λr Χ=>?_) ?_ ?_ (pz.mpr (θ [] [_,_] (.ι (.a (.m 100 (.v 1)) (.c 1)) (.a (.a (.m 100 (.v 1)) (.c 1)) (.v 0))) [(.ι (.c 0) (.v 0))] [[1,1]] rfl ab.1))
  ·refine my Χ ?_ λΧ=>?_
   ·exact vi _ (.head _)
   ·rw[oy] at Χ;rcases hA.mp Χ with Χ|Χ
    ·exact vi _ (.tail _ (ye _ Χ))
    ·rcases eR.mp Χ with rfl|Χ
     ·exact xR
     ·exact vi _ (.tail _ (Hb _ Χ))
  ·rw[Rd,oy,to (gw xS),xS,Hq];rfl
  ·rw[Rd,oy,to (by exact θ [_,_] [] (.le (.v 0) (.a (.v 1) (.c 1))) [(.eq (.v 0) (.v 1))] [[1,1]] rfl xS),xS,ai2];rfl
 ·refine⟨bu rfl,⟨⟨by exact oP,by exact S5 j5.2,bu rfl⟩,?_⟩⟩;refine eK (cJ a' dD rfl) ?_;refine⟨⟨by exact θ [_,_,_] [] (.ι (.c 0) (.s (.n (.v 2)) (.c 1))) [(.eq (.v 0) (.a (.v 1) (.c 1))),(.eq (.v 2) (.v 0))] [[1,0,1,0,1]] rfl b0 a',by exact θ [_,_] [] (.ι (.s (.n (.v 0)) (.c 1)) (.c 1000)) [(.eq (.v 0) (.v 1)),(.le (.v 1) (.c 4))] [[1,1,0,1]] rfl a' dD,bu rfl⟩,?_⟩;rw[show((In.length:Y):J) - 1=((In.length - 1:Y):J) by omega,xN];refine λe aH=>Fo G (b8 Ζ rfl) (aj ..) ⟨rfl,_,aj ..,?_⟩;rw[ie aH];refine⟨by rw[p6];show _+1<=10000;exact aP (BA (aP (ox _ _) (aP (gw a') dD)) 1) (by decide),⟨_,aj ..,by exact aR Ρ rfl,?_⟩⟩;rw[dX];refine as _ (aj ..) ?_;exact ret _ _ (aj ..) (λa γ=>xQ _ a γ) λbz jq=>afJ G j5 (aR Ρ rfl) C jq E.tab (Ja a' dD)
 ·refine⟨bu rfl,⟨_,aj ..,by exact aR Ρ rfl,?_⟩⟩;refine as _ (aj ..) ?_;exact ret _ _ (aj ..) (λa γ=>(a3 _ _ γ).trans (xQ _ a γ)) λbz jq=>afF G j5 C jq E.tab
 ·refine dj _ (aj ..) (aR Ρ rfl) ?_;refine as _ (aj ..) ?_;exact ret _ _ (aj ..) (λa γ=>(a3 _ _ γ).trans (xQ _ a γ)) λbz jq=>afE G j5 (aR Ρ rfl) C jq E.tab
 ·refine cO xO ?_;show aF p n (.val (.ref 767)) [.Ω l,kJ low high,.int (9 - ((L+1:Y):J))] _ _ _;rw[show(9:J) - ((L+1:Y):J)=((8 - L:Y):J) by omega];refine Pk G (b8 Ζ rfl) (aP (ox _ _) (by decide)) ?_;have dp:=afr C.g (.Ω l) rfl (E.hf t .refl (Bq E.ring .refl)).2 (8 - L);rw[show L+1+(8 - L)=9 by exact SJ bB] at dp;exact h _ _ (afD G j5 ((a3 _ _ dw.symm).trans Θ) E.tab ((vh (low:=low) (high:=high) (bU.Ω l) rfl (8 - L))).1 ((vh (low:=low) (high:=high) (bU.Ω l) rfl (8 - L))).2 dp)
end
noncomputable abbrev Bs:SL:=match rb with
 | .cons (.qe _ a _) _=>a
 |_=>.nil
section
variable{N:Y}{bq:Ι}{k g pl kind cI b' bX:J}{bH q kk:Y}{χ dA:I (J×O)}{x fn:O}{nd:cT}{η:b5}{ς:I J}{parts:I cP}{more D:I (Y×O)}{T:ε}{items In eQ eh B' nF:I O}{re:aQ}
theorem afQ(h0:0<=b')(Α:b'<5):∃kk,eX [.sym 21,.sym 20,.sym 17,.sym 10,.sym 18] b'=some (.sym kk)/\(kk=21∨kk=20∨kk=17∨kk=10∨kk=18):=by
 rcases((fL h0).imp_right λh=>(fL h).imp_right λh=>(fL h).imp_right λh=>(fL h).imp_right λh=>np (vo Α) h:b'=0∨b'=1∨b'=2∨b'=3∨b'=4) with e|e|e|e|e<;>subst e<;>exact as _ rfl (by decide)
theorem afR{x7 dQ eG hz:O}(G:ar p)(Ζ:2<=n)(afS:dA.length<=80000)(xT:c' T=some (.tab dA))(ko:c' d=some (.Ω l))(dw:d≠T)(s5:eX [.int 60,.int 0,.int 90,.int 99] cI=some (.int bX))(Ρ:l.length<=30)(hi:In.length<=10)(h:∀bz,bz T=some (.tab (gu 960 dA 30))->Q (.Ω (putN l kk (if re=true then .lst (In.take (In.length - 1)++[dM (900+bX) 0]) else dM (900+bX) 0))) bz):
 bh p a1 a6 Er n (a9 (a9 (a9 Bs))) (pT cI b' T l D count (some (.loc d)) (some x7) (some dQ) (some (.lst In)) (some eG) (some hz) (some (.sym kk)) (some (.bool re)) none none) c' (λρ c=>bh p a1 a6 Er n (a9 rb) ρ c (λH c'=>Q .none c') (λx H c'=>Q x c')) (λx H c'=>Q x c'):=by
 refine⟨⟨by decide,by decide,by decide,by decide,by decide,by decide,by decide⟩,?_⟩;rw[show fQ 61 91 1=30 from by unfold fQ;decide,qY];refine qX (λrest ρ Μ=>∃(k:Y) (o:ξ O),rest=Hw k (30 - k)/\k<=30/\Μ=upd c' T (some (.tab (gu 960 dA k)))/\ρ=pT cI b' T l D count (some (.loc d)) (some x7) (some dQ) (some (.lst In)) (some eG) (some hz) (some (.sym kk)) (some (.bool re)) o none) ?_ ?_ (fK 30) _ c' ⟨0,none,Hx,by decide,?_,rfl⟩
 ·intro x rest ρ Μ K be aC;refine oJ be λk o Χ Η aV aW=>?_;try clear be;rcases aV with rfl;rcases aW with rfl
  have dh:k<30:=by
   rcases oF k 30 with h|h
   ·exact h
   ·rw[Hy h] at Χ;contradiction
  rw[show 30 - k=(29 - k)+1 by exact Ip dh] at Χ;refine aa (vz Χ) λaV aW=>?_;rcases aV with rfl;rcases aW with rfl
  refine λe aH=>qQ G (b8 Ζ rfl) (aj ..) ⟨rfl,_,aj ..,?_⟩;rw[ie aH];show aF p n (.val (.ref 416)) [cM T,.int (900+(61+1*(x:Y))),.int 0,dM (900+(61+1*(x:Y)) - 1) 0] _ _ _;rw[((by simp+arith):(900:J)+(61+1*(x:Y))=960+(x:Y)+1),((by simp):(960:J)+(x:Y)+1 - 1=960+(x:Y))];refine qR G (b8 Ζ rfl) (aj ..) (θ [_,_,_] [] (.le (.v 0) (.c 100000)) [(.le (.v 0) (.a (.v 1) (.v 2))),(.le (.v 1) (.c 80000)),(.le (.a (.v 2) (.c 1)) (.c 30))] [[1,1,1,1]] rfl (Gn (b:=960) (t:=dA) (n:=x)) afS dh) ?_;rw[dX];exact aC _ _ ⟨x+1,_,by rw[show 30 - (x+1)=29 - x by exact II],by exact Iq dh,rfl,rfl⟩
 ·intro ρ Μ be;refine oJ be λk o Χ Η bM cN=>?_;try clear be;rcases bM with rfl;rcases cN with rfl
  have Χ:=cE mu Χ;rw[Hz] at Χ;have:k=30:=Ig Χ Η;subst this;have r9:upd c' T (some (.tab (gu 960 dA 30))) d=some (.Ω l):=(a3 _ _ dw).trans ko;refine cO s5 ?_;refine λe aH=>qQ G (b8 Ζ rfl) (aj ..) ⟨rfl,_,aj ..,?_⟩;rw[ie aH];cases re with
  |true=>
   rw[cz rfl] at h;refine⟨by exact aR hi rfl,⟨by show(In.take (In.length - 1)).length+1<=10000;rw[B6];exact SN hi,⟨_,r9,by exact aR Ρ rfl,?_⟩⟩⟩;refine as _ (aj ..) ?_;exact h _ ((a3 _ _ dw.symm).trans ((a3 _ _ dw.symm).trans (aj ..)))
  |false=>
   rw[bL (by decide)] at h;refine dj _ r9 (aR Ρ rfl) ?_;refine as _ (aj ..) ?_;exact h _ ((a3 _ _ dw.symm).trans ((a3 _ _ dw.symm).trans (aj ..)))
 ·funext b;unfold upd;split
  ·rename_i e;rw[e,xT];rfl
  ·rfl
theorem afT(h:1<=In.length)(Τ:In.length<=10)(Η:∀x∈In,bU x):∃w,eX In (-1)=some w/\bU w:=by
 have dh:In.length - 1<In.length:=Qh h (by decide);refine as (In[In.length - 1]) ?_ (Η _ (kR dh));have e:rS (-1) In.length=some (In.length - 1):=by
  show(match iq 0 In.length&&iq 0 4611686018427387904 with|true=>some (In.length - (0+1))|false=>none)=_;rw[show iq 0 In.length=true from Qp h];rfl
 unfold eX;rw[e];have:=FH (λx:O=>x) In (In.length - 1);rw[List.map_id'] at this;show mF In (In.length - 1)=_;rw[this,gY dh];rfl
end
section
variable{N:Y}{bq:Ι}{k g pl kind cI b' bX:J}{bH q kk:Y}{χ dA:I (J×O)}{x fn:O}{nd:cT}{η:b5}{ς:I J}{parts:I cP}{more D:I (Y×O)}{T:ε}{items In eQ eh B' nF:I O}{re:aQ}
theorem afU(B:s4 count L t low high η ς parts l In eQ eh)(h:kk=21∨kk=20∨kk=17∨kk=10∨kk=18):∃w,cC t l kk w/\bU w:=by
 have any:∀{key rs},e9 t l key rs->∃w,cC t l key w/\bU w:=λs=>by
  rcases s with ⟨items,s,n⟩
  exact as _ s (.lst _)
 rcases h with rfl|rfl|rfl|rfl|rfl
 ·exact as _ B.f (.lst _)
 ·exact as _ B.S.C.kind (.int 3)
 ·exact any B.S.C.c4
 ·exact any B.S.b
 ·exact any B.S.e
theorem PD{x7 dQ eG hz:O}(G:ar p)(Ζ:2<=n)(af:1<=count/\count<=2)(bB:L<=1)(E:ra count L t low high η ς parts l)(kK:∀χ,b3 t χ->s4 count L χ low high η ς parts l In eQ eh)(Θ:c T=some (.tab t))(dw:d≠T)(bC:bU w)(s5:eX [.int 60,.int 0,.int 90,.int 99] cI=some (.int bX))(Η:kk=21∨kk=20∨kk=17∨kk=10∨kk=18)(Gf:re=true->kk=21)(xU:(bX=60/\g=1)∨bX=0∨bX=90∨bX=99)(h:∀v c',iZ p T v c'->Q v c'):
 bh p a1 a6 Er n (a9 (a9 (a9 Bs))) (pT cI b' T l D count (some (.loc d)) (some x7) (some dQ) (some (.lst In)) (some eG) (some hz) (some (.sym kk)) (some (.bool re)) none none) (upd (upd c d (some (.Ω l))) T (some (.tab (f3 t 960 (.tup [.int g,w]))))) (λρ c=>bh p a1 a6 Er n (a9 rb) ρ c (λH c'=>Q .none c') (λx H c'=>Q x c')) (λx H c'=>Q x c'):=by
 have B:=kK t .refl;have j5:1<=count/\count<=50:=⟨af.1,by exact aR af.2 rfl⟩;have afV:∀i:Y,i<30->cW (f3 t 960 (.tup [.int g,w])) (960+i+1)=none:=λi hi=>by
  rw[js,bL ((by simp+arith))];exact E.free _ (.inl ((by decide+revert)))
 have sj:b3 t (gu 960 (f3 t 960 (.tup [.int g,w])) 30):=(b3.put (E.free 960 (.inl (by omega)))).trans (Pz afV);have uu:co (gu 960 (f3 t 960 (.tup [.int g,w])) 30):=PA (E.tab.put bC);refine afR G Ζ (mA (xE t 960 (.tup [.int g,w])) E.len rfl) (aj ..) ((a3 _ _ dw).trans (aj ..)) dw s5 (aR B.small rfl) (cJ B.len B.S.gI rfl) λbz jq=>?_;have Ν:cp (gu 960 (f3 t 960 (.tup [.int g,w])) 30) 30 (dM (900+bX) 0)= .none:=by
  rcases xU with ⟨rfl,rfl⟩|rfl|rfl|rfl
  ·refine afx (a:=1) (v:=w) ?_ (by decide) 30;rw[xM λi hi=>by exact ajm (θ [_] [] (.ι (.a (.a (.c 900) (.c 60)) (.c 1)) (.a (.a (.c 960) (.n (.v 0))) (.c 1))) [] [[1]] rfl),js,cz (by decide)]
  ·exact afw (e:=.none) (sj _ _ E.ring) 30
  ·have:=Pp (t:=gu 960 (f3 t 960 (.tup [.int g,w])) 30) (s:=960) (j:=30) (λi hi=>Py hi) 0;exact this
  ·refine afy ?_ (by decide) 30;rw[xM λi hi=>by exact(by decide+revert),js,bL (by decide)];exact E.free _ (.inl (by omega))
 have PE:=kK _ sj;cases re with
 |true=>
  rw[Gf rfl];exact h _ _ (afB G j5 (aR bB rfl) PE jq uu (.ref _ _) Ν)
 |false=>exact h _ _ (afA G j5 (aR bB rfl) PE jq uu (.ref _ _) Ν Η)
theorem afW(G:ar p)(Ζ:3<=n)(af:1<=count/\count<=2)(bB:L<=1)(E:ra count L t low high η ς parts l)(Θ:c T=some (.tab t))(bC:0<=cI/\cI<4)(ab:0<=b'/\b'<5)(h:∀v c',iZ p T v c'->Q v c')(kK:∀χ,b3 t χ->s4 count L χ low high η ς parts l In eQ eh)(dw:d≠T):
 bh p a1 a6 Er n rb (pT cI b' T l D count (some (.loc d)) (some (kJ low high)) (some (.Ω (i0 count))) (some (.lst In)) (some (.lst eQ)) (some (.lst eh)) none none none none) (upd c d (some (.Ω l))) (λH c'=>Q .none c') (λx H c'=>Q x c'):=by
 have B:=kK t .refl;refine ψ B.zs λzs uX dO=>?_;have xT:upd c d (some (.Ω l)) T=some (.tab t):=(a3 _ _ dw.symm).trans Θ;refine ψ (afQ ab.1 ab.2) λkk ha Η=>?_;obtain⟨AG,afX,afY⟩:=afT (In:=In) (Jq B.S.len B.len) (cJ B.len B.S.gI rfl) (λx Ν=>by
  rw[<-uX] at Ν;apply iB (i5.mp Ν);intro z Ρ;exact(dO z Ρ).1)
 refine ψ (afU B Η) λuV afZ af0=>?_;have h0:b'=0->kk=21:=λe=>by
  subst e;injection bQ ha with e
  exact e.symm
 have part:∀{g:J} {bX:J},(h0:kk=21)->eX [.int 60,.int 0,.int 90,.int 99] cI=some (.int bX)->((bX=60/\g=1)∨bX=0∨bX=90∨bX=99)->
  iF (eX In (-1)) λw=>aF p n (.val (.ref 416)) [cM T,.int 960,.int g,w] (upd c d (some (.Ω l))) (λH c'=>bh p a1 a6 Er n (a9 (a9 (a9 Bs))) (pT cI b' T l D count (some (.loc d)) (some (kJ low high)) (some (.Ω (i0 count))) (some (.lst In)) (some (.lst eQ)) (some (.lst eh)) (some (.sym kk)) (some (.bool true)) none none) c' (λρ c=>bh p a1 a6 Er n (a9 rb) ρ c (λH c'=>Q .none c') (λx H c'=>Q x c')) (λx H c'=>Q x c')) Er:=λh0 s5 xU=>by
  refine cO afX ?_;refine qR G (b8 Ζ rfl) xT (aR E.len rfl) ?_;exact PD G (b8 Ζ rfl) af bB E kK Θ dw afY s5 Η (λH=>h0) xU h
 have key:∀{g:J} {bX:J},eX [.int 60,.int 0,.int 90,.int 99] cI=some (.int bX)->((bX=60/\g=1)∨bX=0∨bX=90∨bX=99)->
  aF p n (.val (.ref 395)) [cM T,.Ω l,.sym kk] (upd c d (some (.Ω l))) (λw c'=>aF p n (.val (.ref 416)) [cM T,.int 960,.int g,w] c' (λH c'=>bh p a1 a6 Er n (a9 (a9 (a9 Bs))) (pT cI b' T l D count (some (.loc d)) (some (kJ low high)) (some (.Ω (i0 count))) (some (.lst In)) (some (.lst eQ)) (some (.lst eh)) (some (.sym kk)) (some (.bool false)) none none) c' (λρ c=>bh p a1 a6 Er n (a9 rb) ρ c (λH c'=>Q .none c') (λx H c'=>Q x c')) (λx H c'=>Q x c')) Er) Er:=λs5 xU=>by
  refine afZ.get G (b8 Ζ rfl) xT E.tab ?_;refine qR G (b8 Ζ rfl) xT (aR E.len rfl) ?_;exact PD G (b8 Ζ rfl) af bB E kK Θ dw af0 s5 Η (λe=>nomatch e) xU h
 rcases(Cx bC.1 bC.2:cI=0∨cI=1∨cI=2∨cI=3) with e|e|e|e<;>subst e
 ·refine cO ha ?_;refine d4 (λe=>?_) λe=>?_
  ·exact part (h0 e) rfl (.inl ⟨rfl,rfl⟩)
  ·exact key rfl (.inl ⟨rfl,rfl⟩)
 ·refine cO ha ?_;refine d4 (λe=>?_) λe=>?_
  ·exact part (h0 e) rfl (.inr (.inl rfl))
  ·exact key rfl (.inr (.inl rfl))
 ·refine cO ha ?_;refine d4 (λe=>?_) λe=>?_
  ·exact key rfl (.inr (.inr (.inl rfl)))
  ·exact key rfl (.inr (.inr (.inl rfl)))
 ·refine cO ha ?_;refine d4 (λe=>?_) λe=>?_
  ·exact key rfl (.inr (.inr (.inr rfl)))
  ·exact key rfl (.inr (.inr (.inr rfl)))
theorem af1(G:ar p)(Ζ:4<=n)(af:1<=count/\count<=2)(bB:L<=1)(E:ra count L t low high η ς parts l)(Θ:c T=some (.tab t))(bC:0<=cI/\cI<11)(ab:0<=b'/\b'<5)(jV:bl D 64=some (.int low))(me:bl D 57=some (.int high))(xO:bl D 62=some (.int ((L+1:Y):J)))(h:∀v c',iZ p T v c'->Q v c'):aF p n (.val (.ref 774)) [.int cI,.int b',cM T,.Ω l,.Ω D,.int count] c Q Er:=by
 obtain⟨n,rfl⟩:∃dy,n=dy+1:=⟨n - 1,by exact(il (aP (by decide) Ζ)).symm⟩;refine Cb E.lists λIn eQ eh f Go Gp xP pR aW=>?_;refine lH aW λa' Α ay kK=>?_;try clear aW
 have B:=kK t .refl;refine abc G rfl ?_;refine afN G (hF Ζ rfl) af Θ E.tab jV me B.S.C.g (aR B.small rfl) f Go Gp (cJ a' ay rfl) (aR xP rfl) (aR pR rfl) λd hd dw=>?_;rcases Int.lt_or_le cI 4 with e|e
 ·exact afW G (hF Ζ rfl) af bB E Θ ⟨bC.1,e⟩ ab h kK dw
 ·exact afO G (hF Ζ rfl) af bB E Θ ⟨e,bC.2⟩ ab jV me xO h kK xP pR hd dw
end
section
open PySem.Builtin
section
variable{A:gh}{Γ:I Place}{l:I bx}{F ω F₁:a2}{Μ:Ι}{ρ ν:Ο}{s μ s₀:ah}{env aA:bx}
theorem PF{f:ε}{name qual:φ}{params:yj}{body:I ed}{scope:fX}{dV kV doc pm cdv ct oc:Λ}{an od:ξ ε}{osl:h6 (ξ Λ)}{pn on:I φ}{args dargs:I O}{dvals vs:I Λ}{R:j9->ah->Prop}(ζ:p.Ok)(ab:p.K.lookup f=some ⟨oc,od,.func (oH name qual params body scope dV kV doc pm an cdv ct),osl⟩)(ko:BW p.K cdv qual=true)(pe:scope.isCoroutine=false)(sn:scope.isGenerator=false)(Η:scope.kind= .function)(Φ:so scope.names (pn++on)=true)(a':args.length+dargs.length=pn.length)(hd:bA p.prog p.w p.B.get? dargs dvals)(pd:∀em s,em.length=args.length->p.K.In s.heap->yi s (oH name qual params body scope dV kV doc pm an cdv ct) ⟨em,[]⟩ (pn.zip (em++dvals)))(Χ:lK A l (n+1))(am:bA p.prog p.w F args vs)(S:a0 p.prog p.w p.B F c s.heap)(iJ:s.heap.FunFrames p.B l)(Ψ:cu p s)(h:∀vj Γ env (s₁:ah),fw vj (env::l) n->dK p env Γ scope.names (pn++on).zipIdx->fk env (env::l)->Γ.length=pn.length+on.length->(∀b o,s.heap.get? b=some o->s₁.heap.get? b=some o)->(∀b,ee Γ b->s.heap.get? b=none)->
 a0 p.prog p.w p.B F c s₁.heap->bI p.prog p.w p.B Γ (env::l) F c ((args++dargs).map some++fz on.length) s₁.heap->cu p s₁->
 aB p.M vj (iv body env) (λf1 μ=>R (.ok (.ret (match f1 with| .ret v=>v|_=>.none))) μ) (λe μ=>aB p.M vj (G9 env e) (λH sm=>R (.error e) sm) (λaT sm=>R (.error aT) sm) μ) s₁):
 ip p.M A (.call (.ref f) ⟨vs,[]⟩) R s:=by
 have ku:=oZ ζ S;unfold so at Φ;simp only[e6,vv] at Φ;refine aa Φ λnd El=>?_;try clear Φ
 have iL:∀x∈pn++on,x≠("__debug__":φ)/\(scope.names.lookup x=some .local∨scope.names.lookup x=some .cell):=λx Ν=>by
  have:=kL.mp El x Ν;unfold Ek at this;simpa using this
 generalize jR:oH name qual params body scope dV kV doc pm an cdv ct=fd at ab pd;have bd:fd.scope=scope:=by rw[<-jR]
 have bk:fd.code=cdv:=by rw[<-jR]
 have du:fd.qualname=qual:=by rw[<-jR]
 refine call_cells (by have:=Χ.depth;exact IV this) (ku _ _ ab) rfl (JX ζ S) (by rw[bk,du];exact Rh ku ko) (by rw[<-jR]) (pd vs s am.length ku) (by rw[<-jR]) (λx Ν=>?_) (λs₁ Θ=>?_) (by rw[bd];exact pe) (by rw[bd];exact sn) (by rw[bd];exact Η)
 ·rw[bd];rcases(iL x.1 (ye _ ((λh=>(ah1 h).1) Ν))).2 with h|h
  ·exact .inl h
  ·exact .inr ⟨h,um h⟩
 have n0:=ja s.heap;generalize bB:s.heap.objs.size=L at Θ n0 ⊢;generalize aL:p3 fd L f=env at Θ ⊢;have wR:env.locals=L:=by rw[<-aL];rfl
 have pf:env.scope=scope:=by rw[<-aL,<-bd];rfl
 have un:env.frame=some L:=by rw[<-aL];rfl
 have Em:env.globals=lC:=by rw[<-aL,<-(by rw[<-jR]:fd.globals=lC)];rfl
 have En:env.builtins=rk:=by rw[<-aL,<-(by rw[<-jR]:fd.builtins=rk)];rfl
 have jP:env.cells=vE (L+1) scope.names []:=by rw[<-aL,<-bd];rfl
 have k':∀x,env.kindOf x=scope.names.lookup x:=λx=>by unfold ms;rw[pf]
 obtain⟨o6,si,Eo,g1⟩:=Θ;rw[wR] at o6 g1;obtain⟨⟨bG,tk,rfl⟩,la,keep,_⟩:=o6
 let Γ:I Place:=(pn++on).map (placeOf scope.names L env.cells)
 have wS:∀pl∈Γ,s.heap.get? pl.addr=none:=λpl ζ=>by
  apply iB (i5.mp ζ);intro x Ν;rcases(iL x Ν).2 with Η|Η
  ·simp only[placeOf,Η];exact n0
  ·simp only[placeOf,Η];refine a8 (tn.mp (um (m:=L+1) (acc:=[]) Η)) λa γ=>?_;rw[jP,γ];show s.heap.get? a=none;rcases q:s.heap.get? a with _|o
   ·rfl
   ·have Δ:=jv q;rw[bB] at Δ;exact absurd (g1 x a (by rw[jP];exact mem_of_lookup γ)) (BP.mpr (GJ Δ))
 have ka:∀x,scope.names.lookup x=some .cell->∃a,env.cells.lookup x=some a/\placeOf scope.names L env.cells x= .cell a:=λx Η=>by
  refine a8 (tn.mp (um (m:=L+1) (acc:=[]) Η)) λa γ=>?_;rw[<-jP] at γ;exact as a γ (by simp only[placeOf,Η,γ,Q'])
 have jS:∀x,scope.names.lookup x=some .local->placeOf scope.names L env.cells x= .loc L x:=λx Η=>by simp only[placeOf,Η]
 have Ep:Γ.Nodup:=by
  refine ah2.mpr (ah3 (λ{a b} γ Κ (Es:a≠b) e=>Es ?_) nd);rcases(iL a γ).2 with Α|Α<;>rcases(iL b Κ).2 with Δ|Δ
  ·rw[jS a Α,jS b Δ] at e;rcases e with ⟨⟩;rfl
  ·(refine ψ (ka b Δ) λy H bk=>?_);rw[jS a Α,bk] at e;contradiction
  ·(refine ψ (ka a Α) λy H bk=>?_);rw[jS b Δ,bk] at e;contradiction
  ·refine ψ (ka a Α) λy aX bk=>?_;refine ψ (ka b Δ) λz Ρ du=>?_;rw[bk,du] at e;(injection e with e;subst e);exact name_of_addr Eo (mem_of_lookup aX) (mem_of_lookup Ρ)
 have Et:∀(i:Y) x u,i<pn.length->(pn++on)[i]?=some x->(vs++dvals)[i]?=some u->(x,u)∈pn.zip (vs++dvals):=λi x u hi Ν a4=>by
  rw[rx hi] at Ν;refine j8 (i:=i) ?_;rw[ah4];exact⟨Ν,a4⟩
 have wT:((pn.zip (vs++dvals)).map (·.1)).Nodup:=by
  rw[ah5 (CO (by rw[fa];exact JA a' hd.length am.length))];exact(Ha.mp nd).1
 have er:bI p.prog p.w p.B Γ (env::l) F c ((args++dargs).map some++fz on.length) bG:=by
  refine⟨by simp[Γ,zx];exact Jt a',λi pl hi=>?_,Ep,λpl ζ=>S.none_of (wS pl ζ),?_⟩
  ·rw[p1] at hi;apply iB (mq.mp hi);intro x Ν;have m0:=j8 Ν;rw[LG];rcases oF i pn.length with hi|hi
   ·have:i<(args++dargs).length:=by rw[fa];exact Jv a' hi
    have wU:(args++dargs)[i]?=some (args++dargs)[i]:=gY this;rw[wU];refine ψ ((am.append (hd.mono λa o e=>S.base a o e)).get wU) λu a4 sl=>?_;have Ρ:=Et i x u hi Ν a4;rcases(iL x m0).2 with Α|Α
    ·rw[jS x Α];exact oM _ u la (LD (by rw[k'];exact Α) wT Ρ) sl
    ·refine ψ (ka x Α) λa γ bk=>?_;rw[bk];have wV:=si x a γ;rw[LF (by rw[k',Α];decide) wT Ρ] at wV;exact as u wV sl
   ·rw[Ri (by rw[fa];exact Js a' hi)];rcases(iL x m0).2 with Α|Α
    ·rw[jS x Α];exact⟨_,la⟩
    ·refine ψ (ka x Α) λa γ bk=>?_;rw[bk];exact⟨_,si x a γ⟩
  ·refine gz la λEu es dR Ev wW H=>?_;try clear la
   refine ft (by rw[pf,Η];decide) ⟨L,Eu,un,?_,Ev,λvs q=>by rw[wW] at q;cases q⟩ (FunFrames.ext (λb o e=>⟨o,keep b o e,id⟩) iJ);rcases q:p.B.get? L with _|o
   ·rfl
   ·rw[nL S L o q] at n0;contradiction
 have bt:dK p env Γ scope.names (pn++on).zipIdx:=by
  refine⟨by rw[pf];exact Η,by rw[pf],Em,En,λx i Ν=>?_⟩;have wX:(pn++on)[i]?=some x:=by
   have:=ah6 (mem_of_lookup Ν);simp at this;exact j7.mpr ⟨by rw[fa];exact this.1,this.2.symm⟩
  have m0:=j8 wX;refine⟨by simpa using (iL x m0).1,?_⟩;rw[p1,wX];rcases(iL x m0).2 with Α|Α
  ·exact .inl ⟨Α,by rw[BJ,jS x Α,wR]⟩
  ·refine ψ (ka x Α) λa γ bk=>?_;exact .inr ⟨Α,a,γ,by rw[BJ,bk]⟩
 have zJ:fw (A.deeper env) (env::l) n:=⟨Χ.handled,by show A.frames.map _=_;rw[Χ.frames];rfl,by show A.depth+1+4*n+6<_;have:=Χ.depth;exact IU this,by show A.units+3+20*n+100<_;have:=Χ.units;exact IT this⟩;exact h (A.deeper env) Γ env {s with heap:=bG,toks:=tk} zJ bt ⟨env,l,L,rfl,un,rfl⟩ (by simp[Γ]) keep ((λb be=>by(refine ψ be λpl ζ e=>?_;try clear be);exact e▸wS pl ζ)) (S.grow keep) er Ψ
end
noncomputable abbrev Gq:I ed:=[.Expr (.Call (.Name (s "made_by") (ps 608 8 608 15)) [.Name (s "shelf") (ps 608 16 608 21),.Name (s "item") (ps 608 23 608 27),.Tuple [.Name (s "_law_raw") (ps 608 30 608 38),.Name (s "_law_program") (ps 608 40 608 52)] 0 (ps 608 29 608 53)] [] (ps 608 8 608 54)) (ps 608 8 608 54)]
noncomputable abbrev af2:I ed:=[
 .Try Gq [.ExceptHandler (some (.Name (s "PaperError") (ps 609 11 609 21))) none [.Return (some (.Constant (.bool true) 0 (ps 610 15 610 19))) (ps 610 8 610 19)] (ps 609 4 610 19)] [] [] (ps 607 4 610 19),
 .Return (some (.Constant (.bool false) 0 (ps 611 11 611 16))) (ps 611 4 611 16)]
theorem af3:aD 80 none=af2:=by kernel_rfl
theorem af4:code (aE 80 none) Gq= .cons (.expr (.call (.cst (.val (.ref 626))) (.cons (.var 0) (.cons (.var 1) (.cons (.tup (.cons (.cst (.val (.ref 736))) (.cons (.cst (.val (.ref 743))) .nil))) .nil))))) .nil:=by kernel_rfl
theorem af5:(fT 80 none).names.lookup (s "PaperError")=some .globalImplicit:=by kernel_rfl
theorem af6(P:dF):sA P (s "PaperError")=some (.ref 46):=by kernel_rfl
theorem af7:(s "PaperError"==("__debug__":φ))=false:=by kernel_rfl
section
variable{A:gh}{Γ:I Place}{l:I bx}{F ω F₁:a2}{Μ:Ι}{ρ ν:Ο}{s₀ s₁:ah}{env aA:bx}{T:ε}{E:Λ->ah->Prop}{Q:tp->ah->Prop}{e:Λ}{P:dF}
theorem af8{rest:I ExceptHandler}{li af9 qm aga:bo}(ζ:p.Ok)(aC:p.K=KF P)(Ν:p.exc=46)(Τ:(∃gG ib L,l=gG::ib/\gG.frame=some L/\env.frame=gG.frame))(mT:A.frames=some l)(Η:env.scope.kind= .function)(Ζ:env.scope.names.lookup (s "PaperError")=some .globalImplicit)(aO:env.globals=lC)(Κ:env.builtins=rk)(T:rO p l e s₁.heap)(av:∀a5,p.B.StaysIn a5.heap->a5.gens=s₁.gens->a5.os=s₁.os->Q (.ret (.bool true)) a5):
 aB p.M A (pZ e env) (λH a5=>aB p.M A (Q7 e none) (λH gM=>aB p.M A (handleBy e env (.ExceptHandler (some (.Name (s "PaperError") li)) none [.Return (some (.Constant (.bool true) 0 aga)) qm] af9::rest)) Q E gM) E a5) E s₁:=by
 refine gz Τ λgG ib L aV bB hf=>?_;try clear Τ;rcases aV with rfl
 refine K4 mT bB hf T λbG wF H=>?_;refine DT (s:={s₁ with heap:=bG}) wF λc9 PG H=>?_;have PH:=PG;refine lI PH λa eA f1 aW gR k6 iJ bM=>?_;try clear PH;rcases aW with rfl;refine vO bM λjB vs o8 wC f7 aH cN hd H=>?_;try clear bM;refine aa cN λqr H=>?_;try clear cN
 refine wpAny_handleBy_cons (codeAny_handlers_test ?_) (by intro q;cases q);refine G5 (s:={s₁ with heap:=c9}) Η Ζ (QP (by rw[aO];exact ζ.g.keeps gR) ((Af ζ aC _).trans (af6 P)) ?_) af7;refine wpAny_excMatches_sub_self ((by rw[<-aC];exact λb o q=>gR b o (ζ.X b o q):(KF P).In c9) 46 _ (Ah P)) aH (by rw[qr,Ν]) (by decide) ?_;refine codeAny_handlers_suite ?_;refine DT (s:={s₁ with heap:=c9}) PG λg3 PI H=>?_;refine gz PI λdU akE akF H agb H=>?_;try clear PI
 refine yl (ajn ?_);show aB p.M (A.mark (some (.ref a))) (pure (Value.bool true)) _ _ _;exact cy (av {s₁ with heap:=g3} agb rfl rfl)
theorem agc{xu kX:Λ}{m:Y}{R:j9->ah->Prop}(G:ar p)(aC:p.K=KF P)(Ν:p.exc=46)(Ζ:41<=n)(xh:lK A l (n+1))(rs:au p.prog p.w F (cM T) xu)(c6:au p.prog p.w F v kX)(Χ:iZ p T v c)(S:a0 p.prog p.w p.B F c s₁.heap)(iJ:s₁.heap.FunFrames p.B l)(Ψ:cu p s₁)(av:∀a5,p.B.StaysIn a5.heap->cu p a5->R (.ok (.ret (.bool true))) a5):ip p.M A (.call (.ref 760) ⟨[xu,kX],[]⟩) R s₁:=by
 refine lH (E8 (i:=80) (j:=none) (by kernel_rfl)) λΑ Δ κ ay=>?_;refine PF (f:=760) (name:=s "_law_is_refused") (qual:=s "_law_is_refused") (params:=sw 80 none) (body:=aD 80 none) (scope:=fT 80 none) (dV:=.none) (kV:=.none) (doc:=.none) (pm:=.str (s "law_pq0808_02") 1094) (cdv:=.ref 759) (ct:=.none) (oc:=.type "function") (an:=none) (od:=none) (osl:=#[]) (pn:=pq 80 none) (on:=pr 80 none) (args:=[cM T,v]) (dargs:=[]) (dvals:=[]) (n:=n) (F:=F) (c:=c) G.Ψ.ζ
  (by rw[aC];kernel_rfl) (by rw[aC];kernel_rfl) Α Δ κ ay (by kernel_rfl) .nil (gH λa b=>by kernel_rfl) xh (.cons rs (.cons c6 .nil)) S iJ Ψ λvj Γ env a5 d9 fD fr a' keep qo d7 ef fl=>?_
 rw[af3];have Gr:=ET G.Χ (aE 80 none) vj Γ (env::l) env n G.Ψ ⟨d9,fD,fr,a'⟩ Gq rl F c (([cM T,v]++[]).map some++fz (pr 80 none).length) (λH H=>aK) (λH H H=>aK) (by
  rw[af4];exact(Χ (λH H=>aK)).at (b8 Ζ rfl:40<=n)) a5 d7 ef fl
 refine yl ?_;rw[arm_exec_Try];refine aI (mr (wpAny_tryStmt_except (bR Gr (λf1 gM ab=>?_) λe gM aH=>?_)))
 ·obtain⟨ω,c',aM,_,_,_,_,r⟩:=ab;cases f1 with
  |next=>exact r.elim
  |ret v=>obtain⟨_,_,q⟩:=r;exact q.elim
  |brk=>exact r.elim
  |cont=>exact r.elim
 ·refine af8 G.Ψ.ζ aC Ν fr.fr d9.frames fD.kind (by rw[fD.names];exact af5) fD.glob fD.blt aH.v4 λl3 gR aO ab=>?_;exact av l3 gR ⟨aO.trans aH.Ψ.1,ab.trans aH.Ψ.2⟩
end
end
noncomputable def xV:SL->SL
 | .nil=>.nil
 | .cons s .nil=>.nil
 | .cons s l=>.cons s (xV l)
noncomputable abbrev mh(pO:O)(Β x2 x3 x4 x5 x6 x7 dQ fW eG hz iT x13 x14 Br rc rd kI lx:ξ O):Ο:=[some pO,Β,x2,x3,x4,x5,x6,x7,dQ,fW,eG,hz,iT,x13,x14,Br,rc,rd,kI,lx]
noncomputable abbrev rf(p:bP)(ρ:Ο)(c:Ι):Prop:=iG p a1 a6 aK 50 (.cons (.var 11) (.cons (.call (.cst (.val (.ref 774))) (.cons (.var 2) (.cons (.var 3) (.cons (.var 11) (.cons (.var 12) (.cons (.var 10) (.cons (.var 8) .nil))))))) .nil)) ρ c λxs H c'=>∃T v,xs=[cM T,v]/\iZ p T v c'
noncomputable abbrev PJ:SL:=.cons (.for (.var 18) (.val (.lst false (.cons (.var 17) (.cons (.sub (.var 16) (.call (.cst (.val (.ref 678))) (.cons (.var 1) (.cons (.call (.cst (.val (.builtin "len"))) (.cons (.var 16) .nil)) .nil)))) (.cons (.bin .Sub (.bin .Add (.var 17) (.call (.cst (.val (.ref 678))) (.cons (.var 1) (.cons (.cst (.int 400)) .nil)))) (.cst (.int 200))) .nil))))) (.cons (.asg (.var 19) (.comp 2 (.call (.cst (.val (.ref 729))) (.cons (.var 20) (.cons (.var 21) (.cons (.var 9) .nil)))) (.tup [20,21]) (.val (.comp 1 (.call (.cst (.val (.ref 722))) (.cons (.var 10) (.cons (.var 20) (.cons (.bin .Mult (.cst (.int 100)) (.var 18)) .nil)))) (.var 20) (.range (.cst (.int 0)) (.var 8) (.cst (.int 1))) .nil)) .nil)) (.cons (.qe (.cmp .NotEq (.call (.cst (.val (.ref 753))) (.cons (.var 15) (.cons (.var 18) (.cons (.var 9) .nil)))) (.var 19)) (.cons (.ret (.cst (.bool false))) .nil) .nil) .nil))) .nil
section
variable{N:Y}{bq:Ι}{k g pl kind cI b' gv drawn:J}{bH q places:Y}{χ:I (J×O)}{x fn lv:O}{nd:cT}{η:b5}{ς:I J}{parts:I cP}{more D:I (Y×O)}{T u c2:ε}{cells:I J}
theorem agd(G:ar p)(Ζ:1<=n)(Θ:c d=some (.cV []))(h:Q .none (upd c d (some (.cV [(89,.loc T),(96,.Ω [])])))):aF p n (.val (.ref 381)) [.ins 452 d,.loc T,.Ω []] c Q Er:=by
 refine .at Ζ ?_;refine aaA G rfl ?_;refine dj _ Θ (bu rfl) ⟨_,aj ..,bu rfl,?_⟩;show Q .none _;rw[dX];exact h
theorem age{cA:I (J×J)}{de:I ai}(h:cA.map (λx=>c8 x.1 x.2)=de):cA.map (λx=>iQ (ig places (c8 x.1 x.2)))=de.map λr=>iQ (ig places r):=by
 subst h;rw[lG];rfl
theorem agf(l:I (J×Y)):pairsOf (l.map iQ)=some (l.map λx=>(x.1,(x.2:J))):=by
 induction l with
 |nil=>rfl
 |cons x l Ξ=>
  show(pairsOf (l.map iQ)).map _=_;rw[Ξ];rfl
theorem agg{P dt:Prop}(de:I ai)(h:dt):hR (tM (.lst (de.map λr=>iQ (ig places r))) (.lst (de.map λr=>iQ (ig places r)))) P dt:=by
 rw[(by rw[lG];rfl:de.map (λr=>iQ (ig places r))=(de.map (ig places)).map iQ)];rcases Τ:de.map (ig places) with _|⟨x,l⟩
 ·exact h
 ·show hR (wa (.lst ((x::l).map iQ)) (.lst ((x::l).map iQ))) P dt;unfold wa;show hR (match pairsOf ((x::l).map iQ),pairsOf ((x::l).map iQ) with|some x,some y=>some (!decide (x=y))|_,_=>dc) P dt;rw[(agf (x::l))];show fO (!decide (_=_)) _ _;rw[jw rfl];exact h
theorem agh{Β x2 x3 x4 x5 x6 x7 hz iT x13 x14 rc rd lx:ξ O}{K:Ο->Ι->Prop}(G:ar p)(Ζ:30<=n)(af:1<=count/\count<=2)(av:places<=10)(δ: -3000<=gv/\gv<=3000)(V:pG p count 22 nd){rg:cT}(W:oq p count 8 rg)(hf:rg.f (100*gv)=nd.f (100*gv))(Gs:rg.ek= .Ω D)(aC:∀c' lx,fF c c'->K (mh lv Β x2 x3 x4 x5 x6 x7 (some (.int count)) (some (.int places)) (some (.Ω D)) hz iT x13 x14 (some nd.fn) rc rd (some (.int gv)) lx) c'):
 bh p a1 a6 aK n (O2 PJ) (mh lv Β x2 x3 x4 x5 x6 x7 (some (.int count)) (some (.int places)) (some (.Ω D)) hz iT x13 x14 (some nd.fn) rc rd (some (.int gv)) lx) c K (λH H H=>aK):=by
 have PK:al 24 (100*gv):=.of (n:=300001) (ej (fI (by decide) (ow δ.1 (by decide))) (lz (ow δ.2 (by decide)) (by decide))) (by decide);have ay:4∣100*gv:=⟨25*gv,by exact(by simp+arith)⟩;have st:al 24 gv:=.of (n:=3001) (ej (fI (by decide) δ.1) (lz δ.2 (by decide))) (by decide);refine⟨m' (aR af.2 rfl),?_⟩;rw[lm,n7];refine uS (λrest acc ρ c'=>c'=c/\∃(cA:I (J×J)) (o:ξ O),acc=cA.map n5/\rest=Hw cA.length (count - cA.length)/\cA.length<=count/\(∀(i:Y) (x:J×J),cA[i]?=some x->(0<x.2/\al 3900 x.1/\al 3900 x.2)/\(nd.f (100*gv))[i]?=some (c8 x.1 x.2))/\ρ=[some lv,Β,x2,x3,x4,x5,x6,x7,some (.int count),some (.int places),some (.Ω D),hz,iT,x13,x14,some nd.fn,rc,rd,some (.int gv),lx,o]) ?_ ?_ (fK count) [] _ c ⟨rfl,[],none,rfl,by simp[Hx],mv _,(λi x h=>nomatch h),rfl⟩
 ·intro x rest acc ρ c' K be aC;refine aa be λaV aW=>?_;try clear be;rcases aV with rfl;refine oK aW λcA o bM Χ Τ g1 cN=>?_;try clear aW;rcases bM with rfl;rcases cN with rfl
  have dh:cA.length<count:=by
   rcases oF cA.length count with h|h
   ·exact h
   ·rw[Hy h] at Χ;contradiction
  rw[show count - cA.length=(count - cA.length - 1)+1 by exact(il (Qi dh)).symm] at Χ;refine aa (vz Χ) λaV aW=>?_;rcases aV with rfl;rcases aW with rfl
  refine⟨bT (i:=7) (by decide) st (by decide),?_⟩;have fN:=@oq.ok p count 8 rg W n c' (λv bz=>(λv ρ c=>K (cA.map n5++[v]) ρ c) v [some lv,Β,x2,x3,x4,x5,x6,x7,some (.int count),some (.int places),some (.Ω D),hz,iT,x13,x14,some nd.fn,rc,rd,some (.int gv),lx,some (.int (cA.length:Y))] bz) aK (100*gv) cA.length (b8 Ζ rfl) PK (λH=>ay) dh;rw[Gs,hf] at fN;refine fN λa b Κ gp e3 Φ=>aC _ _ _ ⟨rfl,cA++[(a,b)],_,by rw[h8];rfl,by rw[fa,lE];congr 1<;>omega,by rw[fa,lE];exact I1 dh,λi x hi=>?_,rfl⟩;rcases oF i cA.length with h|h
  ·rw[rx h] at hi;exact g1 i x hi
  ·rw[to h] at hi;have:i=cA.length:=by
    have:=(j7.mp hi).1;simp at this;exact I0 this h
   subst this;rw[Hq] at hi;obtain rfl:=bQ hi;exact⟨⟨Κ,gp,e3⟩,Φ⟩
 ·intro acc ρ c' be;refine aa be λaV aW=>?_;try clear be;rcases aV with rfl;refine oK aW λcA o bM Χ Τ g1 cN=>?_;try clear aW;rcases bM with rfl;rcases cN with rfl
  have Χ:=cE mu Χ;rw[Hz] at Χ;have PL:cA.length=count:=vn Τ (GI Χ.symm);have jo:cA.map (λx=>c8 x.1 x.2)=nd.f (100*gv):=by
   apply List.ext_getElem?;intro i;rw[p1];rcases h:cA[i]? with _|x
   ·rw[Ri (by rw[(V.len (100*gv)),<-PL];exact List.getElem?_eq_none_iff.mp h)];rfl
   ·rw[(g1 i x h).2];rfl
  refine⟨by rw[bV];exact cJ PL af.2 rfl,?_⟩;refine m9 (f:=n5) (λx=>iQ (ig places (c8 x.1 x.2))) (λo:ξ (J×J)=>[some lv,Β,x2,x3,x4,x5,x6,x7,some (.int count),some (.int places),some (.Ω D),hz,iT,x13,x14,some nd.fn,rc,rd,some (.int gv),lx,o.map λx=>.int x.1,o.map λx=>.int x.2]) cA [] none (λx Ν o acc K aC=>?_) λo=>?_
  ·refine a8 (s7 Ν) λi hi=>?_;refine aa (g1 i x hi) λbM H=>?_;refine e7 bM λΑ Δ κ=>?_;try clear bM
   exact afp G (b8 Ζ rfl) Α Δ κ av aC
  ·rw[i6,age jo];refine .at (aP (ei _ _) Ζ:22+2<=n) ?_;refine adq G V (by decide) av PK ay st (aR af.2 rfl) λc' eY=>?_;exact agg _ (aC c' _ eY)
end
section
variable{N:Y}{bq:Ι}{k g pl kind cI b' gv drawn:J}{bH q places kk:Y}{χ:I (J×O)}{x fn lv:O}{nd:cT}{η:b5}{ς es:I J}{parts:I cP}{more D:I (Y×O)}{T u c2:ε}{cells:I J}
theorem SameBut.at{c c':Ι}{u T:ε}{x:ξ fY}(h:SameBut u c c')(bF:T≠u)(e:c T=x):c' T=x:=(h T bF).trans e
theorem agi{x4 x5 x6 x7 x13 x14:ξ O}{rg:cT}(G:ar p)(af:1<=count/\count<=2)(av:places<=10)(V:pG p count 22 nd)(W:oq p count 8 rg)(hf:∀gv,rg.f (100*gv)=nd.f (100*gv))(Gs:rg.ek= .Ω D)(a4:en c u cells kk)(ha:kk<=500000)(Θ:c T=some (.tab t))(ik:T≠u)(bB:L<=1)(E:ra count L t low high η ς parts l)(bC:0<=cI/\cI<11)(ab:0<=b'/\b'<5)(jV:bl D 64=some (.int low))(me:bl D 57=some (.int high))(xO:bl D 62=some (.int ((L+1:Y):J)))(agj:∀x∈es,-2000<=x/\x<=2000)(Bt:1<=es.length/\es.length<=100)(hd: -2000<=drawn/\drawn<=2000):
 bh p a1 a6 aK 50 PJ (mh lv (some (.loc u)) (some (.int cI)) (some (.int b')) x4 x5 x6 x7 (some (.int count)) (some (.int places)) (some (.Ω D)) (some (cM T)) (some (.Ω l)) x13 x14 (some nd.fn) (some (.lst (b2 es))) (some (.int drawn)) none none) c (rf p) (λH H H=>aK):=by
 have s2:(b2 es).length=es.length:=by unfold b2;rw[bV]
 refine eK (cJ s2 Bt.2 rfl) ?_;rw[s2];refine fs G (by decide) a4 (ml.2 Bt.1) (.of (n:=101) (CI Bt.2) (by decide)) (aR ha rfl) λr Μ h0 Α ao ds=>?_;refine a8 (ts h0) λq aV=>?_;rcases aV with rfl
 have PM:q<es.length:=IQ Α;have PN:=agj _ (kR PM);refine cO (vf PM (aR Bt.2 rfl)) ?_;refine fs G (by decide) ao (by decide) (by decide) (gL ha rfl) λdJ az Δ κ aJ eC=>?_;refine⟨bu rfl,?_⟩;refine qX (f:=O.int) (λrest ρ c'=>(∀x∈rest,-3000<=x/\x<=3000)/\fF az c'/\∃kI lx,ρ=mh lv (some (.loc u)) (some (.int cI)) (some (.int b')) x4 x5 x6 x7 (some (.int count)) (some (.int places)) (some (.Ω D)) (some (cM T)) (some (.Ω l)) x13 x14 (some nd.fn) (some (.lst (b2 es))) (some (.int drawn)) kI lx) ?_ ?_ [drawn,es[q],drawn+dJ - 200] _ az ⟨λx Ν=>?_,.refl _,_,_,rfl⟩
 ·intro x rest ρ c' K be aC;refine e7 be λΝ eO aV=>?_;try clear be;apply Cg aV;intro kI lx
  exact agh G (by decide) af av (Ν x (.head _)) V W (hf x) Gs λbz lx jq=>aC _ _ ⟨λy aX=>Ν y (.tail _ aX),eO.trans jq,_,_,rfl⟩
 ·intro ρ c' be;refine e7 be λΝ eO aW=>?_;try clear be;apply Cg aW;intro kI lx
  refine af1 G (by decide) af bB E (eO _ _ ((ds.trans eC).at ik Θ)) bC ab jV me xO λv bz Χ=>?_;exact nz T v rfl Χ
 ·cases Ν with
  |head=>exact HV hd.1 hd.2
  |tail _ Ν=>cases Ν with
   |head=>exact HV PN.1 PN.2
   |tail _ Ν=>cases Ν with
    |head=>exact θ [] [_,_] (.an (.ι (.g (.c 3000)) (.s (.a (.v 0) (.v 1)) (.c 200))) (.ι (.s (.a (.v 0) (.v 1)) (.c 200)) (.c 3000))) [(.ι (.g (.c 2000)) (.v 0)),(.ι (.c 0) (.v 1)),(.ι (.v 0) (.c 2000)),(.ι (.a (.v 1) (.c 1)) (.c 400))] [[1,1,1],[1,0,0,1,1]] rfl hd.1 Δ hd.2 κ
    |tail _ Ν=>cases Ν
end
noncomputable abbrev agk(l:SL):SL:=a9 (a9 (a9 (a9 (a9 (a9 (a9 (a9 (a9 (a9 l)))))))))
noncomputable abbrev PO:SL:=agk (xV uz)
noncomputable abbrev PP:SL:=a9 (a9 (a9 (a9 (a9 (a9 PO)))))
section
variable{N:Y}{bq:Ι}{k g pl kind cI b' gv drawn PQ:J}{bH q places kk:Y}{χ gO fV:I (J×O)}{x fn lv:O}{nd:cT}{η:b5}{ς es:I J}{parts:I cP}{more D:I (Y×O)}{T u c2:ε}{cells:I J}
structure PR(gO fV:I (J×O))(v:O):Prop where
 le:b3 gO fV
 old:∀k:J,k≠900->k≠901->cW fV k=cW gO k
 Bu:cW fV 900=some (.tup [.int 0,dM 900 0])
 agl:cW fV 901=some (.tup [.int 0,v])
 tab:co fV
 len:fV.length<=60100
theorem agm(R:PR gO fV v)(Χ:refOf v=none){h:Y}(h0:1<=h)(Α:h<=30):cp (gu 901 fV 30) 30 (dM (900+h) 0)=v:=by
 have e:=Pp (t:=gu 901 fV 30) (s:=901) (j:=h - 1) (λi hi=>Py (vG hi (aP (ox _ 1) Α))) (30 - (h - 1));rw[show 30 - (h - 1)+(h - 1)=30 by exact SV Α,show(901:J)+((h - 1:Y):J)=900+h by omega] at e;rw[e,show 30 - (h - 1)=(30 - h)+1 by exact SG h0 Α,xF (by rw[xM λi hi=>by exact ajm (θ [_] [] (.ι (.a (.c 901) (.c 1)) (.a (.a (.c 901) (.n (.v 0))) (.c 1))) [] [[1]] rfl)];exact R.agl),fp Χ]
theorem agn{d2:Y}{x5 x6 x13:ξ O}(G:ar p)(af:1<=count/\count<=2)(av:places<=10)(bB:L<=1)(gW:pK count L low high η ς parts)(σ:∀b9,b3 gO b9->iU b9->s1 count L b9 low high η ς parts l/\j2 count b9 (L+1) (.Ω l))(hm:m+L<=7)(R:PR gO fV (lw low high m (.Ω l)))(jc:∀k:J,900<=k/\k<=999∨k=1100->cW gO k=none)(a4:en c u cells kk)(ha:kk<=400000)(Θ:c T=some (.tab fV))(ik:T≠u)(bC:0<=cI/\cI<11)(ab:0<=b'/\b'<5)(bJ:1<=d2/\d2<=30):
 bh p a1 a6 aK 50 PP (mh lv (some (.loc u)) (some (.int cI)) (some (.int b')) (some (.int d2)) x5 x6 (some (.int ((L+1:Y):J))) (some (.int count)) (some (.int places)) (some (.Ω (jZ low high η ς parts++[(62,.int ((L+1:Y):J))]))) (some (cM T)) (some (.Ω l)) x13 none none none none none none) c (rf p) (λH H H=>aK):=by
 have dE:=gW.1.g;unfold dN at dE;have om:=gW.1.big;have fr:∀i:Y,i<30->cW fV (901+i+1)=none:=λi hi=>by
  rw[R.old _ ((by simp+arith)) ((by simp+arith))];exact jc _ (.inl ((by decide+revert)))
 have PS:b3 fV (gu 901 fV 30):=Pz fr;have sj:b3 gO (gu 901 fV 30):=R.le.trans PS;have PT:co (gu 901 fV 30):=PA R.tab;have Bu:cW (gu 901 fV 30) 900=some (.tup [.int 0,dM 900 0]):=PS _ _ R.Bu;have E:ra count L (gu 901 fV 30) low high η ς parts l:=⟨λb9 q Χ=>σ b9 (sj.trans q) Χ,Bu,λk Η=>by
  rw[xM λi hi=>by exact λe=>absurd (Η.elim And.left λq=>q▸(by decide)) (BB.mpr (θ [_] [_] (.ι (.a (.v 0) (.c 1)) (.c 960)) [.le (.a (.v 0) (.c 1)) (.c 30),.ff (.v 0) (.a (.a (.c 901) (.n (.v 0))) (.c 1))] [[1,1,1]] rfl hi e)),R.old k (λe=>absurd (e▸Η) (by decide)) (λe=>absurd (e▸Η) (by decide))];exact jc k (Η.imp (λh=>⟨hc (by decide) h.1,h.2⟩) id),PT,by exact mA (Gn (b:=901) (t:=fV) (n:=30)) R.len rfl⟩
 refine⟨⟨by decide,by decide,by decide,by decide,by decide,by decide,by decide⟩,?_⟩;rw[show fQ 2 32 1=30 from by unfold fQ;decide,qY];refine qX (λrest ρ Μ=>∃(k:Y) (o:ξ O),rest=Hw k (30 - k)/\k<=30/\Μ=upd c T (some (.tab (gu 901 fV k)))/\ρ=mh lv (some (.loc u)) (some (.int cI)) (some (.int b')) (some (.int d2)) x5 x6 (some (.int ((L+1:Y):J))) (some (.int count)) (some (.int places)) (some (.Ω (jZ low high η ς parts++[(62,.int ((L+1:Y):J))]))) (some (cM T)) (some (.Ω l)) x13 o none none none none none) ?_ ?_ (fK 30) _ c ⟨0,none,Hx,by decide,?_,rfl⟩
 ·intro x rest ρ Μ K be aC;refine oJ be λk o Χ Η aV aW=>?_;try clear be;rcases aV with rfl;rcases aW with rfl
  have dh:k<30:=by
   rcases oF k 30 with h|h
   ·exact h
   ·rw[Hy h] at Χ;rcases Χ with ⟨⟩
  rw[show 30 - k=(29 - k)+1 by exact Ip dh] at Χ;refine aa (vz Χ) λaV aW=>?_;rcases aV with rfl;rcases aW with rfl
  refine λe aH=>qQ G (by decide) (aj ..) ⟨rfl,_,aj ..,?_⟩;rw[ie aH];show aF p 50 (.val (.ref 416)) [cM T,.int (900+(2+1*(x:Y))),.int 0,dM (900+(2+1*(x:Y)) - 1) 0] _ _ _;rw[((by simp+arith):(900:J)+(2+1*(x:Y))=901+(x:Y)+1),((by simp+arith):(901:J)+(x:Y)+1 - 1=901+(x:Y))];refine qR G (by decide) (aj ..) (θ [_,_,_] [] (.le (.v 0) (.c 100000)) [(.le (.v 0) (.a (.v 1) (.v 2))),(.le (.v 1) (.c 60100)),(.le (.a (.v 2) (.c 1)) (.c 30))] [[1,1,1,1]] rfl (Gn (b:=901) (t:=fV) (n:=x)) R.len dh) ?_;rw[dX];exact aC _ _ ⟨x+1,_,by rw[show 30 - (x+1)=29 - x by exact II],by exact Iq dh,rfl,rfl⟩
 ·intro ρ Μ be;refine oJ be λk o Χ Η aV aW=>?_;try clear be;rcases aV with rfl;rcases aW with rfl
  have Χ:=cE mu Χ;rw[Hz] at Χ;have:k=30:=Ig Χ Η;subst this;have j5:1<=count/\count<=50:=⟨af.1,by exact aR af.2 rfl⟩;have PU:upd c T (some (.tab (gu 901 fV 30))) T=some (.tab (gu 901 fV 30)):=aj ..;have Ε:eF count (gu 901 fV 30) (L+1+m) (pS low high (pJ low high η ς parts [(62,.int ((L+1:Y):J))]) m).fn (lw low high m (.Ω l)):=afq (nd:=pJ low high η ς parts [(62,.int ((L+1:Y):J))]) gW.1.g (.Ω l) rfl ((σ _ sj ((λh=>Bq Bu h) .refl)).1.hd) m;have bZ:=pE.of (L+1) (gW.tree [(62,.int ((L+1:Y):J))]);have V:=adl G (aR j5.2 rfl:count<=100) (L+1+m) (aft gW.1.g bZ m);have W:=afl G af.2 (L+1) bZ;refine vM Ε.obj λkind lo hi akG kC uX=>?_;refine λe aH=>qQ G (by decide) (aj ..) ⟨rfl,_,aj ..,?_⟩;rw[ie aH];refine Na G rfl (A3 (dp:=0) (item:=dM (900+d2) 0) G j5 PT Ε (agm R (vh (low:=low) (high:=high) (bU.Ω l) rfl m).2 bJ.1 bJ.2) (.ref _ _) (θ [_,_] [] (.ι (.a (.c 0) (.a (.a (.n (.v 1)) (.c 1)) (.n (.v 0)))) (.c 8)) [(.le (.a (.v 0) (.v 1)) (.c 7))] [[1,1]] rfl hm) (θ [_,_] [] (.le (.a (.m 2 (.a (.a (.v 1) (.c 1)) (.v 0))) (.c 8)) (.c 49)) [(.le (.a (.v 0) (.v 1)) (.c 7))] [[1,2]] rfl hm) PU λaz eO=>?_);have Ec:=eO _ _ PU;have aJ:en az u cells kk:=by
   rcases(a4.same (a3 _ _ λe=>ik e.symm)) with ⟨a,b,Θ,ok,γ,Κ,e3⟩
   exact⟨a,b,eO _ _ Θ,ok,γ,Κ,e3⟩
  have PV:=λQ=>@AS p count _ G ⟨af.1,by exact aR j5.2 rfl⟩ _ _ _ Ε 50 az Q aK (θ [_,_] [] (.le (.a (.a (.a (.v 1) (.c 1)) (.v 0)) (.c 1)) (.c 50)) [(.le (.a (.v 0) (.v 1)) (.c 7))] [[1,1]] rfl hm);rw[uX] at PV ⊢;refine FD G (by decide) ?_;refine PV _ ?_;show fO (!(decide ((1:J)=1)&&decide ((count:J)=count))) _ _;rw[jw rfl,jw rfl];refine⟨by rw[(by unfold b2;rw[bV]:(b2 ς).length=ς.length)];show ς.length+2<=10000;exact gL om rfl,?_⟩;rw[(by unfold b2;rw[h8];rfl:b2 ς++[.int low,.int high]=b2 (ς++[low,high]))];refine fs G (by decide) aJ (θ [] [_,_] (.ι (.c 1) (.a (.s (.v 1) (.v 0)) (.c 1))) [(.ι (.v 0) (.v 1))] [[1,1]] rfl dE.2.1) (.of (n:=5000) (θ [] [_,_] (.cA (.a (.s (.v 1) (.v 0)) (.c 1)) (.c 5000)) [(.ι (.g (.c 2000)) (.v 0)),(.ι (.v 1) (.c 2000)),(.ι (.v 0) (.v 1))] [[1,1,1],[1,0,0,1]] rfl dE.1 dE.2.2 dE.2.1) (by decide)) (aR ha rfl) λr cH h0 Α bf g9=>?_;have cq:=agi (p:=p) (c:=cH) (lv:=lv) (x4:=some (.int d2)) (x5:=x5) (x6:=x6) (x7:=some (.int ((L+1:Y):J))) (x13:=x13) (x14:=o) (es:=ς++[low,high]) (drawn:=low+r) (D:=jZ low high η ς parts++[(62,.int ((L+1:Y):J))]) G af av (⟨λhm=>V.call (by omega),V.eE,V.len⟩) (⟨λhm=>W.ok (θ [_,_] [] (.le (.a (.c 1) (.a (.v 1) (.c 1))) (.v 0)) [(.le (.c 8) (.v 0)),(.le (.v 1) (.c 1))] [[1,1,1]] rfl hm bB)⟩) (λgv=>(afv dE.2.1 m _).symm) rfl bf (gL ha rfl) (g9.at ik Ec) ik bB E bC ab rfl rfl rfl (λx Ν=>?_) (by simp;exact aR om rfl) (θ [] [_,_,_] (.an (.ι (.g (.c 2000)) (.a (.v 0) (.v 1))) (.ι (.a (.v 0) (.v 1)) (.c 2000))) [(.ι (.g (.c 2000)) (.v 0)),(.ι (.c 0) (.v 1)),(.ι (.v 2) (.c 2000)),(.ι (.a (.v 1) (.c 1)) (.a (.s (.v 2) (.v 0)) (.c 1)))] [[1,1,1],[1,0,0,1,1]] rfl dE.1 h0 dE.2.2 Α)
  ·rw[uX] at cq;exact cq
  ·rcases hA.mp Ν with Ν|Ν
   ·have:=vd gW.1.up x Ν;exact tD dE.1 dE.2.2 this.2 this.1
   ·cases Ν with
    |head=>exact tC dE.1 dE.2.2 dE.2.1
    |tail _ Ν=>cases Ν with
     |head=>exact vU dE.1 dE.2.2 dE.2.1
     |tail _ Ν=>rcases Ν with ⟨⟩
 ·funext b;unfold upd;split
  ·rename_i e;rw[e,Θ];rfl
  ·rfl
end
section
variable{N:Y}{bq:Ι}{k g pl kind cI b' gv drawn PQ:J}{bH q places kk:Y}{χ gO fV:I (J×O)}{x fn lv:O}{nd:cT}{η:b5}{ς es:I J}{parts:I cP}{more D:I (Y×O)}{T u c2:ε}{cells:I J}{dp:aQ}
theorem ago{d2:Y}(G:ar p)(af:1<=count/\count<=2)(av:places<=10)(bB:L<=1)(gW:pK count L low high η ς parts)(hd:c d=some (.Ω (jZ low high η ς parts)))(Gu:dZ c2 T 0 c [])(xW:d≠c2)(dw:d≠T)(a4:en c u cells kk)(ha:kk<=400000)(ik:T≠u)(pU:c2≠u)(q6:d≠u)(bC:0<=cI/\cI<11)(ab:0<=b'/\b'<5)(bJ:1<=d2/\d2<=30):
 bh p a1 a6 aK 50 PO (mh lv (some (.loc u)) (some (.int cI)) (some (.int b')) (some (.int d2)) (some (.loc c2)) (some (.bool dp)) (some (.int ((L+1:Y):J))) (some (.int count)) (some (.int places)) (some (.loc d)) none none none none none none none none none) c (rf p) (λH H H=>aK):=by
 have aO:=gW.1.g;refine e7 aO λfH e1 ew=>?_;try clear aO
 refine dj _ hd (bu rfl) ?_;have oj:dZ c2 T 0 (upd c d (some (.Ω (jZ low high η ς parts++[(62,.int ((L+1:Y):J))])))) []:=Gu.keep (a3 _ _ xW.symm) (a3 _ _ dw.symm);have agp:=oj;rcases agp with ⟨kG,kS,next,qs,δ,tab,cS,sS,ne,len⟩
 refine as _ qs ?_;refine as _ (aj ..) ?_;have nl:dZ c2 T 0 (upd (upd c d (some (.Ω (jZ low high η ς parts++[(62,.int ((L+1:Y):J))])))) d none) []:=oj.keep (a3 _ _ xW.symm) (a3 _ _ dw.symm);refine O7 G af.2 (ae4 G af.2 L) (aP (xY bB _) (by decide)) gW nl (by rcases(yI bB:L=0∨L=1) with e|e<;>subst e<;>decide) λx cH h4 l j4 ol g9 Ν σ=>?_;rcases j4 with ⟨akH,akI,akJ,akK,PW,PX,agq,akL,Du,agr⟩
 refine uI G (by decide) PW PX Ν.c7 ?_;rw[Ν.eq _ .refl];refine⟨bT (i:=7) (j:=11) (by decide) (.of (n:=2001) (rL fH ew e1) (by decide)) (by decide),?_⟩;refine pH G (by decide) ?_;refine⟨bT (i:=7) (j:=11) (by decide) (.of (n:=2001) (vV fH ew e1) (by decide)) (by decide),?_⟩;refine pH G (by decide) ?_;refine λe aH=>qQ G (by decide) (aj ..) ⟨rfl,_,aj ..,?_⟩;rw[ie aH];have Gv:∀k:J,900<=k/\k<=999∨k=1100->cW h4 k=none:=λk Η=>by
  rcases q:cW h4 k with _|e
  ·rfl
  ·have:=agq k e q;omega
 have Gw:h4.length<=60000:=by
  have:0+32*8^(L+1)<=60000:=by rcases(yI bB:L=0∨L=1) with e|e<;>subst e<;>decide
  exact aP agr this
 refine qR (a:=900) (b:=0) (v:=dM 900 0) G (by decide) PW (aR Gw rfl) ?_;have PY:=xE h4 900 (.tup [.int 0,dM 900 0]);have rest:∀m v,m+L<=7->v=lw low high m (.Ω l)->aF p 50 (.val (.ref 416)) [cM T,.int (900+1),.int 0,v] (upd cH T (some (.tab (f3 h4 900 (.tup [.int 0,dM 900 0]))))) (λH c'=>bh p a1 a6 aK 50 PP (mh lv (some (.loc u)) (some (.int cI)) (some (.int b')) (some (.int d2)) (some (.loc c2)) (some (.bool dp)) (some (.int ((L+1:Y):J))) (some (.int count)) (some (.int places)) (some (.Ω (jZ low high η ς parts++[(62,.int ((L+1:Y):J))]))) (some (cM T)) (some (.Ω l)) (some (kJ low high)) none none none none none none) c' (rf p) (λH H H=>aK)) aK:=by
  rintro m v hm rfl;refine qR G (by decide) (aj ..) (mA PY Gw rfl) ?_;rw[dX];refine agn G af av bB gW σ hm ⟨(b3.put (Gv 900 (by omega))).trans (b3.put (by rw[js,bL (by decide)];exact Gv _ ((by decide)))),λk Α Δ=>?_,?_,?_,(PX.put (.ref _ _)).put ((vh (low:=low) (high:=high) (bU.Ω l) rfl m).1),by exact θ [_,_,_] [] (.le (.v 0) (.c 60100)) [(.le (.v 0) (.a (.v 1) (.c 1))),(.le (.v 1) (.a (.v 2) (.c 1))),(.le (.v 2) (.c 60000))] [[1,1,1,1]] rfl (xE (f3 h4 900 (.tup [.int 0,dM 900 0])) (900+1) (.tup [.int 0,lw low high m (.Ω l)])) PY Gw⟩ Gv ((((a4.same (a3 _ _ q6.symm)).same (a3 _ _ q6.symm)).same (g9 u pU.symm ik.symm)).same (a3 _ _ λe=>ik e.symm)) ha (aj ..) ik bC ab bJ
  ·rw[js,bL (by exact Δ),js,bL Α]
  ·rw[js,bL (by decide),js,cz rfl]
  ·rw[js,cz (by decide)]
 cases dp with
 |true=>
  show aF p 50 (.val (.ref 767)) [.Ω l,kJ low high,.int (8 - ((L+1:Y):J))] _ _ _;rw[show(8:J) - ((L+1:Y):J)=((7 - L:Y):J) by omega];refine Pk G (by decide) (aP (ox _ _) (by decide)) ?_;exact rest (7 - L) _ (SI bB) rfl
 |false=>exact rest 0 _ (aP (xY bB _) (by decide)) rfl
end
noncomputable abbrev PZ:SL:=a9 (a9 (a9 (a9 (a9 (a9 (xV uz))))))
section
variable{N:Y}{bq:Ι}{k g pl kind cI b' gv drawn PQ r:J}{bH q places kk:Y}{x fn lv:O}{T u c2:ε}{cells:I J}{dp:aQ}{ns:I J}
theorem ags(h0:0<=r)(Α:r<4):∃h:Y,eX [.int 1,.int 2,.int 29,.int 30] r=some (.int h)/\(1<=h/\h<=30):=by
 rcases(Cx h0 Α:r=0∨r=1∨r=2∨r=3) with e|e|e|e<;>subst e<;>first|exact as 1 rfl (by decide)|exact as 2 rfl (by decide)|exact as 29 rfl (by decide)|exact as 30 rfl (by decide)
theorem Gx{a:J}{k j:Y}{K:O->Prop}(e:a+(k:J)=(j:J))(h:K (.int (j:Y))):v6 .Add (.int a) (.int (k:Y)) K:=by
 show K (.int (a+k));rw[e];exact h
theorem agt{d2:Y}(G:ar p)(Gu:dZ c2 T 0 c [])(a4:en c u cells kk)(ha:kk<=10)(ik:T≠u)(pU:c2≠u)(bC:0<=cI/\cI<11)(ab:0<=b'/\b'<5)(bJ:1<=d2/\d2<=30):
 bh p a1 a6 aK 50 PZ (mh lv (some (.loc u)) (some (.int cI)) (some (.int b')) (some (.int d2)) (some (.loc c2)) (some (.bool dp)) none none none none none none none none none none none none none) c (rf p) (λH H H=>aK):=by
 refine fs G (by decide) a4 (by decide) (by decide) (aR ha rfl) λag Μ hq dv ao ds=>?_;obtain⟨L,rfl⟩:=ts hq;refine Gx (j:=L+1) (CJ) ?_;refine fs G (by decide) ao (by decide) (by decide) (gL ha rfl) λdJ az gP q5 aJ eC=>?_;obtain⟨fB,rfl⟩:=ts gP;refine Gx (j:=fB+1) (CJ) ?_;refine fs G (by decide) aJ (by decide) (by decide) (SM ha) λmS cH jf gV bf g9=>?_;obtain⟨e8,rfl⟩:=ts jf;have s:=ds.trans (eC.trans g9);refine Gx (j:=e8+2) (ag6 _ _) ?_;have j4:dZ c2 T 0 cH []:=Gu.keep (s c2 pU) (s T ik);refine @aes p L (fB+1) u cells G ⟨by exact tE,by exact Il q5⟩ (Im dv) 50 cH _ aK _ (θ [_] [] (.le (.a (.c 6) (.m 2 (.v 0))) (.c 50)) [(.ι (.a (.n (.v 0)) (.c 1)) (.c 2))] [[1,2]] rfl dv) bf (θ [_,_] [] (.le (.a (.a (.a (.a (.v 0) (.c 1)) (.c 1)) (.c 1)) (.m 10000 (.v 1))) (.c 300000)) [(.le (.v 0) (.c 10)),(.ι (.a (.n (.v 1)) (.c 1)) (.c 2))] [[1,1,10000]] rfl ha dv) λlow high η ς parts d c' gW g q6 lV M=>?_;have xW:d≠c2:=λe=>j4.has.1 (e▸lV);have dw:d≠T:=λe=>j4.has.2 (e▸lV);exact ago G ⟨by exact tE,by exact Il q5⟩ (θ [_] [] (.le (.a (.v 0) (.c 2)) (.c 10)) [(.ι (.a (.n (.v 0)) (.c 1)) (.c 5))] [[1,1]] rfl gV) (Im dv) gW M.cell (j4.keep (M.same _ pU xW.symm) (M.same _ ik dw.symm)) xW dw M.eP (θ [_,_] [] (.le (.a (.a (.a (.a (.v 0) (.c 1)) (.c 1)) (.c 1)) (.a (.c 100) (.m 300 (.v 1)))) (.c 400000)) [(.le (.v 0) (.c 10)),(.ι (.a (.n (.v 1)) (.c 1)) (.c 2))] [[1,1,300]] rfl ha dv) ik pU q6 bC ab bJ
theorem agu(G:ar p)(Τ:ns.length<=63)(σ:∀x∈ns,al 1100000 x):bh p a1 a6 aK 50 (xV uz) (mh (.lst (b2 ns)) none none none none none none none none none none none none none none none none none none none) c (rf p) (λH H H=>aK):=by
 have P0:(b2 ns).length=ns.length:=by unfold b2;rw[bV]
 have xL:wc (b2 ns) none (some 40)=(ns.take 40).map .int:=by
  show(b2 ns).take 40=_;unfold b2;rw[ajk]
 have vk:(ns.take 40).length<=40:=by rw[B6];exact Hv 40 _
 refine⟨by exact cJ P0 Τ rfl,?_⟩;rw[xL];refine⟨by rw[bV];exact aR vk rfl,?_⟩;refine m9 (f:=O.int) .int (λo:ξ J=>[some (.lst (b2 ns)),none,none,none,none,none,none,none,none,none,none,none,none,none,none,none,none,none,none,none,o.map .int]) (ns.take 40) [] none (λa γ o acc K aC=>Nw aC) λo=>?_;refine⟨by exact cJ P0 Τ rfl,?_⟩;rw[xL];refine n8 (aR vk rfl) ?_;refine ft (bT (i:=4) (j:=6) (by decide) (.of (n:=41) (tj vk) (by decide)) (by decide)) (by rw[i6,bV];show _+1<=10000;exact gL vk rfl) ?_;rw[(by unfold b2;rw[i6,h8];rfl:([]++(ns.take 40).map O.int)++[.int ((13*(((ns.take 40).length:Y):J)+5:J))]=b2 (ns.take 40++[(13*(((ns.take 40).length:Y):J)+5:J)]))];have P1:CellsOk (ns.take 40++[(13*(((ns.take 40).length:Y):J)+5:J)]):=by
  refine⟨by simp,by rw[fa];show _+1<=50;exact gL vk rfl,λx Ν=>?_⟩;rcases hA.mp Ν with Ν|Ν
  ·exact(σ x (R0 Ν)).mono (by decide)
  ·refine my Ν ?_ λh=>?_
   ·exact al.mono (i:=12) (.of (n:=1000) (S2 vk) (by decide)) (by decide)
   ·contradiction
 generalize ns.take 40++[(13*(((ns.take 40).length:Y):J)+5:J)]=cells at P1 ⊢;refine λu a4=>?_;have P2:en (upd c u (some (.lst [.lst (b2 cells),.int 0,.int 0]))) u cells 0:=⟨0,0,aj ..,P1,by decide,by decide,al.mono (i:=1) (by decide) (by decide)⟩;generalize upd c u (some (.lst [.lst (b2 cells),.int 0,.int 0]))=bq at P2;refine fs G (by decide) P2 (by decide) (by decide) (mv _) λcI Μ hq dv ao ds=>?_;refine fs G (by decide) ao (by decide) (by decide) (ei _ _) λb' az gP q5 aJ eC=>?_;refine fs G (by decide) aJ (by decide) (by decide) (ei _ _) λmS cH jf gV bf g9=>?_;obtain⟨d2,γ,bJ⟩:=ags jf gV;refine cO γ ?_;refine λT cj=>?_;have ik:T≠u:=λe=>by
  rcases bf with ⟨a,b,Θ⟩
  rw[e,Θ] at cj;contradiction
 refine λd hd=>agd G (by decide) (aj ..) ⟨rfl,_,aj ..,?_⟩;rw[ie hd];refine fs G (by decide) (bf.same (a3 _ _ λe=>ik e.symm)) (by decide) (by decide) (ei _ _) λwO e0 lZ ng cF nh=>?_;refine λc2 P4=>?_;have pU:c2≠u:=λe=>by
  rcases cF with ⟨a,b,Θ⟩
  rw[e,Θ] at P4;contradiction
 have P5:e0 T=some (.tab []):=nh.at ik (aj ..);have P6:c2≠T:=λe=>by rw[e,P5] at P4;contradiction
 have W:dZ c2 T 0 (upd e0 c2 (some (.Ω [(86,cM T),(48,.int wO),(85,.int 0),(66,.int 1000)]))) []:=
  ⟨wO,0,1000,aj ..,(a3 _ _ P6.symm).trans P5,(λk e h=>nomatch h),(λk e h=>nomatch h),by decide,P6,i2 _⟩
 refine fs G (by decide) (cF.same (a3 _ _ λe=>pU e.symm)) (by decide) (by decide) (ei _ _) λF9 nU qq akM gK kE=>?_;have rest:∀dp:aQ,bh p a1 a6 aK 50 PZ (mh (.lst (b2 ns)) (some (.loc u)) (some (.int cI)) (some (.int b')) (some (.int d2)) (some (.loc c2)) (some (.bool dp)) none none none none none none none none none none none none none) nU (rf p) (λH H H=>aK):=λdp=>agt G (W.keep (kE c2 pU) (kE T ik)) gK (ei _ _) ik pU ⟨hq,dv⟩ ⟨gP,q5⟩ bJ;exact d4 (λH=>rest true) λH=>rest false
end
section
open PySem.Builtin
noncomputable abbrev Bv:I Υ:=[.Name (s "shelf") (ps 677 27 677 32),.Call (.Name (s "_law_bent") (ps 677 34 677 43)) [.Name (s "way") (ps 677 44 677 47),.Name (s "other") (ps 677 49 677 54),.Name (s "shelf") (ps 677 56 677 61),.Name (s "head") (ps 677 63 677 67),.Name (s "tree") (ps 677 69 677 73),.Name (s "count") (ps 677 75 677 80)] [] (ps 677 34 677 81)]
noncomputable abbrev agv:ed:=.Return (some (.Call (.Name (s "_law_is_refused") (ps 677 11 677 26)) Bv [] (ps 677 11 677 82))) (ps 677 4 677 82)
noncomputable def P7:I ed->I ed
 |[]=>[]
 |[_]=>[]
 |s::r=>s::P7 r
noncomputable def Gy:I ed:=P7 (aD 83 none)
theorem agw:aD 83 none=Gy++[agv]:=by kernel_rfl
theorem agx:code (aE 83 none) Gy=xV uz:=by kernel_rfl
theorem agy:ic ((nZ 24).1 (aE 83 none)) Bv= .cons (.var 11) (.cons (.call (.cst (.val (.ref 774))) (.cons (.var 2) (.cons (.var 3) (.cons (.var 11) (.cons (.var 12) (.cons (.var 10) (.cons (.var 8) .nil))))))) .nil):=by kernel_rfl
theorem agz:wY (glob (aE 83 none) (s "_law_is_refused")) 760=true:=by kernel_rfl
theorem agA:el Bv=true:=by kernel_rfl
theorem agB(P:dF):pW (KF P) (.ref 760)=true:=by kernel_rfl
theorem agC{pre rest:I ed}{env:bx}:iv (pre++rest) env=(iv pre env>>= λf=>match f with| .next=>iv rest env|f=>pure f):=by
 induction pre with
 |nil=>show _=(pure ahZ>>= _);rw[pure_bind];rfl
 |cons a r Ξ=>
  show(exec a env>>= λf=>match f with| .next=>iv (r++rest) env|f=>pure f)=((exec a env>>= λf=>match f with| .next=>iv r env|f=>pure f)>>= _);rw[bind_assoc];congr 1;funext f;cases f with
  |next=>exact Ξ
  |_=>rw[pure_bind]
section
variable{A:gh}{Γ:I Place}{l:I bx}{F ω F₁:a2}{Μ:Ι}{ρ ν:Ο}{s₀ s₁:ah}{env aA:bx}{T:ε}{E:Λ->ah->Prop}{Q:tp->ah->Prop}{e:Λ}{P:dF}{ns:I J}
theorem agD(G:ar p)(aC:p.K=KF P)(Ν:p.exc=46)(Ε:dx p (aE 83 none) A Γ l env 50)(Τ:ns.length<=63)(σ:∀x∈ns,al 1100000 x)(S:a0 p.prog p.w p.B F c s₁.heap)(er:bI p.prog p.w p.B Γ l F c (mh (.lst (b2 ns)) none none none none none none none none none none none none none none none none none none none) s₁.heap)(Ψ:cu p s₁)(av:∀a5,p.B.StaysIn a5.heap->cu p a5->Q (.ret (.bool true)) a5):aB p.M A (iv (aD 83 none) env) Q E s₁:=by
 rw[agw,agC];have Gr:=ET G.Χ (aE 83 none) A Γ l env 50 G.Ψ Ε Gy aK F c _ (rf p) (λH H H=>aK) (by
  rw[agx];exact agu G Τ σ) s₁ S er Ψ
 refine aI (bR Gr (λf1 a5 ab=>?_) λe a5 aH=>aH.cK.elim);obtain⟨aY,az,bg,eW,d7,ef,fl,r⟩:=ab;cases f1 with
 |ret v=>obtain⟨_,_,q⟩:=r;exact q.elim
 |brk=>exact r.elim
 |cont=>exact r.elim
 |next=>
  have agE:iG p (aE 83 none).υ (aE 83 none).nm aK 50 (ic ((nZ 24).1 (aE 83 none)) Bv) bg az λxs H c'=>∃T v,xs=[cM T,v]/\iZ p T v c':=by
   rw[agy];exact r
  refine yl (ajn ?_);rw[EL (by rfl)];refine aI ((L7 (F:=aY) (c:=az) (pos:=ps 677 11 677 26) G.Ψ Ε agz) a5 _ _ d7 ?_);rw[mM agA];refine G2 (P:=p.K.In) (by rw[r3];rfl) (λh' X=>tZ (by rw[aC];exact agB P) h' X) (r4 (bR ((qA (sr p 24).1 G.Ψ Ε agE).spliced a5 d7 ef fl) (λvs gM g3=>?_) λe μ aH=>aH.cK.elim));obtain⟨f6,cH,hp,nT,gQ,mX,k7,xs,ba,T,v,rfl,Χ⟩:=g3;refine⟨oZ G.Ψ.ζ gQ,?_⟩;cases ba with
  |cons ag ba=>
   cases ba with
   |cons dJ ba=>
    rcases ba with ⟨⟩
    refine BF (agc (n:=49) (m:=0) G aC Ν (by decide) ⟨Ε.d9.handled,Ε.d9.frames,by have:=Ε.d9.depth;exact θ [_,j6] [] (.le (.a (.a (.a (.v 0) (.m 4 (.a (.c 49) (.c 1)))) (.c 4)) (.c 1)) (.v 1)) [(.le (.a (.a (.a (.v 0) (.m 4 (.c 50))) (.c 6)) (.c 1)) (.v 1))] [[1,1]] rfl this,by have:=Ε.d9.units;exact θ [_,i1] [] (.le (.a (.a (.a (.v 0) (.m 20 (.a (.c 49) (.c 1)))) (.c 90)) (.c 1)) (.v 1)) [(.le (.a (.a (.a (.v 0) (.m 20 (.c 50))) (.c 100)) (.c 1)) (.v 1))] [[1,1]] rfl this⟩ ag dJ Χ gQ mX.frames k7 λl3 gR uk=>?_);exact av l3 gR uk
theorem agF{lv:Λ}{R:j9->ah->Prop}(G:ar p)(aC:p.K=KF P)(Ν:p.exc=46)(Τ:ns.length<=63)(σ:∀x∈ns,al 1100000 x)(xh:lK A l 51)(de:au p.prog p.w F (.lst (b2 ns)) lv)(S:a0 p.prog p.w p.B F c s₁.heap)(iJ:s₁.heap.FunFrames p.B l)(Ψ:cu p s₁)(av:∀a5,p.B.StaysIn a5.heap->cu p a5->R (.ok (.ret (.bool true))) a5):ip p.M A (.call (.ref 779) ⟨[lv],[]⟩) R s₁:=by
 refine lH (E8 (i:=83) (j:=none) (by kernel_rfl)) λΑ Δ κ ay=>?_;refine PF (f:=779) (name:=s "law") (qual:=s "law") (params:=sw 83 none) (body:=aD 83 none) (scope:=fT 83 none) (dV:=.none) (kV:=.none) (doc:=.none) (pm:=.str (s "law_pq0808_02") 1094) (cdv:=.ref 778) (ct:=.none) (oc:=.type "function") (an:=none) (od:=none) (osl:=#[]) (pn:=pq 83 none) (on:=pr 83 none) (args:=[.lst (b2 ns)]) (dargs:=[]) (dvals:=[]) (n:=50) (F:=F) (c:=c) G.Ψ.ζ
  (by rw[aC];kernel_rfl) (by rw[aC];kernel_rfl) Α Δ κ ay (by kernel_rfl) .nil (ky λa=>by kernel_rfl) xh (.cons de .nil) S iJ Ψ λvj Γ env a5 d9 fD fr a' keep qo d7 ef fl=>?_
 rw[(by kernel_rfl:(pr 83 none).length=19)] at ef;exact agD (ns:=ns) G aC Ν ⟨d9,fD,fr,a'⟩ Τ σ d7 ef fl av
end
end
section
open PySem.W.X
theorem agG{prog:he}{w:e4}{F:a2}{vs:I Λ}{ns:I J}(h:x0 vs ns):bA prog w F (b2 ns) vs:=by
 induction h with
 |nil=>exact .nil
 |cons n t _ Ξ=>exact .cons (.int _ _) Ξ
theorem agH{ns:I J}(h:(PyData.list (ns.map PyData.int)).layable0=true):∀x∈ns,al 1100000 x:=λx Ν=>by
 have qs:(if x==0 then 0 else x.natAbs.log2+1)<=2^20:=(PyData.weight_item_of_list h (i5.mpr ⟨x,Ν,rfl⟩));unfold al;by_cases h0:x=0
 ·subst h0;exact Nat.pow_pos (by decide)
 ·rw[bL (by simpa using h0)] at qs;exact vG (Nat.lt_log2_self (n:=x.natAbs)) (ain (by decide) (aP qs (by decide)))
theorem agI(P:dF):sA P (s "law")=some (.ref 779):=by kernel_rfl
theorem agJ(P:dF):((KF P).lookup 779).isSome=true:=by kernel_rfl
theorem agK{P:dF}{p:bP}(ζ:p.Ok)(aC:p.K=KF P)(Ν:p.exc=46):ar p:=
 ⟨⟨P,aC⟩,⟨ζ,abq aC,abo,abn ζ aC,Ν.symm⟩,abP ζ aC Ν⟩
theorem agL{prog:he}{w:e4}{ns:I J}{vs:I Λ}{mD qc:φ->ξ Λ}{s₁:ah}{Bw l:ε}{R:j9->ah->Prop}(P8:(KF w.params).In s₁.heap)(aO:s₁.heap.Ns lC mD)(Κ:s₁.heap.Ns rk qc)(Ej:s₁.heap.NoLimit)(agM:∀x:φ,x≠"__name__"->qc x=BE x)(Gz:mD (s "law")=some (.ref Bw))(agN:s₁.gens=#[])(Τ:s₁.heap.get? l=some (listOf vs.toArray 0))(dn:x0 vs ns)(a':ns.length<=63)(σ:∀x∈ns,al 1100000 x)(h:∀a5,(∀b o,s₁.heap.get? b=some o->a5.heap.get? b=some o)->a5.gens=#[]->a5.os=s₁.os->R (.ok (.ret (.bool true))) a5):
 ip (kM prog w) callerA (.call (.ref Bw) ⟨[.ref l],[]⟩) R s₁:=by
 refine a8 (tn.mp (agJ w.params)) λo ab=>?_
 let p:bP:=⟨prog,w,s₁.heap,KF w.params,mD,qc,s₁.os,46⟩
 have ζ:p.Ok:=⟨P8,aO,Κ,Ej,⟨779,o,P8 _ _ ab,by decide⟩,agM⟩;have agO:Bw=779:=by
  have e:=Af (p:=p) ζ rfl (s "law");rw[agI] at e;injection (Gz.symm.trans e) with du
  injection du
 subst agO;refine agF (p:=p) (A:=callerA) (l:=[]) (F:=s₁.heap.get?) (c:=λH=>none) (ns:=ns) (agK ζ rfl rfl) rfl rfl a' σ ⟨rfl,rfl,by decide,by decide⟩ (.lst Τ (agG dn)) ⟨λH H e=>e,λH H e=>e,(λH H e=>nomatch e),(λH H e=>nomatch e)⟩ trivial ⟨agN,rfl⟩ λa5 gR Ψ=>h a5 gR Ψ.1 Ψ.2
set_option maxHeartbeats 0 in
set_option tactic.hygienic true in
theorem akN:Hf.Holds:=dw (by
 k_fill
 intro w s₀ s₁ mD qc G hU Bw o pm cd doc dV kV ab hd ko eI Gz aO args em dz Bf agP agQ agR FM;have X:=(ajo G).1;have V:=(ajo G).2;refine Ground.open G ?_;intro T B D akO akP;clear D
 wrow_args Bf agP agQ agR FM
 first|refine callC_kw (enter_call ?_)|refine enter_call ?_|refine callC_kw (enter_callW ?_)|refine enter_callW ?_|w_how
 w_top on
 try refine GL ?_ (λH H g=>GoodW.toG g)
 rename_i ns σ akQ agS akR n9 akS akT l vs akU bB am agT ak dn Lj agU akV;cases agT with
 |list Τ bC=>
  refine ix bB λaU bd H aV=>?_;try clear bB;refine a8 aV λdy du=>?_;try clear aV
  rw[Τ] at bd;obtain rfl:=bQ bd;injection du with l1 t'
  have vc:=cE Array.toList l1;simp only at vc;subst vc;refine agL hU T.g T.b T.nolimit T.builtins Gz aO Τ dn (θ [_] [] (.le (.v 0) (.c 63)) [(.ι (.n (.v 0)) (.c 63))] [[1,1]] rfl (ly.mp agU)) (agH agS) λa5 k e1 mO=>?_;exact⟨.inl ⟨_,_,_,rfl,λH=>rfl,.bool true,postW_of (X:=true) (by rfl) (by wtm_val) rfl,λH=>⟨.nil,λH h=>nomatch h⟩⟩,k,mO,e1⟩)
end
end
end Mine.Internal
theorem PySem.Challenge.cw_pq0808_02_holds : PySem.Challenge.rw_pq0808_02.Holds :=
 Mine.Internal.akN
