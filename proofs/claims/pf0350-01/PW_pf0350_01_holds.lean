import PyProof.Rows.All
import Wide.All
import OpenK.AllK
import Wide.FinOn
import PySem.Challenge.RW_pf0350_01
set_option maxRecDepth 100000
set_option linter.unusedVariables false
set_option Elab.async false
set_option tactic.hygienic false
set_option genInjectivity false
set_option genSizeOf false
set_option compiler.extract_closed false
set_option bootstrap.genMatcherCode false
set_option backward.match.sparseCases false
set_option maxHeartbeats 8000000
open List renaming not_mem_nil→nO,all_cons→ya,mem_cons→gr,all_eq_true→sa,filter_eq_nil_iff→Lx,mem_map_of_mem→yj,any_eq_false→uN,isEmpty_iff→LF,getElem?_eq_none_iff→C0,toArray→sf,replicate→iu,length_map→dP,size_toArray→hq,map_append→fh,append_nil→fI,find?_cons→mE,map_cons→gq,any_cons→oV,any_map→yb,range→f5,getElem?_eq_some_iff→yd,getD→LB,map_map→qk,any_eq_true→CV,nodup_append→uR,mem_map→ql,length→sd,mem_cons_of_mem→fJ,mem_filterMap→LK,mem_cons_self→er,findIdx?_cons→Lz,length_cons→lb,reverse_cons→LP,length_reverse→C2,nodup_nil→LO,getElem?_map→lX,length_range→uO,drop_eq_getElem_cons→yc,getElem?_eq_getElem→gV,drop_length→CW,getElem?_eq_none→nN,zip_cons_cons→yl,nodup_cons→yk,lookup_cons→j4,length_append→dR,length_replicate→oW,getElem?_append_left→CZ,mem_of_getElem?→uQ,mem_append→j5,any_nil→Ln,forIn_cons→CY,map→se,forIn_nil→LA,mem_singleton→gW,map_congr_left→uP,take_add_one→LS,sum_append→LQ,append_assoc→fH,nil_append→kC,length_take→yf,map_drop→LI,map_take→LJ,extract_eq_take_drop→Lu,drop_zero→Lr,take_of_length_le→C5,map_nil→yh,isEmpty_eq_false_iff→LD,eq_nil_of_length_eq_zero→Ls,range_succ→C4,mem_range→qm,getD_eq_getElem?_getD→j3,getElem_mem→ye,mem_reverse→LN,find?_eq_none→Ly,filter_append→Lv,getElem_of_mem→LC,mem_of_mem_drop→LL,mem_of_mem_take→LM,length_take_le→LH,length_drop→C1,eq_of_mem_replicate→CX,length_singleton→C3,mem_append_right→yi,range'→xW,filter_cons→Lw,length_filter_le→LG,map_id→yg,sum_cons→LR,drop_eq_nil_of_le→Lq,drop_append_of_le_length→Lp,take_append_of_le_length→LU,append_eq_nil_iff→Lo
open Option renaming none→ao,some→ab,isSome_iff_exists→nU,map_eq_some_iff→nV,isSome_map→L5,map_some→L6,isSome_iff_ne_none→Dk,some_get→L7
open Nat renaming le_trans→cg,sub_le→nT,min_eq_left→uV,le_add_right→j6,add_sub_cancel'→xX,add_sub_cancel→LV,sub_add_cancel→qo,le_add_left→yo,lt_of_le_of_lt→kD,lt_of_lt_of_le→lY,sub_lt_sub_left→yr,le_of_lt_succ→uT,add_le_add_left→yn,not_lt→jw,add_comm→ym,add_le_add_right→uS,add_le_add→iV,mul_le_mul_left→Dd,le_of_eq→iW,succ→Dh,lt_irrefl→oX,ne_of_lt→hU,not_lt_zero→sk,lt_of_succ_lt_succ→C7,zero_le→eA,lt_of_add_right_lt→qn,le_of_ble_eq_true→b9,lt_or_eq_of_le→C8,lt_succ_of_lt→nS,lt_succ_self→oY,le_refl→d5,lt_or_ge→nR,succ_pos→qq,le_of_lt→nQ,not_succ_lt_self→De,succ_ne_self→L2,le_succ_of_le→sj,le_succ→lj,succ_le_succ→kE,ne_of_gt→yp,le_of_succ_le→LX,sub_zero→L1,succ_add_eq_add_succ→Di,zero_add→qr,mod_lt→C9,mul_comm→LZ,lt_trans→uU,sub_self→Dg,mod_one→Dc,ble→nP,eq_of_testBit_eq→LW,testBit_and→L3,testBit_two_pow_mul→Dj,testBit_lt_two_pow→L4,pow_le_pow_right→oZ,pow_mul→L0,add_right_comm→si,sub_one_sub_lt_of_lt→Df,le_of_succ_le_succ→C6,pow_lt_pow_right→yq,lt_add_of_pos_right→LY,le_sub_of_add_le'→K2
open Int renaming eq_ofNat_of_zero_le→jN,ofNat_lt→gp,add_nonneg→CP,lt_trans→r8,add_lt_add_left→CO,toNat_lt→uL,le_antisymm→Lf,le_of_lt_add_one→Lh,pow_succ→x9,le_trans→j2,not_lt→je,lt_of_lt_of_le→jd,natCast_nonneg→fy,ofNat_le→hh,sub_add_cancel→Ll,toNat_of_nonneg→uM,le_of_lt→nL,lt_of_le_of_lt→qj,toNat→r9,le_refl→CR,not_ofNat_neg→uK,natCast_pos→Lj,min_eq_left→Li,max_eq_right→CS,ne_of_gt→nM,emod_lt_of_pos→uI,emod_nonneg→r7,toNat_natCast→ir,pow_pos→x8,ediv_nonneg→x4,fdiv_eq_ediv_of_nonneg→uJ,ofNat_sub→x7,pow_mul→Lk,one_mul→CU,add_mul→Lb,mul_nonneg→CT,fmod_eq_emod_of_nonneg→Lc,not_le→x6,fmod_nonneg_of_pos→Ld,natAbs_pow→x5,fmod_two_eq→Le,le_add_of_nonneg_right→CQ,zero_mul→Lm
open PySem renaming Stmt→iN,Value→b7,Params→pa,DictEntry→lp,Obj→fi,Pos→e5,Model→u4,Around→j7,Sem→ej,Shared→cx,Result→qz,wpAny→cu,codeAny→jx,holding→mL,standAt→oa,call→fW,notedBy→sH,noteFrame→sG,theTreesLotGoes→Nc,wpAny_bind→bt,wpAny_mono→ea,entryFor→l5,table→kK,model→bD,unsupported→Nd,checkBuiltinCall→qK,leftWithCleanup→qP,Program→d7,World→di,denote→sE,outcomeOf→y0,callerA→qI,outcomeOf_ends→M9,Heap→cO,classAt→kI,Expr→cT,Addr→a0,sysModules→pn,mainGlobals→hB,builtinsNs→kH,wpAny_nsGet→Nv,Thread→pe,OsState→u6,importedModules→n6,treeTable→oe,GenState→u0,Tok→j8,intKind→i0,Env→eP,loadName→vk,eval→cy,wpAny_Name→D7,wpAny_Constant_int→y8,wpAny_Constant_str→Ng,wpAny_pure→ct,Operator→nY,sizeLine→kJ,binaryOp→sA,concat_meets→yU,noFill_tuple_add→DZ,seq_tuple_add→D3,spliced→ix,backTo→e9,starEach→dF,wpAny_items_nil→zb,wpAny_items_cons→za,CmpOp→jO,valueAt→pq,wpAny_holding→fz,wpAny_ite_split→Ea,wpAny_rule→oh,compareOp→qM,wpAny_truthy_bool→sR,cLine→vh,behindInMarks→sz,subscripted→qT,operate→pg,getItem→mK,slot_list_getitem→D6,wpAny_getItem_list→Nn,letTemporaryGo→DW,wpAny_Subscript_Slice→Nh,wpAny_Slice→vo,evalPart_some→yY,evalPart_none→yX,any_of_findIdx_some→MR,getAttr→DR,setAttr→vn,wpAny_loadPart→sP,wpAny_askSetting→sN,wpAny_mkText→Ec,aRefKeyMayBeTheName_at→MQ,wpAny_updatePart→ND,wpAny_lookBehind→Eb,pastItsLine_dict→Na,sizeLine_eq→n9,Flow→qx,execs→hX,wpAny_execs_nil→y9,exec→gM,swapsWith→iO,interactive→yZ,assign→n5,assignEach→qF,assignInOrder→MT,wpAny_assignInOrder_more→Ni,arm_assign_Tuple→MS,wpAny_standAt→kL,swapsWithSole→y7,swappedStores→ob,wpAny_bindName→Nj,pyNext→qS,pyIter→y3,rawInt→hY,letOwnedTupleGo→DV,wpAny_load→mO,foldedSetIterable→qN,setField→y6,wpAny_newObj_type→sQ,wpAny_setField→qU,wpAny_field→l6,leaving→DU,NameKind→mF,bindL→vf,bindC→yS,cellsFrom→qJ,FuncData→uZ,BindsTo→nW,callEnvC→hy,wpAny_newFunctionEnv_cells→Nt,name_of_addr→M7,wpAny_call→ps,codeAny_mono→qL,keeperOf→DT,Keeper→yF,evalArgs→DQ,callWith→mJ,wpAny_point→Ed,call_meetsIn→DO,wpAny_list_append_plain→Nr,attributeBase→ve,methodCallForm→vl,Keyword→u3,backToKw→qG,keywordEach→qO,arm_eval_Call→DM,methodCallPos→n8,methodCall→DX,wpAny_of_eq→gB,getMethod_builtin→M5,isSubtype→mM,specialOf→sM,isInstance→n7,mroOf→vm,typeLookup→jf,bindSpecial→MU,codeAny_of_tree→sD,entry_typeCall→M1,typeOf→mN,wpAny_attempt→D9,callGetattribute→MX,boundAndCalled→MV,codeAny_call_builtin→yT,wpAny_alloc→D8,wpAny_update→NC,wpAny_letTemporaryGo→Nq,opaqueClassAbove→D0,wpAny_loadPart_at→zc,wpAny_onRaise→Nw,raiseStmt→sI,ExceptHandler→yB,Scope→mH,relabel→y4,pushCells→y2,newFunctionEnv→DY,pushCells_keeps→D2,wpAny_newList→Nu,wpAny_pyIter_list→Ny,evalEachOpt→M3,bootBuiltins→vg,wpAny_isTrue_BoolOp→Np,wpAny_release→NA,bindArgs→dQ,callAny→DN,typeLookup_type→i1,builtinLookup_eq_fast→iZ,isSubtype_type→lq,checkTypeCall→M0,entryFor_alias→DP,entryFor_of_fast→yV,entryFor_of_tree→yW,wants→og,plainId_quiet→qR,argsOk→kG,weight_type_call_type→Nf,wpAny_isInstance→pv,callSpecial?→MY,wpAny_specialOf→ia,sliceBounds→Nb,rule→sJ,bm_if_false→iw,sliceIndices→D4,bm_if_true→qH,wpAny_call_entry→sO,slotArgs→D5,wpAny_typeOf→zd,codeAny_builtin→sC,callType_codes→MZ,object_init_meets→M8,layNew→sF,intKind_is→vj,setAdd→y5,wpAny_setState_of→Ee,wpAny_setScan_of→NB,hashByValue_scannable→DS,plainKind→D1,pickOrder→qQ,setNext→sL,wpAny_callSpecial?_slot→Nk,wpAny_fieldsOf→Nl,firstArgMember→M4,wpAny_pyIter_slot→Nz,Comprehension→so,cellOf→vi,moduleNames→M6
open PySem.Str renaming ofString→pd
open PySem.PyData renaming keyHash→u7
open PySem.W renaming Frag→ey,WData→va,layAllW_rest→DI,Ground→sv,ReadsAllW→DC,WellAll→DE,GoodW→qD,RecFacts→DD,SharedT→l0,stepT→yQ,topRun→vc,boot_heap→mI,staticsOk→yP,namesBound→yN,gensDone→yJ,laidKept→yK,openGood→yO,topStub→vd,openSeen→DK,topFrom→DL,kHook→pf,Looks→eJ,typeIs_bytes→sy,lookIn→yL,findIn→iY,hasDictIn→DH,handedIn→DG,findObj_own→MN,any_some→yH,looks_clsIn→vb,typeIn→yR,emptyDict→hW,instObj→l4,makes_of→DJ,looks_findIn→qE,bind_fn→DF,subIn→iv,clsIn→yI,looks_subIn→n0,looks_instIn→MP,handedOut_of→MO,look_both→yM
open PySem.Builtin.Bytes renaming decodersThatHold→qt,exported→yx,sameRef→aa5,bindOptional→aa4,ownRelease→Mm,buffer?→yw,write→Mn,exportsOf→Mi,fitsIndex→Mj,tooLong→aa7,sliceParts→yz,payload→yy,subscript?→yA,newBytearray→Ml,sliced→aa6
open PySem.Sem renaming wp_mono→u9,wp_bind'→K3
open Bool renaming false_ne_true→fv,and_false→r4,and_eq_true_iff→xZ,false_or→x1,true_and→x2,false_and→r5,or_false→CN,and_eq_true→oS,not_eq_true'→K1,false_eq_true→r6,and_true→K9,eq_false_iff→oU
open PySem.W.WData renaming layableAll→yG
open PySem.ExcName renaming means→qw
open PySem.W.SharedT renaming abs→MM
open PySem.W.Fast renaming tw10156331382660048174→MI,tw11892475500146522536→MJ,tw14364793385576792824→MK
open UInt8 renaming toNat→gs,toNat_inj→NF
open PyProof.Rows renaming IsTup→hV,add_int→aaH,sub_int'→aaD,mul_int→aaX,floordiv_int→aaM,mod_int'→aaC,pow_int→aa2,lshift_int→aaV,rshift_int→aa3,and_int→aaJ,or_int→aa1,add_str→aaI,neg_int→aa0,IntsAre→ll,eq_int→aaK,ne_int→aaY,lt_int→aaW,le_int→aaT,gt_int→aaP,ge_int→aaN,in_list_ints→aaR,eq_str→aaL,ne_str→aaZ,in_tuple_strs→aaS,subscriptTail→yv,tail_any→sm,slot_tuple_getitem→Me,getItem_str→aaO,iadd_int→aaQ,unpackItems_tuple→Mf,Assign_Tuple→L8,IsTupIter→qs,next_tuple_item→Md,next_tuple_end→Mc,iter_tuple→Mb,Call_Name→yt,len_tuple→aaU,seqObj→yu
open Option.some renaming inj→c4
open PySem.Value.type renaming inj→abn
open PySem.Value renaming ref→qC,isStrOf_shape→Dy,isInt→Dx,none→nZ,builtin→su,int→qB,type→DA
open PySem.Heap renaming lt_size→fV,get?_push_of_some→fU,SameBut→hu,get?_push_size→gc,get?_update_self→u2,ExtBut→lZ,get?_none_of_le→yE,size_push→nX
open Nat.succ renaming inj→qp
open PySem.Builtin renaming bitAnd→qv,bitOr→Dp
open PySem.Builtin.Int renaming intBits→Dn
open PyProof.Rows.IsTup renaming new→Ma
open PySem.IntMulOk renaming of_left→abd,of_right→abe
open List.cons renaming injEq→aaG,inj→sb
open PySem.MeetsSeq.EqGives renaming int→abg
open PySem.Around renaming in1_units→uX,under_plainId→o1,under_plain→Mg
open PySem.Builtin.Str renaming strSliceIndices→qu
open Std.LawfulOrderOrd renaming isLE_compare_eq_false→Ef
open PySem.Heap.IsSliceOf renaming new→yD
open PySem.DictEntry renaming refKey→Dr
open PySem.Obj renaming putName→Dt,putNameByArray→Du,putName_eq→ME,mapFields→u5,mapBytearray→MD
open Array renaming length_toList→qi,any_eq_false'→K0,getElem?_eq_none→oR,getElem?_setIfInBounds→CM,getElem?_toList→xY,getElem?_eq_getElem→CL,replicate→K4,size_append→K5,size_extract→K6,toList_append→K7,toList_extract→K8
open HAdd renaming hAdd→La
open PySem.Heap.SameBut renaming update→u1
open Prod renaming snd→ys,fst→uW
open PySem.Builtin.Range renaming rangeSize→Mq,small→Mr,rangeFitsLong→Mp
open PySem.EntryCells renaming newEntry→abc
open PySem.NameKind renaming cell→mG,free→qy
open PySem.Code renaming cUnits→Dq,quiet_builtin→uY
open PySem.Bind renaming madeBy→Mh
open PySem.W.Looks renaming of_pure→DB,ld→sx
open PySem.callAny renaming viaDunder→MW
open PySem.Fin renaming again→MC
open PySem.Manifest renaming isStub→abf
open List.Pairwise renaming nil→aaF,map→aaE
open PySem.Calls renaming call_len_list→Ms
open PySem.Env renaming blockKind→Ds
open PySem.ScopeKind renaming isAnnotationScope→MF
open PySem.F renaming entry_type_call→Mz,bm_newCall→Mw,bm_plain→yC,bm_entry→Mv,bm_bind→Mu,bm_called→sq,bm_typeCall→Mx,entry_object_init→My,args_object_init_2→Mt,slot_set_iter→MB,plain_set_new→MA,called_set→o2
open PySem.SetTable renaming slot→MH,below→iX,has→Dv,bits→qA,turns→sr,Probe→MG,advance→abh,leap→abk,runEnd→Dw,put→abl,fits→abj,fill→abi
open PySem.SetTable.below renaming go→pb
open PySem.SetTable.probe renaming go→kF
open PySem.pickOrder renaming go→y1
open PySem.Builtin.Frozenset renaming slot0→aba,sizeOf→aa9,newClass→aa8,updateFrom→abb
open PySem.Builtin.List renaming listLengthHint→Mo
open PyProof.Rows.F renaming entry_set_update_loop→L9,plain_set_update_loop→Dl
open ForInStep renaming yield→x3
open PySem.BindsTo renaming of_defaults→Dm
open PySem.Value.ref renaming inj→abm
open PySem.W.OpenLaw renaming wellSaid→ML
section
namespace Mine
variable {A:Nat}{B:Int}{dp:Prop}{c2:Type}{C:Nat}{nG:Prop}{dc:Nat}{nH:Prop}{il:Nat}{nI qf uE CE:Prop}
section
theorem tH {R:c2}(X:R ∈ []):dp:=absurd X nO
theorem lK {R:c2}(X:ao=ab R):dp:=nomatch X
theorem TR {k:Nat}(H:C≤il)(U:il≤dc):min (C - A) k≤dc:=cg (Nat.min_le_left ..) (cg (nT ..) (cg H U))
theorem Z6(X:C+dc≤A):min C A+dc+(A - (C+dc))=A:=by rw [uV (cg (j6 ..) X),xX X]
theorem J4(l:C < A):A+1 - 1 - C=(A - 1 - C)+1:=by rw [LV,Nat.sub_right_comm,qo (Nat.sub_pos_of_lt l)]
theorem U4(X:0≤B∧B < 4):B=0∨B=1∨B=2∨B=3:=by
 obtain⟨k,Z⟩:=jN X.1
 rw [Z] at X ⊢
 exact(show ∀k:Nat,k < 4→((k:Int)=0∨(k:Int)=1∨(k:Int)=2∨(k:Int)=3) by decide) k (gp.mp X.2)
theorem U3(X:0≤B∧B < 3):B=0∨B=1∨B=2:=by
 obtain⟨k,Z⟩:=jN X.1
 rw [Z] at X ⊢
 exact(show ∀k:Nat,k < 3→((k:Int)=0∨(k:Int)=1∨(k:Int)=2) by decide) k (gp.mp X.2)
theorem Hh(v:A+2≤C):C=C - 1+1:=(qo (cg (yo 1 (A+1)) v)).symm
theorem i7(X:0≤B∧B < 16): ∃y:Nat,B+1=(y:Int)∧y≤16:=by
 obtain⟨k,rfl⟩:=jN X.1
 exact⟨k+1,rfl,gp.mp X.2⟩
theorem Uk(K:A≤128)(P:64 < C):A - C < 64:=kD (Nat.sub_le_sub_right K C) (lY (yr (by decide:64 < 128) P) (by decide))
theorem Ug(X:0≤B∧B < (A:Int)+1):B.toNat≤A:=by
 obtain⟨k,rfl⟩:=jN X.1
 exact uT (gp.mp X.2)
theorem Tz(X:0≤B∧B < 4):0≤5+B∧5+B < 256 ^ 4:=⟨CP (by decide) X.1,r8 (CO X.2 5) (by decide)⟩
theorem TN(X:0≤B∧B < 3):0≤3+B∧3+B < 256 ^ 4:=⟨CP (by decide) X.1,r8 (CO X.2 3) (by decide)⟩
theorem II(J:0≤B)(X:B < 4):A+B.toNat≤A+3:=yn (uT ((uL J).mpr X)) A
theorem T8(J:0≤B)(X:B < 256 ^ 0):B=0:=Lf (Lh X) J
theorem T9(X:B < 256 ^ (A+1)):B / 256 < 256 ^ A:=Int.ediv_lt_of_lt_mul (by decide) (x9 256 A▸X)
theorem nm(h:C≤A)(X:A - C≤dc)(K: ¬dc - (A - C) < C):A≤dc:=by
 have P:=Nat.add_le_of_le_sub X (jw.mp K)
 exact qo h▸(ym C _▸P)
theorem vQ {k j:Nat}(N:j≤k)(f:A+k * (C+1) < dc)(a:il≤A+j):il+k * C < dc:=
 kD (cg (uS a _) (by rw [Nat.add_assoc,Nat.mul_succ];exact yn (ym j _▸yn N _) A)) f
theorem rP(X:A=4∨A=16):4 * 0+A≤64∧4 * (A / 4)+4≤64∧4 * 0+A≤4 * (A / 4)∧4 * (A / 4)≤64∧4 * (A / 4)+2≤64∧0+(A+3) / 4=A / 4:=by rcases X with rfl | rfl<;>decide
theorem S5(W:A=dc)(K:C≤A+3)(V:dc≤16)(t:il≤8):A≤64∧4 * il+C≤64:=
 ⟨W▸cg V (by decide),cg (iV (Dd 4 t) (cg K (uS (iW W) 3))) (cg (yn (uS V 3) (4*8)) (by decide))⟩
theorem I7 {i:Nat}(W:A≤2)(K:C≤dc+il)(B:dc≤2)(n:il≤2)(X:i≤10):A+C+i≤20:=
 cg (iV (iV W (cg K (iV B n))) X) (by decide)
theorem gz(X:dp∧nG∧nH)(k:dp→nG→nH→nI):nI:=by obtain⟨W,K,C⟩:=X;exact k W K C
theorem dg {D:Sort _} {E:D→Prop} {F:D→Prop}(X: ∃A:D,E A∧F A)(k: ∀A:D,E A→F A→dp):dp:=by obtain⟨A,W,K⟩:=X;exact k A W K
theorem rU {D:Sort _} {I:Sort _} {E:D→I→Prop}(X: ∃A:D,∃B:I,E A B)(k: ∀A:D,∀B:I,E A B→dp):dp:=by obtain⟨A,B,W⟩:=X;exact k A B W
theorem ui(X:dp∧nG∧nH∧nI)(k:dp→nG→nH→nI→qf):qf:=by obtain⟨W,K,C,n⟩:=X;exact k W K C n
theorem fR {D:Sort _} {E:D→Prop} {F:D→Prop} {G:D→Prop}(X: ∃A:D,E A∧F A∧G A)(k: ∀A:D,E A→F A→G A→dp):dp:=by obtain⟨A,W,K,C⟩:=X;exact k A W K C
theorem nz {D:Sort _} {I:Sort _} {E:D→I→Prop} {F:D→I→Prop}(X: ∃A:D,∃B:I,E A B∧F A B)(k: ∀A:D,∀B:I,E A B→F A B→dp):dp:=by obtain⟨A,B,W,K⟩:=X;exact k A B W K
theorem xE(X:dp∧nG∧nH∧nI∧qf)(k:dp→nG→nH→nI→qf→uE):uE:=by obtain⟨W,K,C,n,e⟩:=X;exact k W K C n e
theorem rT {D:Sort _} {E:D→Prop} {F:D→Prop} {G:D→Prop} {J:D→Prop}(X: ∃A:D,E A∧F A∧G A∧J A)(k: ∀A:D,E A→F A→G A→J A→dp):dp:=by obtain⟨A,W,K,C,n⟩:=X;exact k A W K C n
theorem uj {D:Sort _} {I:Sort _} {E:D→Prop} {F:D→Prop} {G:D→I→Prop}(X: ∃A:D,E A∧F A∧ ∃B:I,G A B)(k: ∀A:D,E A→F A→ ∀B:I,G A B→dp):dp:=by obtain⟨A,W,K,B,C⟩:=X;exact k A W K B C
theorem j0 {D:Sort _} {I:Sort _} {E:D→I→Prop} {F:D→I→Prop} {G:D→I→Prop}(X: ∃A:D,∃B:I,E A B∧F A B∧G A B)(k: ∀A:D,∀B:I,E A B→F A B→G A B→dp):dp:=by obtain⟨A,B,W,K,C⟩:=X;exact k A B W K C
theorem aaq {D:Sort _} {I:Sort _} {S:Sort _} {E:D→I→S→Prop} {F:D→I→S→Prop}(X: ∃A:D,∃B:I,∃H:S,E A B H∧F A B H)(k: ∀A:D,∀B:I,∀H:S,E A B H→F A B H→dp):dp:=by obtain⟨A,B,H,W,K⟩:=X;exact k A B H W K
theorem aao(X:dp∧nG∧nH∧nI∧qf∧uE)(k:dp→nG→nH→nI→qf→uE→CE):CE:=by obtain⟨W,K,C,n,e,f⟩:=X;exact k W K C n e f
theorem KG {D:Sort _} {E:D→Prop} {F:D→Prop} {G:D→Prop} {J:D→Prop} {L:D→Prop}(X: ∃A:D,E A∧F A∧G A∧J A∧L A)(k: ∀A:D,E A→F A→G A→J A→L A→dp):dp:=by obtain⟨A,W,K,C,n,e⟩:=X;exact k A W K C n e
theorem jK {D:Sort _} {I:Sort _} {E:D→I→Prop} {F:D→I→Prop} {G:D→I→Prop} {J:D→I→Prop}(X: ∃A:D,∃B:I,E A B∧F A B∧G A B∧J A B)(k: ∀A:D,∀B:I,E A B→F A B→G A B→J A B→dp):dp:=by obtain⟨A,B,W,K,C,n⟩:=X;exact k A B W K C n
theorem aap {D:Sort _} {I:Sort _} {S:Sort _} {E:D→I→Prop} {F:D→I→Prop} {G:D→I→S→Prop}(X: ∃A:D,∃B:I,E A B∧F A B∧ ∃H:S,G A B H)(k: ∀A:D,∀B:I,E A B→F A B→ ∀H:S,G A B H→dp):dp:=by obtain⟨A,B,W,K,H,C⟩:=X;exact k A B W K H C
theorem k5 {D:Sort _} {I:Sort _} {S:Sort _} {E:D→I→S→Prop} {F:D→I→S→Prop} {G:D→I→S→Prop}(X: ∃A:D,∃B:I,∃H:S,E A B H∧F A B H∧G A B H)(k: ∀A:D,∀B:I,∀H:S,E A B H→F A B H→G A B H→dp):dp:=by obtain⟨A,B,H,W,K,C⟩:=X;exact k A B H W K C
theorem xF {D:Sort _} {I:Sort _} {S:Sort _} {M:Sort _} {E:D→I→S→M→Prop} {F:D→I→S→M→Prop}(X: ∃A:D,∃B:I,∃H:S,∃O:M,E A B H O∧F A B H O)(k: ∀A:D,∀B:I,∀H:S,∀O:M,E A B H O→F A B H O→dp):dp:=by obtain⟨A,B,H,O,W,K⟩:=X;exact k A B H O W K
theorem aar {D:Sort _} {I:Sort _} {S:Sort _} {M:Sort _} {F:Sort _} {E:D→I→S→M→F→Prop}(X: ∃A:D,∃B:I,∃H:S,∃O:M,∃C:F,E A B H O C)(k: ∀A:D,∀B:I,∀H:S,∀O:M,∀C:F,E A B H O C→dp):dp:=by obtain⟨A,B,H,O,C,W⟩:=X;exact k A B H O C W
theorem KH {D:Sort _} {I:Sort _} {E:D→Prop} {F:D→Prop} {G:D→I→Prop} {J:D→I→Prop} {L:D→I→Prop}(X: ∃A:D,E A∧F A∧ ∃B:I,G A B∧J A B∧L A B)(k: ∀A:D,E A→F A→ ∀B:I,G A B→J A B→L A B→dp):dp:=by obtain⟨A,W,K,B,C,n,e⟩:=X;exact k A W K B C n e
theorem qa {D:Sort _} {I:Sort _} {E:D→I→Prop} {F:D→I→Prop} {G:D→I→Prop} {J:D→I→Prop} {L:D→I→Prop}(X: ∃A:D,∃B:I,E A B∧F A B∧G A B∧J A B∧L A B)(k: ∀A:D,∀B:I,E A B→F A B→G A B→J A B→L A B→dp):dp:=by obtain⟨A,B,W,K,C,n,e⟩:=X;exact k A B W K C n e
theorem KJ {D:Sort _} {I:Sort _} {S:Sort _} {E:D→I→S→Prop} {F:D→I→S→Prop} {G:D→I→S→Prop} {J:D→I→S→Prop}(X: ∃A:D,∃B:I,∃H:S,E A B H∧F A B H∧G A B H∧J A B H)(k: ∀A:D,∀B:I,∀H:S,E A B H→F A B H→G A B H→J A B H→dp):dp:=by obtain⟨A,B,H,W,K,C,n⟩:=X;exact k A B H W K C n
theorem Cc {A:Prop} {N:Prop}(X:dp∧nG∧nH∧nI∧qf∧uE∧CE∧A)(k:dp→nG→nH→nI→qf→uE→CE→A→N):N:=by obtain⟨W,K,C,n,e,f,V,i⟩:=X;exact k W K C n e f V i
theorem KI {D:Sort _} {I:Sort _} {E:D→I→Prop} {F:D→I→Prop} {G:D→I→Prop} {J:D→I→Prop} {L:D→I→Prop} {M:D→I→Prop}(X: ∃A:D,∃B:I,E A B∧F A B∧G A B∧J A B∧L A B∧M A B)(k: ∀A:D,∀B:I,E A B→F A B→G A B→J A B→L A B→M A B→dp):dp:=by obtain⟨A,B,W,K,C,n,e,f⟩:=X;exact k A B W K C n e f
theorem Cd {D:Sort _} {I:Sort _} {S:Sort _} {E:D→I→S→Prop} {F:D→I→S→Prop} {G:D→I→S→Prop} {J:D→I→S→Prop} {L:D→I→S→Prop}(X: ∃A:D,∃B:I,∃H:S,E A B H∧F A B H∧G A B H∧J A B H∧L A B H)(k: ∀A:D,∀B:I,∀H:S,E A B H→F A B H→G A B H→J A B H→L A B H→dp):dp:=by obtain⟨A,B,H,W,K,C,n,e⟩:=X;exact k A B H W K C n e
theorem Ce {D:Sort _} {I:Sort _} {S:Sort _} {E:D→I→S→Prop} {F:D→I→S→Prop} {G:D→I→S→Prop} {J:D→I→S→Prop} {L:D→I→S→Prop} {M:D→I→S→Prop}(X: ∃A:D,∃B:I,∃H:S,E A B H∧F A B H∧G A B H∧J A B H∧L A B H∧M A B H)(k: ∀A:D,∀B:I,∀H:S,E A B H→F A B H→G A B H→J A B H→L A B H→M A B H→dp):dp:=by obtain⟨A,B,H,W,K,C,n,e,f⟩:=X;exact k A B H W K C n e f
theorem KL {D:Sort _} {I:Sort _} {S:Sort _} {M:Sort _} {E:D→I→S→M→Prop} {F:D→I→S→M→Prop} {G:D→I→S→M→Prop} {J:D→I→S→M→Prop} {L:D→I→S→M→Prop}(X: ∃A:D,∃B:I,∃H:S,∃O:M,E A B H O∧F A B H O∧G A B H O∧J A B H O∧L A B H O)(k: ∀A:D,∀B:I,∀H:S,∀O:M,E A B H O→F A B H O→G A B H O→J A B H O→L A B H O→dp):dp:=by obtain⟨A,B,H,O,W,K,C,n,e⟩:=X;exact k A B H O W K C n e
end
end Mine
end
section
open PySem PySem.W PyProof.Rows
namespace Mine
section
noncomputable def st (J:Nat):iN:=(PySem.Challenge.pw_pf0350_01.main.body[J]?).getD default
noncomputable def kR (J E:Nat):iN:=match st J with
 | .ClassDef _ _ _ b _ _ _ _ _ _ _=>(b[E]?).getD default
 | _=>default
noncomputable def du (S:String) (V:Nat):b7:= .str (pd S) V
noncomputable def m (L:pa) (S:String) (V:Nat) (M:b7):lp:=⟨u7 L (pd S),du S V,M⟩
noncomputable def kp (i:String) (T:Data):fi:=⟨.type i,ao,T, #[]⟩
noncomputable def km (T:Array lp) (I:Nat):fi:=kp "dict" (.dict T I)
noncomputable def dV (I P:String) (V N R j d:Nat):fi:=kp "code" (.fields #[du I V,du P (V+1),du "/claim/cut.py" (V+2),.int N 0,.int R 0,.int 0 0,.int 0 0,.int 3 0,.ref j,.bool true,.int 181 0,.ref (j+1),.none,.ref (j+2),.ref (j+3),.ref (j+4),.int d 0,.int N 0,du "/claim/cut.py" (d+1)])
noncomputable def dG (U:iN) (P:String) (T:b7) (y:String) (V i:Nat):fi:=match U with
 | .FunctionDef n a b _ _ _ q _ _ _=>kp "function" (.func ⟨n,pd P,a,.stmts b,q,3,[],T,.none,.none,du y V,ao,.ref i,.none,0⟩)
 | _=>default
noncomputable def kQ (I:String) (f y:List b7) (K:Nat) (L:List b7) (X:Array (Option b7)):fi:=⟨.type "type",ao,.cls ⟨pd I,f,y,K,pd I,true,[],L,false,ao,false⟩,X⟩
noncomputable def hd.ah (L:pa):ey:= [
 (3,km #[m L "__name__" 165 (du "law_pf0350_01" 1158),m L "__doc__" 166 (.none),m L "__package__" 167 (.none),m L "__loader__" 168 (.builtin "__main__.__loader__#opaque"),m L "__spec__" 169 (.none),m L "__annotations__" 170 (.ref 6),m L "__builtins__" 171 (.ref 4),m L "__file__" 173 (du "/claim/cut.py" 172),m L "__cached__" 174 (.none),m L "_wall" 193 (.ref 21),m L "mask_of" 203 (.ref 28),m L "prefix_span" 213 (.ref 35),m L "WallFault" 245 (.ref 52),m L "Misused" 261 (.ref 65),m L "BadRule" 277 (.ref 77),m L "Refused" 303 (.ref 96),m L "LeftOut" 319 (.ref 108),m L "words_of" 327 (.ref 117),m L "refused" 334 (.ref 124),m L "number_of" 345 (.ref 131),m L "octets_of" 351 (.ref 136),m L "turned" 357 (.ref 141),m L "host_octets" 366 (.ref 148),m L "host_number" 374 (.ref 155),m L "host_order" 382 (.ref 162),m L "pad4" 389 (.ref 169),m L "Rowing" 431 (.ref 186),m L "slots_of" 438 (.ref 197),m L "const" 448 (.ref 204),m L "maker_of" 458 (.ref 211),m L "put_pair" 470 (.ref 218),m L "has_ports" 480 (.ref 225),m L "put_addresses" 494 (.ref 232),m L "make_nat" 514 (.ref 239),m L "Counter" 549 (.ref 257),m L "Quota" 583 (.ref 279),m L "Limit" 624 (.ref 300),m L "unit_seconds" 632 (.ref 311),m L "make_limit" 643 (.ref 318),m L "make_cell" 651 (.ref 325),m L "cells_of" 662 (.ref 332),m L "Rule" 701 (.ref 350),m L "new_meta" 711 (.ref 361),m L "Packet" 748 (.ref 378),m L "family_of" 755 (.ref 389),m L "Scene" 809 (.ref 407),m L "named_set" 818 (.ref 418),m L "meta_value" 827 (.ref 425),m L "Regs" 876 (.ref 456),m L "run_rows" 888 (.ref 467),m L "key_of_layout" 901 (.ref 474),m L "put_layout" 915 (.ref 481),m L "op_immediate" 925 (.ref 488),m L "put_number" 937 (.ref 495),m L "op_meta" 947 (.ref 502),m L "element_of" 960 (.ref 509),m L "op_map" 971 (.ref 516),m L "tool_of" 982 (.ref 523),m L "register_span" 995 (.ref 530),m L "op_nat" 1010 (.ref 537),m L "single_key" 1022 (.ref 544),m L "Element" 1059 (.ref 562),m L "is_live" 1067 (.ref 573),m L "PlainStore" 1157 (.ref 639),m L "_law_digit" 1167 (.ref 650),m L "_law_number" 1176 (.ref 657),m L "_law_octets" 1182 (.ref 662),m L "_law_literals" 1196 (.ref 669),m L "_law_addresses" 1207 (.ref 676),m L "_law_statement" 1226 (.ref 683),m L "_law_named" 1241 (.ref 690),m L "_law_ends" 1251 (.ref 697),m L "_law_map_rows" 1257 (.ref 702),m L "_law_rows" 1263 (.ref 707),m L "_law_request" 1283 (.ref 714),m L "_law_due" 1302 (.ref 721),m L "_law_store" 1311 (.ref 728),m L "_law_load_map" 1323 (.ref 735),m L "_law_tool" 1331 (.ref 742),m L "_law_made" 1340 (.ref 749),m L "_law_told" 1358 (.ref 756),m L "_law_seen" 1364 (.ref 761),m L "_law_spanned" 1375 (.ref 768),m L "_law_asked" 1385 (.ref 775),m L "_law_registers_hold" 1391 (.ref 780),m L "law" 1407 (.ref 787)] 86),
 (27,dV "mask_of" "mask_of" 196 5 2 22 201),
 (28,dG (st 2) "mask_of" (.none) "siftwall.addresses" 194 27),
 (34,dV "prefix_span" "prefix_span" 204 7 3 29 211),
 (35,dG (st 3) "prefix_span" (.none) "siftwall.addresses" 194 34),
 (48,dV "__init__" "WallFault.__init__" 228 13 2 43 233),
 (49,dG (kR 5 0) "WallFault.__init__" (.none) "siftwall.faults" 214 48),
 (51,km #[m L "__module__" 223 (du "siftwall.faults" 214),m L "__firstlineno__" 227 (.int 11 226),m L "__init__" 235 (.ref 49),m L "__static_attributes__" 238 (.ref 50),m L "__weakref__" 240 (.ref 53),m L "__doc__" 241 (.none)] 3),
 (52,kQ "WallFault" [.type "Exception"] [.ref 52,.type "Exception",.type "BaseException",.type "object"] 51 [.ref 65,.ref 77,.ref 96,.ref 108] #[ab (.ref 36),ao,ab (du "WallFault" 216),ab (du "WallFault" 224),ab (.builtin "Exception.__new__"),ab (.bool true)]),
 (64,km #[m L "__module__" 253 (du "siftwall.faults" 214),m L "__firstlineno__" 257 (.int 17 256),m L "__static_attributes__" 258 (.ref 63),m L "__doc__" 259 (.none)] 2),
 (65,kQ "Misused" [.ref 52] [.ref 65,.ref 52,.type "Exception",.type "BaseException",.type "object"] 64 [] #[ab (.ref 56),ao,ab (du "Misused" 246),ab (du "Misused" 254),ab (.builtin "Exception.__new__"),ab (.bool true)]),
 (76,km #[m L "__module__" 269 (du "siftwall.faults" 214),m L "__firstlineno__" 273 (.int 19 272),m L "__static_attributes__" 274 (.ref 75),m L "__doc__" 275 (.none)] 2),
 (77,kQ "BadRule" [.ref 52] [.ref 77,.ref 52,.type "Exception",.type "BaseException",.type "object"] 76 [] #[ab (.ref 68),ao,ab (du "BadRule" 262),ab (du "BadRule" 270),ab (.builtin "Exception.__new__"),ab (.bool true)]),
 (95,km #[m L "__module__" 285 (du "siftwall.faults" 214),m L "__firstlineno__" 289 (.int 21 288),m L "__init__" 298 (.ref 93),m L "__static_attributes__" 300 (.ref 94),m L "__doc__" 301 (.none)] 2),
 (96,kQ "Refused" [.ref 52] [.ref 96,.ref 52,.type "Exception",.type "BaseException",.type "object"] 95 [] #[ab (.ref 80),ao,ab (du "Refused" 278),ab (du "Refused" 286),ab (.builtin "Exception.__new__"),ab (.bool true)]),
 (107,km #[m L "__module__" 311 (du "siftwall.faults" 214),m L "__firstlineno__" 315 (.int 26 314),m L "__static_attributes__" 316 (.ref 106),m L "__doc__" 317 (.none)] 2),
 (108,kQ "LeftOut" [.ref 52] [.ref 108,.ref 52,.type "Exception",.type "BaseException",.type "object"] 107 [] #[ab (.ref 99),ao,ab (du "LeftOut" 304),ab (du "LeftOut" 312),ab (.builtin "Exception.__new__"),ab (.bool true)]),
 (130,dV "number_of" "number_of" 337 36 1 125 343),
 (131,dG (st 13) "number_of" (.none) "siftwall.octets" 335 130),
 (135,kp "code" (.fields #[du "octets_of" 346,du "octets_of" 347,du "/claim/cut.py" 348,.int 41 0,.int 2 0,.int 0 0,.int 0 0,.int 3 0,.ref 132,.bool true,.int 181 0,.ref 133,.none,.none,.none,.ref 134,.int 349 0,.int 41 0,du "/claim/cut.py" 350])),
 (136,dG (st 14) "octets_of" (.none) "siftwall.octets" 335 135),
 (140,kp "code" (.fields #[du "turned" 352,du "turned" 353,du "/claim/cut.py" 354,.int 45 0,.int 1 0,.int 0 0,.int 0 0,.int 3 0,.ref 137,.bool true,.int 181 0,.ref 138,.none,.none,.none,.ref 139,.int 355 0,.int 45 0,du "/claim/cut.py" 356])),
 (141,dG (st 15) "turned" (.none) "siftwall.octets" 335 140),
 (147,dV "host_octets" "host_octets" 358 48 3 142 364),
 (148,dG (st 16) "host_octets" (.none) "siftwall.octets" 335 147),
 (154,dV "host_number" "host_number" 367 54 2 149 372),
 (155,dG (st 17) "host_number" (.none) "siftwall.octets" 335 154),
 (161,dV "host_order" "host_order" 375 60 2 156 380),
 (162,dG (st 18) "host_order" (.none) "siftwall.octets" 335 161),
 (168,dV "pad4" "pad4" 383 62 1 163 387),
 (169,dG (st 19) "pad4" (.none) "siftwall.octets" 335 168),
 (182,dV "__init__" "Rowing.__init__" 404 67 5 177 412),
 (183,dG (kR 21 0) "Rowing.__init__" (.none) "siftwall.rowexpr" 390 182),
 (185,km #[m L "__module__" 399 (du "siftwall.rowexpr" 390),m L "__firstlineno__" 403 (.int 65 402),m L "__init__" 414 (.ref 183),m L "__static_attributes__" 424 (.ref 184),m L "__dict__" 426 (.ref 187),m L "__weakref__" 428 (.ref 188),m L "__doc__" 429 (.none)] 4),
 (186,kQ "Rowing" [.type "object"] [.ref 186,.type "object"] 185 [] #[ao,ao,ab (du "Rowing" 392),ab (du "Rowing" 400),ab (.builtin "object.__new__"),ab (.bool true)]),
 (196,dV "slots_of" "slots_of" 432 77 1 191 436),
 (197,dG (st 22) "slots_of" (.none) "siftwall.rowexpr" 390 196),
 (203,dV "const" "const" 439 79 4 198 446),
 (204,dG (st 23) "const" (.none) "siftwall.rowexpr" 390 203),
 (210,dV "maker_of" "maker_of" 451 82 2 205 456),
 (211,dG (st 25) "maker_of" (.none) "siftwall.rowrule" 449 210),
 (217,dV "put_pair" "put_pair" 459 86 6 212 468),
 (218,dG (st 26) "put_pair" (.none) "siftwall.rowrule" 449 217),
 (224,dV "has_ports" "has_ports" 471 92 2 219 478),
 (225,dG (st 27) "has_ports" (.none) "siftwall.rowrule" 449 224),
 (231,dV "put_addresses" "put_addresses" 481 101 3 226 492),
 (232,dG (st 28) "put_addresses" (.none) "siftwall.rowrule" 449 231),
 (238,dV "make_nat" "make_nat" 495 115 3 233 512),
 (239,dG (st 29) "make_nat" (.none) "siftwall.rowrule" 449 238),
 (324,dV "make_cell" "make_cell" 644 166 1 319 649),
 (325,dG (st 36) "make_cell" (.none) "siftwall.meters" 515 324),
 (331,dV "cells_of" "cells_of" 652 175 1 326 660),
 (332,dG (st 37) "cells_of" (.none) "siftwall.meters" 515 331),
 (340,kp "tuple" (.seq #[du "" 677])),
 (346,dV "__init__" "Rule.__init__" 678 188 4 341 685),
 (347,dG (kR 39 0) "Rule.__init__" (.ref 340) "siftwall.book" 663 346),
 (349,km #[m L "__module__" 672 (du "siftwall.book" 663),m L "__firstlineno__" 676 (.int 186 675),m L "__init__" 687 (.ref 347),m L "__static_attributes__" 694 (.ref 348),m L "__dict__" 696 (.ref 351),m L "__weakref__" 698 (.ref 352),m L "__doc__" 699 (.none)] 4),
 (350,kQ "Rule" [.type "object"] [.ref 350,.type "object"] 349 [] #[ao,ao,ab (du "Rule" 665),ab (du "Rule" 673),ab (.builtin "object.__new__"),ab (.bool true)]),
 (360,dV "new_meta" "new_meta" 704 196 0 355 709),
 (361,dG (st 41) "new_meta" (.none) "siftwall.packets" 702 360),
 (374,dV "__init__" "Packet.__init__" 724 205 4 369 731),
 (375,dG (kR 42 0) "Packet.__init__" (.none) "siftwall.packets" 702 374),
 (377,km #[m L "__module__" 719 (du "siftwall.packets" 702),m L "__firstlineno__" 723 (.int 203 722),m L "__init__" 733 (.ref 375),m L "__static_attributes__" 741 (.ref 376),m L "__dict__" 743 (.ref 379),m L "__weakref__" 745 (.ref 380),m L "__doc__" 746 (.none)] 4),
 (378,kQ "Packet" [.type "object"] [.ref 378,.type "object"] 377 [] #[ao,ao,ab (du "Packet" 712),ab (du "Packet" 720),ab (.builtin "object.__new__"),ab (.bool true)]),
 (388,dV "family_of" "family_of" 749 213 1 383 753),
 (389,dG (st 43) "family_of" (.none) "siftwall.packets" 702 388),
 (397,kp "tuple" (.seq #[.int 0 770,du "input" 771])),
 (403,dV "__init__" "Scene.__init__" 772 224 5 398 780),
 (404,dG (kR 45 0) "Scene.__init__" (.ref 397) "siftwall.walk" 756 403),
 (406,km #[m L "__module__" 765 (du "siftwall.walk" 756),m L "__firstlineno__" 769 (.int 222 768),m L "__init__" 782 (.ref 404),m L "__static_attributes__" 802 (.ref 405),m L "__dict__" 804 (.ref 408),m L "__weakref__" 806 (.ref 409),m L "__doc__" 807 (.none)] 4),
 (407,kQ "Scene" [.type "object"] [.ref 407,.type "object"] 406 [] #[ao,ao,ab (du "Scene" 758),ab (du "Scene" 766),ab (.builtin "object.__new__"),ab (.bool true)]),
 (417,dV "named_set" "named_set" 810 244 2 412 816),
 (418,dG (st 46) "named_set" (.none) "siftwall.walk" 756 417),
 (424,dV "meta_value" "meta_value" 819 249 2 419 825),
 (425,dG (st 47) "meta_value" (.none) "siftwall.walk" 756 424),
 (438,dV "__init__" "Regs.__init__" 842 261 1 433 846),
 (439,dG (kR 49 0) "Regs.__init__" (.none) "siftwall.machine" 828 438),
 (445,dV "get" "Regs.get" 849 264 3 440 855),
 (446,dG (kR 49 1) "Regs.get" (.none) "siftwall.machine" 828 445),
 (452,dV "put" "Regs.put" 858 269 3 447 865),
 (453,dG (kR 49 2) "Regs.put" (.none) "siftwall.machine" 828 452),
 (455,km #[m L "__module__" 837 (du "siftwall.machine" 828),m L "__firstlineno__" 841 (.int 259 840),m L "__init__" 848 (.ref 439),m L "get" 857 (.ref 446),m L "put" 867 (.ref 453),m L "__static_attributes__" 869 (.ref 454),m L "__dict__" 871 (.ref 457),m L "__weakref__" 873 (.ref 458),m L "__doc__" 874 (.none)] 4),
 (456,kQ "Regs" [.type "object"] [.ref 456,.type "object"] 455 [] #[ao,ao,ab (du "Regs" 830),ab (du "Regs" 838),ab (.builtin "object.__new__"),ab (.bool true)]),
 (466,dV "run_rows" "run_rows" 877 274 2 461 886),
 (467,dG (st 50) "run_rows" (.none) "siftwall.machine" 828 466),
 (473,dV "key_of_layout" "key_of_layout" 889 286 4 468 899),
 (474,dG (st 51) "key_of_layout" (.none) "siftwall.machine" 828 473),
 (480,dV "put_layout" "put_layout" 902 292 5 475 913),
 (481,dG (st 52) "put_layout" (.none) "siftwall.machine" 828 480),
 (487,dV "op_immediate" "op_immediate" 916 299 4 482 923),
 (488,dG (st 53) "op_immediate" (.none) "siftwall.machine" 828 487),
 (494,dV "put_number" "put_number" 926 302 6 489 935),
 (495,dG (st 54) "put_number" (.none) "siftwall.machine" 828 494),
 (501,dV "op_meta" "op_meta" 938 307 4 496 945),
 (502,dG (st 55) "op_meta" (.none) "siftwall.machine" 828 501),
 (508,dV "element_of" "element_of" 948 309 6 503 958),
 (509,dG (st 56) "element_of" (.none) "siftwall.machine" 828 508),
 (515,dV "op_map" "op_map" 961 314 4 510 969),
 (516,dG (st 57) "op_map" (.none) "siftwall.machine" 828 515),
 (522,dV "tool_of" "tool_of" 974 321 2 517 980),
 (523,dG (st 59) "tool_of" (.none) "siftwall.walkacts" 972 522),
 (529,dV "register_span" "register_span" 985 327 4 524 993),
 (530,dG (st 61) "register_span" (.none) "siftwall.opsacts" 983 529),
 (536,dV "op_nat" "op_nat" 996 334 4 531 1008),
 (537,dG (st 62) "op_nat" (.none) "siftwall.opsacts" 983 536),
 (543,dV "single_key" "single_key" 1013 344 1 538 1020),
 (544,dG (st 64) "single_key" (.none) "siftwall.stores" 1011 543),
 (552,kp "tuple" (.seq #[.int 0 1035])),
 (558,dV "__init__" "Element.__init__" 1036 353 4 553 1043),
 (559,dG (kR 65 0) "Element.__init__" (.ref 552) "siftwall.stores" 1011 558),
 (561,km #[m L "__module__" 1030 (du "siftwall.stores" 1011),m L "__firstlineno__" 1034 (.int 351 1033),m L "__init__" 1045 (.ref 559),m L "__static_attributes__" 1052 (.ref 560),m L "__dict__" 1054 (.ref 563),m L "__weakref__" 1056 (.ref 564),m L "__doc__" 1057 (.none)] 4),
 (562,kQ "Element" [.type "object"] [.ref 562,.type "object"] 561 [] #[ao,ao,ab (du "Element" 1023),ab (du "Element" 1031),ab (.builtin "object.__new__"),ab (.bool true)]),
 (572,dV "is_live" "is_live" 1060 360 2 567 1065),
 (573,dG (st 66) "is_live" (.none) "siftwall.stores" 1011 572),
 (586,dV "__init__" "PlainStore.__init__" 1080 364 1 581 1084),
 (587,dG (kR 67 0) "PlainStore.__init__" (.none) "siftwall.stores" 1011 586),
 (593,dV "put" "PlainStore.put" 1087 367 3 588 1094),
 (594,dG (kR 67 1) "PlainStore.put" (.none) "siftwall.stores" 1011 593),
 (607,dV "find" "PlainStore.find" 1107 381 3 602 1114),
 (608,dG (kR 67 3) "PlainStore.find" (.none) "siftwall.stores" 1011 607),
 (638,km #[m L "__module__" 1075 (du "siftwall.stores" 1011),m L "__firstlineno__" 1079 (.int 362 1078),m L "__init__" 1086 (.ref 587),m L "put" 1096 (.ref 594),m L "at" 1106 (.ref 601),m L "find" 1116 (.ref 608),m L "drop" 1125 (.ref 615),m L "elements" 1134 (.ref 622),m L "many" 1141 (.ref 629),m L "clear" 1148 (.ref 636),m L "__static_attributes__" 1150 (.ref 637),m L "__dict__" 1152 (.ref 640),m L "__weakref__" 1154 (.ref 641),m L "__doc__" 1155 (.none)] 4),
 (639,kQ "PlainStore" [.type "object"] [.ref 639,.type "object"] 638 [] #[ao,ao,ab (du "PlainStore" 1068),ab (du "PlainStore" 1076),ab (.builtin "object.__new__"),ab (.bool true)]),
 (649,dV "_law_digit" "_law_digit" 1160 405 2 644 1165),
 (650,dG (st 69) "_law_digit" (.none) "law_pf0350_01" 1158 649),
 (656,dV "_law_number" "_law_number" 1168 407 3 651 1174),
 (657,dG (st 70) "_law_number" (.none) "law_pf0350_01" 1158 656),
 (661,kp "code" (.fields #[du "_law_octets" 1177,du "_law_octets" 1178,du "/claim/cut.py" 1179,.int 409 0,.int 2 0,.int 0 0,.int 0 0,.int 3 0,.ref 658,.bool true,.int 181 0,.ref 659,.none,.none,.none,.ref 660,.int 1180 0,.int 409 0,du "/claim/cut.py" 1181])),
 (662,dG (st 71) "_law_octets" (.none) "law_pf0350_01" 1158 661),
 (668,dV "_law_literals" "_law_literals" 1183 411 5 663 1194),
 (669,dG (st 72) "_law_literals" (.none) "law_pf0350_01" 1158 668),
 (675,dV "_law_addresses" "_law_addresses" 1197 419 5 670 1205),
 (676,dG (st 73) "_law_addresses" (.none) "law_pf0350_01" 1158 675),
 (682,dV "_law_statement" "_law_statement" 1208 431 3 677 1224),
 (683,dG (st 74) "_law_statement" (.none) "law_pf0350_01" 1158 682),
 (689,dV "_law_named" "_law_named" 1227 447 2 684 1239),
 (690,dG (st 75) "_law_named" (.none) "law_pf0350_01" 1158 689),
 (696,dV "_law_ends" "_law_ends" 1242 460 2 691 1249),
 (697,dG (st 76) "_law_ends" (.none) "law_pf0350_01" 1158 696),
 (701,kp "code" (.fields #[du "_law_map_rows" 1252,du "_law_map_rows" 1253,du "/claim/cut.py" 1254,.int 466 0,.int 3 0,.int 0 0,.int 0 0,.int 3 0,.ref 698,.bool true,.int 181 0,.ref 699,.none,.none,.none,.ref 700,.int 1255 0,.int 466 0,du "/claim/cut.py" 1256])),
 (702,dG (st 77) "_law_map_rows" (.none) "law_pf0350_01" 1158 701),
 (706,kp "code" (.fields #[du "_law_rows" 1258,du "_law_rows" 1259,du "/claim/cut.py" 1260,.int 480 0,.int 2 0,.int 0 0,.int 0 0,.int 3 0,.ref 703,.bool true,.int 181 0,.ref 704,.none,.none,.none,.ref 705,.int 1261 0,.int 480 0,du "/claim/cut.py" 1262])),
 (707,dG (st 78) "_law_rows" (.none) "law_pf0350_01" 1158 706),
 (713,dV "_law_request" "_law_request" 1264 505 3 708 1281),
 (714,dG (st 79) "_law_request" (.none) "law_pf0350_01" 1158 713),
 (720,dV "_law_due" "_law_due" 1284 519 4 715 1300),
 (721,dG (st 80) "_law_due" (.none) "law_pf0350_01" 1158 720),
 (727,dV "_law_store" "_law_store" 1303 538 1 722 1309),
 (728,dG (st 81) "_law_store" (.none) "law_pf0350_01" 1158 727),
 (734,dV "_law_load_map" "_law_load_map" 1312 543 5 729 1321),
 (735,dG (st 82) "_law_load_map" (.none) "law_pf0350_01" 1158 734),
 (741,dV "_law_tool" "_law_tool" 1324 550 2 736 1329),
 (742,dG (st 83) "_law_tool" (.none) "law_pf0350_01" 1158 741),
 (748,dV "_law_made" "_law_made" 1332 553 2 743 1338),
 (749,dG (st 84) "_law_made" (.none) "law_pf0350_01" 1158 748),
 (755,dV "_law_told" "_law_told" 1341 561 5 750 1356),
 (756,dG (st 85) "_law_told" (.none) "law_pf0350_01" 1158 755),
 (760,kp "code" (.fields #[du "_law_seen" 1359,du "_law_seen" 1360,du "/claim/cut.py" 1361,.int 582 0,.int 4 0,.int 0 0,.int 0 0,.int 3 0,.ref 757,.bool true,.int 181 0,.ref 758,.none,.none,.none,.ref 759,.int 1362 0,.int 582 0,du "/claim/cut.py" 1363])),
 (761,dG (st 86) "_law_seen" (.none) "law_pf0350_01" 1158 760),
 (767,dV "_law_spanned" "_law_spanned" 1365 589 4 762 1373),
 (768,dG (st 87) "_law_spanned" (.none) "law_pf0350_01" 1158 767),
 (774,dV "_law_asked" "_law_asked" 1376 594 3 769 1383),
 (775,dG (st 88) "_law_asked" (.none) "law_pf0350_01" 1158 774),
 (779,kp "code" (.fields #[du "_law_registers_hold" 1386,du "_law_registers_hold" 1387,du "/claim/cut.py" 1388,.int 599 0,.int 2 0,.int 0 0,.int 0 0,.int 3 0,.ref 776,.bool true,.int 181 0,.ref 777,.none,.none,.none,.ref 778,.int 1389 0,.int 599 0,du "/claim/cut.py" 1390])),
 (780,dG (st 89) "_law_registers_hold" (.none) "law_pf0350_01" 1158 779),
 (786,dV "law" "law" 1392 629 1 781 1405),
 (787,dG (st 90) "law" (.none) "law_pf0350_01" 1158 786)]
end
end Mine
end
section
open PySem PySem.W PySem.Calls PyProof.Rows
namespace Mine
variable {G:d7}{w:di}{A:Nat}{H:eP}{Y:j7}{r:cx}{Cg:a0→Prop}{lU:Args}{dJ:Bool}{gT:Bool→cx→Prop}{qc:Builtin}{hP:Code}{uv:qx→cx→Prop}{cw:List b7}{dB:u4}{fF:Option b7}{cD:e5}{dp:Prop}{ef:qz→cx→Prop}{xU:cx→Bool}{gn:String}{c2:Type}{fG:Unit→cx→Prop}{b8:b7}{cq:b7→cx→Prop}{ip:Type}{d1:b7→cx→Prop}{KX KY:Type}
section
set_option backward.match.sparseCases true
set_option tactic.hygienic true
noncomputable def tL:Code→Bool
 | .builtin id _=> !qt.contains id
 | _=>true
noncomputable def rF (N:List (Code×e5)):Bool:=N.all fun S=>tL S.1
def dr (H:u4) (r:j7) (V:ej c2) (n:c2→cx→Prop) (O:b7→cx→Prop) (U:cx):Prop:=
 ∀A c,A.In r→tL A.code=true→rF A.below=true→Sem.wp H A V (fun R F a=>n R a) (fun Z F a=>O Z a) c U
def gY (H:u4) (r:j7) (i:Code) (P:qz→cx→Prop) (U:cx):Prop:=
 ∀A c,A.code=i→A.Below r→rF A.below=true→wpCode H A P c U
section
theorem ja {V:ej c2} {n:c2→cx→Prop}(X:cu dB Y V n cq r):dr dB Y V n cq r:=fun A c C F F=>X A c C
theorem PX(X:jx dB Y hP ef r):gY dB Y hP ef r:=fun A c b C F=>X A c b C
theorem eF {a:c2} {n:c2→cx→Prop}(X:n a r):dr dB Y (pure a) n cq r:=fun F F F F F=>X
theorem iG {V:ej c2} {n B:c2→cx→Prop}(X:dr dB Y V n cq r)(d: ∀R r,n R r→B R r)(D: ∀Z r,cq Z r→d1 Z r):dr dB Y V B d1 r:=
 fun A c C W K=>u9 dB A V (fun R F r=>d R r) (fun Z F r=>D Z r) c r (X A c C W K)
theorem v5 {B:qz→cx→Prop}(X:gY dB Y hP ef r)(S: ∀j r,ef j r→B j r):gY dB Y hP B r:=
 fun A c b C W=>wpCode_mono S (X A c b C W)
theorem dI {m:ej c2} {t:c2→ej ip} {n:ip→cx→Prop}(X:dr dB Y m (fun R a=>dr dB Y (t R) n cq a) cq r):dr dB Y (m >>=t) n cq r:=fun A c C W K=>by
 rw [K3]
 exact u9 dB A m (fun R d a L=>L A d C W K) (fun F F F L=>L) c r (X A c C W K)
theorem d2 {m:ej c2} {t:c2→ej ip} {n:ip→cx→Prop}(X:cu dB Y m (fun a A=>dr dB Y (t a) n cq A) cq r):dr dB Y (m >>=t) n cq r:=dI (ja X)
theorem nx {y:ej c2} {n:c2→cx→Prop}(X:dr dB Y y n cq r):dr dB Y (mL cw y) n cq r:=
 fun A c C W K=>by rw [Sem.wp_holding];exact X A c C W K
theorem Z0 {y:ej c2} {n:c2→cx→Prop}(X:dr dB Y y n cq r):dr dB Y (y.keep cw) n cq r:=
 fun A c C W K=>by rw [Sem.wp_keep];exact X A c C W K
theorem B8 {y:ej c2} {k:b7→ej Unit} {n:c2→cx→Prop}(X:dr dB Y y n (fun Z a=>dr dB Y (k Z) (fun F x=>cq Z x) cq a) r):dr dB Y (y.onRaise k) n cq r:=fun A c C W K=>by
 rw [Sem.wp_onRaise]
 exact u9 dB A y (fun F F F L=>L) (fun Z d a L=>L A d C W K) c r (X A c C W K)
theorem jJ(X:fG () r):dr dB Y (oa cD) fG cq r:=fun F F F F F=>X
theorem mw {V:ej c2} {a:c2} {n:c2→cx→Prop}(Z:V=pure a)(X:n a r):dr dB Y V n cq r:=by subst Z;exact eF X
theorem xC [Decidable dp] {R f:ej c2} {n:c2→cx→Prop}(W:dp→dr dB Y R n cq r)(K: ¬dp→dr dB Y f n cq r):dr dB Y (if dp then R else f) n cq r:=by
 split
 ·exact W (by assumption)
 ·exact K (by assumption)
theorem Z3(b:gY dB (Y.mark fF) hP (fun j a=>match j with | .ok f=>uv f a | .error e=>cq e a) r)(B:fF≠ab byPass):dr dB Y (run hP fF) uv cq r:=
 fun A c C W K=>by
  rw [Sem.wp_run]
  exact b _ c rfl (C.enter hP fF c B) (by show rF ((A.code,c)::A.below)=true;unfold rF at K ⊢;rw [ya,K,W];rfl)
theorem Z5(b:gY dB Y hP (fun j a=>match j with | .ok (.ret v)=>d1 v a | .ok _=>False | .error e=>cq e a) r):dr dB Y (runValue hP) d1 cq r:=fun A c C W K=>by
 rw [Sem.wp_runValue]
 exact b _ c rfl (C.enter hP ao c (by intro S;contradiction)) (by show rF ((A.code,c)::A.below)=true;unfold rF at K ⊢;rw [ya,K,W];rfl)
variable {fS:List (PySem.Str×b7)}
theorem uf
 (b:gY dB Y (.call b8 ⟨cw,fS⟩) (fun j a=>match j with | .ok (.ret v)=>d1 v a | .ok _=>False | .error e=>cq e a) r):dr dB Y (fW b8 cw fS) d1 cq r:=Z5 b
theorem pI(D:tL hP=true)
 (X:dr dB (Y.under hP) (dB.den hP) (fun m a=>match m with | .done f=>ef (.ok f) a | .again B=>B.quiet=true∧gY dB Y B ef a) (fun e a=>ef (.error e) a) r):gY dB Y hP ef r:=fun A c b C W=>by
 rw [wpCode_iff_wp,b]
 refine u9 dB A _ (fun m d a L=>?_) (fun F F F L=>L) c r (X A c (b▸C.in) (by refine b▸?_;exact D) W)
 induction m with
 | done f=>exact L
 | again B=>exact⟨L.1,L.2 (A.goto B) d rfl (C.goto B) W⟩
theorem Z4(b:gY dB (Y.mark fF) hP (fun j a=>match j with | .ok f=>uv f a | .error Z=>cameBackBy dB Y H cq Z a) r)(B:fF≠ab byPass):dr dB Y (runOwn hP H fF) uv cq r:=by
 unfold runOwn
 refine B8 (iG (Z3 b B) (fun F F d=>d) fun Z a d=>ja d)
theorem Z2 {y:ej c2} {n:c2→cx→Prop}(X:dr dB Y y n (sH dB Y H cq) r):dr dB Y (y.onRaise fun S=>do sG S H;Nc S) n cq r:=
 B8 (iG X (fun F F P=>P) fun F F i=>ja (bt (ea i (fun F F Z=>wpAny_theTreesLotGoes Z) fun F F Z=>Z)))
end
section
theorem GF(c:qt.contains gn=false)(H:l5 kK gn=ab qc)
 (X:dr (bD G w) (Y.under (.builtin gn lU)) (qc lU) (fun m a=>match m with | .done f=>ef (.ok f) a | .again B=>B.quiet=true∧gY (bD G w) Y B ef a) (fun e a=>ef (.error e) a) r):
 gY (bD G w) Y (.builtin gn lU) ef r:=by
 refine pI (by show(!_)=true;refine c▸?_;rfl) ?_
 show dr _ _ (match l5 kK gn with | some qc=>qc lU | none=>Nd ((withoutEnding? gn "#data").getD gn)) _ _ r
 refine H▸?_;exact X
theorem zZ(c:qt.contains gn=false)(S:(Code.builtin gn lU).quiet=true)(H:l5 kK gn=ab qc)
 (X:cu (bD G w) Y.in1 (qK gn lU) (fun F E=>dr (bD G w) (Y.under (.builtin gn lU)) (qc lU)
  (fun m a=>match m with | .done f=>ef (.ok f) a | .again B=>B.quiet=true∧gY (bD G w) Y B ef a) (fun e a=>ef (.error e) a) E)
  (fun e a=>ef (.error e) a) r):gY (bD G w) Y (.call (.builtin gn) lU) ef r:=by
 refine pI rfl ?_
 exact d2 (ea X (fun F E T=>eF (And.intro S (GF c H T))) fun F F L=>L)
theorem tK [Decidable dp] {V:dp→Bool} {Z: ¬dp→Bool}(X: ¬dp)(k: ¬Z X=true): ¬dite dp V Z=true:=by refine(dif_neg X)▸?_;exact k
theorem Uu(a:Y.guards=ab [])(X:gT false r):dr (bD G w) Y (yx b8) gT cq r:=fun A c C W K=>by
 unfold yx
 rw [K3]
 show gT (((A.code,c)::A.below).any _) r
 have y: ∀i ∈ (A.code,c)::A.below,tL i.1=true∧i.1.isGuard=false:=by
  intro i b
  constructor
  ·rcases gr.mp b with rfl | b
   ·exact W
   ·exact sa.mp K i b
  ·have:=C.2.2.2.1 [] a
   rw [←guardsOf_cons A.code c] at this
   unfold guardsOf at this
   have:=Lx.mp this i.1 (yj b)
   simpa using this
 rw [show(((A.code,c)::A.below).any _)=false from ?_]
 ·exact X
 ·rw [uN]
  rintro ⟨i,P⟩ b
  refine(y _ b).elim fun o g=>?_
  cases i
  case builtin id args=>
   have D: ∀S:String,guardIds.contains S=true→id≠S:=fun S F Z=>by
    subst Z
    exact fv (g.symm.trans F)
   delta PySem.Builtin.Bytes.exported.match_1
   refine tK (D "bytearray.__contains__" (by decide)) ?_
   refine tK (D "bytearray.__mod__" (by decide)) ?_
   refine tK (D "bytearray.__rmod__" (by decide)) ?_
   refine tK (D "_struct.pack_into.held" (by decide)) ?_
   refine tK (D "bytearray.find.held" (by decide)) ?_
   refine args.rec fun B E=>?_
   induction B with
   | nil=>exact fv
   | cons v B=>
    show ¬(aa5 v b8 && qt.contains id)=true
    have o:(!qt.contains id)=true:=o
    induction P:qt.contains id with
    | false=>rw [r4];exact fv
    | true=>rw [P] at o;exact absurd o fv
  all_goals exact fv
end
end
section
theorem H2(X:r.gens= #[]):qP r.gens=false:=by rw [X];simp [qP]
inductive NM (prog:d7) (w:di) (t:ej Fin) (s:cx) (R:qz→cx→Prop):Prop
 | mk (n:Nat) (r:qz) (s':cx) (h1:schedN (sE kK) prog w n (.single s ⟨t,.builtin "claim.caller" {},default,[]⟩)= .halted (y0 r) {s' with gens:=s.gens}) (h2:s'.heap.life=s.heap.life) (h3:R r s')
theorem Rv {prog:d7} {V:ej Fin} {s:cx} {R:qz→cx→Prop}(C:s.asleep)(N:qP s.gens=false)
 (X:dr (bD prog w) qI V (fun m a=> ∃t,m= .done t∧(R (.ok t) a∧a.gens= #[])) (fun Z a=>R (.error Z) a∧a.gens= #[]) {s with gens:= #[]}):NM prog w V s R:=by
 have m:Sem.wp (bD prog w) ⟨.builtin "claim.caller" {},ao,ao,[],ao⟩ V (Sem.finPost (bD prog w) ⟨.builtin "claim.caller" {},ao,ao,[],ao⟩ fun j a=>(R j a∧a.gens= #[])∧qP a.gens=false) (fun Z F a=>(R (.error Z) a∧a.gens= #[])∧qP a.gens=false) default {s with gens:= #[]}:=
  u9 _ _ V (fun t c a d=>d.elim fun A d=>d.1▸⟨d.2,H2 d.2.2⟩) (fun Z c a d=>⟨d,H2 d.2⟩) default _ (X _ default caller_in (by decide) rfl)
 refine k5 ((wp_iff_halts (M:=bD prog w) (R:=fun j a=>R j a∧a.gens= #[]) ..).mp m) fun I j E v S B=>?_
 refine fR (runNI_real _ _ _ v (M9 j)) fun J D Q b=>?_
 obtain rfl:J=E:=Shared.eq_of_forget_eq Q B
 exact⟨I,j,J,sched_gens (s:= {s with gens:= #[]}) N D (M9 j) B rfl b C,runN_life (s:= {s with gens:= #[]}) _ _ _ D,S⟩
theorem Rx {A KX KY:Type} {L:c2→ip→Prop} {n:c2→ip→A→KX→KY→Prop} {R:c2} {f:ip} {i:A} {T:KX} {Z:KY}(c:L R f)(P:n R f i T Z): ∃R f,L R f∧ ∃i T Z,n R f i T Z:=⟨R,f,c,i,T,Z,P⟩
inductive Od (c:ClaimW) (tree:List b7→ej Fin) (w:di) (s:cx) (kept:cO→Prop) (args:List va) (ord:List lp→List lp):Prop
 | mk (vs:List b7) (s₁:cx) (h1:layAllW c.records (kI s.heap) w.params ord args s=ab (vs,s₁))
  (h2:dr (bD c.prog w) qI (tree vs) (fun fin s'=> ∃f,fin= .done f∧((c.Ends s args vs s₁ (.ok f) s'∧s'.os=s.os∧kept s'.heap)∧s'.gens= #[])) (fun e s'=>(c.Ends s args vs s₁ (.error e) s'∧s'.os=s.os∧kept s'.heap)∧s'.gens= #[]) {s₁ with gens:= #[]})
inductive N9 (c:ClaimW) (tree:List b7→ej Fin) (w:di) (s:cx) (kept:cO→Prop) (args:List va) (ord:List lp→List lp):Prop
 | mk (vs:List b7) (s₁:cx) (n:Nat) (r:qz) (s':cx) (h1:layAllW c.records (kI s.heap) w.params ord args s=ab (vs,s₁)) (h2:schedN (sE kK) c.prog w n (.single s₁ ⟨tree vs,.builtin "claim.caller" {},default,[]⟩)= .halted (y0 r) {s' with gens:=s₁.gens}) (h3:s'.heap.life=s₁.heap.life) (h4:c.Ends s args vs s₁ r s') (h5:s'.os=s.os) (h6:kept s'.heap)
theorem Px {c:ClaimW} {D:List b7→ej Fin} {B:cO→Prop}(U:r.asleep)(N:qP r.gens=false)
 (G: ∀v,c.pre v=true→yG v=true→ ∀Y:List lp→List lp,(∀l,(Y l).Perm l)→Od c D w r B v Y):
 c.CallFrom (fun Q=>⟨D Q,.builtin "claim.caller" {},default,[]⟩) w Cg dp B r:=fun v q b Y A=>by
 obtain⟨Q,E,k,j,a,h,W,K,C,n,e⟩:N9 c D w r B v Y:=by
  obtain⟨Q,E,h,z⟩:=G v q b Y A
  have H:=DI _ _ _ h
  obtain⟨I,j,a,W,K,C⟩:=Rv (prog:=c.prog) (s:=E) (R:=fun j a=>c.Ends r v Q E j a∧a.os=r.os∧B a.heap) (Shared.asleep_of_life H.2.2.2 U) ((show E.gens=r.gens from H.1)▸N) z
  exact⟨Q,E,I,j,a,h,W,K,C.1,C.2.1,C.2.2⟩
 have H:=DI _ _ _ h
 exact Rx h ⟨W,C.imp (fun d=>d.imp fun M d=>⟨congrArg y0 d.1,d.2.1,d.2.2.1,d.2.2.2.1,fun f o O F=>d.2.2.2.2.1 f o O,d.2.2.2.2.2⟩) (fun d=>d.imp fun Z d=>d.imp fun P d=>d.imp fun L d=>⟨congrArg y0 d.1,d.2.1,d.2.2.1,d.2.2.2.1,d.2.2.2.2.1,fun f o O F=>d.2.2.2.2.2 f o O⟩),
  fun F J S i=>(congrArg (·[J]?) H.1).trans i,e,congrArg Life.seen (K.trans H.2.2.2),Shared.rest_eq n⟩
abbrev Oh (P:d7) (H:List PySem.Str) (C:(PySem.Str→Option b7)→cO→Prop) (i:di→cO→Prop) (j:RowW) (T:DefRec) (F:List (PySem.Str×cT)):Prop:=
 ∀(u:di) (D E:cx) (J m:PySem.Str→Option b7),sv P H j.records C u D J m E.heap→i u E.heap→ ∀(R:a0) (o:fi) (c p f G V:b7),E.heap.get? R=ab o→
  o.data= .func {docDef T.name T.params T.body T.scope c p f with defaults:=G,kwdefaults:=V}→E.heap.CodeRec p T.name→Dflts J E.heap T.params F G V→J T.name=ab (.ref R)→E.gens= #[]→
  ∀(v:List va) (A:List b7) (B:List a0),j.claim.pre v=true→yG v=true→DC j.records (kI D.heap) E.heap A v B→DE u.params E.heap A v→(∀R ∈ B,(R == pn)=false)→
   dr (bD j.prog u) qI (fW (.ref R) A) (fun M a=>qD j.claim (kI D.heap) (qw D.heap) v E (.ok (.ret M)) a)
    (fun Z a=>qD j.claim (kI D.heap) (qw D.heap) v E (.error Z) a) E
variable {I iI:List PySem.Str}
theorem UK {r:RowW} {ap:List PySem.Str} {XP:(PySem.Str→Option b7)→cO→Prop} {p:cx→c2} {l:di→c2} {i:di→cO→Prop}
 (left:LeftO r.prog G I xU p l A)(b5: ∀u U,p U=l u→i u U.heap)(b6: ∀u X L,i u X→(∀f o,X.get? f=ab o→L.get? f=ab o)→i u L)
 (be: ∀U,xU U=true→XP (U.heap.nsMap hB) U.heap)(bx: ∀J X L,XP J X→(∀f o,X.get? f=ab o→L.get? f=ab o)→XP J L)
 (bv: ∀U,xU U=true→DD r.records U.heap)(cj:(!dJ || r.records.isEmpty)=true)(bb:(chainsOk G && opensWell r.prog && (frees r && r.within.isEmpty))=true)(H:r.prog.bare)(z:r.promised)
 (co: ∀u U,U.heap.isNs hB=true→sv G I [] XP u U (U.heap.nsMap hB) (U.heap.nsMap kH) U.heap→ ∀n ∈ iI,isTheDefsW r.prog U.heap n)
 (bu: ∀(u:di) (D E:cx) (J mb:PySem.Str→Option b7),sv G I r.records XP u D J mb E.heap→i u E.heap→ ∀(v:List va) (Q:List b7) (B:List a0),
  r.claim.pre v=true→yG v=true→E.gens= #[]→DC r.records (kI D.heap) E.heap Q v B→DE u.params E.heap Q v→(∀R ∈ B,(R == pn)=false)→ ∃t,J r.name=ab t∧
   dr (bD r.prog u) qI (fW t Q) (fun M a=>qD r.claim (kI D.heap) (qw D.heap) v E (.ok (.ret M)) a)
    (fun Z a=>qD r.claim (kI D.heap) (qw D.heap) v E (.error Z) a) E):r.claim.HoldsOpenBy (callStub r.name) iI ap dJ:=by
 refine(xZ.mp bb).elim fun bb m=>?_
 obtain⟨bi,cn⟩:=xZ.mp bb
 obtain⟨m,cm⟩:=xZ.mp m
 refine xE ((frees_parts m)) fun ch O T ca V=>?_
 refine⟨⟨H,cn,by show r.makers.map _= [];refine V▸?_;rfl⟩,z.witness,fun u=>⟨(left.behind be bi u).1,fun a cf=>?_⟩⟩
 refine((left.behind (XP:=fun J X=>XP J X∧DD r.records X) (fun U y=>⟨be U y,bv U y⟩) bi u).2 a cf).elim fun D h=>?_
 refine h.elim fun al h=>?_
 obtain⟨cb,U,e,ck,am,bk,W,s⟩:=h
 have bd:sv G I [] XP u U (U.heap.nsMap hB) (U.heap.nsMap kH) U.heap:=⟨W.T,W.B,W.D,W.TE,W.TD,W.W,W.X.1,W.cls,W.has,W.apart,W.once,W.K⟩
 have ac:=W.X.2
 have N:sv G I r.records XP u U _ _ U.heap:=ac.ground bd
 refine⟨D,al,cb,U,e,co u U bk bd,ac.1,ac.2.1,?_⟩
 show r.claim.CallFrom (fun Q=>⟨do match←nsGet mainNs r.name with
  | some t=>do ret (←fW t Q)
  | none=>Nd "claim.caller:no-such-global",.builtin "claim.caller" {},default,[]⟩) _ _ _ _ _
 have am:U.gens= #[]:=Array.eq_empty_of_size_eq_zero (beq_iff_eq.mp am)
 refine Px (c:=r.claim) ck (by refine am▸?_;simp [qP]) fun v q b Y bm=>?_
 obtain⟨⟨Q,E⟩,k⟩:=nU.mp (layAllW_isSome (P:=u.params) (ord:=Y) N.has v r.args U (pre_splitW q).1)
 have an:=layAllW_keeps _ _ _ k
 have b8:=DI _ _ _ k
 refine fR (reads_layAllW bm _ _ _ k b E.heap (fun F F Z=>Z)) fun B w j ce=>?_
 have C:=N.keeps bx an
 have K:=ident_freeW O T ca
 have ci:r.claim.within= []:=LF.mp cm
 obtain⟨t,al,X⟩:=bu u U {E with gens:= #[]} _ _ C (b6 _ _ _ (b5 u U s) an) v Q B q b rfl w (well_layAllW bm v U _ k _ fun F F Z=>Z)
  (fun R T=>beq_eq_false_iff_ne.mpr fun Z=>by have:=(j.2.2 R T).1;subst Z;exact absurd N.low (jw.mpr this))
 have bn: ∀x a,qD r.claim (kI U.heap) (qw U.heap) v {E with gens:= #[]} x a→(r.claim.Ends U v Q E x a∧a.os=U.os∧
  (dJ=true→namesKept r.claim.prog ap U.heap a.heap∧ ∀S ∈ r.claim.records,∀R,kI U.heap S.1=ab R→recordClass a.heap R S.1 (S.2.map (·.1))=true))∧a.gens= #[]:=fun x a g=>
  have d:=g.endsN (c:=r.claim) ch ci K w ce b8.2.2.1
  ⟨⟨d.1,d.2.1,fun G=>⟨namesKept_of e bk ap an fun f o Z=> .inl (g.2.1 f o Z),noTable cj G⟩⟩,d.2.2⟩
 refine⟨Q,E,k,d2 (Nv C.T.g ?_)⟩
 rw [al]
 exact dI (iG X (fun M a g=>eF ⟨_,rfl,bn _ _ g⟩) fun Z a g=>bn _ _ g)
theorem PySem.W.holds_open {j:OpenRow} {q:d7} {loose:List PySem.Str} {Xt:cx→Bool} {XP:(PySem.Str→Option b7)→cO→Prop} {Yf:cx→c2} {Ya:di→c2} {YP:di→cO→Prop} {d:DefRec} {F:List (PySem.Str×cT)} {N:Nat}
 (left:LeftO j.prog q loose Xt Yf Ya N)(A: ∀u U,Yf U=Ya u→YP u U.heap)(P: ∀u h L,YP u h→(∀b o,h.get? b=ab o→L.get? b=ab o)→YP u L)
 (S: ∀U,Xt U=true→XP (U.heap.nsMap hB) U.heap)(O: ∀J h L,XP J h→(∀b o,h.get? b=ab o→L.get? b=ab o)→XP J L)
 (T:defOf q j.name=ab (d,F))(l:j.prog.theDef j.name=ab (d.params,d.body,d.scope))(g:kwWritten? d.params.kwonlyargs d.params.kw_defaults=ab F)(M: ∀U,Xt U=true→DD j.records U.heap)(X:(!j.writes || j.records.isEmpty)=true)
 (Y:j.wellSaid=true)(c:(chainsOk q && opensWell j.prog && (frees j.toRowW && j.within.isEmpty))=true)(H:j.prog.bare)(z:j.toRowW.promised)
 (k:Oh q loose XP YP j.toRowW d F):j.Holds:=by
 refine⟨Y,z,UK (r:=j.toRowW) left A P S O M X c H z (fun u U a w I v=>?_) fun u D E J m w s y Q B al ac a x t i=>?_⟩
 ·have Z:I=j.name:=by split at v<;>simp_all
  refine Z▸?_
  exact pinned_of_view a w T l g
 ·obtain⟨R,o,am,p,f,G,V,W,K,C,n,e⟩:=w.fn T
  exact⟨.ref R,W,k u D E J m w s R o am p f G V K C n e (defOf_name T▸W) a y Q B al ac x t i⟩
end
end Mine
end
section
open PySem PySem.W PyProof.Rows
namespace Mine
variable {G:d7}{w:di}{A:Nat}{I:List PySem.Str}{dJ:Bool}{ju:Drawn}{fF:Option b7}{xU:cx→Bool}{k8:l0}{c2:Type}{C:Nat}
section
noncomputable section
noncomputable def tQ (c:pe→Bool) (B:l0→pe→Option (l0×pe)):Nat→l0→pe→Option l0
 | 0,_,_=>ao
 | n+1,s,V=>match through V with
  | true=>ab s
  | false=>match c V with
   | false=>ao
   | true=>match B s V with
    | some (a,d)=>tQ c B n a d
    | none=>ao
theorem VR {Z:String→Option Builtin} {a:l0} {V:pe}(X:tQ (stepOk A fF) (yQ (sE Z) G w) C k8 V=ab a):vc Z G w A fF C k8.abs V=ab a.abs:=by
 induction C generalizing k8 V with
 | zero=>exact nomatch X
 | succ C o=>
  unfold tQ at X
  unfold vc
  cases B:through V with
  | true=>rw [B] at X;exact congrArg (fun S=>S.map MM) X
  | false=>
   rw [B] at X
   cases g:stepOk A fF V with
   | false=>rw [g] at X;exact nomatch X
   | true=>
    rw [g] at X
    cases hs:yQ (sE Z) G w k8 V with
    | none=>rw [hs] at X;exact nomatch X
    | some j=>rw [hs] at X;rw [stepT_spec hs];exact o X
noncomputable abbrev fP:d7:=PySem.Challenge.pw_pf0350_01
noncomputable def F7 (L:pa):BT:= .node (boot_o_0 L) (.node (boot_o_1 L) (.node (boot_o_3 L) (.node (boot_o_7 L) .nil .nil) .nil) (.node (boot_o_5 L) (.node (boot_o_9 L) .nil .nil) .nil)) (.node (boot_o_2 L) (.node (boot_o_4 L) (.node (boot_o_8 L) .nil .nil) .nil) (.node (boot_o_6 L) (.node (boot_o_10 L) .nil .nil) .nil))
noncomputable def vP (u:di) (W:u6):l0:=⟨F7 u.params,11,{}, #[],boot_drawn,boot_toks,W⟩
theorem boot_abs(L:pa):absHeap (F7 L) 11 {}=mI L:=rfl
noncomputable def viewQ:d7:=view fP [90]
noncomputable def keysA:List a0:= [3,27,28,34,35,48,49,51,52,64,65,76,77,95,96,107,108,130,131,135,136,140,141,147,148,154,155,161,162,168,169,182,183,185,186,196,197,203,204,210,211,217,218,224,225,231,232,238,239,324,325,331,332,340,346,347,349,350,360,361,374,375,377,378,388,389,397,403,404,406,407,417,418,424,425,438,439,445,446,452,453,455,456,466,467,473,474,480,481,487,488,494,495,501,502,508,509,515,516,522,523,529,530,536,537,543,544,552,558,559,561,562,572,573,586,587,593,594,607,608,638,639,649,650,656,657,661,662,668,669,675,676,682,683,689,690,696,697,701,702,706,707,713,714,720,721,727,728,734,735,741,742,748,749,755,756,760,761,767,768,774,775,779,780,786,787]
theorem keysA_eq(L:pa):keysA=(hd.ah L).map (·.1):=rfl
noncomputable def looseN:List Str:=(["_wall","mask_of","prefix_span","WallFault","Misused","BadRule","Refused","LeftOut","words_of","refused","number_of","octets_of","turned","host_octets","host_number","host_order","pad4","Rowing","slots_of","const","maker_of","put_pair","has_ports","put_addresses","make_nat","Counter","Quota","Limit","unit_seconds","make_limit","make_cell","cells_of","Rule","new_meta","Packet","family_of","Scene","named_set","meta_value","Regs","run_rows","key_of_layout","put_layout","op_immediate","put_number","op_meta","element_of","op_map","tool_of","register_span","op_nat","single_key","Element","is_live","PlainStore","_law_digit","_law_number","_law_octets","_law_literals","_law_addresses","_law_statement","_law_named","_law_ends","_law_map_rows","_law_rows","_law_request","_law_due","_law_store","_law_load_map","_law_tool","_law_made","_law_told","_law_seen","_law_spanned","_law_asked","_law_registers_hold"]:List String).map pd
noncomputable def seesM (U:cx):Bool:=(U.heap.get? pn).isSome
noncomputable def wD (u:di) (U:l0):=
 ((yP (n6 fP.main.body) (mI u.params) U.abs.heap && yN fP U.abs.heap && yJ U.abs && yK (mI u.params) U.abs.heap),
  Fast.tw4187177175401517315 viewQ looseN (n6 fP.main.body) seesM true U.abs,keysA.map U.abs.heap.get?)
noncomputable def wm (u:di):=(true,yO viewQ looseN,(hd.ah u.params).map fun c=>ab c.2)
theorem VS(u:di)(W:u6):(tQ (Fast.tw6613529449190102663 11 (ab (.ref 6))) (MI (MJ MK) fP u) 8000 (vP u W) (vd fP)).map (wD u)=ab (wm u):=by kernel_rfl
end
end
section
theorem UL:opening fP=plainProg fP.main.scope.names:=rfl
theorem RI(U:cx):fenceModules? fP U=ab U:=rfl
theorem ON(L:pa):((mI L).isNs hB,(mI L).objs.size,(mI L).nsMap hB "__annotations__")=(true,11,ab (.ref 6)):=by kernel_rfl
theorem Ta {c:Nat→Option b7→pe→Bool} {B:d7→di→l0→pe→Option (l0×pe)}(R:stepOk=c)(J:yQ (sE oe)=B) {t:l0→c2} {f:c2}
 (P:(tQ (c C fF) (B G w) A k8 (vd G)).map t=ab f): ∃E,vc oe G w C fF A k8.abs (vd G)=ab E.abs∧t E=f:=by
 subst R J
 obtain⟨E,I,D⟩:=nV.mp P
 exact⟨E,VR I,D⟩
theorem Yl:yQ (sE oe)=MI (MJ MK):=by
 rw [Fast.te10156331382660048174,Fast.te11892475500146522536,Fast.te14364793385576792824]
theorem Vl(u:di)(W:u6): ∃E:l0,vc oe fP u 11 (ab (.ref 6)) 8000 (vP u W).abs (vd fP)=ab E.abs∧wD u E=wm u:=Ta Fast.te6613529449190102663 Yl (VS u W)
theorem OM(u:di)(W:u6):(vP u W).abs=⟨mI u.params,Array.mk [],boot_drawn,boot_toks,W⟩:=by
 unfold vP MM
 rw [boot_abs]
theorem Tr(X:wD w k8=wm w):(yP (n6 fP.main.body) (mI w.params) k8.abs.heap && yN fP k8.abs.heap && yJ k8.abs && yK (mI w.params) k8.abs.heap)=true∧
 DK viewQ looseN (n6 fP.main.body) seesM true k8.abs=yO viewQ looseN∧keysA.map k8.abs.heap.get?=(hd.ah w.params).map fun c=>ab c.2:=by
 unfold wD wm at X
 rw [←Fast.te4187177175401517315] at X
 exact⟨congrArg (·.1) X,congrArg (·.2.1) X,congrArg (·.2.2) X⟩
theorem S9 {P:d7} {p:cx→c2} {l:di→c2} {H:pa→cO} {L:Array u0} {k:Nat}
 (F:(fencedOpening oe G w A).map (fun U=>(U.heap,U.gens,U.drawn,U.toks))=ab (H w.params,L,ju,k))(y:((H w.params).isNs hB,(H w.params).objs.size,(H w.params).nsMap hB "__annotations__")=(true,C,fF))(M:(L.size == 0)=true)
 (o: ∀W:u6,∃a:cx,vc oe G w C fF A ⟨H w.params,L,ju,k,W⟩ (vd G)=ab a∧(yP (n6 G.main.body) (H w.params) a.heap && yN G a.heap && yJ a && yK (H w.params) a.heap)=true∧DK P I (n6 G.main.body) xU dJ a=yO P I∧p a=l w):
 (openEnds oe G w A).map (fun U=>(DK P I (n6 G.main.body) xU dJ U,p U))=ab (yO P I,l w):=by
 obtain⟨⟨X,E,Y,r,W⟩,R,J⟩:=nV.mp F
 obtain⟨rfl,rfl,rfl,rfl⟩:X=H w.params∧E=L∧Y=ju∧r=k:=by simpa using J
 obtain⟨a,K,i,D,B⟩:=o W
 obtain⟨j,Z,q⟩:_∧_∧_:=by simpa only [Prod.mk.injEq] using y
 have V:DL oe G w A ⟨H w.params,E,Y,r,W⟩=ab a:=by
  unfold DL
  dsimp only
  rw [j,M,Z,q,K]
  show(match yP (n6 G.main.body) (H w.params) a.heap && yN G a.heap && yJ a && yK (H w.params) a.heap with | true=>ab a | false=>ao)=_
  rw [i]
 unfold openEnds
 rw [R]
 show(DL oe G w A _).map _=_
 rw [V]
 exact congrArg ab (Prod.ext D B)
theorem left:LeftO fP viewQ looseN seesM (pf hd.ah keysA keysA_eq).obs (pf hd.ah keysA keysA_eq).val 8000:=fun u=>
 S9 (H:=mI) (boot_open (p:=fP) (N:=8000) UL (Nat.ble_eq_true_of_le (by decide)) RI u) (ON u.params) rfl fun W=>by
  obtain⟨E,y,X⟩:=Vl u W
  obtain⟨i,D,B⟩:=Tr X
  rw [OM] at y
  exact⟨E.abs,y,i,D,B⟩
end
end Mine
end
section
open PySem PySem.W PySem.Calls PyProof.Rows
namespace Mine
section
inductive D where
 | none
 | bool (b:Bool)
 | int (i:Int)
 | str (s:PySem.Str)
 | bytes (ks:List Nat)
 | tup (l:List D)
 | val (v:b7)
inductive dE where
 | list (l:List D)
 | dict (kvs:List (PySem.Str×D))
 | aA (kvs:List (List Int×D))
 | inst (c dx:a0)
 | exc (c dx:a0)
 | ay (ks:List Nat)
 | aJ (l:List D)
 | aD (c:a0) (d:Option a0)
noncomputable abbrev J:=a0→Option dE
noncomputable def J.set (B:J) (R:a0) (o:dE):J:=fun f=>if f=R then ab o else B f
theorem J.aa(B:J)(R:a0)(o:dE):B.set R o R=ab o:=if_pos rfl
variable {z E:a0}
theorem J.ag(B:J)(o:dE)(X:E≠z):B.set z o E=B E:=if_neg X
mutual
inductive cP (h:cO):b7→D→Prop
 | none:cP h .none .none
 | bool (b:Bool):cP h (.bool b) (.bool b)
 | int (i:Int) (t:j8):cP h (.int i t) (.int i)
 | str (x:PySem.Str) (t:j8):cP h (.str x t) (.str x)
 | bytes (b:Array UInt8) (t:j8):cP h (.bytes b t) (.bytes (b.toList.map gs))
 | tup {a:a0} {vs:List b7} {ds:List D}:hV h a vs.toArray→c7 h vs ds→cP h (.ref a) (.tup ds)
 | val (v:b7):cP h v (.val v)
inductive c7 (h:cO):List b7→List D→Prop
 | nil:c7 h [] []
 | cons {v:b7} {d:D} {vs:List b7} {ds:List D}:cP h v d→c7 h vs ds→c7 h (v::vs) (d::ds)
end
def dy (X L:cO):Prop:= ∀R t,hV X R t→hV L R t
theorem dy.refl(X:cO):dy X X:=fun F F S=>S
variable {u L cm:cO}
theorem dy.trans(S:dy u L)(s:dy L cm):dy u cm:=fun R J d=>s R J (S R J d)
variable {T:D}{b8:b7}
theorem cP.mono(V:dy u L)(j:cP u b8 T):cP L b8 T:=
 cP.rec (motive_1:=fun b8 T F=>cP L b8 T) (motive_2:=fun Q b F=>c7 L Q b) .none .bool .int .str .bytes (fun S F j=> .tup (V _ _ S) j) .val .nil (fun F F R f=> .cons R f) j
variable {n:List D}{cw:List b7}
theorem c7.ind {P:List b7→List D→Prop}(R:P [] [])(f: ∀v d cw n,cP u v d→c7 u cw n→P cw n→P (v::cw) (d::n))(j:c7 u cw n):P cw n:=
 c7.rec (motive_1:=fun F F F=>True) (motive_2:=fun cw n F=>P cw n) trivial (fun F=>trivial) (fun F F=>trivial) (fun F F=>trivial) (fun F F=>trivial) (fun F F F=>trivial) (fun F=>trivial) R (fun S j F o=>f _ _ _ _ S j o) j
theorem c7.mono(V:dy u L)(j:c7 u cw n):c7 L cw n:=
 j.ind .nil fun F F F F S F o=> .cons (S.mono V) o
theorem c7.length(j:c7 u cw n):cw.length=n.length:=
 j.ind (P:=fun cw n=>cw.length=n.length) rfl fun F F F F F F o=>congrArg Dh o
variable {y:List D}{uD:List b7}
theorem c7.append(j:c7 u cw n)(k:c7 u uD y):c7 u (cw++uD) (n++y):=
 j.ind (P:=fun cw n=>c7 u (cw++uD) (n++y)) k fun F F F F S F o=> .cons S o
variable {A:Nat}
theorem c7.get(j:c7 u cw n)(Z:n[A]? =ab T): ∃M,cw[A]? =ab M∧cP u M T:=
 j.ind (P:=fun cw n=> ∀A,n[A]? =ab T→ ∃M,cw[A]? =ab M∧cP u M T) (fun A Z=>by simp at Z) (fun M F F F S F o A=>match A with
  | 0=>fun Z=>⟨M,rfl,c4 Z▸S⟩
  | A+1=>o A) A Z
inductive zC (x:List Nat):b7→Prop
 | mk (b:Array UInt8) (t:j8) (e:b.toList.map gs=x):zC x (.bytes b t)
inductive zD (h:cO) (ds:List D):b7→Prop
 | mk (a:a0) (vs:List b7) (t:hV h a vs.toArray) (r:c7 h vs ds):zD h ds (.ref a)
def Oa (X:cO) (M:b7) (T:D):Prop:=match T with
 | .none=>M= .none
 | .bool b=>M= .bool b
 | .int i=> ∃V,M= .int i V
 | .str S=> ∃V,M= .str S V
 | .bytes S=>zC S M
 | .tup A=>zD X A M
 | .val B=>M=B
theorem cP.inv(j:cP u b8 T):Oa u b8 T:=by
 cases j with
 | int i V=>exact⟨V,rfl⟩
 | str S V=>exact⟨V,rfl⟩
 | bytes b V=>exact⟨b,V,rfl⟩
 | tup a j=>exact⟨_,_,a,j⟩
 | _=>rfl
inductive sW (h:cO) (d:D) (ds:List D):List b7→Prop
 | mk (v:b7) (vs:List b7) (x:cP h v d) (r:c7 h vs ds):sW h d ds (v::vs)
theorem c7.bK(A:c7 u cw (T::n)):sW u T n cw:=
 A.ind (P:=fun cw N=>match N with | []=>True | T::n=>sW u T n cw) trivial fun M F Q F S j F=>⟨M,Q,S,j⟩
theorem sW.both(P:sW u T n cw):match cw with | []=>False | v::Q=>cP u v T∧c7 u Q n:=by
 obtain⟨_,_,S,j⟩:=P;exact⟨S,j⟩
theorem c7.inv(P:c7 u (b8::cw) (T::n)):cP u b8 T∧c7 u cw n:=P.bK.both
theorem c7.get_none(j:c7 u cw n)(Z:n[A]? =ao):cw[A]? =ao:=by
 rw [C0] at Z ⊢;rw [j.length];exact Z
section
variable (cX:d7) (cY:di)
noncomputable abbrev fB:=tupleKind (i0 cX cY)
structure jA (h:cO) (vs:List (PySem.Str×b7)) (kvs:List (PySem.Str×D)):Prop where
 keys:vs.map (·.1)=kvs.map (·.1)
 vals:c7 h (vs.map (·.2)) (kvs.map (·.2))
structure pA (h:cO) (vs:List (List Int×a0×b7)) (kvs:List (List Int×D)):Prop where
 keys:vs.map (·.1)=kvs.map (·.1)
 vals:c7 h (vs.map (·.2.2)) (kvs.map (·.2))
inductive Of (h:cO) (a:a0) (vs:Array b7):Prop
 | mk (T:a0) (oT:fi) (ts:Array b7) (x:b7) (h1:vs[1]? =ab (.ref T)) (h2:T≠a) (h3:h.get? T=ab oT) (h4:oT.data= .fields ts) (h5:ts[3]? =ab x)
inductive zj (h:cO) (a c dx:a0):Prop
 | mk (vs:Array b7) (sl:Array (Option b7)) (h1:h.get? a=ab ⟨.ref c,ab dx,.fields vs,sl⟩) (h2:6≤vs.size) (h3:vs[1]? =ab .none∨Of h a vs)
inductive zp (h:cO) (a:a0) (l:List D):Prop
 | mk (vs:List b7) (n:Nat) (u:Unit) (h1:h.get? a=ab ⟨.type "list",ao,.seq vs.toArray n, #[]⟩) (h2:c7 h vs l)
inductive NK (h:cO) (a:a0) (kvs:List (PySem.Str×D)):Prop
 | mk (vs:List (PySem.Str×b7)) (h1:h.DictOf (strKind cX cY) a vs) (h2:jA h vs kvs)
inductive FR (h:cO) (a:a0) (kvs:List (List Int×D)):Prop
 | mk (vs:List (List Int×a0×b7)) (h1:h.DictOfH (fB cX cY) a vs) (h2:pA h vs kvs)
inductive Oi (h:cO) (a c:a0) (d:Option a0):Prop
 | mk (vs:Array b7) (sl:Array (Option b7)) (h1:h.get? a=ab ⟨.ref c,d,.fields vs,sl⟩) (h2:6≤vs.size) (h3:vs[1]? =ab .none)
inductive FK (h:cO) (a:a0) (l:List D):Prop
 | mk (vs:List b7) (h1:h.IsList a (sf vs)) (h2:c7 h vs l)
inductive NI (h:cO) (a:a0) (ks:List Nat):Prop
 | mk (b:Array UInt8) (sl:Array (Option b7)) (h1:h.get? a=ab ⟨.type "bytearray",ao,.bytearray b 0,sl⟩) (h2:b.toList.map gs=ks)
def ic (X:cO) (R:a0) (o:dE):Prop:=match o with
 | .list l=>zp X R l
 | .dict s=>NK cX cY X R s
 | .aA s=>FR cX cY X R s
 | .inst c h=> ∃A,X.get? R=ab ⟨.ref c,ab h,.plain,A⟩
 | .exc c h=>zj X R c h
 | .aD c d=>Oi X R c d
 | .aJ l=>FK X R l
 | .ay r=>NI X R r
end
end
section
section
variable {G:d7}{w:di}{u L:cO}
theorem jA.mono {Q s}(V:dy u L)(j:jA u Q s):jA L Q s:=⟨j.keys,j.vals.mono V⟩
theorem pA.mono {Q s}(V:dy u L)(j:pA u Q s):pA L Q s:=⟨j.keys,j.vals.mono V⟩
variable {z:a0}{de:List Int}
theorem Sq(V:dy u L)(S:IsTupleKey (i0 G w) u de z):IsTupleKey (i0 G w) L de z:=by
 refine S.elim fun o h=>?_
 refine jK h fun t I D b hd K=>?_
 refine uj ((V z t ⟨o,D,b,I,hd⟩)) fun p c M s e=>?_
 exact⟨p,t,s,c,M,e,K⟩
theorem ic.aX {o:dE}(V:dy u L)(Z:L.get? z=u.get? z)(b: ∀y e B S,y≠z→u.get? y=ab e→e.data= .fields B→B[3]? =ab S→ ∃H E,L.get? y=ab H∧H.data= .fields E∧ ∃A,E[3]? =ab A)
 (j:ic G w u z o):ic G w L z o:=by
 induction o with
 | list l=>obtain⟨Q,I,X,W,K⟩:=j;exact⟨Q,I,X,Z.trans W,K.mono V⟩
 | dict s=>obtain⟨Q,hd,R⟩:=j;exact⟨Q,hd.at fun F P=>Z.trans P,R.mono V⟩
 | aA s=>
  obtain⟨Q,⟨o,T,Y,D,v,R,n,M,J⟩,O⟩:=j
  exact⟨Q,⟨o,T,Y,Z.trans D,v,R,n,fun S i=>Sq V (M S i),J⟩,O.mono V⟩
 | inst c m=>refine j.elim fun X W=>?_;exact⟨X,Z.trans W⟩
 | exc c m=>
  obtain⟨Q,X,W,K,C⟩:=j
  refine⟨Q,X,Z.trans W,K,?_⟩
  rcases C with C | ⟨y,e,B,S,k,g,q,t,N⟩
  ·exact .inl C
  ·refine aap (b y e B S g q t N) fun H E p U A a=>?_
   exact .inr ⟨y,H,E,A,k,g,p,U,a⟩
 | ay r=>obtain⟨f,X,W,K⟩:=j;exact⟨f,X,Z.trans W,K⟩
 | aD c d=>obtain⟨Q,X,W,K,C⟩:=j;exact⟨Q,X,Z.trans W,K,C⟩
 | aJ l=>obtain⟨Q,h,K⟩:=j;exact⟨Q,h.at fun F P=>Z.trans P,K.mono V⟩
theorem ic.mono {o:dE}(V:dy u L)(Z:L.get? z=u.get? z)(b: ∀y e B,y≠z→u.get? y=ab e→e.data= .fields B→ ∃H E,L.get? y=ab H∧H.data= .fields E∧ ∀S,B[3]? =ab S→ ∃A,E[3]? =ab A)
 (j:ic G w u z o):ic G w L z o:=j.aX V Z fun y e B S W K C n=>by
 refine(b y e B W K C).elim fun H h=>?_
 refine fR h fun E D U F=>?_
 exact⟨H,E,D,U,F S n⟩
theorem ic.there {o:dE}(j:ic G w u z o): ∃a,u.get? z=ab a:=by
 induction o with
 | list l=>obtain⟨_,_,_,W,_⟩:=j;exact⟨_,W⟩
 | dict s=>obtain⟨_,⟨_,_,_,D,_⟩,_⟩:=j;exact⟨_,D⟩
 | aA s=>obtain⟨_,⟨_,_,_,D,_⟩,_⟩:=j;exact⟨_,D⟩
 | inst c h=>refine j.elim fun F W=>?_;exact⟨_,W⟩
 | exc c h=>obtain⟨_,_,W,_⟩:=j;exact⟨_,W⟩
 | ay r=>obtain⟨_,_,W,_⟩:=j;exact⟨_,W⟩
 | aD c d=>obtain⟨_,_,W,_⟩:=j;exact⟨_,W⟩
 | aJ l=>obtain⟨_,⟨_,W,_⟩,_⟩:=j;exact⟨_,W⟩
variable {iU qd:fi}
theorem oM(H:u.get? z=ab iU)(W:u.get? z=ab qd)(I:qd.cls≠ .type "tuple"):iU.cls≠ .type "tuple" :=c4 (W.symm.trans H)▸I
variable {gn:String}{b8:b7}
theorem t8(Z:b8= .type gn)(k:(gn == "tuple")=false):b8≠ .type "tuple" :=fun P=>beq_eq_false_iff_ne.mp k (abn (Z.symm.trans P))
theorem A3(i:a0):qC i≠ .type "tuple" :=fun P=>nomatch P
variable {e0:Array b7}
theorem ic.aK {o:dE}(j:ic G w u z o): ¬hV u z e0:=fun⟨a,H,b,I,hd⟩=>by
 refine absurd b ?_
 induction o with
 | list l=>obtain⟨_,_,_,W,_⟩:=j;exact oM H W (t8 rfl rfl)
 | dict s=>obtain⟨_,⟨_,_,_,D,i,_⟩,_⟩:=j;exact oM H D (t8 i.1 rfl)
 | aA s=>obtain⟨_,⟨_,_,_,D,i,_⟩,_⟩:=j;exact oM H D (t8 i.1 rfl)
 | inst c h=>exact j.elim fun F W=>oM H W (A3 c)
 | exc c h=>obtain⟨_,_,W,_⟩:=j;exact oM H W (A3 c)
 | ay r=>obtain⟨_,_,W,_⟩:=j;exact oM H W (t8 rfl rfl)
 | aD c d=>obtain⟨_,_,W,_⟩:=j;exact oM H W (A3 c)
 | aJ l=>obtain⟨_,⟨_,W,P,_⟩,_⟩:=j;exact oM H W (t8 P rfl)
end
section
variable (cX:d7) (cY:di) (da:cO)
inductive l8 (μ:J) (h:cO) (L:a0):Prop
 | mk (h1:da.get? L=ao) (h2:μ L=ao) (o:fi) (es:Array lp) (n:Nat) (h3:h.get? L=ab o) (h4:o.data= .dict es n)
structure St (fa:List a0) (μ:J) (h:cO):Prop where
 top: ∀b o,da.get? b=ab o→h.get? b=ab o
 mem: ∀a o,μ a=ab o→ic cX cY h a o
 out: ∀a o,μ a=ab o→da.get? a=ao
 aH: ∀L ∈ fa,l8 da μ h L
structure b6 (fa ex:List a0) (μ:J) (h:cO) (μ':J) (h':cO):Prop where
 st:St cX cY da fa μ' h'
 keep: ∀b o,h.get? b=ab o→μ b=ao→b ∉ ex→(b ∉ fa→h'.get? b=ab o)∧ ∃sl,h'.get? b=ab {o with slots:=sl}
 fresh: ∀a o,μ' a=ab o→μ a≠ao∨h.get? a=ao
 there: ∀b o,h.get? b=ab o→ ∃o',h'.get? b=ab o'
end
section
variable {G:d7}{w:di}{u:cO}{U:List a0}{q:J}{L:cO}{en:List a0}{M:J}{cm:cO}{eo:J}{eN:cO}
variable {z:a0}
theorem l8.bs(S:l8 u q L z):u.get? z=ao:=by have W:=S.1;exact W
theorem l8.mu(S:l8 u q L z):q z=ao:=by obtain⟨_,K,_,_,_,_,_⟩:=S;exact K
theorem l8.to(S:l8 u q L z)(Z:M z=ao)(k: ∀o,L.get? z=ab o→cm.get? z=ab o):l8 u M cm z:=by obtain⟨W,_,o,T,I,C,n⟩:=S;exact⟨W,Z,o,T,I,k o C,n⟩
theorem l8.lt(S:l8 u q L z):z < L.objs.size:=by obtain⟨_,_,o,T,I,C,_⟩:=S;exact fV C
theorem b6.refl(m:St G w u U q L):b6 G w u U en q L q L:=
 ⟨m,fun F o Z F F=>⟨fun F=>Z,o.slots,Z⟩,fun R o Z=> .inl (by refine Z▸?_;exact fun S=>nomatch S),fun F o Z=>⟨o,Z⟩⟩
theorem b6.trans(S:b6 G w u U en q L M cm)(s:b6 G w u U en M cm eo eN):b6 G w u U en q L eo eN:=by
 refine⟨s.st,fun f o Z V i=>?_,fun R o Z=>?_,fun f o Z=>?_⟩
 ·obtain⟨Y,X,l⟩:=S.keep f o Z V i
  have J:M f=ao:=by
   induction P:M f with
   | none=>rfl
   | some a=>
    rcases S.fresh f a P with d | d
    ·exact absurd V d
    ·have n:=Z.symm.trans d;contradiction
  refine⟨fun Q=>(s.keep f o (Y Q) J i).1 Q,?_⟩
  obtain⟨_,B,E⟩:=s.keep f _ l J i
  exact⟨B,E⟩
 ·rcases s.fresh R o Z with d | d
  ·induction P:M R with
   | none=>exact absurd P d
   | some p=>exact S.fresh R p P
  ·right
   induction P:L.get? R with
   | none=>rfl
   | some p=>
    obtain⟨D,A⟩:=S.there R p P
    have n:=d.symm.trans A;contradiction
 ·obtain⟨N,C⟩:=S.there f o Z
  exact s.there f N C
variable {Ct:List a0}
theorem b6.weaken(S:b6 G w u U en q L M cm)(y: ∀a ∈ en,a ∈ Ct):b6 G w u U Ct q L M cm:=
 ⟨S.st,fun f o Z V i=>S.keep f o Z V fun P=>i (y f P),S.fresh,S.there⟩
theorem b6.forget(S:b6 G w u U en q L M cm)(y: ∀R o,eo R=ab o→M R=ab o):b6 G w u U en q L eo cm:=
 have X: ∀g ∈ U,eo g=ao:=fun g c=>by
  induction P:eo g with
  | none=>rfl
  | some o=>exact absurd ((y g o P).symm.trans (S.st.aH g c).mu) (fun d=>nomatch d)
 ⟨⟨S.st.top,fun R o Z=>S.st.mem R o (y R o Z),fun R o Z=>S.st.out R o (y R o Z),fun g c=>(S.st.aH g c).to (X g c) fun F Z=>Z⟩,
  S.keep,fun R o Z=>S.fresh R o (y R o Z),S.there⟩
variable {e0:Array b7}
theorem St.aK(m:St G w u U q L)(V:hV L z e0):q z=ao:=by
 induction P:q z with
 | none=>rfl
 | some o=>exact absurd V (m.mem z o P).aK
theorem St.bj(m:St G w u U q L)(V:hV L z e0):z ∉ U:=by
 intro A
 obtain⟨_,_,o,T,I,D,hd⟩:=m.aH z A
 refine uj V fun p c F s e=>?_
 obtain rfl:=c4 (D.symm.trans c)
 have n:=hd.symm.trans e;contradiction
theorem b6.aL(m:St G w u U q L)(S:b6 G w u U en q L M cm)(A: ∀R ∈ en,∀t,¬hV L R t):dy L cm:=by
 intro R t V
 refine uj (id V) fun o D b I hd=>?_
 exact⟨o,(S.keep R o D (m.aK V) (fun P=>A R P t V)).1 (m.bj V),b,I,hd⟩
theorem b6.aq(m:St G w u U q L)(S:b6 G w u U [] q L M cm):dy L cm:=S.aL m fun F P=>(nomatch P)
variable {T:D}{b8:b7}
theorem b6.rv(m:St G w u U q L)(S:b6 G w u U [] q L M cm)(j:cP L b8 T):cP cm b8 T:=j.mono (S.aq m)
variable {n:List D}{cw:List b7}
theorem b6.bO(m:St G w u U q L)(S:b6 G w u U [] q L M cm)(j:c7 L cw n):c7 cm cw n:=j.mono (S.aq m)
theorem St.lt(m:St G w u U q L) {o:dE}(Z:q z=ab o):z < L.objs.size:=by
 refine((m.mem z o Z).there).elim fun a H=>?_
 exact fV H
theorem St.fresh(m:St G w u U q L):q L.objs.size=ao:=by
 induction P:q L.objs.size with
 | none=>rfl
 | some o=>exact absurd (m.lt P) (oX _)
theorem St.aC(m:St G w u U q L):u.get? L.objs.size=ao:=by
 induction P:u.get? L.objs.size with
 | none=>rfl
 | some o=>exact absurd (fV (m.top _ _ P)) (oX _)
theorem oL(o:fi):dy L (L.push o):=fun F F V=>V.push o
theorem ic.push {o:dE}(j:ic G w L z o)(a:fi):ic G w (L.push a) z o:=by
 refine j.there.elim fun p Z=>?_
 exact j.mono (oL a) ((fU a Z).trans Z.symm) fun y e B F W K=>⟨e,B,fU a W,K,fun S i=>⟨S,i⟩⟩
theorem St.push(m:St G w u U q L)(a:fi):St G w u U q (L.push a):=
 ⟨fun f o Z=>fU a (m.top f o Z),fun R o Z=>(m.mem R o Z).push a,m.out,fun g c=>(m.aH g c).to (m.aH g c).mu fun F Z=>fU a Z⟩
theorem b6.push(m:St G w u U q L)(a:fi):b6 G w u U en q L q (L.push a):=
 ⟨m.push a,fun f o Z F F=>⟨fun F=>fU a Z,o.slots,fU a Z⟩,fun R o Z=> .inl (by refine Z▸?_;exact fun S=>nomatch S),fun f o Z=>⟨o,fU a Z⟩⟩
theorem b6.alloc(m:St G w u U q L)(a:fi)(r:dE)(j:ic G w (L.push a) L.objs.size r):b6 G w u U en q L (q.set L.objs.size r) (L.push a):=by
 have N:=b6.push (en:=en) m a
 refine⟨⟨N.st.top,fun R o Z=>?_,fun R o Z=>?_,fun g c=>?_⟩,N.keep,fun R o Z=>?_,N.there⟩
 ·by_cases P:R=L.objs.size
  ·subst P;rw [J.aa] at Z;obtain rfl:=c4 Z;exact j
  ·rw [J.ag _ _ P] at Z;exact N.st.mem R o Z
 ·by_cases P:R=L.objs.size
  ·subst P;exact m.aC
  ·rw [J.ag _ _ P] at Z;exact m.out R o Z
 ·exact(N.st.aH g c).to ((J.ag _ _ (hU (m.aH g c).lt)).trans (N.st.aH g c).mu) fun F Z=>Z
 ·by_cases P:R=L.objs.size
  ·subst P
   right
   induction d:L.get? L.objs.size with
   | none=>rfl
   | some p=>exact absurd (fV d) (oX _)
  ·rw [J.ag _ _ P] at Z;exact .inl (by rw [Z];exact fun S=>nomatch S)
variable {my:dE}
theorem b6.upd(m:St G w u U q L) {ao':dE}(T:q z=ab my)(y:hu z L cm)(v: ∀a,L.get? z=ab a→(∀B,a.data≠ .fields B)∨ ∃C B E,a.data= .fields B∧cm.get? z=ab C∧C.data= .fields E∧ ∀S,B[3]? =ab S→ ∃A,E[3]? =ab A)
 (j:ic G w cm z ao'):b6 G w u U en q L (q.set z ao') cm:=by
 have R: ∀f,u.get? f≠ao→f≠z:=fun f H Z=>H (Z▸m.out z my T)
 have k: ∀f o,f≠z→L.get? f=ab o→cm.get? f=ab o:=fun f o H Z=>(y.2 f H).trans Z
 have x:dy L cm:=fun f t ⟨o,D,j⟩=>⟨o,k f o (fun P=>(m.mem z my T).aK (P▸⟨o,D,j⟩:hV L z t)) D,j⟩
 refine⟨⟨fun f o Z=>k f o (R f (by refine Z▸?_;exact fun S=>nomatch S)) (m.top f o Z),fun f o Z=>?_,fun f o Z=>?_,fun g c=>?_⟩,fun f o Z V i=>?_,fun f o Z=>?_,fun f o Z=>?_⟩
 ·by_cases P:f=z
  ·subst P;rw [J.aa] at Z;obtain rfl:=c4 Z;exact j
  ·rw [J.ag _ _ P] at Z
   refine(m.mem f o Z).mono x (y.2 f P) fun N e B F W K=>?_
   by_cases s:N=z
   ·subst s
    rcases v e W with d | ⟨C,M,E,O,I,X,Q⟩
    ·exact absurd K (d B)
    ·have n:=K.symm.trans O;injection n with n;subst n;exact⟨C,E,I,X,Q⟩
   ·exact⟨e,B,k N e s W,K,fun S i=>⟨S,i⟩⟩
 ·by_cases P:f=z
  ·subst P;exact m.out f my T
  ·rw [J.ag _ _ P] at Z;exact m.out f o Z
 ·have P:g≠z:=fun d=>nomatch ((d▸(m.aH g c).mu).symm.trans T)
  exact(m.aH g c).to ((J.ag _ _ P).trans (m.aH g c).mu) fun o Z=>k g o P Z
 ·have P:f≠z:=fun d=>by subst d;rw [V] at T;exact nomatch T
  exact⟨fun F=>k f o P Z,o.slots,k f o P Z⟩
 ·by_cases P:f=z
  ·refine P▸?_;exact .inl (by rw [T];exact fun S=>nomatch S)
  ·rw [J.ag _ _ P] at Z;exact .inl (by rw [Z];exact fun S=>nomatch S)
 ·by_cases P:f=z
  ·refine P▸?_
   obtain⟨p,b⟩:=j.there
   exact⟨p,b⟩
  ·exact⟨o,k f o P Z⟩
end
end
section
noncomputable def fo:List PySem.Str→PySem.Str→Option Nat
 | [],_=>ao
 | y::j,S=>if y == S then ab 0 else (fo j S).map (· +1)
variable {A:Nat}{I:List PySem.Str}{t:PySem.Str}
theorem oE(Z:fo I t=ab A):I[A]? =ab t:=by
 induction I generalizing A with
 | nil=>exact nomatch Z
 | cons y j o=>
  unfold fo at Z
  by_cases P:(y == t)=true
  ·rw [if_pos P] at Z;obtain rfl:=c4 Z;exact congrArg ab (beq_iff_eq.mp P)
  ·rw [if_neg P] at Z
   obtain⟨E,N,rfl⟩:=nV.mp Z
   exact o N
variable {e8:PySem.Str}
theorem Sb(X:fo I t=ab A)(k:fo I e8=ab A):t=e8:=by
 have:=(oE X).symm.trans (oE k);obtain rfl:=c4 this;rfl
noncomputable abbrev Loc:=List (Option D)
noncomputable def Loc.at:Loc→Nat→Option D
 | [],_=>ao
 | d::_,0=>d
 | _::j,i+1=>Loc.at j i
noncomputable def Loc.put:Loc→Nat→Option D→Loc
 | [],_,_=> []
 | _::j,0,S=>S::j
 | d::j,i+1,S=>d::Loc.put j i S
theorem Loc.aP: ∀(Y:Loc) (J:Nat) (S:Option D),(Y.put J S).length=Y.length
 | [],_,_=>rfl
 | _::j,0,S=>rfl
 | d::j,J+1,S=>by show(Loc.put j J S).length+1=j.length+1;rw [Loc.aP j J S]
theorem Loc.bo: ∀(Y:Loc) (J E:Nat) (S:Option D),E < Y.length→(Y.put J S).at E=if E=J then S else Y.at E
 | [],_,_,_,h=>absurd h (sk _)
 | _::j,0,0,S,_=>rfl
 | _::j,0,E+1,S,_=>rfl
 | d::j,J+1,0,S,_=>rfl
 | d::j,J+1,E+1,S,h=>by
  show(Loc.put j J S).at E=_
  rw [Loc.bo j J E S (C7 h)]
  by_cases P:E=J
  ·subst P;simp
  ·rw [if_neg P,if_neg (fun A=>P (qp A))];rfl
structure NO (env:eP):Prop where
 kind:env.scope.kind= .function
 glob:env.globals=hB
 blt:env.builtins=kH
 apart: ∀x y c,env.cells.lookup x=ab c→env.cells.lookup y=ab c→x=y
 more:env.scope.more.any (fun(n,_)=>n == ("interactive" :PySem.Str))=false∨True
def gi (X:cO) (C:eP) (S:PySem.Str) (P:Option D):Prop:=
 match C.kindOf S with
 | some .local=> ∃y,X.Ns C.locals y∧ ∀T,P=ab T→ ∃M,y S=ab M∧cP X M T
 | some .cell | some .free=> ∃i p,C.cells.lookup S=ab i∧X.IsCell i p∧ ∀T,P=ab T→ ∃M,p=ab M∧cP X M T
 | _=>True
structure dC (h:cO) (μ:J) (env:eP) (ns:List PySem.Str) (ρ:Loc):Prop where
 ok:NO env
 free:μ env.locals=ao
 len:ns.length=ρ.length
 loc: ∃m,h.Ns env.locals m
 aU: ∀x c,env.cells.lookup x=ab c→ ∃cv,h.IsCell c cv
 at_: ∀x i,fo ns x=ab i→gi h env x (ρ.at i)
structure fb (n:Nat) (A:j7) (fa:List a0):Prop where
 here:0 < n→A.handled=ao∧A.depth+3 * n < 690∧A.units+40 * n < 9000
 aH: ∃l,A.frames=ab l∧l.map (·.frame)=fa.map ab∧ ∀e ∈ l,e.scope.kind≠ .module
section
variable (cX:d7) (cY:di) (da:cO)
structure dM (s s':cx):Prop where
 gens:s'.gens=s.gens
 os:s'.os=s.os
theorem dM.refl(U:cx):dM U U:=⟨rfl,rfl⟩
variable {r dK f3:cx}
theorem dM.trans(S:dM r dK)(s:dM dK f3):dM r f3:=⟨s.gens.trans S.gens,s.os.trans S.os⟩
inductive ei (fa:List a0) (μ:J) (s:cx) (K:D→J→Prop) (v:b7) (s':cx):Prop
 | mk (d:D) (μ':J) (k:K d μ') (r:cP s'.heap v d) (g:b6 cX cY da fa [] μ s.heap μ' s'.heap) (h:dM s s')
inductive FA (fa:List a0) (μ:J) (s:cx) (K:Bool→J→Prop) (b:Bool) (s':cx):Prop
 | mk (μ':J) (k:K b μ') (g:b6 cX cY da fa [] μ s.heap μ' s'.heap) (h:dM s s')
inductive FC (fa:List a0) (μ:J) (s:cx) (K:List D→J→Prop) (vs:List b7) (s':cx):Prop
 | mk (ds:List D) (μ':J) (k:K ds μ') (r:c7 s'.heap vs ds) (g:b6 cX cY da fa [] μ s.heap μ' s'.heap) (h:dM s s')
inductive vB (fa:List a0) (μ:J) (s:cx) (K:J→Prop) (s':cx):Prop
 | mk (μ':J) (k:K μ') (g:b6 cX cY da fa [] μ s.heap μ' s'.heap) (h:dM s s')
def fp (f X:cO) (B:J) (Z:a0):Prop:= ∀o Q y,X.get? Z=ab o→o.data= .fields Q→Q[1]? =ab (.ref y)→f.get? y=ao∧B y=ao
inductive cG (fa:List a0) (μ:J) (s:cx) (E:D→J→Prop) (x:b7) (s':cx):Prop
 | mk (e c dx:a0) (μ':J) (hx:x= .ref e) (k:E (.val (.ref e)) μ') (f:μ' e=ab (.exc c dx)∧fp s.heap s'.heap μ' e) (g:b6 cX cY da fa [] μ s.heap μ' s'.heap) (h:dM s s')
noncomputable abbrev W:=Loc→J→(D→J→Prop)→(D→J→Prop)→Prop
noncomputable abbrev g9:=Loc→J→(List D→J→Prop)→(D→J→Prop)→Prop
noncomputable abbrev gC:=Loc→J→(Bool→J→Prop)→(D→J→Prop)→Prop
noncomputable abbrev Spec:=List D→J→(D→J→Prop)→(D→J→Prop)→Prop
def c5 (I:Nat) (C:eP) (K:List PySem.Str) (V:ej b7) (J:W):Prop:=
 ∀r q U Y B x O,fb I r q→St cX cY da q B U.heap→dC U.heap B C K Y→J Y B x O→
  cu (bD cX cY) r V (ei cX cY da q B U x) (cG cX cY da q B U O) U
def iR (I:Nat) (C:eP) (K:List PySem.Str) (V:ej Bool) (J:gC):Prop:=
 ∀r q U Y B x O,fb I r q→St cX cY da q B U.heap→dC U.heap B C K Y→J Y B x O→
  cu (bD cX cY) r V (FA cX cY da q B U x) (cG cX cY da q B U O) U
def i5 (I:Nat) (C:eP) (K:List PySem.Str) (V:ej (List b7)) (J:g9):Prop:=
 ∀r q U Y B x O,fb I r q→St cX cY da q B U.heap→dC U.heap B C K Y→J Y B x O→
  cu (bD cX cY) r V (FC cX cY da q B U x) (cG cX cY da q B U O) U
end
section
variable {G:d7}{w:di}{u:cO}{H:eP}{U:List a0}{q:J}{V:Loc}{L:cO}{M:J}{cm:cO}
variable {z:a0}{oQ:PySem.Str→Option b7}
theorem Ns.up(S:L.Ns z oQ)(k: ∀o,L.get? z=ab o→ ∃X,cm.get? z=ab {o with slots:=X}):cm.Ns z oQ:=by
 refine S.elim fun o h=>?_
 refine j0 h fun T Y D hd j=>?_
 obtain⟨X,Z⟩:=k o D
 exact⟨_,T,Y,Z,hd,j⟩
variable {fF:Option b7}
theorem IsCell.up(S:L.IsCell z fF)(k: ∀o,L.get? z=ab o→ ∃X,cm.get? z=ab {o with slots:=X}):cm.IsCell z fF:=by
 refine S.elim fun o h=>?_
 refine h.elim fun D hd=>?_
 obtain⟨X,Z⟩:=k o D
 exact⟨_,Z,hd⟩
theorem St.aN(m:St G w u U q L)(V:L.IsCell z fF):q z=ao:=by
 induction P:q z with
 | none=>rfl
 | some o=>
  refine dg V fun a H hd=>?_
  have j:=m.mem z o P
  induction o with
  | list l=>obtain⟨_,_,_,W,_⟩:=j;obtain rfl:=c4 (H.symm.trans W);contradiction
  | dict s=>obtain⟨_,⟨_,_,_,D,_,E,_⟩,_⟩:=j;obtain rfl:=c4 (H.symm.trans D);have n:=hd.symm.trans E;contradiction
  | aA s=>obtain⟨_,⟨_,_,_,D,_,E,_⟩,_⟩:=j;obtain rfl:=c4 (H.symm.trans D);have n:=hd.symm.trans E;contradiction
  | inst z h=>refine j.elim fun F W=>?_;obtain rfl:=c4 (H.symm.trans W);contradiction
  | exc z h=>obtain⟨_,_,W,_⟩:=j;obtain rfl:=c4 (H.symm.trans W);contradiction
  | ay r=>obtain⟨_,_,W,_⟩:=j;obtain rfl:=c4 (H.symm.trans W);contradiction
  | aD z d=>obtain⟨_,_,W,_⟩:=j;obtain rfl:=c4 (H.symm.trans W);contradiction
  | aJ l=>obtain⟨_,⟨_,W,_,_,P⟩,_⟩:=j;obtain rfl:=c4 (H.symm.trans W);have n:=hd.symm.trans P;contradiction
variable {c3:Option D}
theorem gi.mono(V:dy L cm)(e: ∀y,L.Ns H.locals y→cm.Ns H.locals y)(a: ∀i M,L.IsCell i M→cm.IsCell i M)(j:gi L H t c3):gi cm H t c3:=by
 unfold gi at j ⊢
 split at j
 ·refine dg j fun y W K=>?_
  exact⟨y,e y W,fun T Z=>let ⟨M,c,P⟩:=K T Z;⟨M,c,P.mono V⟩⟩
 ·obtain⟨i,p,J,W,K⟩:=j
  exact⟨i,p,J,a i p W,fun T Z=>let ⟨M,c,P⟩:=K T Z;⟨M,c,P.mono V⟩⟩
 ·obtain⟨i,p,J,W,K⟩:=j
  exact⟨i,p,J,a i p W,fun T Z=>let ⟨M,c,P⟩:=K T Z;⟨M,c,P.mono V⟩⟩
 ·trivial
theorem dC.go(m:St G w u U q L)(l:dC L q H I V)(N:b6 G w u U [] q L M cm):dC cm M H I V:=by
 have e: ∀y,L.Ns H.locals y→cm.Ns H.locals y:=fun y S=>Ns.up S fun o Z=>(N.keep _ o Z l.free (fun P=>nomatch P)).2
 have a: ∀i A,L.IsCell i A→cm.IsCell i A:=fun i A S=>IsCell.up S fun o Z=>(N.keep i o Z (m.aN S) (fun P=>nomatch P)).2
 refine⟨l.ok,?_,l.len,l.loc.imp e,fun S i Z=>(l.aU S i Z).imp fun p d=>a i p d,fun S J Z=>(l.at_ S J Z).mono (N.aq m) e a⟩
 induction P:M H.locals with
 | none=>rfl
 | some o=>
  rcases N.fresh _ o P with d | d
  ·exact absurd l.free d
  ·refine xF l.loc fun y z F F c F=>?_
   have n:=c.symm.trans d;contradiction
end
section
variable {G:d7}{w:di}{u:cO}{U:List a0}{Y:j7}{r:cx}{q:J}
variable {z:a0}{L:cO}{en:List a0}{M:J}{cm:cO}{eo:J}{eN:cO}{xR:J}
theorem fp.aV(t:fp cm eN xR z)(N:b6 G w u U en M L eo cm):fp L eN xR z:=fun o Q y W K C=>by
 obtain⟨k,j⟩:=t o Q y W K C
 refine⟨?_,j⟩
 induction d:L.get? y with
 | none=>rfl
 | some p=>obtain⟨D,A⟩:=N.there y p d;have n:=k.symm.trans A;contradiction
variable {Ci:D→J→Prop}{b8:b7}{dK:cx}
theorem cG.mono {s':cx}(N:b6 G w u U [] q r.heap M s'.heap)(b:dM r s')(c:cG G w u U M s' Ci b8 dK):cG G w u U q r Ci b8 dK:=by
 obtain⟨Z,i,h,v,W,K,⟨C,Q⟩,n,e⟩:=c
 exact⟨Z,i,h,v,W,K,⟨C,Q.aV N⟩,N.trans n,b.trans e⟩
theorem ei.mono {s':cx}(N:b6 G w u U [] q r.heap M s'.heap)(b:dM r s')(c:ei G w u U M s' Ci b8 dK):ei G w u U q r Ci b8 dK:=by
 obtain⟨T,v,W,K,C,n⟩:=c
 exact⟨T,v,W,K,N.trans C,b.trans n⟩
end
noncomputable def eE:Nat:=(fun F=>0) PySem.treeTable
noncomputable def g4 (J:Nat):W:=fun Y B x F=>(fun F:Nat=>match Y.at J with
 | some d=>x d B
 | none=>False) eE
noncomputable def fQ (T:D):W:=fun F B x F=>(fun F:Nat=>x T B) eE
noncomputable def ub:W:=fun F F F F=>False
section
variable {G:d7}{w:di}{u:cO}{H:eP}
theorem Bk(V:ej b7):c5 G w u A H I V ub:=fun F F F F F F F F F F X=>X.elim
theorem rN {S:PySem.Str} {J:Nat}(L:fo I S=ab J)(g:H.kindOf S=ab .local∨H.kindOf S=ab .cell∨H.kindOf S=ab .free)(v:(S == ("__classdict__" :PySem.Str))=false):
 c5 G w u A H I (vk H S) (g4 J):=by
 intro r q U Y B x O p m l z
 unfold g4 at z
 induction e:Y.at J with
 | none=>rw [e] at z;exact z.elim
 | some d=>
  rw [e] at z
  have X:=l.at_ S J L
  rw [e] at X
  have D: ∀M,cP U.heap M d→ei G w u q B U x M U:=fun M j=>⟨d,B,z,j,b6.refl m,dM.refl U⟩
  unfold gi at X
  rcases g with g | g | g
  ·simp only [g] at X
   obtain⟨y,W,K⟩:=X
   refine(K d rfl).elim fun M h=>?_
   refine h.elim fun C n=>?_
   exact wpAny_loadName_local l.ok.kind g W C (D M n)
  ·simp only [g] at X
   obtain⟨i,F,E,W,K⟩:=X
   obtain⟨M,rfl,n⟩:=K d rfl
   exact wpAny_loadName_cell l.ok.kind g E W (D M n)
  ·simp only [g] at X
   obtain⟨i,F,E,W,K⟩:=X
   obtain⟨M,rfl,n⟩:=K d rfl
   exact wpAny_loadName_free l.ok.kind g E W (D M n) v
theorem tY {S:PySem.Str} {D:e5} {J:W}(h:(S == ("__debug__" :PySem.Str))=false)(X:c5 G w u A H I (vk H S) J):c5 G w u A H I (cy (.Name S D) H) J:=
 fun r q U Y B x O p m l z=>D7 (X r q U Y B x O p m l z) h
theorem JC {V:ej b7} {M:b7}(g:eJ (bD G w) u V M):c5 G w u A H I V (fQ (.val M)):=
 fun r q U F B x F F m F z=>g r _ _ U m.top ⟨_,B,z,.val M,b6.refl m,dM.refl U⟩
theorem XK {k D}:c5 G w u A H I (cy (.Constant .none k D) H) (fQ .none):=
 fun r q U F B x F F m F z=>wpAny_Constant_none ⟨_,B,z,.none,b6.refl m,dM.refl U⟩
theorem Xz {f k D}:c5 G w u A H I (cy (.Constant (.bool f) k D) H) (fQ (.bool f)):=
 fun r q U F B x F F m F z=>wpAny_Constant_bool ⟨_,B,z,.bool f,b6.refl m,dM.refl U⟩
theorem xd {J k D}:c5 G w u A H I (cy (.Constant (.int J) k D) H) (fQ (.int J)):=
 fun r q U F B x F F m F z=>y8 ⟨_,B,z,.int J _,b6.refl m,⟨rfl,rfl⟩⟩
theorem JI {S k D}:c5 G w u A H I (cy (.Constant (.str S) k D) H) (fQ (.str S)):=
 fun r q U F B x F F m F z=>Ng ⟨_,B,z,.str S _,b6.refl m,⟨rfl,rfl⟩⟩
theorem XA {C k D}:c5 G w u A H I (cy (.Constant (.bytes C) k D) H) (fQ (.bytes (C.map gs))):=
 fun r q U F B x F F E F z=>by
  refine(bt (M:=bD G w) (m:=fresh) (f:=fun V=>pure (Value.bytes C.toArray V)) (wpAny_fresh (ct ?_)):cu (bD G w) r (mkTextBytes C.toArray) _ _ U)
  exact⟨_,B,z,.bytes C.toArray _,b6.refl E,⟨rfl,rfl⟩⟩
end
end
section
def sZ (C:d7) (u:di) (A:cO) (I:Nat) (t:b7→b7→ej b7) (k:D→D→J→(D→J→Prop)→(D→J→Prop)→Prop):Prop:=
 ∀r q U B x O M X R f,fb I r q→St C u A q B U.heap→cP U.heap M R→cP U.heap X f→k R f B x O→
  cu (bD C u) r (t M X) (ei C u A q B U x) (cG C u A q B U O) U
def sY (C:d7) (u:di) (A:cO) (I:Nat) (t:b7→ej b7) (k:D→J→(D→J→Prop)→(D→J→Prop)→Prop):Prop:=
 ∀r q U B x O M R,fb I r q→St C u A q B U.heap→cP U.heap M R→k R B x O→
  cu (bD C u) r (t M) (ei C u A q B U x) (cG C u A q B U O) U
def kZ (b:List D) (L:D→Prop):Prop:=match b with
 | []=>False
 | d::j=>match j with
  | []=>L d
  | _=>False
def AP (b:List D) (L:D→D→Prop):Prop:=match b with
 | []=>False
 | d::j=>kZ j (L d)
def eY (B:J) (M:b7) (L:dE→Prop):Prop:=match M with
 | .ref a=>match B a with
  | some o=>L o
  | none=>False
 | _=>False
def nd (o:dE) (L:List D→Prop):Prop:=match o with
 | .list l=>L l
 | _=>False
variable {u:cO}{lV:D→Prop}{n:List D}{cw:List b7}
@[elab_as_elim] theorem oG {G:List b7→Prop}(j:c7 u cw n)(k:kZ n lV)(t: ∀v d,cP u v d→lV d→G [v]):G cw:=by
 cases j with
 | nil=>exact k.elim
 | cons a b=>cases b with
  | nil=>exact t _ _ a k
  | cons=>exact k.elim
variable {xK:D→D→Prop}{xP:List b7→Prop}
@[elab_as_elim] theorem Iy(j:c7 u cw n)(k:AP n xK)(t: ∀v d X e,cP u v d→cP u X e→xK d e→xP [v,X]):xP cw:=by
 cases j with
 | nil=>exact k.elim
 | cons a b=>exact oG (G:=fun V=>xP (_::V)) b k fun F F=>t _ _ _ _ a
inductive zx (μ:J) (P:dE→Prop):b7→Prop
 | mk (a:a0) (o:dE) (e:μ a=ab o) (h:P o):zx μ P (.ref a)
variable {q:J}{b8:b7}
theorem jV {L:dE→Prop}(X:eY q b8 L):zx q L b8:=by
 induction b8 with
 | ref a=>
  unfold eY at X
  dsimp only at X
  induction P:q a with
  | none=>rw [P] at X;exact X.elim
  | some o=>rw [P] at X;exact⟨a,o,P,X⟩
 | _=>exact X.elim
variable {Cu:List D→Prop}
theorem wW {o:dE}(X:nd o Cu): ∃N,o= .list N∧Cu N:=by
 induction o with
 | list N=>exact⟨N,rfl,X⟩
 | _=>exact X.elim
def i4 (J:Int):Prop:=J.natAbs < 2 ^ 4096
def ib (J:Int):Prop:=J.natAbs < 2 ^ 64
noncomputable abbrev KK:=D→J→Prop
def tM (K:nY) (L:Prop):Prop:=match K with
 | .Add=>L
 | _=>False
def IA (K:nY) (L:Prop):Prop:=match K with
 | .Mult=>L
 | _=>False
def HR (K:nY) (R f:Int) (B:J) (x:KK):Prop:=match K with
 | .Add=>x (.int (R+f)) B
 | .Sub=>x (.int (R - f)) B
 | .Mult=>(ib R∨ib f)∧x (.int (R * f)) B
 | .FloorDiv=>(f≠0∧i4 f)∧x (.int (R.fdiv f)) B
 | .Mod=>f≠0∧x (.int (R.fmod f)) B
 | .Pow=>(0≤f∧f≤1000000∧ib R)∧x (.int (R ^ f.toNat)) B
 | .LShift=>(0≤f∧f≤1000000∧i4 R)∧x (.int (R * 2 ^ f.toNat)) B
 | .RShift=>0≤f∧x (.int (R.fdiv (2 ^ f.toNat))) B
 | .BitAnd=>x (.int (qv R f)) B
 | .BitOr=>x (.int (Dp R f)) B
 | _=>False
def rt (S s:a0) (B:J) (x:KK):Prop:=match B S,B s with
 | some (.list a),ab (.list b)=>a.length+b.length≤1000000∧ ∀d,B d=ao→x (.val (.ref d)) (B.set d (.list (a++b)))
 | _,_=>False
def AS (M X:b7) (L:a0→a0→Prop):Prop:=match M with
 | .ref S=>match X with
  | .ref y=>L S y
  | _=>False
 | _=>False
def ig (K:nY) (R f:D) (B:J) (x:KK) (_:KK):Prop:=match R with
 | .int R=>match f with
  | .int f=>HR K R f B x
  | _=>False
 | .str R=>match f with
  | .str f=>tM K (R.length+f.length≤1000000∧x (.str (R++f)) B)
  | _=>False
 | .bytes R=>match f with
  | .bytes f=>tM K (R.length+f.length≤1000000∧x (.bytes (R++f)) B)
  | .int f=>IA K ((R= [0]∧ -1000000≤f∧f≤1000000)∧x (.bytes (iu f.toNat 0)) B)
  | _=>False
 | .tup R=>match f with
  | .tup f=>tM K (R.length+f.length≤1000000∧x (.tup (R++f)) B)
  | _=>False
 | .val v=>match f with
  | .val X=>tM K (AS v X fun S s=>rt S s B x)
  | _=>False
 | _=>False
variable {A:Nat}
theorem log2_lt {k:Nat}(X:A < 2 ^ k)(g:0 < k):A.log2 < k:=by
 by_cases J:A=0
 ·subst J;refine(show Nat.log2 0=0 from by decide+kernel)▸?_;exact g
 ·exact(Nat.log2_lt J).mpr X
variable {B:Int}
theorem zT {k:Nat}(X:B.natAbs < 2 ^ k)(g:0 < k):Dn B≤k:=by
 unfold Dn
 split
 ·(exact eA _)
 ·exact log2_lt X g
theorem iF:(1000000:Nat)≤kJ:=by decide+kernel
section
variable {G:d7}{w:di}
variable {U:List a0}{r:cx}{x:KK}{T:D}
theorem Iw {A:j7}(m:St G w u U q r.heap)(g:x T q)(j: ∀h,cP h b8 T)(V:Nat):ei G w u U q r x b8 {r with toks:=V}:=
 ⟨T,q,g,j _,b6.refl m,⟨rfl,rfl⟩⟩
theorem wQ {s:cx} {K:KK}(m:St G w u U q s.heap)(a:fi)(r:dE)(j:ic G w (s.heap.push a) s.heap.objs.size r)(g: ∀d,q d=ao→K (.val (.ref d)) (q.set d r))(V:Nat):
 ei G w u U q s K (.ref s.heap.objs.size) {s with heap:=s.heap.push a,toks:=V}:=
 ⟨_,_,g _ m.fresh,.val _,b6.alloc m a r j,⟨rfl,rfl⟩⟩
theorem wR {s:cx} {K:KK}(m:St G w u U q s.heap)(j:c7 s.heap cw n)(g:K (.tup n) q)(V:Nat):
 ei G w u U q s K (.ref s.heap.objs.size) {s with heap:=s.heap.push {cls:= .type "tuple",data:= .seq cw.toArray},toks:=V}:=
 ⟨_,q,g,.tup (Ma _ _) (j.mono (oL _)),b6.push m _,⟨rfl,rfl⟩⟩
variable {L:cO}
theorem AO(j:c7 L cw n):ic G w (L.push {cls:= .type "list",data:= .seq cw.toArray}) L.objs.size (.list n):=
 ⟨cw,0,(),gc _ rfl,j.mono (oL _)⟩
inductive Ei (x:List Nat):b7→Prop
 | mk (b:List UInt8) (t:j8) (e:b.map gs=x):Ei x (.bytes b.toArray t)
variable {b5:List Nat}
theorem lC(j:cP L b8 (.bytes b5)):Ei b5 b8:=by
 obtain⟨f,V,P⟩:zC b5 b8:=j.inv
 exact⟨f.toList,V,P⟩
variable {CH:b7→Prop}
@[elab_as_elim] theorem cP.az(j:cP L b8 (.int B))(k: ∀V,CH (.int B V)):CH b8:=have ⟨V,Z⟩:=j.inv;Z▸k V
variable {t:PySem.Str}
@[elab_as_elim] theorem cP.aG(j:cP L b8 (.str t))(k: ∀V,CH (.str t V)):CH b8:=have ⟨V,Z⟩:=j.inv;Z▸k V
variable {jM:nY}{dp:Prop}
theorem wU(X:tM jM dp):jM= .Add∧dp:=by
 induction jM with
 | Add=>exact⟨rfl,X⟩
 | _=>exact X.elim
theorem UH(X:IA jM dp):jM= .Mult∧dp:=by
 induction jM with
 | Mult=>exact⟨rfl,X⟩
 | _=>exact X.elim
inductive FN (P:a0→a0→Prop):b7→b7→Prop
 | mk (x y:a0) (h:P x y):FN P (.ref x) (.ref y)
variable {fN:b7}
theorem UI {L:a0→a0→Prop}(X:AS b8 fN L):FN L b8 fN:=by
 induction b8 with
 | ref S=>induction fN with
  | ref y=>exact⟨S,y,X⟩
  | _=>exact X.elim
 | _=>exact X.elim
variable {z E:a0}
theorem Sz(X:rt z E q x): ∃R f,q z=ab (.list R)∧q E=ab (.list f)∧R.length+f.length≤1000000∧ ∀d,q d=ao→x (.val (.ref d)) (q.set d (.list (R++f))):=by
 unfold rt at X
 induction p:q z with
 | none=>rw [p] at X;exact X.elim
 | some o=>
  rw [p] at X
  induction o with
  | list R=>induction P:q E with
   | none=>rw [P] at X;exact X.elim
   | some o=>
    rw [P] at X
    induction o with
    | list f=>exact⟨R,f,rfl,rfl,X⟩
    | _=>exact X.elim
  | _=>exact X.elim
theorem cP.val_inv(j:cP L b8 (.val fN)):b8=fN:=j.inv
theorem cP.ar(j:cP L b8 (.tup n)):zD L n b8:=j.inv
variable {Y:j7}{bx:KK}{fu:List Nat}
theorem Xv(g:jM= .Add∧b5.length+fu.length≤1000000∧x (.bytes (b5++fu)) q)(m:St G w u U q r.heap)(t:cP r.heap b8 (.bytes b5))(z:cP r.heap fN (.bytes fu)):
 cu (bD G w) Y (sA jM b8 fN) (ei G w u U q r x) (cG G w u U q r bx) r:=by
 obtain⟨rfl,g⟩:=g
 refine(lC t).rec fun S V v=>?_
 subst v
 refine(lC z).rec fun s d v=>?_
 subst v
 rw [dP,dP] at g
 refine PySem.W.KBy.add_bytes (by rw [hq,hq];lia) fun A k=>⟨_,q,g.2,?_,b6.refl m,⟨rfl,rfl⟩⟩
 have:=cP.bytes (h:=({r with toks:=k}:cx).heap) (S.toArray++s.toArray) A
 simpa using this
variable {d4:j8}
theorem Xw(g:jM= .Mult∧(b5= [0]∧ -1000000≤B∧B≤1000000)∧x (.bytes (iu B.toNat 0)) q)(m:St G w u U q r.heap)(t:cP r.heap b8 (.bytes b5)):
 cu (bD G w) Y (sA jM b8 (.int B d4)) (ei G w u U q r x) (cG G w u U q r bx) r:=by
 obtain⟨rfl,g⟩:=g
 refine(lC t).rec fun S V i=>?_
 refine gz g.1 fun v W K=>?_;subst v
 have A:S= [0]:=by
  cases S with
  | nil=>contradiction
  | cons c j=>
   induction j with
   | nil=>
    have:c.toNat=0:=by simpa using i
    rw [show c=0 from NF.mp this]
   | cons _ _=>simp at i
 subst A
 refine PySem.W.bytes_mul_any (by decide) (by omega) (by(exact j2 (by assumption) (by decide))) (by decide) fun d k=>⟨_,q,g.2,?_,b6.refl m,⟨rfl,rfl⟩⟩
 have:=cP.bytes (h:=({r with toks:=k}:cx).heap) (iu B.toNat [(0:UInt8)]).flatten.toArray d
 have Z: ∀y:Nat,((iu y [(0:UInt8)]).flatten.map gs)=iu y 0:=by
  intro y
  induction y with
  | zero=>rfl
  | succ y o=>rw [List.replicate_succ,List.flatten_cons,fh,o];rfl
 simpa [Z] using this
variable {y:List D}
theorem XO(g:jM= .Add∧n.length+y.length≤1000000∧x (.tup (n++y)) q)(m:St G w u U q r.heap)(t:cP r.heap b8 (.tup n))(R:cP r.heap fN (.tup y)):
 cu (bD G w) Y (sA jM b8 fN) (ei G w u U q r x) (cG G w u U q r bx) r:=by
 obtain⟨rfl,g⟩:=g
 refine t.ar.rec fun S Q s I=>?_
 refine R.ar.rec fun T E H C=>?_
 obtain⟨⟨L,K,M,X⟩,D,b,A,hd⟩:=id s
 obtain⟨⟨N,B,O,a⟩,P,F,j,J⟩:=id H
 simp only at b hd F J
 subst b hd F J
 have Z:Q.toArray++E.toArray=(Q++E).toArray:=by simp
 by_cases V:Q= []
 ·refine yU ⟨_,D,rfl⟩ ⟨_,P,rfl⟩ DZ D3 PySem.F.slot_tuple_add PySem.F.entry_tuple_add (PySem.F.args_tuple_add_2 _ _)
   (tuple_addW0 _ _ Q.toArray E.toArray A j K B X a (by simp [V])) ⟨D,P,?_⟩
  subst V
  cases I
  exact⟨_,q,g.2,.tup H C,b6.refl m,⟨rfl,rfl⟩⟩
 ·by_cases z:E= []
  ·refine yU ⟨_,D,rfl⟩ ⟨_,P,rfl⟩ DZ D3 PySem.F.slot_tuple_add PySem.F.entry_tuple_add (PySem.F.args_tuple_add_2 _ _)
    (tuple_addW1 _ _ Q.toArray E.toArray A j K B X a (by simpa using V) (by simp [z])) ⟨D,P,?_⟩
   subst z
   cases C
   rw [fI] at g
   exact⟨_,q,g.2,.tup s I,b6.refl m,⟨rfl,rfl⟩⟩
  ·refine yU ⟨_,D,rfl⟩ ⟨_,P,rfl⟩ DZ D3 PySem.F.slot_tuple_add PySem.F.entry_tuple_add (PySem.F.args_tuple_add_2 _ _)
    (tuple_addW2 _ _ Q.toArray E.toArray A j K B X a (by simpa using V) (by simpa using z) (by rw [hq,hq,I.length,C.length];exact cg g.1 iF)) ⟨D,P,?_⟩
   refine Z▸?_
   exact wR m (I.append C) g.2 _
variable {KZ:b7}
theorem XH {N KZ:b7}(g:jM= .Add∧AS N KZ fun S s=>rt S s q x)(m:St G w u U q r.heap)(V:b8=N)(O:fN=KZ):
 cu (bD G w) Y (sA jM b8 fN) (ei G w u U q r x) (cG G w u U q r bx) r:=by
 obtain⟨rfl,g⟩:=g
 replace g:=UI g
 obtain⟨S,s,g⟩:=g
 refine jK (Sz g) fun R f W K h g=>?_
 subst V O
 obtain⟨Q,A,X,D,I⟩:=m.mem _ _ W
 obtain⟨E,j,a,P,C⟩:=m.mem _ _ K
 refine yU ⟨_,D,rfl⟩ ⟨_,P,rfl⟩ noFill_list_add seq_list_add PySem.F.slot_list_add PySem.F.entry_list_add (PySem.F.args_list_add_2 _ _)
  (list_addW _ _ Q.toArray E.toArray A j ao ao #[] #[] (by rw [hq,hq,I.length,C.length];exact cg h iF)) ⟨D,P,?_⟩
 rw [show Q.toArray++E.toArray=(Q++E).toArray from by simp]
 exact wQ m _ _ (AO (I.append C)) g _
variable {bk:Int}
theorem Tv(X:i4 B)(H:bk≤1000000):(Dn B:Int)+bk≤2 ^ 27:=by
 have:=zT X (by decide)
 lia
variable {gJ:j8}
theorem XG(K:nY)(m:St G w u U q r.heap)(g:HR K B bk q x):
 cu (bD G w) Y (sA K (.int B d4) (.int bk gJ)) (ei G w u U q r x) (cG G w u U q r bx) r:=by
 have c: ∀ {J:Int},x (.int J) q→ ∀d,ei G w u U q r x (.int J d) {r with toks:=r.toks+1}:=fun h F=>Iw (A:=Y) m h (fun F=> .int _ _) _
 induction K with
 | Add=>exact aaH (c g _)
 | Sub=>exact aaD (c g _)
 | Mult=>
  refine aaX (c g.2 _) ?_
  rcases g.1 with h | h
  ·exact abd (zT h (by decide))
  ·exact abe (zT h (by decide))
 | FloorDiv=>exact aaM g.1.1 (c g.2 _) (.inl (PyProof.noPylong_of_log2 (lY (log2_lt g.1.2 (by decide)) (by decide))))
 | Mod=>exact aaC g.1 (c g.2 _)
 | Pow=>exact aa2 g.1.1 (bits_mul_le g.1.2.2 g.1.1 g.1.2.1) (c g.2 _)
 | LShift=>exact aaV g.1.1 (Tv g.1.2.2 g.1.2.1) (c g.2 _)
 | RShift=>exact aa3 g.1 (c g.2 _)
 | BitAnd=>exact aaJ (c g _)
 | BitOr=>exact aa1 (c g _)
 | _=>exact g.elim
theorem Xy(K:nY):sZ G w u A (sA K) (ig K):=by
 intro r q U B x O M X R f p m t z g
 cases R with
 | int R=>cases f with
  | int f=>exact t.az fun V=>z.az fun X=>XG K m g
  | _=>exact g.elim
 | str R=>cases f with
  | str f=>
   obtain⟨rfl,g⟩:=wU g
   exact t.aG fun V=>z.aG fun X=>aaI (fun d fB=>⟨_,B,g.2,.str _ _,b6.refl m,⟨rfl,rfl⟩⟩) (cg g.1 iF)
  | _=>exact g.elim
 | bytes R=>cases f with
  | bytes f=>exact Xv (wU g) m t z
  | int f=>exact z.az fun X=>Xw (UH g) m t
  | _=>exact g.elim
 | tup R=>cases f with
  | tup f=>exact XO (wU g) m t z
  | _=>exact g.elim
 | val N=>cases f with
  | val D=>exact XH (wU g) m t.val_inv z.val_inv
  | _=>exact g.elim
 | _=>exact g.elim
end
end
variable {G:d7}{w:di}{u:cO}{A:Nat}{H:eP}{I:List PySem.Str}{U:List a0}{Y:j7}{r:cx}{q:J}{V:Loc}{x bx:KK}{cf:ey}{my:dE}{z:a0}{ur:a0→dE→Prop}{hK:Array (Option b7)}{e0:Array b7}{dJ:Bool}{rW:Bool→Prop}{gT:Bool→cx→Prop}{fZ:jO}{T:D}{xK:D→D→Prop}{Ci:D→J→Prop}{lV:D→Prop}{cz:cT}{d6:uZ}{B:Int}{uw:List (Bool×ej b7)}{ux:List (List Int×a0×b7)}{ft:List (List Int×D)}{s:List (PySem.Str×D)}{uz:List (PySem.Str×D)→Prop}{uA:List (PySem.Str×mF)}{fS:List (PySem.Str×b7)}{n:List D}{iH:List D→J→Prop}{Cu:List D→Prop}{mB:List eP}{cN:List cT}{de:List Int}{b5:List Nat}{ik:List iN}{cw:List b7}{xP:List b7→Prop}{uC:List b7→cx→Prop}{nE:List gC}{cR:Loc→J→Prop}{iU:fi}{jM:nY}{df:Option a0}{c3:Option D}{fF:Option b7}{qe:Option b7→cx→Prop}{cD:e5}{dp:Prop}{t:PySem.Str}{oQ:PySem.Str→Option b7}{r1:ej (List b7)}{qg:ej Bool}{r2:ej qx}{jb:ej b7}{e4:Spec}{gn:String}{d4:j8}{c2:Type}{fG:Unit→cx→Prop}{b8:b7}{CH:b7→Prop}{cq:b7→cx→Prop}{CI:b7→b7→ej b7}{cI:W}{gL:gC}{dh:g9}{E:a0}{nB:Array b7}{fg:D}{eu:cT}{L:cO}{bk:Int}{en:List a0}{y:List D}{fu:List Nat}{iI:List PySem.Str}{uD:List b7}{xQ:Loc}{M:J}{C:Nat}{qd:fi}{dw:e5}{e8:PySem.Str}{dK:cx}{gJ:j8}{ip:Type}{fN:b7}{d1:b7→cx→Prop}{gK:W}{O:a0}{cm:cO}{Ct:List a0}{eo:J}{f3:cx}{qh:W}{cn:a0}{eN:cO}{xR:J}{k7:cx}{KZ:b7}{Cm Cn Co:cO}
section
section
theorem c5.ae(X:c5 G w u A H I jb cI) {s:cx} {K E:KK}
 (p:fb A Y U)(m:St G w u U q s.heap)(l:dC s.heap q H I V)(z:cI V q K E)
 (d: ∀M T e a,K T e→cP a.heap M T→b6 G w u U [] q s.heap e a.heap→dM s a→St G w u U e a.heap→dC a.heap e H I V→cq M a)
 (r: ∀S a,cG G w u U q s E S a→d1 S a):cu (bD G w) Y jb cq d1 s:=
 ea (X Y U s V q K E p m l z) (fun M a ⟨T,e,k,j,N,b⟩=>d M T e a k j N b N.st (l.go m N)) r
theorem iR.ae(X:iR G w u A H I qg gL) {s:cx} {K:Bool→J→Prop} {E:KK}
 (p:fb A Y U)(m:St G w u U q s.heap)(l:dC s.heap q H I V)(z:gL V q K E)
 (d: ∀f e a,K f e→b6 G w u U [] q s.heap e a.heap→dM s a→St G w u U e a.heap→dC a.heap e H I V→gT f a)
 (r: ∀S a,cG G w u U q s E S a→cq S a):cu (bD G w) Y qg gT cq s:=
 ea (X Y U s V q K E p m l z) (fun f a ⟨e,k,N,b⟩=>d f e a k N b N.st (l.go m N)) r
theorem i5.ae(X:i5 G w u A H I r1 dh) {s:cx} {K:List D→J→Prop} {E:KK}
 (p:fb A Y U)(m:St G w u U q s.heap)(l:dC s.heap q H I V)(z:dh V q K E)
 (d: ∀M T e a,K T e→c7 a.heap M T→b6 G w u U [] q s.heap e a.heap→dM s a→St G w u U e a.heap→dC a.heap e H I V→uC M a)
 (r: ∀S a,cG G w u U q s E S a→cq S a):cu (bD G w) Y r1 uC cq s:=
 ea (X Y U s V q K E p m l z) (fun M a ⟨T,e,k,j,N,b⟩=>d M T e a k j N b N.st (l.go m N)) r
theorem sZ.ae {k}(X:sZ G w u A CI k) {s:cx} {K E:KK}
 (p:fb A Y U)(m:St G w u U q s.heap)(t:cP s.heap b8 T)(z:cP s.heap fN fg)(g:k T fg q K E)(N:b6 G w u U [] M r.heap q s.heap)(b:dM r s):
 cu (bD G w) Y (CI b8 fN) (ei G w u U M r K) (cG G w u U M r E) s:=
 ea (X Y U s q K E b8 fN T fg p m t z g) (fun F F c=>ei.mono N b c) fun F F c=>cG.mono N b c
theorem sY.ae {t:b7→ej b7} {k}(X:sY G w u A t k) {s:cx} {K E:KK}
 (p:fb A Y U)(m:St G w u U q s.heap)(B:cP s.heap b8 T)(g:k T q K E)(N:b6 G w u U [] M r.heap q s.heap)(b:dM r s):
 cu (bD G w) Y (t b8) (ei G w u U M r K) (cG G w u U M r E) s:=
 ea (X Y U s q K E b8 T p m B g) (fun F F c=>ei.mono N b c) fun F F c=>cG.mono N b c
noncomputable def xx (k:D→D→J→KK→KK→Prop) (a P:W):W:=fun Y B x O=>(fun F:Nat=>a Y B (fun R n=>P Y n (fun f v=>k R f v x O) O) O) eE
noncomputable def kv (k:D→J→KK→KK→Prop) (a:W):W:=fun Y B x O=>(fun F:Nat=>a Y B (fun R n=>k R n x O) O) eE
noncomputable abbrev rQ (K:nY):=xx (ig K)
theorem xc {N j:cT} {K:nY} {D:e5} {a P:W}(h:c5 G w u A H I (cy N H) a)(t:c5 G w u A H I (cy j H) P):
 c5 G w u A H I (cy (.BinOp N K j D) H) (rQ K a P):=by
 intro r q U Y B x O p m l z
 refine wpAny_BinOp (h.ae p m l z (fun M T n E R f C g e L=>?_) fun F F c=>c)
 exact t.ae p e L R (fun X Z v J S d s Q V o=>(Xy K).ae p V (s.rv e f) d S (C.trans s) (g.trans Q)) fun F F c=>cG.mono C g c
def fY:D→J→KK→KK→Prop
 | .int a,B,K,_=>K (.int (-a)) B
 | _,_,_,_=>False
theorem XI:sY G w u A (unaryOp .USub) fY:=by
 intro r q U B x O M R p m t g
 cases R with
 | int i=>cases t;exact aa0 (Iw (A:=r) m g (fun F=> .int _ _) _)
 | _=>exact False.elim g
theorem Xu(i:c5 G w u A H I (cy cz H) cI):c5 G w u A H I (cy (.UnaryOp .USub cz cD) H) (kv fY cI):=by
 intro r q U Y B x O p m l z
 exact wpAny_UnaryOp (i.ae p m l z (fun M T n E R f C g e L=>XI.ae p e f R C g) fun F F c=>c)
noncomputable def p8 (V:gC) (R f:W):W:=fun Y B x O=>(fun F:Nat=>V Y B (fun i n=>if i=true then R Y n x O else f Y n x O) O) eE
theorem Jy {V f o:cT} {P:e5} {J:gC} {N M:W}(s:iR G w u A H I (isTrue V H (cy V H)) J)(K:c5 G w u A H I (cy f H) N)(D:c5 G w u A H I (cy o H) M):
 c5 G w u A H I (cy (.IfExp V f o P) H) (p8 J N M):=by
 intro r q U Y B x O p m l z
 refine wpAny_IfExp (s.ae p m l z (fun i n E R C g e L=>?_) fun F F c=>c)
 induction i with
 | true=>exact ea (K r q E Y n x O p e L R) (fun F F c=>ei.mono C g c) fun F F c=>cG.mono C g c
 | false=>
  exact ea (D r q E Y n x O p e L (R)) (fun F F c=>ei.mono C g c) fun F F c=>cG.mono C g c
noncomputable def zN (V:gC):gC:=fun Y B x O=>(fun F:Nat=>V Y B (fun i n=>x (!i) n) O) eE
theorem WH(D:iR G w u A H I (isTrue cz H (cy cz H)) gL):iR G w u A H I (isTrue (.UnaryOp .Not cz cD) H jb) (zN gL):=by
 intro r q U Y B x O p m l z
 exact wpAny_isTrue_Not (D.ae p m l z (fun i n E R C g e L=>⟨n,R,C,g⟩) fun F F c=>c)
noncomputable def mU:List gC→gC
 | []=>fun F B x F=>(fun F:Nat=>x true B) eE
 | V::j=>fun Y B x O=>V Y B (fun i n=>if i=true then mU j Y n x O else x false n) O
noncomputable def s9:List gC→gC
 | []=>fun F B x F=>(fun F:Nat=>x false B) eE
 | V::j=>fun Y B x O=>V Y B (fun i n=>if i=true then x true n else s9 j Y n x O) O
inductive ou (G:d7) (w:di) (u:cO) (A:Nat) (H:eP) (I:List PySem.Str):List cT→List gC→Prop
 | nil:ou G w u A H I [] []
 | cons {x:cT} {r:List cT} {t:gC} {ts:List gC}:iR G w u A H I (isTrue x H (cy x H)) t→ou G w u A H I r ts→ou G w u A H I (x::r) (t::ts)
theorem WG(X:ou G w u A H I cN nE):iR G w u A H I (allTrue .And cN H) (mU nE):=by
 induction X with
 | nil=>exact fun r q U Y B x O p m l z=>wpAny_allTrue_And_nil ⟨B,z,b6.refl m,dM.refl U⟩
 | cons hx j o=>
  intro r q U Y B x O p m l z
  refine wpAny_allTrue_And_cons (hx.ae p m l z (fun i n E R C g e L=>?_) fun F F c=>c)
  induction i with
  | true=>exact ea (o r q E Y n x O p e L R) (fun f F P=>P.casesOn fun v k N b=>⟨v,k,C.trans N,g.trans b⟩) fun F F c=>cG.mono C g c
  | false=>exact⟨n,R,C,g⟩
theorem WI(X:ou G w u A H I cN nE):iR G w u A H I (allTrue .Or cN H) (s9 nE):=by
 induction X with
 | nil=>exact fun r q U Y B x O p m l z=>wpAny_allTrue_Or_nil ⟨B,z,b6.refl m,dM.refl U⟩
 | cons hx j o=>
  intro r q U Y B x O p m l z
  refine wpAny_allTrue_Or_cons (hx.ae p m l z (fun i n E R C g e L=>?_) fun F F c=>c)
  induction i with
  | false=>exact ea (o r q E Y n x O p e L (R)) (fun f F P=>P.casesOn fun v k N b=>⟨v,k,C.trans N,g.trans b⟩) fun F F c=>cG.mono C g c
  | true=>exact⟨n,R,C,g⟩
noncomputable def nv:g9:=fun F B x F=>(fun F:Nat=>x [] B) eE
noncomputable def jI (S:W) (j:g9):g9:=fun Y B x O=>(fun F:Nat=>S Y B (fun T n=>j Y n (fun b v=>x (T::b) v) O) O) eE
theorem Bf {D:e5}:i5 G w u A H I (ix (e9 D (dF [] H))) nv:=fun r q U Y B x O p m l z=>zb ⟨[],B,z,.nil,b6.refl m,dM.refl U⟩
theorem Ju {D:e5} {Z:cT} {j:List cT} {N:W} {P:g9}(i:c5 G w u A H I (cy Z H) N)(t:i5 G w u A H I (ix (e9 D (dF j H))) P)
 (a:dF (Z::j) H=(false,cy Z H)::dF j H):i5 G w u A H I (ix (e9 D (dF (Z::j) H))) (jI N P):=by
 intro r q U Y B x O p m l z
 refine za (i.ae p m l z (fun M T n E R f C g e L=>?_) fun F F c=>c) a
 exact t.ae p e L R (fun Q b v J S d s K V o=>⟨T::b,v,S,.cons (s.rv e f) d,C.trans s,g.trans K⟩) fun F F c=>cG.mono C g c
noncomputable def p9 (E:g9):W:=fun Y B x O=>(fun F:Nat=>E Y B (fun b n=>b.length≤1000000∧x (.tup b) n) O) eE
noncomputable def B1 (E:g9):W:=fun Y B x O=>(fun F:Nat=>E Y B (fun b n=>b.length≤1000000∧ ∀d,n d=ao→x (.val (.ref d)) (n.set d (.list b))) O) eE
theorem Jz {k:Nat}(X:i5 G w u A H I (ix (e9 cD (dF cN H))) dh):c5 G w u A H I (cy (.Tuple cN k cD) H) (p9 dh):=by
 intro r q U Y B x O p m l z
 refine wpAny_Tuple (X.ae p m l z (fun Q b n E R f C g e L=>⟨by rw [f.length];exact cg R.1 iF,?_⟩) fun F F c=>c)
 exact ei.mono C g (wR (K:=x) e f R.2 E.toks)
theorem Xm(X:i5 G w u A H I (ix (e9 cD (dF cN H))) dh):c5 G w u A H I (cy (.List cN cD) H) (B1 dh):=by
 intro r q U Y B x O p m l z
 refine wpAny_List (X.ae p m l z (fun Q b n E R f C g e L=>⟨by rw [f.length];exact cg R.1 iF,?_⟩) fun F F c=>c)
 exact ei.mono C g (wQ (K:=x) e _ _ (AO f) R.2 E.toks)
end
end
section
def oi (P:D→D→Prop):List D→List D→Prop
 | [],m=>m= []
 | a::l,m=>match m with
  | []=>False
  | b::m=>P a b∧oi P l m
def Jb (T Z:D):Prop:=match T with
 | .tup _=>False
 | .val _=>False
 | T=>T=Z
def V7 (B:J) (P:D→D→Prop) (T Z:D):Prop:=match T with
 | .tup N=> ∃V,Z= .tup V∧oi P N V
 | .val v=> ∃R f N V,v= .ref R∧Z= .val (.ref f)∧B R=ab (.list N)∧B f=ab (.list V)∧oi P N V
 | T=>T=Z
def hD (B:J):Nat→D→D→Prop
 | 0=>Jb
 | n+1=>V7 B (hD B n)
def g8 (B:J) (I:Nat) (N V:List D):Prop:=oi (hD B I) N V
section
theorem hD.none:hD q A .none .none:=by cases A<;>exact rfl
theorem hD.int(J:Int):hD q A (.int J) (.int J):=by cases A<;>exact rfl
theorem hD.str(S:PySem.Str):hD q A (.str S) (.str S):=by cases A<;>exact rfl
theorem hD.bytes(S:List Nat):hD q A (.bytes S) (.bytes S):=by cases A<;>exact rfl
theorem hD.tup(X:g8 q A n y):hD q (A+1) (.tup n) (.tup y):=⟨y,rfl,X⟩
theorem hD.list(W:q z=ab (.list n))(K:q E=ab (.list y))(X:g8 q A n y):hD q (A+1) (.val (.ref z)) (.val (.ref E)):=⟨z,E,n,y,rfl,rfl,W,K,X⟩
theorem g8.nil:g8 q A [] []:=rfl
theorem g8.cons(X:hD q A T fg)(L:g8 q A n y):g8 q A (T::n) (fg::y):=⟨X,L⟩
theorem oi.length: ∀ {y:List D},oi xK n y→n.length=y.length:=by
 induction n with
 | nil=>intro y X;rw [show y= [] from X]
 | cons a n o=>intro y X;induction y with
  | nil=>exact X.elim
  | cons b y=>exact congrArg (· +1) (o X.2)
theorem g8.length(X:g8 q A n y):n.length=y.length:=oi.length X
end
noncomputable def strs?:List D→Option (List PySem.Str)
 | []=>ab []
 | .str S::j=>(strs? j).map (S:: ·)
 | _=>ao
noncomputable def jn:List D→Option (List Int)
 | []=>ab []
 | d::j=>match d with
  | .int i=>(jn j).map (i:: ·)
  | _=>ao
noncomputable def isNone:D→Option Bool
 | .none=>ab true
 | .val v=>ab (v == .none)
 | _=>ab false
noncomputable abbrev KB:=Bool→J→Prop
def HM (K:jO) (R f:Int) (L:Bool→Prop):Prop:=match K with
 | .Eq=>L (R == f)
 | .NotEq=>L (R != f)
 | .Lt=>L (decide (R < f))
 | .LtE=>L (decide (R≤f))
 | .Gt=>L (decide (f < R))
 | .GtE=>L (decide (f≤R))
 | _=>False
def Sy (K:jO) (R f:PySem.Str) (L:Bool→Prop):Prop:=match K with
 | .Eq=>L (R == f)
 | .NotEq=>L (R != f)
 | _=>False
def HO (K:jO) (R:D) (L:Bool→Prop):Prop:=match K with
 | .Is=>match isNone R with
  | some b=>L b
  | none=>False
 | .IsNot=>match isNone R with
  | some b=>L (!b)
  | none=>False
 | .NotEq=>match R with
  | .none=>L false
  | _=>False
 | _=>False
def HN (K:jO) (f:Bool) (L:Bool→Prop):Prop:=match K with
 | .In=>L f
 | .NotIn=>L (!f)
 | _=>False
def AQ (K:jO) (L:Prop):Prop:=match K with
 | .In=>L
 | _=>False
def AR (K:jO) (L:Prop):Prop:=match K with
 | .NotEq=>L
 | _=>False
def tr (K:jO) (k:PySem.Str) (T:a0) (B:J) (L:Bool→Prop):Prop:=match B T with
 | some (.dict s)=>HN K (s.any fun c=>c.1 == k) L
 | _=>False
def tu (k:Int) (R:a0) (B:J) (L:Bool→Prop):Prop:=match B R with
 | some (.list l)=>match jn l with
  | some ns=>L (ns.any fun s=>s == k)
  | none=>False
 | _=>False
def rr (R f:a0) (B:J) (L:Bool→Prop):Prop:=match B R,B f with
 | some (.list l),ab (.list V)=>match V with
  | []=>L (!l.isEmpty)
  | V=>g8 B 20 l V∧L false
 | _,_=>False
def HP (K:jO) (R:D) (M:b7) (B:J) (L:Bool→Prop):Prop:=match M with
 | .ref d=>match R with
  | .str k=>tr K k d B L
  | .int k=>AQ K (tu k d B L)
  | .val X=>match X with
   | .ref c=>AR K (rr c d B L)
   | _=>False
  | _=>False
 | _=>False
def f7 (K:jO) (R f:D) (B:J) (x:KB) (_:KK):Prop:=match f with
 | .none=>HO K R fun i=>x i B
 | .int f=>match R with
  | .int R=>HM K R f fun i=>x i B
  | _=>False
 | .str f=>match R with
  | .str R=>Sy K R f fun i=>x i B
  | _=>False
 | .tup l=>match R with
  | .str k=>AQ K (match strs? l with
   | some C=>x (C.any fun s=>s == k) B
   | none=>False)
  | .tup R=>AR K (g8 B 20 R l∧x false B)
  | _=>False
 | .val v=>HP K R v B fun i=>x i B
 | _=>False
theorem Yu(j:c7 u cw n)(Z:strs? n=ab I):StrsAre cw I:=by
 refine j.ind (P:=fun cw n=> ∀I,strs? n=ab I→StrsAre cw I) (fun k Z=>c4 Z▸ .nil) (fun M T cw n S F o k Z=>?_) I Z
 cases S with
 | str y V=>
  refine dg (nV.mp Z) fun B W A=>?_;subst A
  exact .cons y V (o B W)
 | _=>contradiction
theorem HB(j:c7 u cw n)(Z:jn n=ab de):ll cw de:=by
 refine j.ind (P:=fun cw n=> ∀de,jn n=ab de→ll cw de) (fun k Z=>c4 Z▸ .nil) (fun M T cw n S F o k Z=>?_) de Z
 cases S with
 | int y V=>
  refine dg (nV.mp Z) fun B W A=>?_;subst A
  exact .cons y V (o B W)
 | _=>contradiction
structure jC (base:cO):Prop where
 noLimit:base.NoLimit
 mods: ∃o,base.get? pn=ab o
section
theorem RJ(k:PySem.Str)(Q:List (PySem.Str×c2)):(Q.find? fun B=>decide (B.1=k)).isSome=(Q.map (·.1)).any fun S=>S == k:=by
 induction Q with
 | nil=>rfl
 | cons p j o=>
  rw [mE,gq,oV]
  by_cases P:p.1=k
  ·rw [decide_eq_true P,beq_iff_eq.mpr P];rfl
  ·rw [decide_eq_false P,beq_eq_false_iff_ne.mpr P,x1];exact o
theorem BS(j:jA L fS s)(k:PySem.Str):(pq fS k).isSome=s.any fun c=>c.1 == k:=by
 unfold pq
 rw [L5,RJ,j.keys,yb];rfl
theorem rE(y:jC u)(m:St G w u U q L) {o:dE}(Z:q z=ab o):(z == pn)=false:=by
 refine beq_eq_false_iff_ne.mpr fun d=>?_
 subst d
 refine y.mods.elim fun a H=>?_
 rw [m.out _ _ Z] at H;contradiction
theorem nr(S:PySem.Str)(V:j8):(strKind G w).is S (.str S V)=true:=strKind_is G w S V
def zF (G:d7) (w:di) (u:cO) (A:Nat) (t:b7→b7→ej b7) (k:D→D→J→KB→KK→Prop):Prop:=
 ∀r q U B x O M X R f,fb A r q→St G w u q B U.heap→cP U.heap M R→cP U.heap X f→k R f B x O→
  cu (bD G w) r (t M X) (fun j a=> ∃i e,j= .bool i∧x i e∧b6 G w u q [] B U.heap e a.heap∧dM U a) (cG G w u q B U O) U
variable {c0:KB}
theorem kY {A:j7}(m:St G w u U q r.heap)(g:c0 dJ q)(V:Nat):
 ∃i e,(Value.bool dJ)= .bool i∧c0 i e∧b6 G w u U [] q r.heap e ({r with toks:=V}:cx).heap∧dM r {r with toks:=V}:=⟨dJ,q,rfl,g,b6.refl m,⟨rfl,rfl⟩⟩
theorem HE(j:cP L b8 T)(Z:isNone T=ab dJ):(b8 == .none)=dJ:=by
 cases j with
 | none=>exact c4 Z
 | val b8=>exact c4 Z
 | _=>exact c4 Z
open PySem.SeqAt in
theorem Rw(f i:Array UInt8)(V A:j8)(X:f.toList=i.toList):EqAt Y r (.bytes f V) (.bytes i A) true:=fun G w O n S=>by
 refine fz ?_
 refine Ea (fun F=>bt (oh (ct S))) (fun F=>?_)
 have d:cu (bD G w) Y (qM .Eq (.bytes f V) (.bytes i A)) (fun M a=>cu (bD G w) Y (truthOfDropped M) n O a) O r:=
  PySem.W.eq_bytes (by rw [X,beq_self_eq_true];exact sR S)
 exact bt d
theorem Kq: ∀ {S s:List UInt8},S.map gs=s.map gs→S=s
 | [],[],_=>rfl
 | a::S,b::s,e=>by
  simp only [gq,aaG] at e
  rw [NF.mp e.1,Kq e.2]
open PySem.SeqAt in
theorem Bc(S: ∀d e,xK d e→ ∀M X,cP L M d→cP L X e→EqAt Y r M X true):
 ∀ {y:List D} {Q v:List b7},oi xK n y→c7 L Q n→c7 L v y→ ∀(E:Nat) (W:E < Q.length) (K:E < v.length),EqAt Y r Q[E] v[E] true:=by
 induction n with
 | nil=>intro y Q v _ I _ E W;rw [I.length] at W;exact absurd W (sk _)
 | cons a n o=>
  intro y Q v k I C E W K
  cases y with
  | nil=>exact k.elim
  | cons b y=>
   obtain⟨M,Q,c,j⟩:=I.bK
   obtain⟨X,v,B,Z⟩:=C.bK
   induction E with
   | zero=>exact S _ _ k.1 _ _ c B
   | succ E=>exact o k.2 j Z E (C7 W) (C7 K)
open PySem.SeqAt in
theorem ru {d:D}(k:Jb d d)(t:cP L b8 d)(z:cP L fN d):EqAt Y r b8 fN true:=by
 cases d with
 | none=>rw [show b8= .none from t.inv,show fN= .none from z.inv];exact EqAt.same _
 | bool f=>rw [show b8= .bool f from t.inv,show fN= .bool f from z.inv];exact EqAt.same _
 | int i=>
  refine t.az fun V=>z.az fun fN=>?_
  have:=(abg i i V fN).at Y r
  rwa [beq_self_eq_true] at this
 | str S=>
  refine t.aG fun V=>z.aG fun fN=>?_
  have:=(eqGives_str S S V fN).at Y r
  rwa [beq_self_eq_true] at this
 | bytes S=>
  refine(lC t).rec fun f V H=>?_
  refine(lC z).rec fun A fN b=>?_
  exact Rw _ _ _ _ (Kq (H.trans b.symm))
 | tup=>exact k.elim
 | val=>exact k.elim
open PySem.SeqAt in
theorem hD.bq(G: ∀R N,q R=ab (.list N)→zp L R N):
 ∀ {A:Nat} {T Z:D},hD q A T Z→ ∀ {r:j7} {U:cx} {M X:b7},U.heap=L→r.units+A < vh→cP L M T→cP L X Z→EqAt r U M X true:=by
 intro A
 induction A with
 | zero=>
  intro T Z k r U M X _ _ t z
  have:T=Z:=by cases T<;>first | exact k | exact k.elim
  subst this
  exact ru k t z
 | succ A o=>
  intro T Z k r U M X y O t z
  have i: ∀T Z,hD q A T Z→ ∀M X,cP L M T→cP L X Z→EqAt r.in1 U M X true:=fun T Z k M X t z=>o k y (by rw [uX];lia) t z
  cases T with
  | tup N=>
   obtain⟨V,rfl,k⟩:=k
   refine t.ar.rec fun R Q s I=>?_
   refine z.ar.rec fun f v H C=>?_
   have h:Q.length=v.length:=by rw [I.length,C.length,k.length]
   by_cases B:R=f
   ·refine B▸?_;exact EqAt.same _
   ·refine EqAt.of_refs B ?_
    subst y
    have:=RcAt.tuples (A:=r) (e:=fun F=>true) s H (by(exact qn O)) fun E W K=>Bc i k I C E (W) (K)
    rwa [show((f5 (min Q.toArray.size v.toArray.size)).all (fun F=>true) && Q.toArray.size == v.toArray.size)=true from by simp [h]] at this
  | val c=>
   obtain⟨R,f,N,V,rfl,rfl,J,n,k⟩:=k
   rw [t.val_inv,z.val_inv]
   obtain⟨Q,Y,b,S,I⟩:=G _ _ J
   obtain⟨v,l,a,P,C⟩:=G _ _ n
   have h:Q.length=v.length:=by rw [I.length,C.length,k.length]
   by_cases B:R=f
   ·refine B▸?_;exact EqAt.same _
   ·refine EqAt.of_refs B ?_
    subst y
    have:=RcAt.lists (A:=r) (e:=fun F=>true) (items:=Q.toArray) (items2:=v.toArray) ⟨_,S,rfl,Y,rfl⟩ ⟨_,P,rfl,l,rfl⟩ (h) (by(exact qn O)) fun E W K=>Bc i k I C E (W) (K)
    rwa [show(f5 Q.toArray.size).all (fun F=>true)=true from by simp] at this
  | none=>cases (show D.none=Z from k);exact ru (d:= .none) rfl t z
  | bool f=>cases (show D.bool f=Z from k);exact ru (d:= .bool f) rfl t z
  | int f=>cases (show D.int f=Z from k);exact ru (d:= .int f) rfl t z
  | str f=>cases (show D.str f=Z from k);exact ru (d:= .str f) rfl t z
  | bytes f=>cases (show D.bytes f=Z from k);exact ru (d:= .bytes f) rfl t z
open PySem.SeqAt in
theorem g8.bq(H: ∀a l,q a=ab (.list l)→zp L a l)
 (k:g8 q A n y)(B:r.heap=L)(O:Y.units+A < vh)(I:c7 L cw n)(C:c7 L uD y): ∀(E:Nat) (W:E < cw.length) (K:E < uD.length),EqAt Y r cw[E] uD[E] true:=
 Bc (fun F F k F F t z=>hD.bq H k B O t z) k I C
theorem fb.room(p:fb A Y U)(v:0 < A):Y.units+900 < vh:=by
 exact(show Y.units+900 < 9900 from Nat.add_lt_add_right (kD (j6 ..) (p.here v).2.2) 900)
theorem Iz(X:AQ fZ dp):fZ= .In∧dp:=by
 induction fZ with
 | In=>exact⟨rfl,X⟩
 | _=>exact X.elim
theorem IB(X:AR fZ dp):fZ= .NotEq∧dp:=by
 induction fZ with
 | NotEq=>exact⟨rfl,X⟩
 | _=>exact X.elim
theorem Sv {k:PySem.Str}(X:tr fZ k z q rW): ∃s,q z=ab (.dict s)∧HN fZ (s.any fun c=>c.1 == k) rW:=by
 unfold tr at X
 induction P:q z with
 | none=>rw [P] at X;exact X.elim
 | some o=>
  rw [P] at X
  induction o with
  | dict s=>exact⟨s,rfl,X⟩
  | _=>exact X.elim
theorem Sw {k:Int}(X:tu k z q rW): ∃N K,q z=ab (.list N)∧jn N=ab K∧rW (K.any fun s=>s == k):=by
 unfold tu at X
 induction P:q z with
 | none=>rw [P] at X;exact X.elim
 | some o=>
  rw [P] at X
  induction o with
  | list N=>
   dsimp only at X
   induction d:jn N with
   | none=>rw [d] at X;exact X.elim
   | some K=>rw [d] at X;exact⟨N,K,rfl,d,X⟩
  | _=>exact X.elim
theorem Sx(X:rr z E q rW): ∃N V,q z=ab (.list N)∧q E=ab (.list V)∧(V= []∧rW (!N.isEmpty)∨g8 q 20 N V∧rW false):=by
 unfold rr at X
 induction p:q z with
 | none=>rw [p] at X;exact X.elim
 | some o=>
  rw [p] at X
  induction o with
  | list N=>
   induction P:q E with
   | none=>rw [P] at X;exact X.elim
   | some o=>
    rw [P] at X
    induction o with
    | list V=>induction V with
     | nil=>exact⟨N,[],rfl,rfl,.inl ⟨rfl,X⟩⟩
     | cons=>exact⟨N,_,rfl,rfl,.inr X⟩
    | _=>exact X.elim
  | _=>exact X.elim
abbrev pw (G:d7) (w:di) (u:cO) (q:List a0) (B:J) (U:cx) (x:KB):b7→cx→Prop:=fun j a=> ∃i e,j= .bool i∧x i e∧b6 G w u q [] B U.heap e a.heap∧dM U a
theorem PN(m:St G w u U q r.heap)(g:HM fZ B bk fun c=>c0 c q):
 cu (bD G w) Y (qM fZ (.int B d4) (.int bk gJ)) (pw G w u U q r c0) (cG G w u U q r x) r:=by
 have C: ∀ {bk:Bool},c0 bk q→pw G w u U q r c0 (.bool bk) r:=fun X=>kY (A:=Y) m X r.toks
 induction fZ with
 | Eq=>exact aaK (C g)
 | NotEq=>exact aaY (C g)
 | Lt=>exact aaW (C g)
 | LtE=>exact aaT (C g)
 | Gt=>exact aaP (C g)
 | GtE=>exact aaN (C g)
 | _=>exact g.elim
theorem PQ(m:St G w u U q r.heap)(t:cP r.heap b8 T)(g:HO fZ T fun c=>c0 c q):
 cu (bD G w) Y (qM fZ b8 .none) (pw G w u U q r c0) (cG G w u U q r x) r:=by
 have B: ∀ {f:Bool},c0 f q→pw G w u U q r c0 (.bool f) r:=fun X=>kY (A:=Y) m X r.toks
 induction fZ with
 | Is=>
  change (match isNone T with | some f=>c0 f q | none=>False) at g
  induction e:isNone T with
  | none=>rw [e] at g;exact g.elim
  | some f=>rw [e] at g;exact is_none (by rw [HE t e];exact B g)
 | IsNot=>
  change (match isNone T with | some f=>c0 (!f) q | none=>False) at g
  cases e:isNone T with
  | none=>rw [e] at g;exact g.elim
  | some f=>rw [e] at g;exact isNot_none (by rw [HE t e];exact B g)
 | NotEq=>cases T with
  | none=>rw [show b8= .none from t.inv];exact PySem.SeqAt.RcNeAt.none_none _ _ _ _ (B g)
  | _=>exact g.elim
 | _=>exact g.elim
theorem PO(v:0 < A)(p:fb A Y U)(m:St G w u U q r.heap)(g:rr z E q fun c=>c0 c q):
 cu (bD G w) Y (qM .NotEq (.ref z) (.ref E)) (pw G w u U q r c0) (cG G w u U q r x) r:=by
 have O:=p.room v
 refine j0 (Sx g) fun N V L J g=>?_
 obtain⟨Q,B,b,S,I⟩:=m.mem _ _ L
 obtain⟨H,l,a,P,C⟩:=m.mem _ _ J
 rcases g with ⟨rfl,g⟩ | ⟨X,g⟩
 ·cases C
  induction N with
  | nil=>
   cases I
   exact PySem.SeqAt.RcNeAt.lists (A:=Y) (s:=r) (e:=fun F=>true) (items:=([]:List b7).toArray) (items2:=([]:List b7).toArray) ⟨_,S,rfl,B,rfl⟩ ⟨_,P,rfl,l,rfl⟩ rfl (by(exact qn O)) (fun D W F=>absurd W (sk _)) _ _ _ _ (kY (A:=Y) m g r.toks)
  | cons d j=>
   exact PySem.SeqAt.RcNeAt.lists_lengths (A:=Y) (s:=r) (items:=Q.toArray) (items2:=([]:List b7).toArray) ⟨_,S,rfl,B,rfl⟩ ⟨_,P,rfl,l,rfl⟩ (by rw [hq,I.length];rfl) (by(exact qn O)) _ _ _ _ (kY (A:=Y) m g r.toks)
 ·have h:Q.length=H.length:=by rw [I.length,C.length,X.length]
  have:=PySem.SeqAt.RcNeAt.lists (A:=Y) (s:=r) (e:=fun F=>true) (items:=Q.toArray) (items2:=H.toArray) ⟨_,S,rfl,B,rfl⟩ ⟨_,P,rfl,l,rfl⟩ (h) (by(exact qn O))
   fun D W K=>g8.bq (fun R N Z=>m.mem R _ Z) X rfl (by rw [uX];omega) I C D (W) (K)
  rw [show(!(f5 Q.toArray.size).all (fun F=>true))=false from by simp] at this
  exact this _ _ _ _ (kY (A:=Y) m g r.toks)
theorem PR(v:0 < A)(p:fb A Y U)(m:St G w u U q r.heap)(t:cP r.heap b8 (.tup n))(z:cP r.heap fN (.tup y))(g:g8 q 20 n y∧c0 false q):
 cu (bD G w) Y (qM .NotEq b8 fN) (pw G w u U q r c0) (cG G w u U q r x) r:=by
 have O:=p.room v
 refine t.ar.rec fun R Q s I=>?_
 refine z.ar.rec fun f B H C=>?_
 have h:Q.length=B.length:=by rw [I.length,C.length,g.1.length]
 have:=PySem.SeqAt.RcNeAt.tuples (A:=Y) (e:=fun F=>true) s H (by(exact qn O))
  fun E W K=>g8.bq (fun R N Z=>m.mem R _ Z) g.1 rfl (by rw [uX];omega) I C E (W) (K)
 rw [show(!((f5 (min Q.toArray.size B.toArray.size)).all (fun F=>true) && Q.toArray.size == B.toArray.size))=false from by simp [h]] at this
 exact this _ _ _ _ (kY (A:=Y) m g.2 r.toks)
theorem PS(y:jC u)(v:0 < A)(p:fb A Y U)(m:St G w u U q r.heap)(B:cP r.heap b8 T)(g:HP fZ T fN q fun c=>c0 c q):
 cu (bD G w) Y (qM fZ b8 fN) (pw G w u U q r c0) (cG G w u U q r x) r:=by
 induction fN with
 | ref d=>cases T with
  | str k=>
   refine dg (Sv g) fun s Z g=>?_
   obtain⟨Q,hd,t⟩:=m.mem _ _ Z
   refine B.aG fun V=>?_
   induction fZ with
   | In=>exact wpAny_in_of (nr _ _) (rE y m Z) hd.mapOf (by rw [BS t];exact kY (A:=Y) m g _)
   | NotIn=>exact wpAny_notIn_of (nr _ _) (rE y m Z) hd.mapOf (by rw [BS t];exact kY (A:=Y) m g _)
   | _=>exact g.elim
  | int k=>
   obtain⟨rfl,W⟩:=Iz g
   refine j0 (Sw W) fun N E Z J K=>?_
   obtain⟨Q,k,X,D,I⟩:=m.mem _ _ Z
   exact B.az fun V=>aaR ⟨_,D,rfl,k,rfl⟩ (HB I J) (kY (A:=Y) m K r.toks)
  | val c=>induction c with
   | ref c=>
    obtain⟨C,W⟩:=IB g
    refine C▸?_
    refine B.val_inv▸?_
    exact PO v p m W
   | _=>exact g.elim
  | _=>exact g.elim
 | _=>exact g.elim
theorem Bj(y:jC u)(v:0 < A)(K:jO):zF G w u A (qM K) (f7 K):=by
 intro r q U B x O M X R f p m t z g
 cases f with
 | none=>cases z;exact PQ m t g
 | int f=>cases R with
  | int R=>exact t.az fun V=>z.az fun X=>PN m g
  | _=>exact g.elim
 | str f=>cases R with
  | str R=>
   refine t.aG fun V=>z.aG fun X=>?_
   induction K with
   | Eq=>exact aaL (kY (A:=r) m g U.toks)
   | NotEq=>exact aaZ (kY (A:=r) m g U.toks)
   | _=>exact g.elim
  | _=>exact g.elim
 | tup l=>cases R with
  | str k=>
   obtain⟨rfl,W⟩:=Iz g
   refine z.ar.rec fun P Q s I=>?_
   induction e:strs? l with
   | none=>rw [e] at W;exact W.elim
   | some C=>rw [e] at W;exact t.aG fun V=>aaS s (by simpa using Yu I e) (kY (A:=r) m W U.toks)
  | tup R=>
   obtain⟨rfl,W⟩:=IB g
   exact PR v p m t z W
  | _=>exact g.elim
 | val D=>refine z.val_inv▸?_;exact PS y v p m t g
 | _=>exact g.elim
end
end
section
noncomputable def BW (K:jO) (a P:W):W:=fun Y B x O=>(fun F:Nat=>a Y B (fun R n=>P Y n (fun f v=>f7 K R f v (fun i=>x (.bool i)) O) O) O) eE
noncomputable def mV (K:jO) (a P:W):gC:=fun Y B x O=>(fun F:Nat=>a Y B (fun R n=>P Y n (fun f v=>f7 K R f v x O) O) O) eE
noncomputable def zO (S:W):gC:=fun Y B x O=>(fun F:Nat=>S Y B (fun T n=>match T with
 | .bool b=>x b n
 | _=>False) O) eE
noncomputable def B3 (S s:W):W:=fun Y B x O=>(fun F:Nat=>S Y B (fun T n=>match T with
 | .bool true=>x (.bool true) n
 | .bool false=>s Y n x O
 | _=>False) O) eE
section
theorem zF.ae {k}(X:zF G w u A CI k) {s:cx} {K:KB} {E:KK}
 (p:fb A Y U)(m:St G w u U q s.heap)(t:cP s.heap b8 T)(z:cP s.heap fN fg)(g:k T fg q K E)(N:b6 G w u U [] M r.heap q s.heap)(b:dM r s):
 cu (bD G w) Y (CI b8 fN) (fun j a=> ∃i e,j= .bool i∧K i e∧b6 G w u U [] M r.heap e a.heap∧dM r a) (cG G w u U M r E) s:=
 ea (X Y U s q K E b8 fN T fg p m t z g) (fun F F P=>jK P fun i e Z k f B=>⟨i,e,Z,k,N.trans f,b.trans B⟩) fun F F c=>cG.mono N b c
theorem Xg(y:jC u)(v:0 < A)(h:c5 G w u A H I (cy cz H) cI)(t:c5 G w u A H I (cy eu H) gK)(V:sz fZ eu=false):
 c5 G w u A H I (cy (.Compare cz [fZ] [eu] cD) H) (BW fZ cI gK):=by
 intro r q U Y B x O p m l z
 refine wpAny_Compare1 (h.ae p m l z (fun M T n E R f C g D L=>?_) fun F F c=>c) V
 refine t.ae p D L R (fun X Z K J S d s Q j o=>?_) fun F F c=>cG.mono C g c
 exact ea ((Bj y v fZ).ae p j (s.rv D f) d S (C.trans s) (g.trans Q)) (fun F F P=>jK P fun i e Z k N b=>⟨.bool i,e,k,Z▸ .bool i,N,b⟩) fun F F c=>c
theorem Jr(y:jC u)(v:0 < A) {N j:cT} {K:jO} {D:e5} {ap:ej b7} {a al:W}(h:c5 G w u A H I (cy N H) a)(t:c5 G w u A H I (cy j H) al)(V:sz K j=false):
 iR G w u A H I (isTrue (.Compare N [K] [j] D) H ap) (mV K a al):=by
 intro r q U Y B x O p m l z
 refine wpAny_isTrue_Compare1 (h.ae p m l z (fun M T n E R f C g ac L=>?_) fun F F c=>c) V
 refine t.ae p ac L R (fun X Z bb J S d s Q an o=>?_) fun F F c=>cG.mono C g c
 refine ea ((Bj y v K).ae p an (s.rv ac f) d S (C.trans s) (g.trans Q)) (fun F F P=>jK P fun i e Z k am b=>?_) fun F F c=>c
 refine Z▸?_
 exact sR ⟨e,k,am,b⟩
theorem WJ(X:c5 G w u A H I jb cI)(a:isTrue cz H jb=(do let M←jb;oa cz.pos;mL [M] (truthy M))):iR G w u A H I (isTrue cz H jb) (zO cI):=by
 intro r q U Y B x O p m l z
 refine wpAny_isTrue_value (X.ae p m l z (fun M T n E R f C g e L=>?_) fun F F c=>c) a
 cases T with
 | bool b=>cases f;exact sR ⟨n,R,C,g⟩
 | _=>exact False.elim R
theorem Xp(i:c5 G w u A H I (cy cz H) cI)(D:c5 G w u A H I (cy eu H) gK):c5 G w u A H I (cy (.BoolOp .Or [cz,eu] cD) H) (B3 cI gK):=by
 intro r q U Y B x O p m l z
 refine wpAny_Or2 (i.ae p m l z (fun M T n E R f C g e L=>?_) fun F F c=>c)
 cases T with
 | bool b=>
  cases f
  cases b with
  | true=>exact sR ⟨_,n,R,.bool true,C,g⟩
  | false=>exact sR (ea (D r q E Y n x O p e L R) (fun F F c=>ei.mono C g c) fun F F c=>cG.mono C g c)
 | _=>exact False.elim R
end
end
section
noncomputable def cL (s:List (PySem.Str×D)) (k:PySem.Str):Option D:=(s.find? fun c=>c.1 == k).map (·.2)
noncomputable def i9 (S:PySem.Str) (i:Int):PySem.Str:=⟨((qu (ab i) ao 1 S.length).filterMap (S.cps[·]?)).toArray⟩
noncomputable def fL:Option dE→Option (List D)
 | some (.list l)=>ab l
 | some (.aJ l)=>ab l
 | _=>ao
def rH (N:List D) (k:Int) (L:D→Prop):Prop:=match k with
 | .ofNat m=>if m < 1000000 then (match N[m]? with
  | some d=>L d
  | none=>False) else False
 | _=>False
def q8 (s:List (PySem.Str×D)) (k:PySem.Str) (L:D→Prop):Prop:=match cL s k with
 | some d=>L d
 | none=>False
def rg (o:dE) (L:List (PySem.Str×D)→Prop):Prop:=match o with
 | .dict s=>L s
 | _=>False
def ry (o:dE) (L:List D→Prop):Prop:=match fL (ab o) with
 | some l=>L l
 | none=>False
def jE (R f:D) (B:J) (x:KK) (_:KK):Prop:=match f with
 | .int k=>match R with
  | .tup N=>rH N k fun T=>x T B
  | .str S=>(0≤k∧k < 1000000)∧ ∃i,S.cps[k.toNat]? =ab i∧x (.str ⟨#[i]⟩) B
  | .bytes N=>(0≤k∧k < N.length∧N.length≤1000000)∧x (.int (N.getD k.toNat 0:Nat)) B
  | .val v=>eY B v fun o=>ry o fun N=>rH N k fun T=>x T B
  | _=>False
 | .str k=>match R with
  | .val v=>eY B v fun o=>rg o fun s=>q8 s k fun T=>x T B
  | _=>False
 | _=>False
theorem IJ {k:Int}(X:rH n k lV): ∃(y:Nat) (T:D),k=(y:Int)∧y < 1000000∧n[y]? =ab T∧lV T:=by
 induction k with
 | negSucc=>exact X.elim
 | ofNat y=>
  change (if y < 1000000 then (match n[y]? with | some T=>lV T | none=>False) else False) at X
  by_cases P:y < 1000000
  ·rw [if_pos P] at X
   induction e:n[y]? with
   | none=>rw [e] at X;exact X.elim
   | some T=>rw [e] at X;exact⟨y,T,rfl,P,e,X⟩
  ·rw [if_neg P] at X;exact X.elim
theorem IK {k:Int}(J:0≤k)(W:k < 1000000)(Z:n[k.toNat]? =ab T)(c:lV T):rH n k lV:=by
 induction k with
 | negSucc=>exact absurd J (by(exact Ef.mp rfl))
 | ofNat m=>
  change (if m < 1000000 then (match n[m]? with | some T=>lV T | none=>False) else False)
  rw [if_pos (by have:(m:Int) < 1000000:=W;lia),show n[m]? =ab T from Z]
  exact c
theorem Oy {k:PySem.Str}(X:q8 s k lV): ∃T,cL s k=ab T∧lV T:=by
 unfold q8 at X
 induction e:cL s k with
 | none=>rw [e] at X;exact X.elim
 | some T=>rw [e] at X;exact⟨T,rfl,X⟩
theorem Ab {o:dE}(X:rg o uz): ∃s,o= .dict s∧uz s:=by
 induction o with
 | dict s=>exact⟨s,rfl,X⟩
 | _=>exact X.elim
theorem Tw {o:dE}(X:ry o Cu): ∃N,fL (ab o)=ab N∧Cu N:=by
 unfold ry at X
 induction e:fL (ab o) with
 | none=>rw [e] at X;exact X.elim
 | some N=>rw [e] at X;exact⟨N,rfl,X⟩
section
theorem b6.ext(m:St G w u U q L)(k: ∀f o,L.get? f=ab o→cm.get? f=ab o):b6 G w u U en q L q cm:=by
 have x:dy L cm:=fun f t ⟨o,D,j⟩=>⟨o,k f o D,j⟩
 refine⟨⟨fun f o Z=>k f o (m.top f o Z),fun R o Z=>?_,m.out,fun g c=>?_⟩,fun f o Z F F=>⟨fun F=>k f o Z,o.slots,k f o Z⟩,fun R o Z=> .inl (by refine Z▸?_;exact fun S=>nomatch S),fun f o Z=>⟨o,k f o Z⟩⟩
 ·refine((m.mem R o Z).there).elim fun a H=>?_
  exact(m.mem R o Z).mono x ((k R a H).trans H.symm) fun y e B F W K=>⟨e,B,k y e W,K,fun S i=>⟨S,i⟩⟩
 ·obtain⟨Y,l,o,T,A,D,hd⟩:=m.aH g c
  exact⟨Y,l,o,T,A,k g o D,hd⟩
inductive cE {K A:Type} (f:A→b7) (h:cO):List (K×A)→List (K×D)→Prop
 | nil:cE f h [] []
 | cons {k v d vs kvs} (x:cP h (f v) d) (r:cE f h vs kvs):cE f h ((k,v)::vs) ((k,d)::kvs)
theorem cE.of {f:ip→b7} {Q:List (c2×ip)} {s:List (c2×D)}(Z:Q.map (·.1)=s.map (·.1))(P:c7 L (Q.map fun S=>f S.2) (s.map (·.2))):cE f L Q s:=by
 induction Q generalizing s with
 | nil=>induction s with
  | nil=>exact .nil
  | cons=>contradiction
 | cons a l o=>induction s with
  | nil=>contradiction
  | cons b V=>
   obtain⟨k,M⟩:=a
   obtain⟨r,T⟩:=b
   refine(sb Z).elim fun R J=>?_
   obtain rfl:k=r:=R
   have ⟨S,j⟩:=P.inv
   exact .cons S (o J j)
theorem cE.keys {t:ip→b7} {Q:List (c2×ip)} {s:List (c2×D)}(j:cE t L Q s):Q.map (·.1)=s.map (·.1):=by
 induction j with
 | nil=>rfl
 | cons S j o=>exact congrArg (_:: ·) o
theorem cE.vals {t:ip→b7} {Q:List (c2×ip)} {s:List (c2×D)}(j:cE t L Q s):c7 L (Q.map fun S=>t S.2) (s.map (·.2)):=by
 induction j with
 | nil=>exact .nil
 | cons S j o=>exact .cons S o
theorem cE.get [DecidableEq c2] [BEq c2] [LawfulBEq c2] {t:ip→b7} {Q:List (c2×ip)} {s:List (c2×D)}(j:cE t L Q s) {k:c2}(Z:(s.find? fun p=>p.1 == k).map (·.2)=ab T): ∃M,(Q.find? fun S=>decide (S.1=k)).map (·.2)=ab M∧cP L (t M) T:=by
 induction j with
 | nil=>contradiction
 | @cons r M Y Q s S j o=>
  rw [mE] at Z ⊢
  by_cases d:r=k
  ·rw [beq_iff_eq.mpr d] at Z
   rw [decide_eq_true d]
   exact c4 Z▸⟨M,rfl,S⟩
  ·rw [beq_eq_false_iff_ne.mpr d] at Z
   rw [decide_eq_false d]
   exact o Z
theorem cE.no [DecidableEq c2] [BEq c2] [LawfulBEq c2] {t:ip→b7} {Q:List (c2×ip)} {s:List (c2×D)}(j:cE t L Q s) {k:c2}(Z:(s.find? fun p=>p.1 == k).map (·.2)=ao):(Q.find? fun S=>decide (S.1=k)).map (·.2)=ao:=by
 induction j with
 | nil=>rfl
 | @cons r v Y Q s S j o=>
  rw [mE] at Z ⊢
  by_cases d:r=k
  ·rw [beq_iff_eq.mpr d] at Z;contradiction
  ·rw [beq_eq_false_iff_ne.mpr d] at Z
   refine(decide_eq_false d)▸?_
   exact o Z
theorem cE.put [DecidableEq c2] [BEq c2] [LawfulBEq c2] {t:ip→b7} {Q:List (c2×ip)} {A:List (c2×D)}(j:cE t L Q A) {k:c2} {g:ip→ip}(S: ∀a,cP L (t (g a)) T):cE t L (Q.map fun S=>if S.1=k then (S.1,g S.2) else S) (A.map fun c=>if c.1 == k then (c.1,T) else c):=by
 induction j with
 | nil=>exact .nil
 | @cons r v Y Q A s j o=>
  rw [gq,gq]
  by_cases d:r=k
  ·rw [if_pos d,if_pos (beq_iff_eq.mpr d)]
   exact .cons (S _) o
  ·rw [if_neg d,if_neg (fun s=>d (beq_iff_eq.mp s))]
   exact .cons s o
theorem jA.find(j:jA L fS s) {k:PySem.Str}(Z:cL s k=ab T): ∃M,pq fS k=ab M∧cP L M T:=
 (cE.of (f:=fun M=>M) j.keys j.vals).get Z
theorem Jf {k:Int}(J:0≤k)(W:k < A):seqIndex? k A=ab k.toNat:=by
 unfold seqIndex?
 rw [if_neg (je.mpr J)]
 exact if_pos (by rw [decide_eq_true J,decide_eq_true W];rfl)
theorem St.lst(m:St G w u U q L)(Z:fL (q z)=ab n):FK L z n:=by
 induction P:q z with
 | none=>rw [P] at Z;exact lK Z
 | some o=>
  rw [P] at Z
  cases o with
  | list V=>
   obtain rfl:=c4 Z
   obtain⟨Q,A,X,W,K⟩:=m.mem _ _ P
   exact⟨Q,⟨_,W,rfl,A,rfl⟩,K⟩
  | aJ V=>obtain rfl:=c4 Z;exact m.mem _ _ P
  | _=>exact lK Z
theorem xg {k:Int}(X:k < 1000000):k < 2 ^ 63:=jd X (by decide)
theorem Se(E: ∀o i,qT eu false o i=pg [o,i] (mK o i)) {k:Int}
 (m:St G w u U q r.heap)(t:cP r.heap b8 (.tup n))(g:rH n k fun T=>x T q):cu (bD G w) Y (yv cz eu b8 (.int k d4)) (ei G w u U q r x) (cG G w u U q r bx) r:=by
 refine t.ar.rec fun P Q s I=>?_
 refine jK (IJ g) fun y T A W K C=>?_;subst A
 refine dg (I.get K) fun S B e=>?_
 have D:y < Q.length:=(yd.mp B).1
 exact sm s.typeIs Me.lookup (getItem_tuple s (by(exact fy _)) (xg (gp.mpr W)) (j:=y) (Jf (fy _) (by simpa using D)) (by simpa using B) ⟨T,q,C,e,b6.refl m,dM.refl r⟩) (E _ _)
theorem Hv(D: ∀o i,qT eu false o i=pg [o,i] (mK o i)) {o:dE}
 (m:St G w u U q r.heap)(Z:q z=ab o)(E:cP r.heap b8 T)(g:match T with
  | .int k=>ry o fun N=>rH N k fun B=>x B q
  | .str k=>rg o fun s=>q8 s k fun B=>x B q
  | _=>False):cu (bD G w) Y (yv cz eu (.ref z) b8) (ei G w u U q r x) (cG G w u U q r bx) r:=by
 cases T with
 | int k=>
  obtain⟨N,P,g⟩:=Tw g
  refine jK (IJ g) fun y B A W K C=>?_;subst A
  obtain⟨Q,h,I⟩:=m.lst (Z.symm▸P:fL (q z)=ab N)
  refine dg (I.get K) fun S n e=>?_
  exact E.az fun V=>sm h.typeIs D6.lookup (Nn h (fy _) (xg (gp.mpr W)) (by simpa using n) ⟨B,q,C,e,b6.refl m,dM.refl r⟩) (D _ _)
 | str k=>
  obtain⟨s,rfl,g⟩:=Ab g
  obtain⟨B,W,K⟩:=Oy g
  obtain⟨Q,hd,t⟩:=m.mem _ _ Z
  obtain⟨S,n,e⟩:=t.find W
  exact E.aG fun V=>sm hd.mapOf.typeIs slot_dict_getitem.lookup (wpAny_getItem_of (nr _ _) hd.mapOf n ⟨B,q,K,e,b6.refl m,⟨rfl,rfl⟩⟩) (D _ _)
 | _=>exact g.elim
theorem XE(y: ∀o i,qT eu false o i=pg [o,i] (mK o i)):sZ G w u A (yv cz eu) jE:=by
 intro r q U B x O M X R f p m t z g
 cases f with
 | int k=>cases R with
  | tup l=>exact z.az fun V=>Se y m t g
  | str S=>
   refine t.aG fun V=>z.az fun d=>?_
   obtain⟨⟨J,W⟩,D,K,C⟩:=g
   have Q:k.toNat < S.length:=(Array.getElem?_eq_some_iff.mp K).1
   exact sm (typeIs_str _ _ _) F.slot_str_getitem.lookup (aaO (c:=D) (by have:=xg W;simp;lia) (by refine(Jf J (by(exact(uL J).mp Q)))▸?_;exact K) ⟨_,B,C,.str _ _,b6.refl m,⟨rfl,rfl⟩⟩) (y _ _)
  | bytes=>
   refine(lC t).rec fun S V v=>?_
   subst v
   refine z.az fun d=>?_
   obtain⟨⟨J,W,K⟩,C⟩:=g
   rw [dP] at W K
   refine sm (sy _ _ _) PySem.W.FB.slot_bytes_getitem.lookup (PySem.W.getItem_bytes (by(exact cg (by assumption) (b9 rfl))) J W ⟨_,B,C,?_,b6.refl m,⟨rfl,rfl⟩⟩) (y _ _)
   rw [show(S.map gs).getD k.toNat 0=(S.getD k.toNat 0).toNat from by simp [LB];cases S[k.toNat]? <;>rfl]
   exact .int _ _
  | val N=>
   rw [t.val_inv]
   replace g:=jV g
   refine g.rec fun D o Z g=>?_
   exact Hv y m Z z g
  | _=>exact g.elim
 | str k=>cases R with
  | val N=>
   rw [t.val_inv]
   replace g:=jV g
   obtain⟨D,o,Z,g⟩:=g
   exact Hv y m Z z g
  | _=>exact g.elim
 | _=>exact g.elim
noncomputable def uc:=xx jE
theorem Xj(i:c5 G w u A H I (cy cz H) cI)(K:c5 G w u A H I (cy eu H) gK)
 (y: ∀o P,qT eu false o P=pg [o,P] (mK o P)):c5 G w u A H I (cy (.Subscript cz eu cD) H) (uc cI gK):=by
 intro r q U Y B x O p m l z
 refine Subscript_ (i.ae p m l z (fun M T n E R f C g e L=>?_) fun F F c=>c)
 exact K.ae p e L R (fun X Z v J S d s Q j D=>(XE y).ae p j (s.rv e f) d S (C.trans s) (g.trans Q)) fun F F c=>cG.mono C g c
def tv (i:Nat):D→J→KK→KK→Prop
 | .tup l,B,K,_=>(1≤i∧i≤l.length∧l.length≤1000000)∧K (.tup (l.drop i)) B
 | _,_,_,_=>False
def m4 (i:Nat):D→J→KK→KK→Prop
 | .str S,B,K,_=>((qu (ab (i:Int)) ao 1 S.length).length≠S.length∧(i9 S i).length≤1000000)∧K (.str (i9 S i)) B
 | _,_,_,_=>False
theorem c7.drop {c:Nat}(j:c7 L cw n):c7 L (cw.drop c) (n.drop c):=by
 induction c generalizing cw n with
 | zero=>exact j
 | succ c o=>cases j with
  | nil=>exact .nil
  | cons _ j=>exact o j
theorem c7.take {c:Nat}(j:c7 L cw n):c7 L (cw.take c) (n.take c):=by
 induction c generalizing cw n with
 | zero=>exact .nil
 | succ c o=>cases j with
  | nil=>exact .nil
  | cons S j=>exact .cons S (o j)
theorem Xr {k R d D}(i:c5 G w u A H I (cy cz H) cI)
 (a: ∀o j,DW cz o j=pure ()):
 c5 G w u A H I (cy (.Subscript cz (.Slice (ab (.Constant (.int (C:Int)) k d)) ao ao R) D) H) (kv (tv C) cI):=by
 intro r q U Y B x O p m X z
 refine Nh (T:= "tuple") Me.lookup (i.ae p m X z (fun M h n E g j N b e L=>?_) fun F F R=>R) a
 cases h with
 | tup l=>?_
 | _=>exact False.elim g
 ·refine j.ar.rec fun P Q S V=>?_
  obtain⟨⟨J,W,t⟩,v⟩:=g
  refine vo ?_
  simp only [yY,yX]
  refine y8 (ct (ct ⟨(S.push _).typeIs,?_⟩))
  have Z:=V.length
  refine getItem_tuple_from (S.push _) (yD ..) J (by rw [hq,Z];exact W) ?_ (by rw [hq,Z];exact cg t iF)
  have f:=b6.push (en:= []) e {cls:= .type "slice",data:= .fields #[.int C E.toks,.none,.none]}
  have:=wR (s:= {E with heap:=E.heap.push {cls:= .type "slice",data:= .fields #[.int C E.toks,.none,.none]},toks:=E.toks+1}) (K:=x) f.st ((V.drop (c:=C)).mono (oL _)) v (E.toks+1)
  exact ei.mono (s':= {E with heap:=E.heap.push {cls:= .type "slice",data:= .fields #[.int C E.toks,.none,.none]},toks:=E.toks+1}) (N.trans f) ⟨b.gens,b.os⟩ this
def tx (i:Nat) (R:D) (B:J) (x A:KK):Prop:=match R with
 | .val v=>eY B v fun o=>nd o fun N=>N.length≤1000000∧ ∀d,B d=ao→x (.val (.ref d)) (B.set d (.list (N.take i)))
 | _=>False
theorem Xq {k J d W}(i:c5 G w u A H I (cy cz H) cI)
 (a: ∀o j,DW cz o j=pure ()):
 c5 G w u A H I (cy (.Subscript cz (.Slice ao (ab (.Constant (.int (C:Int)) k d)) ao J) W) H) (kv (tx C) cI):=by
 intro r q U Y B x O p m R z
 refine Nh (T:= "list") D6.lookup (i.ae p m R z (fun M S n E g j N b e L=>?_) fun F F J=>J) a
 cases S with
 | val X=>
  rw [j.val_inv]
  replace g:=jV g
  refine g.rec fun cz o Z g=>?_
  induction o with
  | list l=>
   obtain⟨Q,V,t,D,P⟩:=e.mem _ _ Z
   have h:E.heap.IsList _ Q.toArray:=⟨_,D,rfl,V,rfl⟩
   refine vo ?_
   simp only [yY,yX]
   refine ct (y8 (ct ⟨(h.push _).typeIs,?_⟩))
   refine wpAny_getItem_list_slice (h.push _) (yD ..) .none (.int (C:Int) _) .none (by decide) ?_ (by rw [hq,P.length];exact cg g.1 iF)
   have f:=b6.push (en:= []) e {cls:= .type "slice",data:= .fields #[.none,.int C E.toks,.none]}
   rw [slicePick_upto']
   have:=wQ (s:= {E with heap:=E.heap.push {cls:= .type "slice",data:= .fields #[.none,.int C E.toks,.none]},toks:=E.toks+1}) (K:=x) f.st _ _ (AO ((P.take (c:=C)).mono (oL _))) g.2 (E.toks+1)
   exact ei.mono (s':= {E with heap:=E.heap.push {cls:= .type "slice",data:= .fields #[.none,.int C E.toks,.none]},toks:=E.toks+1}) (N.trans f) ⟨b.gens,b.os⟩ this
  | _=>exact False.elim g
 | _=>exact False.elim g
end
end
section
set_option tactic.hygienic true
noncomputable def ep (s:List (PySem.Str×D)) (k:PySem.Str) (T:D):List (PySem.Str×D):=
 if s.any (fun c=>c.1 == k) then s.map (fun c=>if c.1 == k then (c.1,T) else c) else s++ [(k,T)]
section
theorem Ot(X:fS.map (·.1)=s.map (·.1))(k:PySem.Str):(fS.any fun B=>decide (B.1=k))=s.any fun c=>c.1 == k:=by
 have R:(fS.any fun B=>decide (B.1=k))=(fS.map (·.1)).any fun S=>S == k:=by rw [yb];rfl
 have J:(s.any fun c=>c.1 == k)=(s.map (·.1)).any fun S=>S == k:=by rw [yb];rfl
 rw [R,J,X]
theorem jA.stored(j:jA L fS s) {k:PySem.Str}(S:cP L b8 T):jA L (PySem.stored fS k b8) (ep s k T):=by
 unfold PySem.stored ep
 rw [Ot j.keys]
 by_cases P:(s.any fun c=>c.1 == k)=true
 ·rw [if_pos P,if_pos P]
  have P:=(cE.of (f:=fun b8=>b8) j.keys j.vals).put (k:=k) (g:=fun F=>b8) fun F=>S
  exact⟨P.keys,P.vals⟩
 ·rw [if_neg P,if_neg P]
  refine⟨?_,?_⟩
  ·rw [fh,fh,j.keys];rfl
  ·rw [fh,fh];exact j.vals.append (.cons S .nil)
theorem strOf(k:PySem.Str)(M:b7):(strKind G w).is k M=M.isStr k:=by cases M<;>rfl
theorem wa {o:fi}(S:L.DictOf (strKind G w) z fS)(D:L.get? z=ab o)(k:PySem.Str):yL k o=ab (pq fS k):=by
 refine S.elim fun p h=>?_
 refine KI h fun T Y c b hd g l v=>?_
 obtain rfl:=c4 (D.symm.trans c)
 unfold yL
 rw [hd]
 dsimp only
 have Z:=l.find k
 have J:(T.toList.find? fun Z=>(strKind G w).is k Z.key)=T.toList.find? (·.key.isStr k):=by
  congr 1;funext m;exact strOf k _
 rw [J] at Z
 induction P:T.toList.find? (·.key.isStr k) with
 | some m=>rw [P] at Z;rw [←Z];rfl
 | none=>
  rw [P] at Z
  refine Z▸?_
  have:(T.toList.any (·.refKey))=false:=by
   rw [uN]
   intro m B
   refine(g m (by simpa using B)).elim fun r h=>?_
   have W:=h.1
   refine(Dy W).elim fun V K=>?_
   rw [show m.refKey=false from by unfold Dr;rw [K]];simp
  rw [if_neg (by rw [this];decide)];rfl
theorem GU(S:L.DictOf (strKind G w) z fS)(k:PySem.Str)(M:b7)(V:j8):
 (L.update z (Dt k (u7 w.params k) (.str k V) M)).DictOf (strKind G w) z (PySem.stored fS k M)∧
 ∃o T A,(L.update z (Dt k (u7 w.params k) (.str k V) M)).get? z=ab o∧o.data= .dict T A∧T.size≤fS.length+1:=by
 refine S.elim fun o U=>?_
 refine KI U fun T Y D b hd g l v=>?_
 have h:=l.length
 rw [qi] at h
 obtain⟨R,K,I,X⟩:=o
 dsimp only at hd
 subst hd
 have O:(L.update z (Dt k (u7 w.params k) (.str k V) M)).get? z=ab (Du k (u7 w.params k) (.str k V) M ⟨R,K,.dict T Y,X⟩):=by
  rw [←ME]
  refine u2 _ D ?_
  rw [ME]
  unfold Du
  dsimp only
  split<;>rfl
 have C:(T.findIdx? fun Z=>Z.key.isStr k)=fS.findIdx? fun B=>decide (B.1=k):=by
  refine(l.findIdx k)▸?_
  have:(fun Z:lp=>(strKind G w).is k Z.key)=fun Z=>Z.key.isStr k:=by funext Z;exact strOf k _
  rw [this];obtain⟨N⟩:=T;simp
 unfold Du at O
 dsimp only at O
 induction hi:T.findIdx? fun Z=>Z.key.isStr k with
 | some i=>
  rw [hi] at O
  dsimp only at O
  refine⟨⟨_,_,Y,O,b,rfl,g.modify _ _,?_,?_⟩,_,_,_,O,rfl,by rw [Array.size_modify];(exact Nat.le.intro (congrFun (congrArg La h) 1))⟩
  ·rw [PySem.stored,if_pos (MR (C▸hi))]
   have h:(T.toList.findIdx? fun Z=>(strKind G w).is k Z.key)=ab i:=by
    have:(fun Z:lp=>(strKind G w).is k Z.key)=fun Z=>Z.key.isStr k:=by funext Z;exact strOf k _
    rw [this,←hi];obtain⟨N⟩:=T;simp
   have:=l.modify v h M
   obtain⟨N⟩:=T
   simpa using this
  ·rw [PySem.stored,if_pos (MR (C▸hi))]
   rw [qk]
   have:((fun S:PySem.Str×b7=>S.1) ∘ fun B=>if B.1=k then (B.1,M) else B)=(·.1):=by
    funext B;by_cases P:B.1=k<;>simp [P]
   rw [this];exact v
 | none=>
  rw [hi] at O
  dsimp only at O
  have y: ¬(fS.any (fun B=>decide (B.1=k)))=true:=by
   rw [hi] at C
   have:=List.findIdx?_eq_none_iff.mp C.symm
   rw [CV]
   rintro ⟨S,J,H⟩
   rw [this S J] at H;contradiction
  refine⟨⟨_,_,_,O,b,rfl,g.push (nr k V) M,?_,?_⟩,_,_,_,O,rfl,by rw [Array.size_push];(exact iW (congrFun (congrArg La h) 1))⟩
  ·rw [PySem.stored,if_neg y,Array.toList_push]
   exact l.append (nr k V) _ M
  ·rw [PySem.stored,if_neg y,fh,uR]
   refine⟨v,by simp,?_⟩
   rintro S J s Q rfl
   simp at Q
   subst Q
   refine dg (ql.mp J) fun c E F=>?_
   exact y (CV.mpr ⟨c,E,by simpa using F⟩)
theorem b6.put(m:St G w u U q L)(Z:q z=ab (.dict s))(j:jA L fS s) {k:PySem.Str}(S:cP L b8 T)
 (C:cm.DictOf (strKind G w) z (PySem.stored fS k b8))(y:hu z L cm):b6 G w u U en q L (q.set z (.dict (ep s k T))) cm:=by
 obtain⟨A,e,_⟩:=m.mem z _ Z
 have x:dy L cm:=fun f t ⟨o,D,j⟩=>⟨o,(y.2 f (fun P=>(m.mem z _ Z).aK (P▸⟨o,D,j⟩:hV L z t))).trans D,j⟩
 refine b6.upd m Z y (fun a H=> .inl fun B d=>?_) ⟨_,C,(j.stored S).mono x⟩
 refine e.elim fun o h=>?_
 refine jK h fun I Y D b E F=>?_
 obtain rfl:=c4 (H.symm.trans D)
 have n:=d.symm.trans E;contradiction
structure mP (K:ey) (N:a0) (name:PySem.Str):Prop where
 get:iY K (.ref N) "__getattribute__" =ab (ab (.builtin "object.__getattribute__"))
 set:iY K (.ref N) "__setattr__" =ab (ab (.builtin "object.__setattr__"))
 over:plainOver K N=true
 has:DH K N=true
 none:iY K (.ref N) name=ab ao
theorem St.inst(m:St G w u U q L)(Z:q z=ab (.inst E O))(J:q O=ab (.dict s)):
 ∃X P Q,L.get? z=ab ⟨.ref E,ab O,.plain,X⟩∧L.get? O=ab P∧L.DictOf (strKind G w) O Q∧jA L Q s∧InstAt L z ⟨.ref E,ab O,.plain,X⟩ E (ab P):=by
 refine(m.mem _ _ Z).elim fun X W=>?_
 obtain⟨Q,K,C⟩:=m.mem _ _ J
 obtain⟨o,n⟩:=(m.mem _ _ J).there
 exact⟨X,o,Q,W,n,K,C,W,rfl,rfl,n⟩
def handOk:D→Prop
 | .val v=>DG v=true
 | _=>True
theorem cP.handed(j:cP L b8 T)(o:handOk T):DG b8=true:=by
 cases j<;>first | rfl | exact o
def oB (B:J) (h:a0) (L:List (PySem.Str×D)→Prop):Prop:=match B h with
 | some o=>rg o L
 | none=>False
theorem tk(X:oB q z uz): ∃s,q z=ab (.dict s)∧uz s:=by
 unfold oB at X
 induction e:q z with
 | none=>rw [e] at X;exact X.elim
 | some o=>
  rw [e] at X
  induction o with
  | dict s=>exact⟨s,rfl,X⟩
  | _=>exact False.elim X
theorem v9(Z:q z=ab (.dict s))(X:uz s):oB q z uz:=by
 unfold oB;refine Z▸?_;exact X
def Hp (x:ey) (E:PySem.Str) (B:J) (L:KK) (o:dE):Prop:=match o with
 | .inst N h=>oB B h fun s=>mP x N E∧ ∃T,cL s E=ab T∧handOk T∧L T B
 | _=>False
def SA (x:ey) (E:PySem.Str) (R:D) (B:J) (L A:KK):Prop:=match R with
 | .val v=>eY B v (Hp x E B L)
 | _=>False
theorem XB(x:cf.In u)(E:PySem.Str)(b:Bool):sY G w u A (fun M=>DR M E b) (SA cf E):=by
 intro r q U B L O M R p m t g
 cases R with
 | val X=>
  rw [t.val_inv]
  replace g:=jV g
  refine g.rec fun S o Z g=>?_
  induction o with
  | inst N h=>
   refine KH (tk g) fun s J c T W K C=>?_
   refine Cd (m.inst Z J) fun I P Q k j V D H=>?_
   refine dg (D.find W) fun M n e=>?_
   have F:=wa V j E
   rw [n] at F
   exact get_value (x.keeps m.top) H c.get (MN c.has c.none rfl F) (e.handed K) ⟨T,B,C,e,b6.refl m,⟨rfl,rfl⟩⟩
  | _=>exact False.elim g
 | _=>exact False.elim g
def Ji (x:ey) (E:PySem.Str) (T:D) (B:J) (L:KK) (o:dE):Prop:=match o with
 | .inst N h=>oB B h fun s=>(mP x N E∧s.length≤900)∧L .none (B.set h (.dict (ep s E T)))
 | _=>False
def SD (x:ey) (E:PySem.Str) (R T:D) (B:J) (L A:KK):Prop:=match R with
 | .val v=>eY B v (Ji x E T B L)
 | _=>False
def FQ (G:d7) (w:di) (u:cO) (A:Nat) (t:b7→b7→ej Unit) (k:D→D→J→KK→KK→Prop):Prop:=
 ∀r q U B x O M X R f,fb A r q→St G w u q B U.heap→cP U.heap M R→cP U.heap X f→k R f B x O→
  cu (bD G w) r (t M X) (fun F a=>vB G w u q B U (x .none) a) (cG G w u q B U O) U
theorem Ur {T:Array lp} {name:PySem.Str} {o:fi}(S:L.DictOf (strKind G w) z fS)(D:L.get? z=ab o)(H:o.data= .dict T A):(!T.any (·.key.isStr name) && T.any (·.refKey))=false:=by
 have:T.any (·.refKey)=false:=by
  refine S.elim fun p h=>?_
  refine qa h fun I Y c J E C F=>?_
  obtain rfl:=c4 (D.symm.trans c);have n:=H.symm.trans E;injection n with n;subst n
  rw [K0]
  intro m B
  refine(C m B).elim fun r h=>?_
  have W:=h.1
  refine(Dy W).elim fun V K=>?_
  unfold Dr;refine K▸?_;simp
 rw [this,r4]
theorem XM(x:cf.In u)(E:PySem.Str):FQ G w u A (fun M X=>vn M E X) (SD cf E):=by
 intro am q U B L O M X R f p m t z g
 cases R with
 | val W=>
  rw [t.val_inv]
  replace g:=jV g
  refine g.rec fun S o Z g=>?_
  induction o with
  | inst N h=>
   obtain⟨bb,J,⟨c,ap⟩,C⟩:=tk g
   refine Cd (m.inst Z J) fun bi P Q k j V D l=>?_
   refine dg (yH c.has) fun an b e=>?_
   refine KJ (id V) fun be T Y ac F n F=>?_
   obtain rfl:=c4 (j.symm.trans ac)
   have i:=Ur (name:=E) V j n
   refine(GU V E X (U.toks+1)).elim fun I al=>?_
   refine k5 al fun K H bd v y d=>?_
   refine set_plain (x.keeps m.top) l c.set (osa_open (s:= {U with toks:=U.toks+1}) (x.keeps m.top) l c.over (r:=ao) (by unfold takerIn;rw [c.none];rfl) fun f=>?_)
   refine bt (ct (bt (bt (sP k (bt (vb (x.keeps m.top) b _ _ _ _ (fun F F Z=>Z) ?_))))))
   rw [e]
   refine ct (a:=ab h) (bt (ct (bt ?_)))
   refine bt (bt (sN (ct (bt (Ec (bt (sP j ?_)))))))
   rw [n]
   dsimp only
   rw [MQ,i]
   refine ND j ?_
   refine bt (Eb v (by rw [y];exact Na (by have:=congrArg sd D.keys;rw [dP,dP] at this;refine n9▸?_;lia)) ?_)
   exact ct ⟨_,C,b6.put m J D z I (u1 ..),⟨rfl,rfl⟩⟩
  | _=>exact False.elim g
 | _=>exact False.elim g
end
end
section
set_option tactic.hygienic true
noncomputable abbrev oo:=Loc→D→J→Prop
noncomputable abbrev eV:=Loc→J→(Loc→J→Prop)→KK→oo→Prop
noncomputable def fm (C:eP):List a0:=C.locals::C.cells.filterMap fun c=>if C.cells.lookup c.1=ab c.2 then ab c.2 else ao
section
variable (cX:d7) (cY:di) (da:cO)
inductive iz (fa:List a0) (env:eP) (ns:List PySem.Str) (μ:J) (s:cx) (N:Loc→J→Prop) (s':cx):Prop
 | mk (ρ':Loc) (μ':J) (k:N ρ' μ') (fr:dC s'.heap μ' env ns ρ') (g:b6 cX cY da fa (fm env) μ s.heap μ' s'.heap) (t:dy s.heap s'.heap) (h:dM s s')
inductive mR (fa:List a0) (env:eP) (μ:J) (s:cx) (R:KK) (v:b7) (s':cx):Prop
 | mk (d:D) (μ':J) (k:R d μ') (r:cP s'.heap v d) (g:b6 cX cY da fa (fm env) μ s.heap μ' s'.heap) (t:dy s.heap s'.heap) (h:dM s s') (n: ∃m,s'.heap.Ns env.locals m)
inductive jg (fa:List a0) (env:eP) (ns:List PySem.Str) (μ:J) (s:cx) (E:oo) (x:b7) (s':cx):Prop
 | mk (e c dx:a0) (ρ':Loc) (μ':J) (hx:x= .ref e) (k:E ρ' (.val (.ref e)) μ') (f:μ' e=ab (.exc c dx)∧fp s.heap s'.heap μ' e) (fr:dC s'.heap μ' env ns ρ') (g:b6 cX cY da fa (fm env) μ s.heap μ' s'.heap) (t:dy s.heap s'.heap) (h:dM s s')
def lx (q:List a0) (C:eP) (K:List PySem.Str) (B:J) (U:cx) (i:Loc→J→Prop) (P:KK) (t:qx) (a:cx):Prop:=
 match t with
 | .next=>iz cX cY da q C K B U i a
 | .ret v=>mR cX cY da q C B U P v a
 | _=>False
structure lu (env:eP) (fa:List a0):Prop where
 bZ: ∃L r,fa=L::r∧env.frame=ab L
 loc:da.get? env.locals=ao
 aU: ∀x c,env.cells.lookup x=ab c→da.get? c=ao
def fX (I:Nat) (C:eP) (K:List PySem.Str) (V:ej qx) (J:eV):Prop:=
 ∀r q U Y B i P O,lu da C q→fb I r q→St cX cY da q B U.heap→dC U.heap B C K Y→J Y B i P O→
  cu (bD cX cY) r V (lx cX cY da q C K B U i P) (jg cX cY da q C K B U O) U
end
section
theorem b6.wk(S:b6 G w u U [] q L M cm):b6 G w u U (fm H) q L M cm:=S.weaken fun F P=>nomatch P
variable {oN:oo}
theorem cG.exc(l:dC r.heap q H I V)(m:St G w u U q r.heap)(c:cG G w u U q r (oN V) b8 dK):jg G w u U H I q r oN b8 dK:=by
 obtain⟨Z,i,h,v,W,K,C,n,e⟩:=c
 exact⟨Z,i,h,V,v,W,K,C,l.go m n,n.wk,n.aq m,e⟩
theorem iz.mono(N:b6 G w u U (fm H) q r.heap eo f3.heap)(y:dy r.heap f3.heap)(b:dM r f3)(c:iz G w u U H I eo f3 cR k7):iz G w u U H I q r cR k7:=by
 obtain⟨E,M,W,K,C,n,e⟩:=c
 exact⟨E,M,W,K,N.trans C,y.trans n,b.trans e⟩
theorem mR.mono(N:b6 G w u U (fm H) q r.heap eo f3.heap)(y:dy r.heap f3.heap)(b:dM r f3)(c:mR G w u U H eo f3 x b8 k7):mR G w u U H q r x b8 k7:=by
 obtain⟨E,M,W,K,C,n,e,f⟩:=c
 exact⟨E,M,W,K,N.trans C,y.trans n,b.trans e,f⟩
theorem jg.mono(N:b6 G w u U (fm H) q r.heap eo f3.heap)(y:dy r.heap f3.heap)(b:dM r f3)(c:jg G w u U H I eo f3 oN b8 k7):jg G w u U H I q r oN b8 k7:=by
 obtain⟨Z,i,h,E,M,J,W,⟨K,Q⟩,C,n,e,f⟩:=c
 exact⟨Z,i,h,E,M,J,W,⟨K,Q.aV N⟩,C,N.trans n,y.trans e,b.trans f⟩
theorem lx.mono {t:qx}(N:b6 G w u U (fm H) q r.heap eo f3.heap)(y:dy r.heap f3.heap)(b:dM r f3)(c:lx G w u U H I eo f3 cR x t k7):lx G w u U H I q r cR x t k7:=by
 induction t with
 | next=>exact iz.mono N y b c
 | ret v=>exact mR.mono N y b c
 | brk=>exact c
 | cont=>exact c
variable {eh:eV}
theorem fX.ae(X:fX G w u A H I r2 eh) {E:oo}(W:lu u H U)(p:fb A Y U)(m:St G w u U q r.heap)(l:dC r.heap q H I V)(z:eh V q cR x E)
 (N:b6 G w u U (fm H) xR k7.heap q r.heap)(y:dy k7.heap r.heap)(b:dM k7 r):
 cu (bD G w) Y r2 (lx G w u U H I xR k7 cR x) (jg G w u U H I xR k7 E) r:=
 ea (X Y U r V q cR x E W p m l z) (fun F F c=>lx.mono N y b c) fun F F c=>jg.mono N y b c
theorem Ap {ex:List a0}(m:St G w u U q r.heap)(y:hu z r.heap L)(i:z ∈ ex)(V:q z=ao)(H:u.get? z=ao) {o:fi}(D:r.heap.get? z=ab o)(M:L.get? z=ab iU)
 (h:(∃T A I s,o.data= .dict T A∧iU.data= .dict I s)∨((∃v,o.data= .cell v)∧ ∃v,iU.data= .cell v)):dy r.heap L∧b6 G w u U (ex) q r.heap q L:=by
 have k: ∀f o,f≠z→r.heap.get? f=ab o→L.get? f=ab o:=fun f o P Z=>(y.2 f P).trans Z
 have x:dy r.heap L:=fun f t ⟨N,C,b,A,j⟩=>⟨N,k f N (fun P=>by
  subst P;obtain rfl:=c4 (D.symm.trans C)
  rcases h with ⟨_,_,_,_,P,_⟩ | ⟨⟨_,P⟩,_⟩<;>rw [j] at P<;>contradiction) C,b,A,j⟩
 refine⟨x,⟨fun f o Z=>k f o (fun P=>by subst P;have n:=H.symm.trans Z;contradiction) (m.top f o Z),fun f o Z=>?_,m.out,fun g c=>?_⟩,fun f o Z d E=>?_,fun f o Z=> .inl (by rw [Z];exact fun S=>nomatch S),fun f N Z=>?_⟩
 ·have P:f≠z:=fun P=>by subst P;have n:=V.symm.trans Z;contradiction
  refine(m.mem f o Z).mono x (y.2 f P) fun O e B F W K=>⟨e,B,k O e (fun P=>?_) W,K,fun S i=>⟨S,i⟩⟩
  subst P;obtain rfl:=c4 (D.symm.trans W)
  rcases h with ⟨_,_,_,_,P,_⟩ | ⟨⟨_,P⟩,_⟩<;>rw [K] at P<;>contradiction
 ·obtain⟨Y,l,N,T,A,C,J⟩:=m.aH g c
  by_cases P:g=z
  ·subst P
   obtain rfl:=c4 (D.symm.trans C)
   rcases h with ⟨_,_,I,s,_,P⟩ | ⟨⟨_,P⟩,_⟩
   ·exact⟨Y,l,iU,I,s,M,P⟩
   ·have n:=J.symm.trans P;contradiction
  ·exact⟨Y,l,N,T,A,k g N P C,J⟩
 ·have P:f≠z:=fun P=>by subst P;exact E i
  exact⟨fun F=>k f o P Z,o.slots,k f o P Z⟩
 ·by_cases P:f=z
  ·rw [P];exact⟨iU,M⟩
  ·exact⟨N,k f N P Z⟩
theorem R3(m:St G w u U q r.heap)(y:hu z r.heap L)(i:z ∈ fm H)(V:q z=ao)(B:u.get? z=ao) {o:fi}(D:r.heap.get? z=ab o)(c:L.get? z=ab iU)
 (h:(∃T A I s,o.data= .dict T A∧iU.data= .dict I s)∨((∃v,o.data= .cell v)∧ ∃v,iU.data= .cell v)):dy r.heap L∧b6 G w u U (fm H) q r.heap q L:=Ap m y i V B D c h
theorem Ig(X:H.cells.lookup t=ab z):z ∈ fm H:=
 fJ _ (LK.mpr ⟨_,mem_of_lookup X,by dsimp only;rw [if_pos X]⟩)
theorem wO(X:z ∈ fm H):z=H.locals∨ ∃S,H.cells.lookup S=ab z:=by
 refine(gr.mp X).elim (fun X=>?_) fun X=>?_
 ·exact .inl X
 ·refine dg (LK.mp X) fun c F l=>?_
  split at l
  ·rename_i P;obtain rfl:=c4 l;exact .inr ⟨_,P⟩
  ·contradiction
theorem gi.up(V:dy L cm)(e: ∀y,H.kindOf t=ab .local→L.Ns H.locals y→ ∃E,cm.Ns H.locals E∧E t=y t)(a: ∀i M,H.cells.lookup t=ab i→L.IsCell i M→cm.IsCell i M)(j:gi L H t c3):gi cm H t c3:=by
 unfold gi at j ⊢
 split at j
 ·rename_i g
  refine dg j fun y W K=>?_
  refine dg (e y g W) fun E C n=>?_
  exact⟨E,C,fun T Z=>let ⟨M,c,P⟩:=K T Z;⟨M,n.trans c,P.mono V⟩⟩
 ·obtain⟨i,p,J,W,K⟩:=j
  exact⟨i,p,J,a i p J W,fun T Z=>let ⟨M,c,P⟩:=K T Z;⟨M,c,P.mono V⟩⟩
 ·obtain⟨i,p,J,W,K⟩:=j
  exact⟨i,p,J,a i p J W,fun T Z=>let ⟨M,c,P⟩:=K T Z;⟨M,c,P.mono V⟩⟩
 ·trivial
theorem Ns.one {E:PySem.Str→Option b7}(S:L.Ns z oQ)(s:L.Ns z E):oQ=E:=by
 refine S.elim fun I h=>?_
 refine jK h fun R A c j F k=>?_
 refine s.elim fun K h=>?_
 refine jK h fun J U B Z F M=>?_
 obtain rfl:=c4 (c.symm.trans B)
 have n:=j.symm.trans Z;injection n with n;subst n
 exact funext fun d=>(k d).symm.trans (M d)
theorem Ns.aN(S:L.Ns z oQ)(s:L.IsCell z fF):False:=by
 refine k5 S fun o T Y D hd F=>?_
 refine dg s fun p c e=>?_
 obtain rfl:=c4 (D.symm.trans c)
 have n:=hd.symm.trans e;contradiction
theorem dC.bI(l:dC h q H I V)(Z:fo I t=ab C):C < V.length:=by
 refine l.len▸?_
 exact(yd.mp (oE Z)).1
theorem J1(K:fo I t=ab C)(l:dC L q H I V)(W:gi cm H t (ab T))(A: ∀s B,s≠t→gi L H s B→gi cm H s B): ∀s E,fo I s=ab E→gi cm H s ((V.put C (ab T)).at E):=fun s E Z=>by
 rw [Loc.bo _ _ _ _ (l.bI Z)]
 by_cases P:E=C
 ·subst P
  rw [if_pos rfl,Sb Z K]
  exact W
 ·rw [if_neg P]
  exact A s _ (fun d=>by subst d;exact P (c4 (Z.symm.trans K))) (l.at_ s E Z)
theorem JH {ex:List a0}(be:H.kindOf t=ab .local→H.locals ∈ ex)(bd: ∀i,H.cells.lookup t=ab i→i ∈ ex)(K:fo I t=ab C)(g:H.kindOf t=ab .local∨(H.kindOf t=ab .cell∧(H.cells.lookup t).isSome=true))
 (o:H.kindOf t=ab .local→u.get? H.locals=ao)(n: ∀i,H.cells.lookup t=ab i→u.get? i=ao)(m:St G w u U q r.heap)(l:dC r.heap q H I V)(j:cP r.heap b8 T)
 (al: ∀dK,St G w u U q dK.heap→dC dK.heap q H I (V.put C (ab T))→b6 G w u U (ex) q r.heap q dK.heap→dy r.heap dK.heap→dM r dK→fG () dK):
 cu (bD G w) Y (storeName H t b8) fG cq r:=by
 refine l.loc.elim fun y v=>?_
 have am:I.length=(V.put C (ab T)).length:=by rw [Loc.aP];exact l.len
 rcases g with g | ⟨g,b⟩
 ·refine wpAny_storeName_local g v (fun L A ac=>?_) (by refine l.ok.kind▸?_;rfl)
  refine k5 (id v) fun z bm bi O S F=>?_
  refine k5 (id A) fun bv bn bk c X F=>?_
  obtain⟨x,N⟩:=Ap (ex:=ex) m ac (be g) l.free (o g) O c (.inl ⟨_,_,_,_,S,X⟩)
  have a: ∀i p,r.heap.IsCell i p→Heap.IsCell L i p:=fun i p d=>d.sameBut ac fun P=>by subst P;exact(Ns.aN v d).elim
  refine al _ N.st ⟨l.ok,l.free,am,⟨_,A⟩,fun s i Z=>(l.aU s i Z).imp fun p d=>a i p d,J1 K l ?_ fun s bb R k=>k.up x (fun E F d=>⟨_,A,by refine(Ns.one v d)▸?_;exact if_neg R⟩) fun i b8 F=>a i b8⟩ N x ⟨rfl,rfl⟩
  unfold gi
  refine g▸?_
  exact⟨_,A,fun an d=>by obtain rfl:=c4 d;exact⟨b8,if_pos rfl,j.mono x⟩⟩
 ·obtain⟨i,b⟩:=nU.mp b
  obtain⟨p,Q⟩:=l.aU t i b
  refine wpAny_storeName_cell l.ok.kind g b Q fun L M ac=>?_
  refine dg (id Q) fun h W f=>?_
  refine dg (id M) fun bu D ap=>?_
  obtain⟨x,N⟩:=Ap (ex:=ex) m ac (bd i b) (m.aN Q) (n i b) W D (.inr ⟨⟨_,f⟩,_,ap⟩)
  have e: ∀y,r.heap.Ns H.locals y→Heap.Ns L H.locals y:=fun y d=>d.sameBut ac fun P=>by subst P;exact(Ns.aN d Q).elim
  refine al _ N.st ⟨l.ok,l.free,am,⟨_,e y v⟩,fun s B Z=>?_,J1 K l ?_ fun s bb R k=>k.up x (fun E F d=>⟨E,e E d,rfl⟩) fun B bx J d=>d.sameBut ac fun P=>R (by subst P;exact l.ok.apart s t _ J b)⟩ N x ⟨rfl,rfl⟩
  ·by_cases P:B=i
   ·refine P▸?_;exact⟨_,M⟩
   ·exact(l.aU s B Z).imp fun p d=>d.sameBut ac P
  ·unfold gi
   refine g▸?_
   exact⟨i,_,b,M,fun an d=>by obtain rfl:=c4 d;exact⟨b8,rfl,j.mono x⟩⟩
theorem oI(K:fo I t=ab C)(g:H.kindOf t=ab .local∨(H.kindOf t=ab .cell∧(H.cells.lookup t).isSome=true))
 (W:lu u H U)(m:St G w u U q r.heap)(l:dC r.heap q H I V)(j:cP r.heap b8 T)
 (d: ∀dK,St G w u U q dK.heap→dC dK.heap q H I (V.put C (ab T))→b6 G w u U (fm H) q r.heap q dK.heap→dy r.heap dK.heap→dM r dK→fG () dK):
 cu (bD G w) Y (storeName H t b8) fG cq r:=JH (fun F=>er) (fun F X=>Ig X) K g (fun F=>W.loc) (fun i b=>W.aU t i b) m l j d
end
def ih (f:eV) (i:Loc→J→Prop) (P:KK) (O:Loc→KK):Loc→J→Prop:=fun Y B=>f Y B i P O
noncomputable def k3:eV:=fun Y B i F F=>(fun F:Nat=>i Y B) eE
noncomputable def jZ (R f:eV):eV:=fun Y B i P O=>(fun F:Nat=>R Y B (ih f i P O) P O) eE
noncomputable def rK (J:Nat) (Z:W):eV:=fun Y B i F O=>(fun F:Nat=>Z Y B (fun T e=>i (Y.put J (ab T)) e) (O Y)) eE
noncomputable def w7 (J:Nat) (Z:W):eV:=fun Y B i F O=>(fun F:Nat=>match Y.at J with
 | some (.int a)=>Z Y B (fun T e=>match T with
  | .int b=>i (Y.put J (ab (.int (a+b)))) e
  | _=>False) (O Y)
 | _=>False) eE
noncomputable def rM (V:gC) (R f:eV):eV:=fun Y B A P O=>(fun F:Nat=>V Y B (fun i n=>if i=true then R Y n A P O else f Y n A P O) (O Y)) eE
noncomputable def lO (Z:W):eV:=fun Y B F P O=>(fun F:Nat=>Z Y B P (O Y)) eE
noncomputable def rL (Z:W):eV:=fun Y B i F O=>(fun F:Nat=>Z Y B (fun T e=>match T with
 | .none=>i Y e
 | _=>False) (O Y)) eE
section
theorem xb:fX G w u A H I (hX [] H) k3:=fun r q U Y B i P O W p m l z=>
 y9 (⟨Y,B,z,l,b6.refl m,dy.refl _,dM.refl U⟩:iz ..)
theorem Bh {X:iN} {j:List iN} {R f:eV}(T:fX G w u A H I (gM X H) R)(L:fX G w u A H I (hX j H) f):fX G w u A H I (hX (X::j) H) (jZ R f):=by
 intro r q U Y B i P O D p m l z
 refine wpAny_execs_cons (ea (T r q U Y B _ P O D p m l z) (fun t a c=>?_) fun F F c=>c)
 induction t with
 | next=>
  obtain⟨E,e,W,K,C,n,J⟩:=c
  exact L.ae D p C.st K W C n J
 | ret v=>exact c
 | brk=>exact c.elim
 | cont=>exact c.elim
theorem W0(Q:c5 G w u A H I (cy cz H) cI)(K:fo I t=ab C)
 (g:H.kindOf t=ab .local∨(H.kindOf t=ab .cell∧(H.cells.lookup t).isSome=true))(y:iO cz (ab (.Name t cD)) dw.line H=pure false):
 fX G w u A H I (gM (.Assign [.Name t cD] cz dw) H) (rK C cI):=by
 intro r q U Y B i P O W p m l z
 refine wpAny_Assign_Name (Q.ae p m l z (fun M T n E k j N b e L=>?_) fun F F c=>cG.exc l m c) y
 exact oI K g W e L j fun a R D f J Z=>(⟨_,n,k,D,N.wk.trans f,(N.aq m).trans J,b.trans Z⟩:iz ..)
theorem W6(ap:c5 G w u A H I (cy cz H) cI)(ac:fo I t=ab C)
 (g:H.kindOf t=ab .local∨(H.kindOf t=ab .cell∧(H.cells.lookup t).isSome=true))(v:(t == ("__classdict__" :PySem.Str))=false):
 fX G w u A H I (gM (.AugAssign (.Name t cD) .Add cz dw) H) (w7 C cI):=by
 intro r q U Y B i P O W p m l z
 unfold w7 at z
 split at z
 ·rename_i R D
  have h:c5 G w u A H I (vk H t) (g4 C):=rN ac (by rcases g with X | ⟨X,_⟩;exact .inl X;exact .inr (.inl X)) v
  refine wpAny_AugAssign_Name (h.ae (K:=fun T e=>T= .int R∧e=B) (E:=O Y) p m l (by unfold g4;refine D▸?_;exact⟨rfl,rfl⟩) (fun M T n bd k j N b V L=>?_) fun F F c=>cG.exc l m c)
  obtain⟨rfl,rfl⟩:=k
  refine ap.ae p V L z (fun be an bi J S d s Q am o=>?_) fun F F c=>cG.exc l m (cG.mono N b c)
  have x:=s.rv V j
  cases x
  cases an with
  | int C=>
   cases d
   refine aaQ ?_
   exact oI ac g W am o (.int _ _) fun a bb al f y Z=>(⟨_,_,S,al,(N.trans s).wk.trans f,((N.trans s).aq m).trans y,((b.trans Q).trans ⟨rfl,rfl⟩:dM U {J with toks:=J.toks+1}).trans Z⟩:iz ..)
  | _=>exact False.elim S
 ·exact z.elim
variable {eh iK:eV}
theorem W9 {o:List iN}(s:iR G w u A H I (isTrue cz H (cy cz H)) gL)(J:fX G w u A H I (hX ik H) eh)(D:fX G w u A H I (hX o H) iK):
 fX G w u A H I (gM (.If cz ik o cD) H) (rM gL eh iK):=by
 intro r q U Y B K P O W p m l z
 refine wpAny_If (s.ae p m l z (fun i n E R C g e L=>?_) fun F F c=>cG.exc l m c)
 induction i with
 | true=>exact J.ae W p e L R C.wk (C.aq m) g
 | false=>exact D.ae W p e L (R) C.wk (C.aq m) g
theorem Bg {Z:cT} {D:e5} {b:W}(a:c5 G w u A H I (cy Z H) b):fX G w u A H I (gM (.Return (ab Z) D) H) (lO b):=by
 intro r q U Y B i P O J p m l z
 exact wpAny_Return_some (a.ae p m l z (fun M T n E R f C g e L=>(⟨T,n,R,f,C.wk,C.aq m,g,L.loc⟩:mR ..)) fun F F c=>cG.exc l m c)
theorem W7(a:c5 G w u A H I (cy cz H) cI)(K:yZ H=false)(y:iO cz ao cD.line H=pure false):fX G w u A H I (gM (.Expr cz cD) H) (rL cI):=by
 intro r q U Y B i P O W p m l z
 refine wpAny_Expr (a.ae p m l z (fun M T n E R f C g e L=>?_) fun F F c=>cG.exc l m c) K y
 cases T with
 | none=>
  cases f
  exact(⟨Y,n,R,L,C.wk,C.aq m,g⟩:iz ..)
 | _=>exact False.elim R
end
end
section
set_option tactic.hygienic true
noncomputable abbrev kO:=Loc→D→Option Loc
noncomputable def e6 (J:Nat):kO:=fun Y T=>ab (Y.put J (ab T))
noncomputable def puts:List Nat→List D→Loc→Option Loc
 | [],[],Y=>ab Y
 | i::is,d::b,Y=>puts is b (Y.put i (ab d))
 | _,_,_=>ao
noncomputable def gR (H:List Nat):kO:=fun Y T=>match T with
 | .tup b=>puts H b Y
 | _=>ao
section
def s6 (G:d7) (w:di) (u:cO) (A:Nat) (H:eP) (I:List PySem.Str) (t:b7→ej Unit) (B:kO):Prop:=
 ∀Y U r V E q M T (n:Unit→cx→Prop) O,lu u H U→fb A Y U→St G w u U q r.heap→dC r.heap q H I V→cP r.heap M T→B V T=ab E→
  (∀dK,St G w u U q dK.heap→dC dK.heap q H I E→b6 G w u U (fm H) q r.heap q dK.heap→dy r.heap dK.heap→dM r dK→n () dK)→cu (bD G w) Y (t M) n O r
def pC (H:eP) (S:PySem.Str):Prop:=H.kindOf S=ab .local∨(H.kindOf S=ab .cell∧(H.cells.lookup S).isSome=true)
theorem Xe(K:fo I t=ab C)(g:pC H t):s6 G w u A H I (n5 (.Name t cD) H) (e6 C):=by
 intro Y U r V E q M T n O W p m l j s d
 obtain rfl:=c4 s
 exact PySem.wpAny_assign_Name (oI K g W m l j d)
inductive kN (H:eP) (I:List PySem.Str):List cT→List Nat→Prop
 | nil:kN H I [] []
 | cons {x:PySem.Str} {p:e5} {es:List cT} {i:Nat} {is:List Nat}:fo I x=ab i→pC H x→kN H I es is→kN H I (.Name x p::es) (i::is)
theorem Il(X:kN H I cN b5):(qF cN H).length=cN.length∧(qF cN H).findIdx? (·.1)=ao:=by
 induction X with
 | nil=>exact⟨rfl,rfl⟩
 | @cons S p cN i b5 _ _ _ o=>
  refine⟨by show(qF cN H).length+1=_;rw [o.1];rfl,?_⟩
  show(((false,n5 (.Name S p) H)::qF cN H).findIdx? (·.1))=ao
  rw [Lz,o.2];rfl
theorem AZ(Z:puts b5 n V=ab xQ):b5.length=n.length:=by
 induction b5 generalizing n V with
 | nil=>cases n with
  | nil=>rfl
  | cons=>exact lK Z
 | cons i b5 o=>cases n with
  | nil=>exact lK Z
  | cons d n=>exact congrArg Dh (o Z)
theorem kN.length(X:kN H I cN b5):cN.length=b5.length:=by
 induction X with
 | nil=>rfl
 | cons _ _ _ o=>rw [lb,lb,o]
theorem JA(X:kN H I cN b5): ∀ {Y:j7} {U:List a0} {r:cx} {V E:Loc} {q:J} {Q:List b7} {b:List D} {n:Unit→cx→Prop} {O:b7→cx→Prop},
 lu u H U→St G w u U q r.heap→dC r.heap q H I V→c7 r.heap Q b→puts b5 b V=ab E→
 (∀dK,St G w u U q dK.heap→dC dK.heap q H I E→b6 G w u U (fm H) q r.heap q dK.heap→dy r.heap dK.heap→dM r dK→n () dK)→
 cu (bD G w) Y (MT ((qF cN H).map (·.2)) Q) n O r:=by
 induction X with
 | nil=>
  intro Y U r V E q Q b n O W m l j A d
  cases j with
  | nil=>obtain rfl:=c4 A;exact ct (d r m l (b6.refl m) (dy.refl _) (dM.refl r))
  | cons _ _=>contradiction
 | @cons S p cN i b5 hi g _ o=>
  intro Y U r V E q Q b n O W m l j A d
  cases j with
  | nil=>contradiction
  | cons N P=>
   refine Ni (PySem.wpAny_assign_Name (oI hi g W m l N fun f3 e L C F M=>?_))
   exact o W e L (P.mono F) A fun dK B K f y Z=>d dK B K (C.trans f) (F.trans y) (M.trans Z)
theorem dC.ext(l:dC L q H I V)(k: ∀f o,L.get? f=ab o→cm.get? f=ab o):dC cm q H I V:=
 have e: ∀y,L.Ns H.locals y→cm.Ns H.locals y:=fun y S=>Ns.up S fun o Z=>⟨o.slots,k _ o Z⟩
 have a: ∀i M,L.IsCell i M→cm.IsCell i M:=fun i M S=>IsCell.up S fun o Z=>⟨o.slots,k _ o Z⟩
 ⟨l.ok,l.free,l.len,l.loc.imp e,fun S i Z=>(l.aU S i Z).imp fun p d=>a i p d,fun S J Z=>(l.at_ S J Z).mono (fun f t ⟨o,D,j⟩=>⟨o,k f o D,j⟩) e a⟩
theorem Ag(S:lZ L.objs.size L cm): ∀f o,L.get? f=ab o→cm.get? f=ab o:=fun f o Z=>S f o (hU (fV Z)) Z
theorem Jv {k:Nat}(v:0 < A)(X:kN H I cN b5):s6 G w u A H I (n5 (.Tuple cN k cD) H) (gR b5):=by
 intro Y U r V E q M T n O W p m l j s d
 cases T with
 | tup b=>
  refine j.ar.rec fun P Q C c=>?_
  obtain⟨R,J⟩:=Il X
  refine uj (id C) fun o D g F hd=>?_
  rw [MS]
  refine bt (kL ?_)
  unfold unpack
  have h:(qF cN H).length=Q.toArray.size:=by rw [R,X.length,AZ s,←c.length];rfl
  rw [h,J]
  refine bt (fz (Mf (p.here v).1 C fun L a=>?_))
  have S:=Ag a
  have x:dy r.heap L:=fun f t ⟨o,D,j⟩=>⟨o,S f o D,j⟩
  have N:b6 G w u U (fm H) q r.heap q L:=b6.ext m S
  exact JA X W N.st (l.ext S) (c.mono x) s fun dK B K e y Z=>d dK B K (N.trans e) (x.trans y) ⟨Z.gens,Z.os⟩
 | _=>exact lK s
noncomputable def tV (A:kO) (Z:W):eV:=fun V q i F O=>(fun F:Nat=>Z V q (fun T M=>match A V T with
 | some E=>i E M
 | none=>False) (O V)) eE
theorem W4 {k:Nat}(v:0 < A)(y:y7 [.Tuple cN k cD] cz dw.line H=pure false)(z:ob [.Tuple cN k cD] cz H=pure ao)(X:kN H I cN b5)(a:c5 G w u A H I (cy cz H) cI):fX G w u A H I (gM (.Assign [.Tuple cN k cD] cz dw) H) (tV (gR b5) cI):=by
 intro Y U r V q i P O W p m l x
 refine L8 (a.ae p m l x (fun M T eo f3 R f C g e L=>?_) fun F F c=>cG.exc l m c) y z
 split at R
 ·rename_i E s
  exact Jv v X _ _ _ _ _ _ _ _ _ _ W p e L f s fun dK B K D J Z=>(⟨E,eo,R,K,C.wk.trans D,(C.aq m).trans J,g.trans Z⟩:iz ..)
 ·exact R.elim
theorem c7.reverse(j:c7 L cw n):c7 L cw.reverse n.reverse:=by
 induction cw generalizing n with
 | nil=>cases j;exact .nil
 | cons v cw o=>
  cases j with
  | cons S y=>rw [LP,LP];exact(o y).append (.cons S .nil)
inductive ot (H:eP) (I:List PySem.Str):List PySem.Str→List Nat→Prop
 | nil:ot H I [] []
 | cons {x:PySem.Str} {es:List PySem.Str} {i:Nat} {is:List Nat}:fo I x=ab i→pC H x→ot H I es is→ot H I (x::es) (i::is)
theorem ot.length(X:ot H I iI b5):iI.length=b5.length:=by
 induction X with
 | nil=>rfl
 | cons _ _ _ o=>rw [lb,lb,o]
theorem Xx(X:ot H I iI b5): ∀ {Y:j7} {U:List a0} {r:cx} {V E:Loc} {q:J} {Q:List b7} {b:List D} {n:Unit→cx→Prop} {O:b7→cx→Prop},
 lu u H U→St G w u U q r.heap→dC r.heap q H I V→c7 r.heap Q b→puts b5 b V=ab E→
 (∀dK,St G w u U q dK.heap→dC dK.heap q H I E→b6 G w u U (fm H) q r.heap q dK.heap→dy r.heap dK.heap→dM r dK→n () dK)→
 cu (bD G w) Y (MT (iI.map fun A=>bindName H A) Q) n O r:=by
 induction X with
 | nil=>
  intro Y U r V E q Q b n O W m l j M d
  cases j with
  | nil=>obtain rfl:=c4 M;exact ct (d r m l (b6.refl m) (dy.refl _) (dM.refl r))
  | cons _ _=>contradiction
 | @cons S iI i b5 hi g _ o=>
  intro Y U r V E q Q b n O W m l j M d
  cases j with
  | nil=>contradiction
  | cons P R=>
   refine Ni (Nj (oI hi g W m l P fun f3 e L C F N=>?_))
   exact o W e L (R.mono F) M fun dK B K f y Z=>d dK B K (C.trans f) (F.trans y) (N.trans Z)
noncomputable def nt (H:List Nat):kO:=fun V T=>match T with
 | .tup b=>puts H b.reverse V
 | _=>ao
theorem W3 {k:Nat}(v:0 < A)(y:y7 [.Tuple cN k cD] cz dw.line H=pure false)(z:ob [.Tuple cN k cD] cz H=pure (ab iI))(X:ot H I iI.reverse b5)(a:c5 G w u A H I (cy cz H) cI):fX G w u A H I (gM (.Assign [.Tuple cN k cD] cz dw) H) (tV (nt b5) cI):=by
 intro Y U r V q i P O al p m l ap
 refine Assign_Tuple_swapped (a.ae p m l ap (fun M T eo f3 R bb C g e n=>?_) fun F F c=>cG.exc l m c) y z
 split at R
 ·rename_i E s
  unfold nt at s
  split at s
  ·rename_i b
   refine bb.ar.rec fun bd Q an J=>?_
   have h:iI.length=Q.toArray.size:=by
    have W:iI.reverse.length=b5.length:=X.length
    have K:=AZ s
    rw [C2] at W K
    rw [W,K,←J.length];rfl
   refine h▸?_
   refine Mf (p.here v).1 an fun L a=>?_
   have S:=Ag a
   have x:dy f3.heap L:=fun f t ⟨o,D,j⟩=>⟨o,S f o D,j⟩
   have N:b6 G w u U (fm H) eo f3.heap eo L:=b6.ext e S
   exact Xx X al N.st (n.ext S) (by simpa using (J.mono x).reverse) s fun dK B d ac am Z=>
    (⟨E,eo,R,d,(C.wk.trans N).trans ac,((C.aq m).trans x).trans am,g.trans ⟨Z.gens,Z.os⟩⟩:iz ..)
  ·contradiction
 ·exact R.elim
noncomputable def kU:List D→Option (List Int)
 | []=>ab []
 | .int i::j=>(kU j).map (i:: ·)
 | _=>ao
noncomputable def lR (s:List (List Int×D)) (k:List Int) (T:D):List (List Int×D):=
 if s.any (fun c=>c.1 == k) then s.map (fun c=>if c.1 == k then (c.1,T) else c) else s++ [(k,T)]
noncomputable def js (s:List (List Int×D)) (k:List Int):Option D:=(s.find? fun c=>c.1 == k).map (·.2)
theorem Sk(J:Int)(V:j8):(i0 G w).is J (.int J V)=true:=by show Dx J (.int J V)=true;exact beq_self_eq_true J
theorem SO {k:List Int}(j:c7 L cw n)(Z:kU n=ab k):ItemsAre (i0 G w) k cw:=by
 refine j.ind (P:=fun cw n=> ∀k,kU n=ab k→ItemsAre (i0 G w) k cw) (fun k Z=>c4 Z▸ .nil) (fun M T cw n S F o k Z=>?_) k Z
 cases S with
 | int y V=>
  refine dg (nV.mp Z) fun B W A=>?_;subst A
  exact .cons (Sk y V) (o B W)
 | _=>contradiction
theorem I8 {k:List Int}(Z:ux.map (·.1)=ft.map (·.1))(P:c7 L (ux.map (·.2.2)) (ft.map (·.2))):
 (∀T,js ft k=ab T→ ∃c,atKey ux k=ab c∧cP L c.2 T)∧(js ft k=ao→atKey ux k=ao):=
 have j:=cE.of (f:=ys) Z P
 ⟨fun F d=>j.get d,fun d=>j.no d⟩
theorem FU {k:List Int}: ∀ {s:List (List Int×D)},(s.any fun p=>p.1 == k)=(js s k).isSome
 | []=>rfl
 | p::j=>by
  unfold js
  rw [mE,oV]
  by_cases d:p.1=k
  ·simp [d]
  ·rw [beq_eq_false_iff_ne.mpr d,x1]
   exact FU
theorem pA.stored(j:pA L ux ft) {k:List Int}(S:cP L b8 T):pA L (storedH ux k z b8) (lR ft k T):=by
 have t:=I8 (k:=k) j.keys j.vals
 delta storedH lR
 refine FU▸?_
 induction e:js ft k with
 | some Y=>
  refine dg (t.1 Y e) fun c W F=>?_
  rw [W]
  have P:=(cE.of (f:=ys) j.keys j.vals).put (k:=k) (g:=fun c=>(c.1,b8)) fun F=>S
  exact⟨P.keys,P.vals⟩
 | none=>
  rw [t.2 e]
  refine⟨?_,?_⟩
  ·rw [if_neg (by decide),if_neg (by decide),fh,fh,j.keys];rfl
  ·rw [if_neg (by decide),if_neg (by decide),fh,fh];exact j.vals.append (.cons S .nil)
noncomputable def iS:Option dE→Option (List (List Int×D))
 | some (.aA s)=>ab s
 | some (.dict [])=>ab []
 | _=>ao
theorem St.aA(m:St G w u U q L)(Z:iS (q z)=ab ft):FR G w L z ft:=by
 induction P:q z with
 | none=>rw [P] at Z;exact lK Z
 | some a=>
 rw [P] at Z
 cases a with
 | aA k=>obtain rfl:=c4 Z;exact m.mem _ _ P
 | dict l=>cases l with
  | cons=>exact lK Z
  | nil=>
   obtain rfl:=c4 Z
   obtain⟨Q,⟨o,T,Y,D,b,hd,g,A,v⟩,j⟩:=m.mem _ _ P
   have:Q= []:=by have:=j.keys;cases Q with | nil=>rfl | cons _ _=>contradiction
   subst this
   induction T with
   | mk l=>
    cases A
    exact⟨[],⟨o,_,Y,D,b,hd,rfl,fun S=>tH,LO⟩,rfl,.nil⟩
 | _=>exact lK Z
theorem Ja {k:List Int}(j:cP L b8 (.tup n))(Z:kU n=ab k): ∃R,b8= .ref R∧(fB G w).is L k R:=by
 refine j.ar.rec fun R Q E I=>?_
 refine uj E fun o D b A hd=>?_
 exact⟨R,rfl,o,_,A,D,b,hd,SO I Z⟩
def t7 (o:dE) (N:List D) (L:List (List Int×D)→List Int→Prop):Prop:=match iS (ab o) with
 | some s=>match kU N with
  | some k=>L s k
  | none=>False
 | none=>False
def wy (R:a0) (o:dE) (k T:D) (q:J) (x:KK):Prop:=match k with
 | .str k=>rg o fun s=>s.length≤900∧x .none (q.set R (.dict (ep s k T)))
 | .tup N=>t7 o N fun s k=>s.length≤900∧x .none (q.set R (.aA (lR s k T)))
 | .int k=>nd o fun N=>(0≤k∧k < N.length∧N.length≤1000000)∧x .none (q.set R (.aJ (N.set k.toNat T)))
 | _=>False
def w6 (q:J) (S:D) (L:a0→dE→Prop):Prop:=match S with
 | .val v=>match v with
  | .ref a=>match q a with
   | some o=>L a o
   | none=>False
  | _=>False
 | _=>False
def m5 (S k T:D) (q:J) (x:KK) (_:KK):Prop:=w6 q S fun R o=>wy R o k T q x
inductive FL (q:J) (P:a0→dE→Prop):D→Prop
 | mk (a:a0) (o:dE) (e:q a=ab o) (h:P a o):FL q P (.val (.ref a))
theorem IZ(X:w6 q T ur):FL q ur T:=by
 cases T with
 | val v=>induction v with
  | ref a=>
   change (match q a with | some o=>ur a o | none=>False) at X
   induction P:q a with
   | none=>rw [P] at X;exact X.elim
   | some o=>rw [P] at X;exact⟨a,o,P,X⟩
  | _=>exact X.elim
 | _=>exact X.elim
theorem YD {o:dE} {L:List (List Int×D)→List Int→Prop}(X:t7 o n L): ∃s k,iS (ab o)=ab s∧kU n=ab k∧L s k:=by
 unfold t7 at X
 induction p:iS (ab o) with
 | none=>rw [p] at X;exact X.elim
 | some s=>
  rw [p] at X
  dsimp only at X
  induction P:kU n with
  | none=>rw [P] at X;exact X.elim
  | some k=>rw [P] at X;exact⟨s,k,rfl,rfl,X⟩
theorem c7.set(S:cP L b8 T)(j:c7 L cw n):c7 L (cw.set C b8) (n.set C T):=
 j.ind (P:=fun cw n=> ∀C,c7 L (cw.set C b8) (n.set C T)) (fun F=> .nil) (fun F F F F s j o C=>match C with
  | 0=> .cons S j
  | C+1=> .cons s (o C)) C
theorem XN(v:0 < A): ∀Y U r q x O M X d R f i,fb A Y U→St G w u U q r.heap→cP r.heap M R→cP r.heap X f→cP r.heap d i→m5 R f i q x O→
 cu (bD G w) Y (setItem M X d) (fun F dK=>vB G w u U q r (x .none) dK) (cG G w u U q r O) r:=by
 intro Y U r q x O M X d R f i p m be z S g
 have bm:=p.room v
 replace g:=IZ g
 obtain⟨E,o,Z,g⟩:=g
 refine be.val_inv▸?_
 have c: ∀ {L},hu E r.heap L→dy r.heap L:=fun y f bn ⟨ac,l,j⟩=>⟨ac,(y.2 f (fun P=>by subst P;exact(m.mem _ _ Z).aK ⟨ac,l,j⟩)).trans l,j⟩
 cases f with
 | str k=>
  refine dg (Ab g) fun s bi g=>?_;subst bi
  obtain⟨Q,hd,t⟩:=m.mem _ _ Z
  refine z.aG fun V=>wpAny_setItem_pairs (nr _ _) hd (fun L e y=>⟨_,g.2,b6.put m Z t S e y,⟨rfl,rfl⟩⟩) ?_
  have:=congrArg sd t.keys;rw [dP,dP] at this;rw [n9,this];exact cg g.1 (by decide)
 | tup N=>
  refine j0 (YD g) fun s k al am g=>?_
  obtain⟨bx,hd,t⟩:=m.aA ((congrArg iS Z).trans al)
  refine(Ja (G:=G) (w:=w) z am).elim fun bv h=>?_
  obtain⟨rfl,ap⟩:=h
  refine wpAny_setItem_heap (knd:=fB G w) (by show Y.in1.units < vh;rw [uX];lia) ap hd (fun L e y=>?_) ?_
  ·refine KJ (id hd) fun o T bk D b an F=>?_
   refine⟨_,g.2,b6.upd m Z y (fun a H=> .inl fun B d=>?_) ⟨_,e,(t.stored S).mono (c y)⟩,⟨rfl,rfl⟩⟩
   obtain rfl:=c4 (H.symm.trans D)
   have n:=d.symm.trans an;contradiction
  ·have:=congrArg sd t.keys;rw [dP,dP] at this;rw [n9,this];exact cg g.1 (by decide)
 | int k=>
  obtain⟨N,rfl,⟨J,W,K⟩,C⟩:=wW g
  obtain⟨Q,bd,bu,D,I⟩:=m.mem _ _ Z
  refine z.az fun V=>wpAny_setItem_list ⟨_,D,rfl,bd,rfl⟩ J (jd W (j2 (hh.mpr K) (by decide))) (by rw [hq,I.length];exact W) fun L bb y=>?_
  refine⟨_,C,b6.upd m Z y (fun a H=> .inl fun B d=>?_) ⟨_,by simpa using bb,(I.set S).mono (c y)⟩,⟨rfl,rfl⟩⟩
  obtain rfl:=c4 (H.symm.trans D);contradiction
 | _=>exact g.elim
noncomputable def tT (Z o J:W):eV:=fun V q i F O=>(fun F:Nat=>Z V q (fun T eo=>o V eo (fun S v=>J V v (fun k b=>m5 S k T b (fun F l=>i V l) (O V)) (O V)) (O V)) (O V)) eE
theorem Xc(v:0 < A) {o:cT}(a:c5 G w u A H I (cy eu H) cI)(D:c5 G w u A H I (cy o H) gK)(K:c5 G w u A H I (cy cz H) qh)
 (y:iO eu (ab (.Subscript o cz cD)) dw.line H=pure false):fX G w u A H I (gM (.Assign [.Subscript o cz cD] eu dw) H) (tT cI gK qh):=by
 intro Y U r V q i P O W p m l z
 refine PySem.wpAny_Assign_Subscript (a.ae p m l z (fun M T eo f3 R f C g e L=>?_) fun F F c=>cG.exc l m c) y
 refine D.ae p e L R (fun X S bi J ap bb s Q j ac=>?_) fun F F c=>cG.exc l m (cG.mono C g c)
 refine K.ae p j ac ap (fun d k b bd x E Z h an t=>?_) fun F F c=>cG.exc l m (cG.mono (C.trans s) (g.trans Q) c)
 refine ea (XN v Y U bd b _ _ X d M S k T p an (Z.rv j bb) E (Z.rv j (s.rv e f)) x) (fun F n c=>?_) fun F F c=>cG.exc l m (cG.mono ((C.trans s).trans Z) ((g.trans Q).trans h) c)
 obtain⟨be,B,al,am⟩:=c
 have N:=((C.trans s).trans Z).trans al
 exact(⟨V,be,B,l.go m N,N.wk,N.aq m,((g.trans Q).trans h).trans am⟩:iz ..)
end
end
section
set_option tactic.hygienic true
noncomputable def nc (f:List Nat):List D:=f.map fun(i:Nat)=>D.int (i:Int)
noncomputable def jH (I:Nat):List D:=(f5 I).map fun(E:Nat)=>D.int (E:Int)
inductive gO (h:cO) (μ:J) (it:a0) (i:Nat):List D→Option a0→Prop
 | tup {t:a0} {vs:List b7} {ds:List D}:qs h it t i→hV h t vs.toArray→c7 h vs ds→gO h μ it i ds ao
 | list {l:a0} {ds:List D}:h.IsListIter it l i→fL (μ l)=ab ds→gO h μ it i ds (ab l)
 | bz {n:Nat}:IsRangeIter h it (i:Int) ((n:Int) - i) 1→i≤n→gO h μ it i (jH n) ao
 | bE {b:List UInt8} {t:j8}:KBw.IsBytesIter h it b.toArray t i→gO h μ it i (nc (b.map gs)) ao
def gj (X:Option a0) (b:List D) (B:J):Prop:=match X with
 | some l=>fL (B l)=ab b
 | none=>True
def vw (X:cO) (k:a0):Prop:= ∃o,X.get? k=ab o∧(∀Y I,o.data≠ .seq Y I)∧ ∀B,o.data= .fields B→B[3]? =ao
theorem wu {o:fi}(W:u.get? z=ab o)(K:o.data= .fields e0)(C:e0[3]? =ao):vw u z:=
 ⟨o,W,fun Y I d=>(by have n:=K.symm.trans d;contradiction),fun v d=>(by have n:=K.symm.trans d;injection n with n;subst n;exact C)⟩
section
theorem gO.obj(S:gO L q z C n df):vw L z:=by
 induction S with
 | tup a b c=>refine fR a fun o W F K=>?_;exact wu W K rfl
 | list a b=>refine fR a fun o W F K=>?_;exact wu W K rfl
 | bz a _=>exact wu a rfl rfl
 | bE a=>refine fR a fun o W F K=>?_;exact wu W K rfl
theorem gO.isOk(S:gO L q z C n df):gj df n q:=by
 induction S with
 | list a b=>exact b
 | _=>trivial
theorem gO.keep(S:gO L q z C n df)(k:cm.get? z=L.get? z)(V:dy L cm)(P:gj df n M):gO cm M z C n df:=by
 induction S with
 | tup a b c=>refine dg a fun o W K=>?_;exact .tup ⟨o,k.trans W,K⟩ (V _ _ b) (c.mono V)
 | list a b=>refine dg a fun o W K=>?_;exact .list ⟨o,k.trans W,K⟩ P
 | bz a b=>exact .bz (k.trans a) b
 | bE a=>refine dg a fun o W K=>?_;exact .bE ⟨o,k.trans W,K⟩
theorem wx(m:St G w u U q L)(l:dC L q H I V)(bi:q z=ao)(be:u.get? z=ao)(Q:z ∉ U)(h:z ∉ fm H)(D:vw L z)(O:lZ z L cm):
 St G w u U q cm∧dC cm q H I V∧dy L cm:=by
 refine fR D fun o D hd ac=>?_
 have x:dy L cm:=fun f t ⟨N,an,b,A,j⟩=>⟨N,O f N (fun P=>by subst P;obtain rfl:=c4 (D.symm.trans an);exact hd _ _ j) an,b,A,j⟩
 have bk:H.locals≠z:=fun P=>h (by refine P▸?_;exact er)
 have a: ∀S i,H.cells.lookup S=ab i→i≠z:=fun S i Z P=>h (by refine P▸?_;exact Ig Z)
 have bb: ∀y,L.Ns H.locals y→cm.Ns H.locals y:=fun y d=>Ns.up d fun o Z=>⟨o.slots,O _ o bk Z⟩
 have B: ∀i M,i≠z→L.IsCell i M→cm.IsCell i M:=fun i M P d=>IsCell.up d fun o Z=>⟨o.slots,O _ o P Z⟩
 refine⟨⟨fun f o Z=>O f o (fun P=>by subst P;have bd:=be.symm.trans Z;contradiction) (m.top f o Z),fun R r Z=>?_,m.out,fun g c=>?_⟩,?_,x⟩
 ·have P:R≠z:=fun P=>by subst P;have bd:=bi.symm.trans Z;contradiction
  obtain⟨bm,am⟩:=(m.mem R r Z).there
  refine(m.mem R r Z).aX x ((O R bm P am).trans am.symm) fun al e v S F W K ap=>?_
  have s:al≠z:=fun P=>by
   subst P;obtain rfl:=c4 (D.symm.trans W);have bd:=(ac v K).symm.trans ap;contradiction
  exact⟨e,v,O al e s W,K,S,ap⟩
 ·exact(m.aH g c).to (m.aH g c).mu fun o Z=>O g o (fun P=>Q (P▸c)) Z
 ·refine⟨l.ok,l.free,l.len,l.loc.imp bb,fun S i Z=>(l.aU S i Z).imp fun p d=>B i p (a S i Z) d,fun S C Z=>?_⟩
  have k:=l.at_ S C Z
  unfold gi at k ⊢
  split
  ·rename_i T
   rw [T] at k
   refine dg k fun E W K=>?_
   exact⟨E,bb E W,fun Y d=>by refine dg (K Y d) fun X ac n=>?_;exact⟨X,ac,n.mono x⟩⟩
  ·rename_i T
   rw [T] at k
   obtain⟨i,p,J,W,K⟩:=k
   exact⟨i,p,J,B i p (a _ i J) W,fun Y d=>by obtain⟨X,ac,n⟩:=K Y d;exact⟨X,ac,n.mono x⟩⟩
  ·rename_i T
   rw [T] at k
   obtain⟨i,p,J,W,K⟩:=k
   exact⟨i,p,J,B i p (a _ i J) W,fun Y d=>by obtain⟨X,ac,n⟩:=K Y d;exact⟨X,ac,n.mono x⟩⟩
  ·trivial
theorem b6.aF(N:b6 G w u U en eo eN q L)(B:St G w u U q cm)(m:eN.get? z=ao)(O:lZ z L cm):b6 G w u U en eo eN q cm:=by
 refine⟨B,fun f o Z V i=>?_,N.fresh,fun f o Z=>?_⟩
 ·obtain⟨Y,X,l⟩:=N.keep f o Z V i
  have P:f≠z:=fun P=>by subst P;have n:=m.symm.trans Z;contradiction
  exact⟨fun Q=>O f _ P (Y Q),X,O f _ P l⟩
 ·have P:f≠z:=fun P=>by subst P;have n:=m.symm.trans Z;contradiction
  obtain⟨p,b⟩:=N.there f o Z
  exact⟨p,O f p P b⟩
theorem UE(Z:(jH A)[C]? =ab T):C < A∧T= .int (C:Int):=by
 unfold jH at Z
 rw [lX] at Z
 induction P:(f5 A)[C]? with
 | none=>rw [P] at Z;contradiction
 | some j=>
  rw [P] at Z;obtain rfl:=c4 Z
  obtain⟨W,K⟩:=yd.mp P
  rw [uO] at W
  rw [List.getElem_range] at K
  subst K;exact⟨W,rfl⟩
theorem AL(m:St G w u U q r.heap)(S:gO r.heap q z C n df)(Z:n[C]? =ab T)
 (d: ∀cm V M,lZ z r.heap cm→(∀B:dy r.heap cm,cP cm M T∧gO cm q z (C+1) n df)→qe (ab M) {r with heap:=cm,toks:=V}):cu (bD G w) Y (qS (.ref z)) qe cq r:=by
 induction S with
 | tup a b c=>
  refine dg (c.get Z) fun M W K=>?_
  exact Md a b (by simpa using W) fun cm I y=>d cm r.toks M y.extBut fun B=>⟨K.mono B,.tup I (B _ _ b) (c.mono B)⟩
 | list a b=>
  obtain⟨Q,h,j⟩:=m.lst b
  refine dg (j.get Z) fun M W K=>?_
  exact PySem.wpAny_pyNext_list_item a h (by simpa using W) fun cm I y=>d cm r.toks M y.extBut fun B=>⟨K.mono B,.list I b⟩
 | bz a b=>
  obtain⟨W,rfl⟩:=UE Z
  refine PySem.wpAny_pyNext_range_item a (by omega) fun cm I y=>d cm _ _ y.extBut fun B=>⟨.int _ _,.bz ?_ W⟩
  rw [show((C+1:Nat):Int)=(C:Int)+1 from rfl]
  rw [show ∀A:Int,A - ((C:Int)+1)=A - C - 1 from fun A=>by(exact Eq.symm (Int.sub_sub A (↑C) 1))]
  exact I
 | @bE b V a=>
  unfold nc at Z
  rw [qk,lX] at Z
  induction P:b[C]? with
  | none=>rw [P] at Z;contradiction
  | some c=>
   rw [P] at Z;obtain rfl:=c4 Z
   exact KBw.next_item a (by simpa using P) fun cm I y=>d cm _ _ y.extBut fun B=>⟨.int _ _,.bE I⟩
theorem Ad(p:Y.handled=ao)(m:St G w u U q r.heap)(S:gO r.heap q z C n df)(Z:n[C]? =ao)
 (d: ∀cm V,lZ z r.heap cm→qe ao {r with heap:=cm,toks:=V}):cu (bD G w) Y (qS (.ref z)) qe cq r:=by
 induction S with
 | tup a b c=>exact Mc p a b (by simpa using c.get_none Z) fun cm y=>d cm r.toks y
 | list a b=>
  obtain⟨Q,h,j⟩:=m.lst b
  exact PySem.wpAny_pyNext_list_end p a h (by simpa using j.get_none Z) fun cm y=>d cm r.toks y
 | bz a b=>
  refine PySem.wpAny_pyNext_range_end p a ?_ fun cm y=>d cm r.toks y
  unfold jH at Z
  rw [C0,dP,uO] at Z
  omega
 | @bE b V a=>
  unfold nc at Z
  rw [C0,dP,dP] at Z
  exact KBw.next_end p a (by simpa using Z) fun cm y=>d cm r.toks y
end
noncomputable abbrev Ep:=List D→Option a0→J→Prop
noncomputable abbrev ow:=Loc→J→Ep→KK→Prop
noncomputable def B0 (Z:W):ow:=fun Y B x O=>(fun F:Nat=>Z Y B (fun T e=>match T with
 | .tup b=>x b ao e
 | .bytes l=>x (nc l) ao e
 | .val (.ref a)=>match fL (e a) with
  | some b=>x b (ab a) e
  | none=>False
 | _=>False) O) eE
noncomputable def B4 (Z:W):ow:=fun Y B x O=>(fun F:Nat=>Z Y B (fun T e=>match T with
 | .int k=>(-1000000≤k∧k≤1000000)∧x (jH k.toNat) ao e
 | _=>False) O) eE
section
inductive N3 (G:d7) (w:di) (u:cO) (fa:List a0) (μ:J) (s:cx) (K:Ep) (v:b7) (s':cx):Prop
 | mk (a:a0) (ds:List D) (src:Option a0) (μ':J) (hv:v= .ref a) (k:K ds src μ') (it:gO s'.heap μ' a 0 ds src) (n1:s.heap.get? a=ao) (n2:u.get? a=ao) (n3:μ' a=ao) (n4:a ∉ fa) (g:b6 G w u fa [] μ s.heap μ' s'.heap) (h:dM s s')
def ov (G:d7) (w:di) (u:cO) (A:Nat) (H:eP) (I:List PySem.Str) (V:cT) (J:ow):Prop:=
 ∀r q U Y B x O,fb A r q→St G w u q B U.heap→dC U.heap B H I Y→J Y B x O→
  cu (bD G w) r (cy V H) (fun S E=>cu (bD G w) r (y3 S) (N3 G w u q B U x) (cG G w u q B U O) E) (cG G w u q B U O) U
theorem Hk {s₁:cx}(m:St G w u U q r.heap)(N:b6 G w u U [] q r.heap M s₁.heap):r.heap.get? s₁.heap.objs.size=ao∧u.get? s₁.heap.objs.size=ao∧M s₁.heap.objs.size=ao∧s₁.heap.objs.size ∉ U:=by
 have D: ∀f o,s₁.heap.get? f=ab o→f≠s₁.heap.objs.size:=fun f o Z=>hU (fV Z)
 refine⟨?_,N.st.aC,N.st.fresh,fun X=>?_⟩
 ·induction P:r.heap.get? s₁.heap.objs.size with
  | none=>rfl
  | some o=>refine(N.there _ o P).elim fun p Z=>?_;exact absurd rfl (D _ _ Z)
 ·obtain⟨_,_,o,_,_,Z,_⟩:=N.st.aH _ X
  exact absurd rfl (D _ _ Z)
theorem WO(W:c5 G w u A H I (cy cz H) cI):ov G w u A H I cz (B0 cI):=by
 intro r q U Y B x O p m N z
 refine W.ae p m N z (fun M T n E R f C g e L=>?_) fun F F c=>c
 refine ui (Hk m C) fun K D i j=>?_
 cases T with
 | tup b=>
  refine f.ar.rec fun Z Q s J=>?_
  exact Mb s ⟨_,_,_,n,rfl,R,.tup ⟨_,gc _ rfl,rfl,rfl⟩ (s.push _) (J.mono (oL _)),K,D,i,j,C.trans (b6.push e _),⟨g.gens,g.os⟩⟩
 | bytes l=>
  refine(lC f).rec fun S V v=>?_
  subst v
  exact KBw.pyIter_bytes ⟨_,_,_,n,rfl,R,.bE ⟨_,gc _ rfl,rfl,rfl⟩,K,D,i,j,C.trans (b6.push e _),⟨g.gens,g.os⟩⟩
 | val X=>cases X with
  | ref a=>
   obtain rfl:=f.val_inv
   dsimp only at R
   induction P:fL (n a) with
   | none=>rw [P] at R;exact False.elim R
   | some b=>
    rw [P] at R
    obtain⟨Q,h,J⟩:=e.lst P
    exact PySem.wpAny_pyIter_list h ⟨_,_,_,n,rfl,R,.list ⟨_,gc _ rfl,rfl,rfl⟩ P,K,D,i,j,C.trans (b6.push e _),⟨g.gens,g.os⟩⟩
  | _=>exact False.elim R
 | _=>exact False.elim R
theorem IY(k:Int):Mq 0 k 1=(k.toNat:Int):=by
 unfold Mq
 rw [if_pos (by decide)]
 by_cases X:0 < k
 ·rw [if_pos X,Int.ediv_one,Int.sub_zero,Ll,uM (nL X)]
 ·rw [if_neg X,Int.toNat_of_nonpos (je.mp X)];rfl
theorem Vm {k:Int}(X: -1000000≤k∧k≤1000000):Mr 0 k 1=true:=by
 have A: ∀S:Int, -2000000≤S→S≤2000000→Mp S=true:=fun S W K=>by
  unfold Mp
  have:S < 2 ^ 63:=qj K (by decide)
  have: -2 ^ 63≤S:=j2 (by decide) W
  simp_all
 unfold Mr
 rw [IY,A 0 (by decide) (by decide),A k (by omega) (by omega),A 1 (by decide) (by decide),A _ (by(exact Int.neg_ofNat_le_natCast 2000000 k.toNat)) (by omega)]
 simp only [x2,Bool.or_eq_true]
 right
 rw [if_pos (by decide)]
 exact A _ (by omega) (by omega)
theorem WQ(Q:eJ (bD G w) u (cy (.Name t cD) H) (.type "range"))(a:c5 G w u A H I (cy cz H) cI)
 (y:dF [cz] H=(false,cy cz H)::dF [] H):ov G w u A H I (.Call (.Name t cD) [cz] [] dw) (B4 cI):=by
 intro r q U Y B x O p m l z
 refine yt rfl (Q r _ _ U m.top ?_)
 refine callWith_type1 ?_ y
 refine za (a.ae p m l z (fun M T N E R f C g e L=>?_) fun F F cD=>cD) y
 refine zb ?_
 cases T with
 | int k=>
  cases f
  rename_i X
  refine call_range_1 ?_
  have J:=b6.push (en:= []) e {cls:= .type "range",data:= .fields #[.int 0 E.toks,.int k X,.int 1 (E.toks+1)]}
  refine PySem.wpAny_pyIter_range (gc _ rfl) (Vm R.1) ?_
  refine ui ((Hk (s₁:= {E with heap:=E.heap.push {cls:= .type "range",data:= .fields #[.int 0 E.toks,.int k X,.int 1 (E.toks+1)]}}) m (C.trans J))) fun K D i j=>?_
  refine⟨_,_,_,N,rfl,R.2,.bz (n:=k.toNat) ?_ (eA _),K,D,i,j,(C.trans J).trans (b6.push J.st _),⟨g.gens,g.os⟩⟩
  refine(gc _ rfl).trans ?_
  rw [IY]
  simp [hY]
 | _=>exact False.elim R
end
end
variable {iJ:kO}{eh:eV}
variable {nK:ow}
section
set_option tactic.hygienic true
noncomputable def fM:oo:=fun F F F=>False
def eS (V:kO) (f:eV) (X:Option a0) (C:List D) (i:Loc→J→Prop) (P:KK):List D→Loc→J→Prop
 | [],Y,B=>i Y B
 | d::j,Y,B=>match V Y d with
  | some E=>f E B (fun F A=>gj X C A∧eS V f X C i P j F A) P fM
  | none=>False
theorem AI(Z:iJ V T=ab xQ):eS iJ eh df n cR x (T::y) V q=eh xQ q (fun F A=>gj df n A∧eS iJ eh df n cR x y F A) x fM:=by
 refine(show _=(match iJ V T with | some xQ=>eh xQ q (fun F A=>gj df n A∧eS iJ eh df n cR x y F A) x fM | none=>False) from rfl).trans ?_
 rw [Z]
theorem H9(X:eS iJ eh df n cR x (T::y) V q)(Z:iJ V T=ao):False:=by
 replace X:(match iJ V T with | some E=>eh E q (fun F A=>gj df n A∧eS iJ eh df n cR x y F A) x fM | none=>False):=X
 rw [Z] at X
 exact X
noncomputable def tR (V:kO) (k:ow) (f:eV):eV:=fun Y B i P O=>(fun F:Nat=>k Y B (fun b X n=>eS V f X b i P b Y n) (O Y)) eE
section
theorem jg.no(c:jg G w u U H I q r fM b8 dK):dp:=by
 obtain⟨_,_,_,_,_,_,X,_⟩:=c
 exact X.elim
theorem H4(S:gO r.heap q z C n df)(d:fG () r):
 cu (bD G w) Y (DV cz (.ref z) b8) fG cq r:=by
 have B: ∃(o:fi) (nm:String),r.heap.get? z=ab o∧o.cls= .type nm∧ ["enumerate","zip","dict_itemiterator","dict_reverseitemiterator","odict_iterator","itertools.zip_longest","itertools.pairwise"].contains nm=false:=by
  induction S with
  | tup R b c=>refine fR R fun o W K F=>?_;exact⟨o,_,W,K,by decide⟩
  | list R b=>refine fR R fun o W K F=>?_;exact⟨o,_,W,K,by decide⟩
  | bz R _=>exact⟨_,_,R,rfl,by decide⟩
  | bE R=>refine fR R fun o W K F=>?_;exact⟨o,_,W,K,by decide⟩
 refine j0 B fun o nm D A y=>?_
 have k: ∀R,cu (bD G w) Y (DV (.Tuple default default default) (.ref z) (.ref R)) fG cq r:=fun R=>by
  refine bt (mO D ?_)
  obtain⟨t,P,I,X⟩:=o
  cases A
  cases I
  case fields Q=>
   show cu _ _ (if (_ && _)=true then _ else _) _ _ _
   rw [y,r5,if_neg fv]
   exact ct d
  all_goals exact ct d
 cases cz
 case Tuple=>cases b8<;>first | exact ct d | exact k _
 case List=>cases b8<;>first | exact ct d | exact k _
 all_goals exact ct d
theorem HI(l:dC L q H I V)(m:L.get? z=ao):z ∉ fm H:=fun P=>by
 rcases wO P with rfl | ⟨S,Z⟩
 ·refine xF l.loc fun y o F F D F=>?_
  have n:=m.symm.trans D;contradiction
 ·refine nz (l.aU S z Z) fun p o D F=>?_
  rw [m] at D;contradiction
inductive El (G:d7) (w:di) (u:cO) (H:eP) (I:List PySem.Str) (fa:List a0) (μ:J) (s:cx) (it:a0) (ds:List D) (src:Option a0) (L:List D→Loc→J→Prop) (k:Nat) (s':cx):Prop
 | mk (i:Nat) (ρ':Loc) (μ':J) (hi:i≤ds.length) (hk:k=ds.length+1 - i) (hw:L (ds.drop i) ρ' μ') (fr:dC s'.heap μ' H I ρ') (g:b6 G w u fa (fm H) μ s.heap μ' s'.heap) (t:dy s.heap s'.heap) (h:dM s s') (x:gO s'.heap μ' it i ds src) (hm:μ' it=ao)
structure Eo (u:cO) (H:eP) (fa:List a0) (s:cx) (it:a0):Prop where
 f1:s.heap.get? it=ao
 f2:u.get? it=ao
 f4:it ∉ fa
 hl:it ∉ fm H
theorem b6.aQ {o:fi}(N:b6 G w u U en q L M cm)(V:q z=ao)(D:L.get? z=ab o):M z=ao:=by
 induction P:M z with
 | none=>rfl
 | some a=>exact(N.fresh z a P).elim (fun d=>absurd V d) fun d=>by have n:=D.symm.trans d;contradiction
theorem gO.bw(S:gO L q z C n df)(N:b6 G w u U (fm H) q L M cm)(y:dy L cm)(V:q z=ao)(h:z ∉ fm H)(j:z ∉ U)(c:gj df n M):gO cm M z C n df:=by
 refine S.obj.elim fun o A=>?_
 refine A.elim fun D F=>?_
 exact S.keep (((N.keep z o D V h).1 j).trans D.symm) y c
theorem W8(v:0 < A)(s:s6 G w u A H I (n5 cz H) iJ)(K:ov G w u A H I eu nK)(cr:fX G w u A H I (hX ik H) eh)
 (cs: ∀S,qN eu H S=pure S):fX G w u A H I (gM (.For cz eu ik [] cD) H) (tR iJ nK eh):=by
 intro r q U Y B bv P O W p m l z
 refine PySem.wpAny_For (ea (K r q U Y B _ _ p m l z) (fun S cJ T=>ea T (fun M cK c=>?_) fun F F c=>cG.exc l m c) fun F F c=>cG.exc l m c) cs
 obtain⟨ce,b,X,n,rfl,cf,ci,bb,b8,ca,cb,C,g⟩:=c
 have N:Eo u H q U ce:=⟨bb,b8,cb,HI l bb⟩
 refine codeAny_forLoop_any (El G w u H I q B U ce b X fun j Y B=>eS iJ eh X b bv P j Y B) (fun k cE cp=>?_) (b.length+1) ⟨0,Y,n,eA _,rfl,cf,l.go m C,C.wk,C.aq m,g,ci,ca⟩
 clear cf ci bb b8 ca cb C g z l m
 obtain⟨J,ck,e,cw,rfl,x,bk,f,y,Z,am,V⟩:=cp
 rcases C8 cw with Q | rfl
 ·rw [yc Q] at x
  cases bd:iJ ck b[J] with
  | none=>exact(H9 x bd).elim
  | some cH=>
   rw [AI bd] at x
   refine AL f.st am (gV Q) fun L ch M a i=>?_
   refine gz (wx f.st bk V N.f2 N.f4 N.hl am.obj a) fun ac an al=>?_
   obtain⟨cC,bi⟩:=i al
   refine H4 bi (s _ _ _ _ _ _ _ _ _ _ W p ac an cC bd fun be cq cm bm b5 bu=>?_)
   have mQ:=(f.aF ac N.f1 a).trans bm
   have bx:dy U.heap be.heap:=fun R E d=>b5 R E (al R E (y R E d))
   have bn:dM U be:=⟨bu.gens.trans Z.gens,bu.os.trans Z.os⟩
   have cj:=bi.bw bm b5 V N.hl N.f4 bi.isOk
   refine ea (cr r q be cH e _ P fM W p cq cm x) (fun t cL c=>?_) fun F F c=>c.no
   induction t with
   | next=>
    obtain⟨cI,cF,⟨cB,cA⟩,cn,ap,b6,co⟩:=c
    refine cj.obj.elim fun o h=>?_
    have D:=h.1
    exact⟨b.length+1 - (J+1),yr (nS Q) (oY J),J+1,cI,cF,Q,rfl,cA,cn,mQ.trans ap,bx.trans b6,bn.trans co,cj.bw ap b6 V N.hl N.f4 cB,ap.aQ V D⟩
   | ret M=>exact mR.mono mQ bx bn c
   | brk=>exact c.elim
   | cont=>exact c.elim
 ·rw [CW] at x
  refine Ad (p.here v).1 f.st am (nN (d5 _)) fun L ch a=>y9 ?_
  refine gz (wx f.st bk V N.f2 N.f4 N.hl am.obj a) fun ac an al=>?_
  exact(⟨ck,e,x,an,f.aF ac N.f1 a,fun R E d=>al R E (y R E d),⟨Z.gens,Z.os⟩⟩:iz G w u q H I B U bv {cE with heap:=L,toks:=ch})
end
end
section
section
def Kept (L cm:cO):Prop:= ∀f o,L.get? f=ab o→(∀B,o.data≠ .fields B)→ ∃X,cm.get? f=ab {o with slots:=X}
theorem Kept.refl(L:cO):Kept L L:=fun F o Z F=>⟨o.slots,Z⟩
theorem Kept.trans(S:Kept Cm Cn)(s:Kept Cn Co):Kept Cm Co:=fun f o Z P=>by
 obtain⟨X,R⟩:=S f o Z P
 refine(s f _ R P).elim fun B J=>?_
 exact⟨B,J⟩
theorem Kept.frame(k:Kept L cm)(A:dy L cm)(l:dC L q H I V):dC cm q H I V:=by
 have e: ∀y,L.Ns H.locals y→cm.Ns H.locals y:=fun y S=>by
  refine S.elim fun o h=>?_
  refine j0 h fun T Y D hd j=>?_
  obtain⟨X,Z⟩:=k _ o D (fun B d=>by have n:=hd.symm.trans d;contradiction)
  exact⟨_,T,Y,Z,hd,j⟩
 have a: ∀i M,L.IsCell i M→cm.IsCell i M:=fun i M S=>by
  refine dg S fun o D hd=>?_
  obtain⟨X,Z⟩:=k _ o D (fun B d=>by rw [hd] at d;contradiction)
  exact⟨_,Z,hd⟩
 exact⟨l.ok,l.free,l.len,l.loc.imp e,fun S i Z=>(l.aU S i Z).imp fun p d=>a i p d,fun S J Z=>(l.at_ S J Z).mono A e a⟩
structure Step (G:d7) (w:di) (u:cO) (U en:List a0) (M:J) (eN:cO) (q:J) (L cm:cO):Prop where
 go:b6 G w u U en M eN q cm
 aL:dy L cm
 kept:Kept L cm
theorem Step.trans(S:Step G w u U en M eN q Cm Cn)(s:Step G w u U en M eN q Cn Co):Step G w u U en M eN q Cm Co:=
 ⟨s.go,S.aL.trans s.aL,S.kept.trans s.kept⟩
theorem Yk(m:St G w u U q L)(N:b6 G w u U en M eN q L)(S:Heap.SlotsOnly U L cm):Step G w u U en M eN q L cm:=by
 have x:dy L cm:=fun R t V=>by
  have:=m.bj V
  refine dg V fun o D j=>?_
  exact⟨o,(S.2.1 R this).trans D,j⟩
 have E: ∀f o,L.get? f=ab o→(∀T I,o.data≠ .dict T I)→f ∉ U:=fun f o Z P d=>by
  obtain⟨_,_,p,T,I,b,hd⟩:=m.aH f d
  obtain rfl:=c4 (Z.symm.trans b);exact P T I hd
 refine⟨N.trans ⟨⟨fun f o Z=>?_,fun R r Z=>?_,m.out,fun g c=>?_⟩,fun f o Z F F=>⟨fun Q=>(S.2.1 f Q).trans Z,S.2.2 f o Z⟩,fun f o Z=> .inl (by rw [Z];exact fun S=>nomatch S),fun f o Z=>let ⟨_,b⟩:=S.2.2 f o Z;⟨_,b⟩⟩,x,fun f o Z F=>S.2.2 f o Z⟩
 ·have:f ∉ U:=fun d=>by have n:=((m.aH f d).bs).symm.trans Z;contradiction
  exact(S.2.1 f this).trans (m.top f o Z)
 ·have:R ∉ U:=fun d=>by have n:=((m.aH R d).mu).symm.trans Z;contradiction
  refine(m.mem R r Z).mono x (S.2.1 R this) fun y e B F W K=>⟨e,B,(S.2.1 y (E y e W (fun T I d=>by have n:=K.symm.trans d;contradiction))).trans W,K,fun S i=>⟨S,i⟩⟩
 ·obtain⟨Y,l,o,T,I,D,hd⟩:=m.aH g c
  obtain⟨X,Z⟩:=S.2.2 g o D
  exact⟨Y,l,_,T,I,Z,hd⟩
theorem Yj(m:St G w u U q L)(N:b6 G w u U en M eN q L)(o:fi):Step G w u U en M eN q L (L.push o):=
 ⟨N.trans (b6.push m o),oL o,fun f a Z F=>⟨a.slots,fU _ Z⟩⟩
theorem JY(A: ∀f o,u.get? f=ab o→eN.get? f=ab o)(m:St G w u U q L)(N:b6 G w u U en M eN q L)(s:eN.get? z=ao)(V:q z=ao)(e:L.get? z=ab iU)(h:iU.data= .fields e0)
 (y:hu z L cm)(a:cm.get? z=ab qd)(am:qd.data= .fields nB)(C:e0.size=nB.size):Step G w u U en M eN q L cm:=by
 have k: ∀f o,f≠z→L.get? f=ab o→cm.get? f=ab o:=fun f o P Z=>(y.2 f P).trans Z
 have x:dy L cm:=fun f t ⟨o,D,b,I,j⟩=>⟨o,k f o (fun P=>by subst P;obtain rfl:=c4 (e.symm.trans D);have n:=h.symm.trans j;contradiction) D,b,I,j⟩
 have H:u.get? z=ao:=by
  induction d:u.get? z with
  | none=>rfl
  | some o=>have n:=(A z o d).symm.trans s;contradiction
 have B:St G w u U q cm:=by
  refine⟨fun f o Z=>k f o (fun P=>by subst P;have n:=H.symm.trans Z;contradiction) (m.top f o Z),fun R r Z=>?_,m.out,fun g c=>?_⟩
  ·have P:R≠z:=fun P=>by subst P;have n:=V.symm.trans Z;contradiction
   refine(m.mem R r Z).aX x (y.2 R P) fun ac O v S F W K i=>?_
   by_cases d:ac=z
   ·subst d
    obtain rfl:=c4 (e.symm.trans W)
    have n:=h.symm.trans K;injection n with n;subst n
    have:3 < nB.size:=by
     refine C▸?_
     refine(nR 3 e0.size).elim (fun P=>?_) fun P=>?_
     ·exact P
     ·have n:=(oR P).symm.trans i;contradiction
    exact⟨qd,nB,a,am,nB[3],by simp [this]⟩
   ·exact⟨O,v,k ac O d W,K,S,i⟩
  ·obtain⟨Y,l,o,T,I,D,E⟩:=m.aH g c
   exact⟨Y,l,o,T,I,k g o (fun P=>by subst P;obtain rfl:=c4 (e.symm.trans D);have n:=h.symm.trans E;contradiction) D,E⟩
 refine⟨⟨B,fun f o Z J i=>?_,N.fresh,fun f o Z=>?_⟩,x,fun f o Z P=>⟨o.slots,k f o (fun d=>by subst d;obtain rfl:=c4 (e.symm.trans Z);exact P e0 h) Z⟩⟩
 ·obtain⟨Y,X,l⟩:=N.keep f o Z J i
  have P:f≠z:=fun P=>by subst P;have n:=s.symm.trans Z;contradiction
  exact⟨fun Q=>k f _ P (Y Q),X,k f _ P l⟩
 ·have P:f≠z:=fun P=>by subst P;have n:=s.symm.trans Z;contradiction
  obtain⟨p,al⟩:=N.there f o Z
  exact⟨p,k f p P al⟩
theorem Yh(m:St G w u U q L)(N:b6 G w u U en M eN q L)(a:q z=ab (.exc E O))(D:L.get? z=ab iU)(h:iU.data= .fields e0)
 (y:hu z L cm)(c:cm.get? z=ab qd)(e:qd.data= .fields nB)(A:e0.size=nB.size)(j:zj cm z E O):Step G w u U en M eN q L cm:=by
 have k: ∀f o,f≠z→L.get? f=ab o→cm.get? f=ab o:=fun f o P z=>(y.2 f P).trans z
 have x:dy L cm:=fun f t ⟨C,l,b,I,K⟩=>⟨C,k f C (fun P=>by subst P;obtain rfl:=c4 (D.symm.trans l);have n:=h.symm.trans K;contradiction) l,b,I,K⟩
 have Z:b6 G w u U en q L (q.set z (.exc E O)) cm:=b6.upd m a y (fun B H=>by
  obtain rfl:=c4 (D.symm.trans H)
  refine .inr ⟨qd,e0,nB,h,c,e,fun S i=>?_⟩
  have:3 < nB.size:=by
   refine A▸?_
   refine(nR 3 e0.size).elim (fun P=>?_) fun P=>?_
   ·exact P
   ·have n:=(oR P).symm.trans i;contradiction
  exact⟨nB[3],by simp [this]⟩) j
 refine⟨N.trans (Z.forget fun R o P=>?_),x,fun f o P d=>⟨o.slots,k f o (fun s=>by subst s;obtain rfl:=c4 (D.symm.trans P);exact d e0 h) P⟩⟩
 by_cases d:R=z
 ·subst d;rw [J.aa];rw [a] at P;exact P
 ·rw [J.ag _ _ d];exact P
theorem fb.aW {A:j7}(c:(H::mB).map (·.frame)=U.map ab)(g: ∀Z ∈ H::mB,Z.scope.kind≠ .module)(m:St G w u U q L):L.FunFrames u (H::mB)∧(H::mB).filterMap (·.frame)=U:=by
 generalize H::mB=N at c g
 clear A
 have X: ∀(N:List eP) (t:List a0),N.map (·.frame)=t.map ab→(∀Z ∈ N,Z.scope.kind≠ .module)→(∀B ∈ t,B ∈ U)→L.FunFrames u N∧N.filterMap (·.frame)=t:=by
  intro N
  induction N with
  | nil=>intro t Z _ _;cases t with | nil=>exact⟨trivial,rfl⟩ | cons _ _=>contradiction
  | cons S j E=>
   intro t Z g V
   induction t with
   | nil=>contradiction
   | cons B t=>
    rw [gq,gq] at Z
    obtain⟨R,J⟩:=sb Z
    refine(E t J (fun s C=>g s (fJ _ C)) (fun s C=>V s (fJ _ C))).elim fun W a=>?_
    obtain⟨Y,l,o,T,I,D,hd⟩:=m.aH B (V B er)
    exact⟨⟨g S er,⟨B,o,R,Y,D,fun Q d=>by rw [hd] at d;cases d⟩,W⟩,by rw [List.filterMap_cons,R];simp only;rw [a]⟩
 exact X N U c g fun F P=>P
theorem rz(t:Array b7→Array b7)(D:L.get? z=ab ⟨b8,df,.fields e0,hK⟩):
 hu z L (L.update z (u5 t))∧(L.update z (u5 t)).get? z=ab ⟨b8,df,.fields (t e0),hK⟩:=
 ⟨.update ..,u2 _ D rfl⟩
theorem JD {s:cx}(c:Y.frames=ab (H::mB))(Z:(H::mB).map (·.frame)=U.map ab)(g: ∀E ∈ H::mB,E.scope.kind≠ .module)
 (h:H.frame=ab z)(m:St G w u U q s.heap)(ac: ∀dJ o,u.get? dJ=ab o→eN.get? dJ=ab o)(N:b6 G w u U en M eN q s.heap)(a:q E=ab (.exc O cn))
 (S: ∀cm,Step G w u U en M eN q s.heap cm→fp eN cm q E→fG () {s with heap:=cm}):
 cu (bD G w) Y (do let R←frameOf H;let V←entryPlaceOf z dJ;let I←abc b8 R .none (hY z) .none V;y6 (.ref E) 1 I) fG cq s:=by
 refine(fb.aW (A:=Y) Z g m).elim fun r l=>?_
 refine bt (wpAny_frameOf_fun c r h fun T i=>?_)
 rw [l] at i
 have L:=Yk m N i
 refine bt (wpAny_entryPlaceOf fun V J=>?_)
 refine bt (sQ ?_ (J.sizeOk5 _ _ _ _ _))
 have n:=Yj L.go.st L.go {cls:= .type "traceback",dict:=ao,data:= .fields ([b8,.ref z,.none,hY z,.none]++(if V.isEmpty then iu 6 nZ else V)).toArray}
 obtain⟨Q,X,D,f,_⟩:=n.go.st.mem E _ a
 refine qU D rfl (by(exact Nat.lt_of_add_left_lt f)) ?_
 refine(rz (·.setIfInBounds 1 (qC T.objs.size)) D).elim fun k j=>?_
 have F:E≠T.objs.size:=by
  obtain⟨_,_,t,_⟩:=L.go.st.mem E _ a
  exact hU (fV t)
 have e:=(k.2 T.objs.size (Ne.symm F)).trans (gc T rfl)
 have x:eN.get? T.objs.size=ao:=by
  induction d:eN.get? T.objs.size with
  | none=>rfl
  | some o=>refine(L.go.there _ o d).elim fun p b=>?_;exact absurd (fV b) (oX _)
 have B:(Q.setIfInBounds 1 (qC T.objs.size))[1]? =ab (qC T.objs.size):=by rw [CM,if_pos rfl,if_pos (by omega)]
 have P:=Yh n.go.st n.go a D rfl k j rfl (by simp) (⟨_,_,j,by simpa using f,.inr ⟨T.objs.size,_,_,hY z,B,Ne.symm F,e,rfl,rfl⟩⟩:zj _ E O cn)
 refine S _ ((L.trans n).trans P) fun o v y W K C=>?_
 obtain rfl:=c4 (j.symm.trans W);injection K with K;subst K
 have:y=T.objs.size:=by
  rw [B] at C;cases C;rfl
 subst this
 exact⟨x,L.go.st.fresh⟩
theorem JF(c:Y.frames=ab (H::mB))(Z:(H::mB).map (·.frame)=U.map ab)(g: ∀E ∈ H::mB,E.scope.kind≠ .module)
 (h:H.frame=ab z)(m:St G w u U q r.heap)(A: ∀b o,u.get? b=ab o→eN.get? b=ab o)(N:b6 G w u U en M eN q r.heap)(a:q E=ab (.exc O cn))(R:fp eN r.heap q E)
 (J: ∀cm,Step G w u U en M eN q r.heap cm→fp eN cm q E→fG () {r with heap:=cm}):
 cu (bD G w) Y (sG (.ref E) H) fG cq r:=by
 obtain⟨Q,X,D,f,p⟩:=m.mem E _ a
 unfold sG
 refine h▸?_
 rcases p with W | ⟨y,v,B,S,W,F,e,hd,C⟩
 ·refine bt (l6 D rfl W ?_)
  rw [if_neg (by decide)]
  exact JD c Z g h m A N a J
 ·refine bt (l6 D rfl W ?_)
  refine(if_pos (show(qC y != nZ)=true from rfl))▸?_
  refine bt (l6 e hd C ?_)
  obtain⟨ac,V⟩:=R _ _ y D rfl W
  by_cases d:(S == hY z)=true
  ·rw [if_pos d]
   exact ct (J r.heap ⟨N,dy.refl _,Kept.refl _⟩ R)
  ·rw [if_neg d]
   obtain⟨I,K,T,i⟩:=v
   dsimp only at hd
   subst hd
   have l:3 < B.size:=by
    refine(nR 3 B.size).elim (fun P=>?_) fun P=>?_
    ·exact P
    ·have n:=(oR P).symm.trans C;contradiction
   refine bt (qU e rfl l ?_)
   obtain⟨k,j⟩:=rz (·.setIfInBounds 3 nZ) e
   have L:=JY A m N ac V e rfl k j rfl (by simp)
   exact JD (s:= {r with heap:=r.heap.update y (u5 (·.setIfInBounds 3 nZ))}) c Z g h L.go.st A L.go a fun cm x t=>J cm (L.trans x) t
theorem Bm {s:cx}(m:St G w u U q s.heap)(A: ∀b o,u.get? b=ab o→eN.get? b=ab o)(N:b6 G w u U en M eN q s.heap)(a:q z=ab (.exc E O))(H:fp eN s.heap q z)
 (d: ∀cm,Step G w u U en M eN q s.heap cm→fp eN cm q z→fG () {s with heap:=cm}):cu (bD G w) Y (setFlight (.ref z) df) fG cq s:=by
 obtain⟨Q,X,D,f,p⟩:=m.mem z _ a
 rcases p with W | ⟨y,h,B,S,W,F,e,hd,C⟩
 ·refine bt (l6 D rfl W ?_)
  rw [if_neg (by decide)]
  exact ct (d s.heap ⟨N,dy.refl _,Kept.refl _⟩ H)
 ·refine bt (l6 D rfl W ?_)
  refine(if_pos (show(qC y != nZ)=true from rfl))▸?_
  refine(H _ _ y D rfl W).elim fun l V=>?_
  obtain⟨I,K,T,i⟩:=h
  dsimp only at hd
  subst hd
  have g:3 < B.size:=by
   refine(nR 3 B.size).elim (fun P=>?_) fun P=>?_
   ·exact P
   ·have n:=(oR P).symm.trans C;contradiction
  refine qU e rfl g ?_
  refine(rz (·.setIfInBounds 3 (df.elim .none fun t=>hY t)) e).elim fun k j=>?_
  have L:=JY A m N l V e rfl k j rfl (by simp)
  refine d _ L fun o v Z R J c=>?_
  exact H o v Z ((k.2 z (Ne.symm F)).symm.trans R) J c
theorem JB {outer:List eP} {L:a0}(c:Y.frames=ab (H::outer))(Z:(H::outer).map (·.frame)=U.map ab)(C: ∀z ∈ H::outer,z.scope.kind≠ .module)
 (h:H.frame=ab L)(m:St G w u U q r.heap)(A: ∀b o,u.get? b=ab o→eN.get? b=ab o)(N:b6 G w u U en M eN q r.heap)(a:q z=ab (.exc E O))(Q:fp eN r.heap q z)
 (d: ∀cm,Step G w u U en M eN q r.heap cm→fp eN cm q z→fG () {r with heap:=cm}):
 cu (bD G w) Y (DU H (.ref z)) fG cq r:=
 bt (JF c Z C h m A N a Q fun T x t=>Bm (s:= {r with heap:=T}) x.go.st A x.go a t fun V B g=>d V (x.trans B) g)
end
end
section
set_option tactic.hygienic true
section
variable (cX:d7) (cY:di) (da:cO)
def Eu (q:List a0) (B:J) (U:cx) (x O:KK) (j:qz) (a:cx):Prop:=match j with
 | .ok (.ret v)=>ei cX cY da q B U x v a
 | .ok _=>False
 | .error e=>cG cX cY da q B U O e a
def ie (I:Nat) (M:b7) (o:Spec):Prop:=
 ∀r q U B x O Q b,fb I r q→St cX cY da q B U.heap→c7 U.heap Q b→o b B x O→
  jx (bD cX cY) r (.call M ⟨Q,[]⟩) (Eu cX cY da q B U x O) U
end
section
theorem F5 {k:PySem.Str→Option mF}: ∀ {N:List (PySem.Str×b7)} {y:PySem.Str→Option b7},t ∉ N.map (·.1)→vf k N y t=y t
 | [],_,_=>rfl
 | (n,v)::j,y,h=>by
  rw [gq,gr,not_or] at h
  unfold vf
  rw [F5 h.2]
  split
  ·exact if_neg h.1
  ·rfl
theorem F4 {k:PySem.Str→Option mF}: ∀ {N:List (PySem.Str×b7)} {y:PySem.Str→Option b7},t ∉ N.map (·.1)→yS k N y t=y t
 | [],_,_=>rfl
 | (n,v)::j,y,h=>by
  rw [gq,gr,not_or] at h
  unfold yS
  rw [F4 h.2]
  split
  ·rfl
  ·exact if_neg h.1
theorem xI(X:I.length=cw.length):(I.zip cw).map (·.1)=I:=by
 induction I generalizing cw with
 | nil=>rfl
 | cons a j o=>induction cw with
  | nil=>contradiction
  | cons v cw=>exact congrArg (a:: ·) (o (qp X))
theorem zS {k:PySem.Str→Option mF}(g:k t=ab .local): ∀ {K:List PySem.Str} {Q:List b7} {y:PySem.Str→Option b7} {J:Nat},K.Nodup→K.length=Q.length→K[J]? =ab t→vf k (K.zip Q) y t=Q[J]?
 | [],_,_,J,_,_,h=>by contradiction
 | a::j,v::Q,y,0,hn,hl,h=>by
  obtain rfl:=c4 h
  rw [yl];unfold vf
  rw [F5 (by rw [xI (qp hl)];exact(yk.mp hn).1),if_pos g]
  exact if_pos rfl
 | a::j,v::Q,y,J+1,hn,hl,h=>by
  rw [yl];unfold vf
  exact zS g (yk.mp hn).2 (qp hl) (by simpa using h)
theorem F3 {k:PySem.Str→Option mF}(g:k t=ab .cell)(B:I.Nodup)(h:I.length=cw.length)(X:I[A]? =ab t):yS k (I.zip cw) oQ t=cw[A]? :=by
 induction I generalizing cw oQ A with
 | nil=>exact nomatch X
 | cons a j o=>cases cw with
  | nil=>exact nomatch h
  | cons v cw=>
   rw [yl];unfold yS
   cases A with
   | zero=>
    obtain rfl:=c4 X
    rw [F4 (by rw [xI (qp h)];exact(yk.mp B).1),if_neg (by rw [g];decide)]
    exact if_pos rfl
   | succ A=>exact o (yk.mp B).2 (qp h) X
theorem tg {n:Nat} {acc:List (PySem.Str×a0)}(X:(acc.lookup t).isSome=true∨(t,mG) ∈ uA):((qJ n uA acc).lookup t).isSome=true:=by
 induction uA generalizing n acc with
 | nil=>exact X.elim id fun d=>nomatch d
 | cons p j o=>
  have R:=p.1;have k:=p.2
  unfold qJ
  split
  ·refine o (X.elim (fun X=> .inl ?_) fun X=>(gr.mp X).elim (fun Z=> .inl ?_) .inr)
   ·rw [j4]
    split
    ·rfl
    ·exact X
   ·rw [(Prod.mk.inj Z).1,j4,beq_self_eq_true];rfl
  ·rename_i g
   refine o (X.elim .inl fun X=>(gr.mp X).elim (fun Z=>?_) .inr)
   exact absurd ((Prod.mk.inj Z).2▸beq_self_eq_true mG) g
theorem kW {k:mF}: ∀ {A:List (PySem.Str×mF)},A.lookup t=ab k→(t,k) ∈ A
 | (a,v)::j,h=>by
  rw [j4] at h
  induction H:t == a with
  | true=>rw [H] at h;obtain rfl:=c4 h;refine(beq_iff_eq.mp H)▸?_;exact er
  | false=>rw [H] at h;exact fJ _ (kW h)
theorem b6.drop(N:b6 G w u en Ct q L M cm)(i: ∀a ∈ Ct,L.get? a=ao)(Q: ∀a ∈ en,a ∉ U→L.get? a=ao)(y: ∀a ∈ U,a ∈ en):b6 G w u U [] q L M cm:=by
 refine⟨⟨N.st.top,N.st.mem,N.st.out,fun g c=>N.st.aH g (y g c)⟩,fun f o Z V F=>?_,N.fresh,N.there⟩
 obtain⟨Y,l⟩:=N.keep f o Z V (fun P=>by have n:=(i f P).symm.trans Z;contradiction)
 exact⟨fun P=>Y fun d=>(by have n:=(Q f d P).symm.trans Z;contradiction),l⟩
noncomputable def start (b:List D) (y:Nat):Loc:=b.map ab++iu y ao
theorem Loc.bp: ∀(Y:Loc) (J:Nat),Y.at J=(Y[J]?).join
 | [],_=>rfl
 | d::_,0=>rfl
 | _::j,J+1=>by show Loc.at j J=_;refine(Loc.bp j J)▸?_;rfl
theorem JX(X:(start n A).at C=ab T):n[C]? =ab T:=by
 rw [Loc.bp] at X
 unfold start at X
 rw [List.getElem?_append] at X
 split at X
 ·rw [lX] at X
  cases P:n[C]? with
  | none=>rw [P] at X;contradiction
  | some S=>rw [P] at X;exact X
 ·rename_i h
  cases P:(iu A (none:Option D))[C - (n.map ab).length]? with
  | none=>rw [P] at X;contradiction
  | some S=>
   have:=yd.mp P
   refine this.elim fun W K=>?_
   rw [List.getElem_replicate] at K
   rw [P,←K] at X;contradiction
structure vt (u:cO) (a:a0) (o:fi) (fd:uZ) (body:List iN) (k:Nat) (names:List PySem.Str) (dv:List b7) (dd:List D):Prop where
 at_:u.get? a=ab o
 data:o.data= .func fd
 code:u.CodeRec fd.code fd.qualname
 body:fd.body= .stmts body
 bU:fd.closure= []
 glob:fd.globals=hB
 blt:fd.builtins=kH
 bind: ∀(s:cx) (vs:List b7),(∀b o,u.get? b=ab o→s.heap.get? b=ab o)→vs.length=k→nW s fd ⟨vs,[]⟩ (names.zip (vs++dv))
 dflt: ∀h:cO,c7 h dv dd
 len:names.length=k+dv.length
 nodup:names.Nodup
 kind: ∀x ∈ names,fd.scope.names.lookup x=ab .local∨fd.scope.names.lookup x=ab .cell
 bT:fd.scope.isCoroutine=false
 gen:fd.scope.isGenerator=false
 fn:fd.scope.kind= .function
theorem JW {o:fi} {k:Nat} {others:List PySem.Str}(y:jC u)(t:vt u z o d6 ik k I cw n)(cL: ∀S ∈ others,d6.scope.names.lookup S≠ab .free)
 (H: ∀bd,fX G w u A (hy d6 bd z) (I++others) (hX ik (hy d6 bd z)) eh):
 ie G w u (A+1) (.ref z) (fun b B x O=>b.length=k∧eh (start (b++n) others.length) B (fun F e=>x .none e) x (fun F=>O)):=by
 intro r q U B x O Q b p m bn bk
 have cj:=bk.1;have bk:=bk.2
 refine gz (p.here (qq _)) fun cM cX cY=>?_
 refine fR p.aH fun N ci ck cm=>?_
 have cn:Q.length=k:=bn.length.trans cj
 have bi:I.length=(Q++cw).length:=by rw [t.len,dR,cn]
 have cB:c7 U.heap (Q++cw) (b++n):=bn.append (t.dflt _)
 refine codeAny_call_function (by show r.depth < 1000;omega) (m.top _ _ t.at_) t.data t.bT t.gen t.body (t.code.keeps m.top) ?_
 refine t.bind U Q m.top cn _ _ _ _ ?_
 refine t.bU▸?_
 refine Nt t.fn (fun S co=>?_) fun C ac E S=>?_
 ·have V:S.1 ∈ I:=by
   have:S.1 ∈ (I.zip (Q++cw)).map (·.1):=yj co
   rwa [xI bi] at this
  rcases t.kind _ V with h | h
  ·exact .inl h
  ·exact .inr ⟨h,tg (.inr (kW h))⟩
 ·have cK:C=hy d6 U.heap.objs.size z:=ac
  subst cK
  clear ac
  refine rU S.toInCall.same fun al cR cU=>?_;subst cU
  have ap:=S.toInCall.keep
  refine⟨(y.noLimit.keeps m.top).keeps ap,codeAny_func ?_⟩
  have cW:(hy d6 U.heap.objs.size z).locals=U.heap.objs.size:=rfl
  have ca: ∀f,U.heap.objs.size≤f→U.heap.get? f=ao:=fun f H=>yE H
  have bu: ∀f,U.heap.objs.size≤f→u.get? f=ao:=fun f H=>by
   induction P:u.get? f with
   | none=>rfl
   | some o=>exact absurd (fV (m.top _ _ P)) (jw.mpr H)
  have cq: ∀f,U.heap.objs.size≤f→B f=ao:=fun f H=>by
   induction P:B f with
   | none=>rfl
   | some o=>exact absurd (m.lt P) (jw.mpr H)
  have am:b6 G w u q [] B U.heap B al:=b6.ext m ap
  have cS:dy U.heap al:=fun f cZ ⟨o,D,bn⟩=>⟨o,ap f o D,bn⟩
  have cb:=S.toInCall.ns
  have cf:St G w u (U.heap.objs.size::q) B al:=⟨am.st.top,am.st.mem,am.st.out,fun bd b5=>by
   rcases gr.mp b5 with rfl | b5
   ·refine k5 cb fun o cF A D hd F=>?_
    exact⟨bu _ (d5 _),cq _ (d5 _),o,cF,A,D,hd⟩
   ·exact am.st.aH bd b5⟩
  have cA:lu u (hy d6 U.heap.objs.size z) (U.heap.objs.size::q):=⟨⟨_,_,rfl,rfl⟩,bu _ (d5 _),fun s i Z=>bu _ (nQ (S.above s i (mem_of_lookup Z)))⟩
  have cr:fb A (r.deeper (hy d6 U.heap.objs.size z)) (U.heap.objs.size::q):=by
   refine⟨fun F=>⟨cM,?_,?_⟩,(hy d6 U.heap.objs.size z)::N,?_,?_,?_⟩
   ·exact vQ (j:=1) (k:=3) (by decide) (by assumption) (d5 _)
   ·exact vQ (j:=3) (k:=40) (by decide) (by assumption) (d5 _)
   ·show r.frames.map _=_;rw [ci];rfl
   ·rw [gq,gq,ck];rfl
   ·intro Z ac
    rcases gr.mp ac with rfl | ac
    ·show d6.scope.kind≠_;rw [t.fn];decide
    ·exact cm Z ac
  have cs:dC al B (hy d6 U.heap.objs.size z) (I++others) (start (b++n) others.length):=by
   refine⟨⟨t.fn,t.glob,t.blt,fun s d i R cE=>M7 S.apart (mem_of_lookup R) (mem_of_lookup cE),.inr trivial⟩,cq _ (d5 _),?_,⟨_,cb⟩,fun s i Z=>⟨_,S.cell s i Z⟩,fun s J Z=>?_⟩
   ·unfold start
    rw [dR,dR,dP,dR,oW,t.len,cj,(t.dflt U.heap).length]
   ·have X: ∀T,(start (b++n) others.length).at J=ab T→ ∃M,I[J]? =ab s∧(Q++cw)[J]? =ab M∧cP al M T:=fun T hd=>by
     refine dg ((cB.get (JX hd))) fun M W K=>?_
     refine⟨M,?_,W,K.mono cS⟩
     have cN:J < I.length:=by
      rw [bi]
      refine(nR J (Q++cw).length).elim (fun P=>?_) fun P=>?_
      ·exact P
      ·have c0:=(nN P).symm.trans W;contradiction
     have:=oE Z
     rwa [CZ cN] at this
    unfold gi
    split
    ·rename_i g
     exact⟨_,cb,fun T hd=>by
      refine fR ((X T hd)) fun M bx W K=>?_
      exact⟨M,by rw [zS g t.nodup bi bx];exact W,K⟩⟩
    ·rename_i g
     obtain⟨i,ch⟩:=nU.mp (tg (n:=U.heap.objs.size+1) (acc:= []) (.inr (kW g)))
     exact⟨i,_,ch,S.cell s i ch,fun T hd=>by
      refine fR (X T hd) fun M bx W K=>?_
      exact⟨M,by rw [F3 g t.nodup bi bx];exact W,K⟩⟩
    ·rename_i g
     have V:s ∈ I++others:=by
      have:=oE Z
      exact uQ this
     rcases j5.mp V with V | V
     ·refine(t.kind _ V).elim (fun h=>?_) fun h=>?_
      ·exact absurd (h.symm.trans g) (by decide)
      ·exact absurd (h.symm.trans g) (by decide)
     ·exact absurd g (cL s V)
    ·trivial
  have cH: ∀f ∈ fm (hy d6 U.heap.objs.size z),U.heap.get? f=ao:=fun f H=>by
   rcases wO H with rfl | ⟨s,Z⟩
   ·exact ca _ (d5 _)
   ·exact ca _ (nQ (S.above s f (mem_of_lookup Z)))
  have bb:b6 G w u (U.heap.objs.size::q) (fm (hy d6 U.heap.objs.size z)) B U.heap B al:=by
   refine⟨cf,fun f o Z V co=>⟨fun F=>ap f o Z,o.slots,ap f o Z⟩,am.fresh,am.there⟩
  have bv: ∀ {e be},b6 G w u (U.heap.objs.size::q) (fm (hy d6 U.heap.objs.size z)) B U.heap e be→b6 G w u q [] B U.heap e be:=fun cz=>
   cz.drop cH (fun f H v=>by
    rcases gr.mp H with rfl | H
    ·exact ca _ (d5 _)
    ·exact absurd H v) fun f H=>fJ _ H
  refine ea (H U.heap.objs.size _ _ ⟨al,U.gens,U.drawn,cR,U.os⟩ _ B _ _ _ cA cr cf cs bk) (fun cJ a c=>?_) fun Z a c=>?_
  ·induction cJ with
   | next=>
    obtain⟨cV,e,Y,l,bm,b8,an⟩:=c
    exact(⟨.none,e,Y,.none,bv (bb.trans bm),⟨an.gens,an.os⟩⟩:ei ..)
   | ret M=>
    obtain⟨T,e,Y,l,bm,b8,an,_⟩:=c
    exact(⟨T,e,Y,l,bv (bb.trans bm),⟨an.gens,an.os⟩⟩:ei ..)
   | brk=>exact c.elim
   | cont=>exact c.elim
  ·obtain⟨Z,i,cD,cV,e,rfl,Y,⟨l,cQ⟩,bm,b8,an,cp⟩:=c
   have ce:=bb.trans b8
   refine JB (eN:=U.heap) (M:=B) (U:=U.heap.objs.size::q) (outer:=N) (L:=U.heap.objs.size) (by show r.frames.map _=_;rw [ci];rfl) (by rw [gq,gq,ck];rfl) (fun Z ac=>?_) rfl ce.st m.top ce l (cQ.aV bb) fun be cC cI=>?_
   ·rcases gr.mp ac with rfl | ac
    ·show d6.scope.kind≠_;rw [t.fn];decide
    ·exact cm Z ac
   ·show cG G w u q B U O (.ref Z) {a with heap:=be}
    exact⟨Z,i,cD,e,rfl,Y,⟨l,cI⟩,bv cC.go,⟨cp.gens,cp.os⟩⟩
def gu (G:d7) (w:di) (u:cO) (I:Nat) (M:b7) (o:Spec):Prop:=
 ∀r q U B x O Q b,fb I r q→St G w u q B U.heap→c7 U.heap Q b→o b B x O→
  cu (bD G w) r (fW M Q) (ei G w u q B U x) (cG G w u q B U O) U
theorem ie.call(X:ie G w u A b8 e4):gu G w u A b8 e4:=fun r q U B x O Q b p m j y=>
 ps (qL (X r q U B x O Q b p m j y) fun j a d=>by
  rcases j with Z | (b8 | _ | _ | _)<;>first | exact d.elim | exact d)
def f6 (G:d7) (w:di) (u:cO) (M:b7):Prop:= ∃k,(k=Keeper.frame∨k=Keeper.machine)∧eJ (bD G w) u (DT M) k
def mv (G:d7) (w:di) (u:cO) (I:Nat) (M:b7) (x O:KK):List D→J→Prop:=fun b B=> ∃o,gu G w u I M o∧o b B x O
def tf (G:d7) (w:di) (u:cO) (I:Nat) (K:g9) (Y:Loc) (x O:KK):D→J→Prop:=fun t B=>match t with
 | .val v=>f6 G w u v∧K Y B (mv G w u I v x O) O
 | _=>False
noncomputable def rR (G:d7) (w:di) (u:cO) (I:Nat) (J:W) (K:g9):W:=fun Y B x O=>(fun F:Nat=>J Y B (tf G w u I K Y x O) O) eE
theorem gD(id:String):f6 G w u (.builtin id):=⟨.machine,.inr rfl,fun F F F F F X=>ct X⟩
theorem kj(y:String):f6 G w u (.type y):=⟨.machine,.inr rfl,fun F F F F F X=>ct X⟩
theorem Pz {o:fi}(X:u.get? z=ab o)(h:o.data= .func d6):f6 G w u (.ref z):=by
 refine⟨.frame,.inl rfl,fun r n O U k S=>?_⟩
 refine bt (mO (k _ _ X) ?_)
 refine h▸?_
 exact ct S
theorem GC {k:yF}(A:uw.any (·.1)=false)(g:k= .frame∨k= .machine)
 (X:cu (bD G w) Y (DQ b8 true uw []) (fun R E=>(∀cq:yF→cx→Prop,cq k E→cu (bD G w) Y (DT b8) cq d1 E)∧cu (bD G w) Y (fW b8 (cw++R.pos) R.kw) cq d1 E) d1 r):
 cu (bD G w) Y (mJ cD b8 cw uw []) cq d1 r:=by
 unfold mJ
 refine bt (fz (ea X (fun R E T=>bt (kL ?_)) fun F F S=>S))
 have tail: ∀ {V:ej b7},cu (bD G w) Y V cq d1 E→cu (bD G w) Y (V >>=fun j=>mL [j] point >>=fun F=>pure j) cq d1 E:=
  fun s=>bt (ea s (fun j J t=>bt (fz (Ed (ct t)))) fun F F S=>S)
 rw [A,Ln,CN]
 refine bt (T.1 _ ?_)
 rcases g with rfl | rfl
 ·dsimp only
  split
  ·exact tail T.2
  ·exact tail (wpAny_keep T.2)
 ·exact tail T.2
theorem Af {n:Args→cx→Prop}
 (a:cN= []∨ ∃Z j,cN=Z::j∧dF (Z::j) H=(false,cy Z H)::dF j H)
 (X:cu (bD G w) Y (ix (e9 cD (dF cN H))) (fun Q E=>n ⟨Q,[]⟩ E) cq r):cu (bD G w) Y (DQ b8 true (e9 cD (dF cN H)) []) n cq r:=by
 rcases a with rfl | ⟨Z,j,rfl,a⟩
 ·have d:cu (bD G w) Y (ix []) (fun Q E=>n ⟨Q,[]⟩ E) cq r:=X
  refine bt (ea d (fun Q E V=>?_) fun F F S=>S)
  refine bt (ct ?_)
  refine fz ?_
  exact bt (ct (bt (ct (ct V))))
 ·rw [a] at X ⊢
  exact Calls.evalArgs_plain X
theorem Bi(T:i5 G w u A H I (ix (e9 cD (dF cN H))) dh)
 (a:cN= []∨ ∃e j,cN=e::j∧dF (e::j) H=(false,cy e H)::dF j H)(O:(e9 cD (dF cN H)).any (·.1)=false)
  {s:cx} {first:List b7} {fd:List D}(p:fb A Y U)(m:St G w u U q s.heap)(l:dC s.heap q H I V)(C:c7 s.heap first fd)(N:f6 G w u b8)
  (f: ∀b v,iH b v→ ∃o,gu G w u A b8 o∧o (fd++b) v x bx)(z:dh V q iH bx):
 cu (bD G w) Y (mJ cD b8 first (e9 cD (dF cN H)) []) (ei G w u U q s x) (cG G w u U q s bx) s:=by
 refine dg N fun k g M=>?_
 refine GC O g (Af a ?_)
 refine T.ae p m l z (fun Q b v J S R E K L W=>?_) fun F F c=>c
 refine dg (f _ _ S) fun o y B=>?_
 exact⟨fun n P=>M Y n _ J L.top P,ea (y Y U J v x bx (first++Q) (fd++b) p L ((E.bO m C).append R) B) (fun F F d=>ei.mono E K d) fun F F d=>cG.mono E K d⟩
theorem PC(X:tf G w u A dh V x bx T q): ∃M,T= .val M∧f6 G w u M∧dh V q (mv G w u A M x bx) bx:=by
 cases T with
 | val M=>exact⟨M,rfl,X⟩
 | _=>exact X.elim
theorem Jx {S:PySem.Str} {c D:e5} {v:List cT} {J:W} {K:g9}(Q:c5 G w u A H I (cy (.Name S c) H) J)(V:i5 G w u A H I (ix (e9 D (dF v H))) K)
 (a:v= []∨ ∃e j,v=e::j∧dF (e::j) H=(false,cy e H)::dF j H)(X:(e9 D (dF v H)).any (·.1)=false):
 c5 G w u A H I (cy (.Call (.Name S c) v [] D) H) (rR G w u A J K):=by
 intro r q U Y B x O p m l z
 refine yt rfl (Q.ae p m l z (fun M T n E R f C g P L=>?_) fun F F c=>c)
 refine(PC R).elim fun N h=>?_
 obtain⟨rfl,b,Z⟩:=h
 refine f.val_inv▸?_
 exact ea (Bi V a X p P L (first:= []) .nil b (fun F F d=>d) Z) (fun F F c=>ei.mono C g c) fun F F c=>cG.mono C g c
end
end
section
section
structure vy (K:ey) (N:a0) (name:PySem.Str) (f:a0):Prop where
 get:iY K (.ref N) "__getattribute__" =ab (ab (.builtin "object.__getattribute__"))
 no:iY K (.ref N) "__getattr__" =ab ao
 at_:iY K (.ref N) name=ab (ab (.ref f))
 fn:yR K (.ref f)=ab (.type "function")
def ng (o:Option D) (L:D→Prop):Prop:=match o with
 | some d=>L d
 | none=>L .none
def Q5 (s:List (PySem.Str×D)) (k:PySem.Str) (j:List D) (L:D→Prop):Prop:=match j with
 | []=>ng (cL s k) L
 | d::j=>match j with
  | []=>L ((cL s k).getD d)
  | _=>False
def tj (o:dE) (N j:List D) (L:D→Prop):Prop:=match j with
 | []=>match iS (ab o) with
  | some s=>match kU N with
   | some k=>ng (js s k) L
   | none=>False
  | none=>False
 | _=>False
def mi (S:D) (b:List D) (B:J) (L:KK):Prop:=match S with
 | .val v=>eY B v fun o=>match b with
  | []=>False
  | a::j=>match a with
   | .str k=>rg o fun s=>Q5 s k j fun T=>L T B
   | .tup l=>tj o l j fun T=>L T B
   | _=>False
 | _=>False
def tq (S:D) (b:List D) (B:J) (L:KK):Prop:=match S with
 | .val v=>match v with
  | .ref a=>match B a with
   | some o=>nd o fun N=>kZ b fun T=>N.length≤1000000∧L .none (B.set a (.list (N++ [T])))
   | none=>False
  | _=>False
 | _=>False
theorem Su(X:tq T n q x): ∃R N,T= .val (.ref R)∧q R=ab (.list N)∧kZ n fun A=>N.length≤1000000∧x .none (q.set R (.list (N++ [A]))):=by
 cases T with
 | val v=>induction v with
  | ref R=>
   change (match q R with | some o=>nd o fun N=>kZ n fun A=>N.length≤1000000∧x .none (q.set R (.list (N++ [A]))) | none=>False) at X
   induction P:q R with
   | none=>rw [P] at X;exact X.elim
   | some o=>
    rw [P] at X
    refine dg (wW X) fun N Q X=>?_;subst Q
    exact⟨R,N,rfl,P,X⟩
  | _=>exact X.elim
 | _=>exact X.elim
theorem Q6 {o:dE}(X:tj o n y lV): ∃s k,y= []∧iS (ab o)=ab s∧kU n=ab k∧ng (js s k) lV:=by
 induction y with
 | cons=>exact X.elim
 | nil=>
  unfold tj at X
  dsimp only at X
  induction p:iS (ab o) with
  | none=>rw [p] at X;exact X.elim
  | some s=>
   rw [p] at X
   dsimp only at X
   induction P:kU n with
   | none=>rw [P] at X;exact X.elim
   | some k=>rw [P] at X;exact⟨s,k,rfl,rfl,rfl,X⟩
theorem BU(j:jA L fS s) {k:PySem.Str}(Z:cL s k=ao):pq fS k=ao:=by
 have:(pq fS k).isSome=(cL s k).isSome:=by
  rw [BS j]
  unfold cL
  rw [L5]
  induction s generalizing fS with
  | nil=>rfl
  | cons p P o=>
   rw [oV,mE]
   induction d:p.1 == k with
   | true=>simp
   | false=>
    rw [x1]
    induction fS with
    | nil=>have:=j.keys;contradiction
    | cons v fS=>
     have g:=j.keys
     have V:=j.vals
     cases V with
     | cons _ V=>exact o ⟨(sb g).2,V⟩ (by unfold cL at Z;rw [mE,d] at Z;exact Z)
 rw [Z] at this
 induction P:pq fS k with
 | none=>rfl
 | some _=>rw [P] at this;contradiction
theorem JT(f:jC u)(v:0 < A):gu G w u A (.builtin "dict.get") (fun b B L F=>match b with
 | S::j=>mi S j B L
 | []=>False):=by
 intro r q U B L O ac b p m j g
 have ap:=p.room v
 cases j with
 | nil=>exact g.elim
 | @cons D S ac b z al=>
  cases S with
  | val X=>
   rw [z.val_inv]
   replace g:=jV g
   obtain⟨am,o,Z,g⟩:=g
   cases al with
   | nil=>exact g.elim
   | @cons H y ac b I C=>
    cases y with
    | str k=>
     obtain⟨s,rfl,g⟩:=Ab g
     obtain⟨Y,hd,a⟩:=m.mem _ _ Z
     have i: ∀T (M:b7),cP U.heap M T→cP U.heap ((pq Y k).getD M) ((cL s k).getD T):=fun T M P=>by
      induction e:cL s k with
      | some an=>refine dg (a.find e) fun N W K=>?_;refine W▸?_;exact K
      | none=>refine(BU a e)▸?_;exact P
     refine I.aG fun V=>?_
     cases C with
     | nil=>
      refine DO (prog:=G) (w:=w) (A:=r) (E:=cG G w u q B U O) (Q:=ei G w u q B U L) PySem.F.slot_dict_get hd.typeIs PySem.F.entry_dict_get (PySem.F.args_dict_get_2 _ _) (meets_dict_get (strKind G w) _ (nr k V) (rE f m Z)) ⟨_,hd.mapOf,?_⟩
      refine⟨_,B,?_,i .none .none .none,b6.refl m,⟨rfl,rfl⟩⟩
      change ng (cL s k) _ at g
      induction d:cL s k with
      | some T=>rw [d] at g;exact g
      | none=>rw [d] at g;exact g
     | cons C n=>cases n with
      | nil=>
       exact DO (prog:=G) (w:=w) (A:=r) (E:=cG G w u q B U O) (Q:=ei G w u q B U L) PySem.F.slot_dict_get hd.typeIs PySem.F.entry_dict_get (PySem.F.args_dict_get_3 _ _ _) (meets_dict_get_default (strKind G w) _ (nr _ _) (rE f m Z) _) ⟨_,hd.mapOf,⟨_,B,g,i _ _ C,b6.refl m,⟨rfl,rfl⟩⟩⟩
      | cons=>exact g.elim
    | tup l=>
     obtain⟨s,k,rfl,R,J,g⟩:=Q6 g
     cases C
     rw [←Z] at R
     obtain⟨Y,hd,a⟩:=m.aA R
     refine(Ja (G:=G) (w:=w) I J).elim fun bb h=>?_
     obtain⟨rfl,x⟩:=h
     have t:=I8 (k:=k) a.keys a.vals
     refine DO (prog:=G) (w:=w) (A:=r) (E:=cG G w u q B U O) (Q:=ei G w u q B U L) PySem.F.slot_dict_get hd.typeIs PySem.F.entry_dict_get (PySem.F.args_dict_get_2 _ _) (meetsH_dict_get (fB G w) _ _ (rE f m Z))
      ⟨(by show r.in1.units < vh;rw [uX];lia),k,Y,x,hd,?_⟩
     induction d:js s k with
     | some T=>
      refine dg (t.1 T d) fun c W K=>?_
      rw [d] at g
      refine W▸?_
      exact⟨T,B,g,K,b6.refl m,⟨rfl,rfl⟩⟩
     | none=>
      rw [d] at g
      refine(t.2 d)▸?_
      exact⟨.none,B,g,.none,b6.refl m,⟨rfl,rfl⟩⟩
    | _=>exact g.elim
  | _=>exact g.elim
theorem X1(v:0 < A):gu G w u A (.builtin "list.append") (fun b B L F=>match b with
 | S::j=>tq S j B L
 | []=>False):=by
 intro r q U B L O Q b p m j g
 cases j with
 | nil=>exact g.elim
 | cons z K=>
  refine j0 (Su g) fun R N X Z W=>?_;subst X
  refine z.val_inv▸?_
  obtain⟨Y,k,_,D,t⟩:=m.mem _ _ Z
  refine oG (G:=fun Q=>cu _ _ (fW _ (_::Q)) _ _ _) K W fun M T I W=>?_
  refine Nr ⟨k,D⟩ (fun E ⟨V,J⟩ y=>?_) (by rw [hq,t.length];exact cg W.1 iF)
  have x:dy U.heap E:=fun f c ⟨C,l,j⟩=>⟨C,(y.2 f (fun P=>by subst P;exact(m.mem _ _ Z).aK ⟨C,l,j⟩)).trans l,j⟩
  refine⟨.none,_,W.2,.none,b6.upd m Z y (fun a H=> .inl fun e d=>?_) ⟨Y++ [_],V,(),by simpa using J,(t.mono x).append (.cons (I.mono x) .nil)⟩,⟨rfl,rfl⟩⟩
  obtain rfl:=c4 (D.symm.trans H);contradiction
noncomputable def ko (G:d7) (w:di) (u:cO) (x:ey) (A:Nat) (E:PySem.Str) (K:g9) (Y:Loc) (L O:KK):KK:=fun S n=>match S with
 | .val (.ref a)=>match n a with
  | some (.inst N h)=>match n h with
   | some (.dict s)=>cL s E=ao∧ ∃t,vy x N E t∧f6 G w u (.ref t)∧K Y n (fun b v=> ∃o,gu G w u A (.ref t) o∧o (S::b) v L O) O
   | _=>False
  | some (.list _)=>E= "append" ∧K Y n (fun b v=>tq S b v L) O
  | some (.dict _)=>E= "get" ∧K Y n (fun b v=>mi S b v L) O
  | some (.aA _)=>E= "get" ∧K Y n (fun b v=>mi S b v L) O
  | _=>False
 | _=>False
noncomputable def xw (G:d7) (w:di) (u:cO) (x:ey) (A:Nat) (E:PySem.Str) (M:W) (K:g9):W:=fun Y B L O=>(fun F:Nat=>M Y B (ko G w u x A E K Y L O) O) eE
theorem Xo(x:cf.In u)(y:jC u)(v:0 < A) {o:cT}(ck:c5 G w u A H I (cy o H) cI)(ca:i5 G w u A H I (ix (e9 dw (dF cN H))) dh)
 (a:cN= []∨ ∃Z j,cN=Z::j∧dF (Z::j) H=(false,cy Z H)::dF j H)(cn:(e9 dw (dF cN H)).any (·.1)=false)
 (cb:ve o t H (cy o H)=cy o H)(ce:vl (cN.length+([]:List u3).length) (e9 dw (dF cN H)) (qG dw (qO [] H))=true)(ci:(cD.endLine == dw.line)=true):
 c5 G w u A H I (cy (.Call (.Attribute o t cD) cN [] dw) H) (xw G w u cf A t cI dh):=by
 intro r q U Y B L O p m bx z
 rw [DM,cb]
 refine bt (ck.ae p m bx z (fun M T n E ac be C bu e b5=>?_) fun F F c=>c)
 cases T with
 | val X=>?_
 | _=>exact False.elim ac
 cases X with
 | ref R=>?_
 | _=>exact False.elim ac
 obtain rfl:=be.val_inv
 refine bt (kL ?_)
 have i:n8 true o H cD dw=pure dw:=by unfold n8;simp [ci]
 unfold DX
 refine ce▸?_
 have b8: ∀ {am:b7} {j9:List D→J→Prop} (bb:f6 G w u am) (V:cP E.heap (.ref R) (.val (.ref R))),(∀b an,j9 b an→ ∃bi,gu G w u A am bi∧bi ([.val (.ref R)]++b) an L O)→dh Y n j9 O→
  cu (bD G w) r (n8 true o H cD dw >>=fun bm=>mJ bm am [.ref R] (e9 dw (dF cN H)) (qG dw (qO [] H))) (ei G w u q B U L) (cG G w u q B U O) E:=fun bb V f al=>
  bt (gB i (ea (Bi ca a cn p e b5 (first:= [.ref R]) (fd:= [.val (.ref R)]) (.cons V .nil) bb f al) (fun F F c=>ei.mono C bu c) fun F F c=>cG.mono C bu c))
 have oC: ∀ {am:b7} {j9:List D→J→Prop},(∀ap:b7×List b7→cx→Prop,ap (am,[.ref R]) E→ ∀bd,cu (bD G w) r (getMethod (.ref R) t bd) ap (cG G w u q B U O) E)→f6 G w u am→cP E.heap (.ref R) (.val (.ref R))→(∀b an,j9 b an→ ∃bi,gu G w u A am bi∧bi ([.val (.ref R)]++b) an L O)→dh Y n j9 O→
  cu (bD G w) r (do
   let (am,first)←mL [.ref R] (calleeOf true o H (.ref R) t)
   let bm←n8 true o H cD dw
   mJ bm am first (e9 dw (dF cN H)) (qG dw (qO [] H))) (ei G w u q B U L) (cG G w u q B U O) E:=fun ch bb V f al=>
  bt (fz (ch _ (b8 bb V f al) _))
 dsimp only [ko] at ac
 induction Z:n R with
 | none=>rw [Z] at ac;exact False.elim ac
 | some cp=>
  rw [Z] at ac
  cases cp with
  | inst N h=>
   dsimp only at ac
   induction bn:n h with
   | none=>rw [bn] at ac;exact False.elim ac
   | some co=>
    rw [bn] at ac
    cases co with
    | dict s=>
     obtain⟨cj,am,bk,bb,al⟩:=ac
     refine(e.inst Z bn).elim fun cA cw=>?_
     refine qa cw fun P Q cz cq cr cs b6=>?_
     have g:=wa cr cq t
     rw [BU cs cj] at g
     exact oC (fun ap S bd=>method_fn (x.keeps e.top) b6 bk.get bk.no bk.at_ bk.fn (by show(yL t P).map _=_;refine g▸?_;rfl) S) bb be (fun F F d=>d) al
    | _=>exact False.elim ac
  | list l=>
   obtain⟨rfl,al⟩:=ac
   obtain⟨Q,k,_,cm,bv⟩:=e.mem _ _ Z
   exact oC (fun ap S bd=>getMethod_list_append cm rfl rfl S) (gD _) be (fun b an d=>⟨_,X1 v,d⟩) al
  | dict l=>
   obtain⟨rfl,al⟩:=ac
   obtain⟨Q,hd,bv⟩:=e.mem _ _ Z
   exact oC (fun ap S bd=>M5 hd.typeIs PySem.F.plainAttrs_dict PySem.F.slot_dict_get PySem.F.type_dict_get hd.mapOf.noDict S) (gD _) be (fun b an d=>⟨_,JT y v,d⟩) al
  | aA l=>
   obtain⟨rfl,al⟩:=ac
   obtain⟨Q,hd,bv⟩:=e.mem _ _ Z
   exact oC (fun ap S bd=>M5 hd.typeIs PySem.F.plainAttrs_dict PySem.F.slot_dict_get PySem.F.type_dict_get (fun R Z=>by injection Z with Z;subst Z;refine k5 hd fun o F F W K F=>?_;exact⟨o,W,K.2.1⟩) S) (gD _) be (fun b an d=>⟨_,JT y v,d⟩) al
  | _=>exact False.elim ac
end
end
section
section
theorem zU(p:fb (A+1) Y U)(M:a0)(Q:List b7):fb A (Y.under (.builtin "type.__call__" ⟨.ref M::Q,[]⟩)) U:=by
 refine gz ((p.here (qq _))) fun R f i=>?_
 refine p.aH.elim fun N h=>?_
 refine h.elim fun W K=>?_
 refine⟨fun F=>⟨R,?_,?_⟩,N,W,K⟩
 ·exact vQ (j:=1) (k:=3) (by decide) f (d5 _)
 ·have Z:(Y.under (.builtin "type.__call__" ⟨.ref M::Q,[]⟩)).units≤Y.units+10:=by
   show Y.units+Dq (.builtin "type.__call__" ⟨.ref M::Q,[]⟩)≤_
   have:Dq (.builtin "type.__call__" ⟨.ref M::Q,[]⟩)≤10:=by
    have:Dq (.builtin "type.__call__" ⟨.ref M::Q,[]⟩)=1:=rfl
    (exact b9 rfl)
   (exact Nat.add_le_add_iff_left.mpr this)
  exact vQ (j:=10) (k:=40) (by decide) i Z
theorem rh {sl:Array (Option b7)}(Z:L.get? z=ab ⟨.type "dict",ao,.dict #[] 0, #[]⟩):L.DictOf (strKind G w) z []:=
 ⟨_, #[],0,Z,⟨rfl,rfl,rfl⟩,rfl,fun Z L=>by simp at L,.nil,LO⟩
structure Ej (K:ey) (N f:a0):Prop where
 makes:makesIn K N=true
 init:iY K (.ref N) "__init__" =ab (ab (.ref f))
 fn:yR K (.ref f)=ab (.type "function")
noncomputable def JS (M:a0) (o:Spec):Spec:=fun b B L O=> ∀S h,B S=ao→B h=ao→S≠h→
 o (.val (.ref S)::b) ((B.set h (.dict [])).set S (.inst M h)) (fun j e=>j= .none∧L (.val (.ref S)) e) O
theorem t5(x:cf.In u) {f:a0}(c:Ej cf z f)(y:ie G w u A (.ref f) e4):ie G w u (A+1) (.ref z) (JS z e4):=by
 intro r q U B L O Q b p m j H
 have F:=x.keeps m.top
 obtain⟨X,g,T,V,W⟩:=U
 have gN:=b6.alloc (en:= []) m hW (.dict []) ⟨[],rh (sl:= #[]) (gc _ rfl),rfl,.nil⟩
 have M:=b6.alloc (en:= []) gN.st (l4 z X.objs.size) (.inst z X.objs.size) ⟨#[],gc _ rfl⟩
 rw [nX] at M
 have N:=gN.trans M
 refine make_core (DJ F c.makes) (qE F c.init) (fun D=>DF F D c.fn) (.inl rfl) ?_
 have K:B (X.objs.size+1)=ao:=by
  induction P:B (X.objs.size+1) with
  | none=>rfl
  | some o=>exact absurd (m.lt P) (by show ¬X.objs.size+1 < X.objs.size;(exact De))
 refine qL (y _ q ⟨(X.push hW).push (l4 z X.objs.size),g,T,V,W⟩ _ _ _ (.ref (X.objs.size+1)::Q) (.val (.ref (X.objs.size+1))::b) (zU p _ _) N.st (.cons (.val _) (N.bO m j)) (H (X.objs.size+1) X.objs.size K m.fresh (L2 _))) fun j a d=>?_
 rcases j with Z | (_ | _ | _ | v)
 ·exact cG.mono (s':=⟨(X.push hW).push (l4 z X.objs.size),g,T,V,W⟩) N ⟨rfl,rfl⟩ d
 ·exact d.elim
 ·exact d.elim
 ·exact d.elim
 ·obtain⟨Y,e,⟨rfl,l⟩,t,E,C⟩:=d
  cases t
  exact⟨rfl,_,e,l,.val _,N.trans E,⟨C.gens,C.os⟩⟩
theorem pG(x:cf.In u) {C:a0}(c:makesIn cf C=true):f6 G w u (.ref C):=by
 have s:=DJ (M:=bD G w) x c
 obtain⟨⟨t,P,p,X,e,R,J,E⟩,B,F,D,T,N,Q⟩:=s
 refine⟨.machine,.inr rfl,fun r n O U k S=>?_⟩
 refine bt (mO (k _ _ e) (bt (N r _ O U k ?_)))
 exact ct S
end
end
end Mine
end
section
open PySem PySem.W PySem.Calls PyProof.Rows PySem.Builtin.ObjectAttr
namespace Mine
variable {G:d7}{w:di}{u:cO}{A:Nat}{H:eP}{I:List PySem.Str}{U:List a0}{Y:j7}{r:cx}{q:J}{V:Loc}{x bx:KK}{oN:oo}{cf:ey}{z:a0}{ur:a0→dE→Prop}{Cg:a0→Prop}{hK:Array (Option b7)}{e0:Array b7}{dJ:Bool}{gT:Bool→cx→Prop}{T:D}{ju:Drawn}{cz:cT}{uu:Fin→cx→Prop}{uv:qx→cx→Prop}{mz:List (a0×Nat×eV)}{s:List (PySem.Str×D)}{fS:List (PySem.Str×b7)}{Cv:List yB}{cN:List cT}{ik:List iN}{cw:List b7}{iU:fi}{df:Option a0}{KW:Option fi}{kz:u6}{cD:e5}{t:PySem.Str}{ef:qz→cx→Prop}{qg:ej Bool}{jb:ej b7}{e4:Spec}{fG:Unit→cx→Prop}{b8:b7}{cq:b7→cx→Prop}{cI:W}{dh:g9}{eh:eV}{E:a0}{L:cO}{en:List a0}{M:J}{C:Nat}{dw:e5}{fN:b7}{d1:b7→cx→Prop}{gK:W}{O:a0}{cm:cO}{kA:e5}
section
noncomputable def excIn (x:ey) (M:a0):Bool:=match x.lookup M with
 | some o=>match o.data with
  | .cls p=> !p.abstract && !p.hasDel && (o.slots.toList[4]?).join == ab (.builtin "Exception.__new__") && !p.mro.isEmpty && specialIn x (.ref M) "__call__" == ab (ab (.builtin "type.__call__")) &&
   instIn x (.ref M) (.type "type") == ab true && iv x (.ref M) (.ref M) == ab true && iv x (.ref M) (.type "Exception") == ab true && iv x (.ref M) (.type "BaseException") == ab true &&
   iv x (.ref M) (.type "AttributeError") == ab false && iv x (.ref M) (.type "NameError") == ab false
  | _=>false
 | none=>false
structure zt (M:u4) (h:cO) (N:a0):Prop where
 obj: ∃oc od cd sl,h.get? N=ab ⟨oc,od,.cls cd,sl⟩∧cd.abstract=false∧cd.hasDel=false∧cd.mro.isEmpty=false
 made:eJ M h (Mh (.ref N)) (ab "Exception.__new__")
 base:eJ M h (Bind.staticBase (.ref N)) (.ref N)
 self:eJ M h (mM (.ref N) (.ref N)) true
 exc:eJ M h (mM (.ref N) (.type "Exception")) true
 bB:eJ M h (mM (.ref N) (.type "BaseException")) true
 noAttr:eJ M h (mM (.ref N) (.type "AttributeError")) false
 noName:eJ M h (mM (.ref N) (.type "NameError")) false
 call:eJ M h (sM (.ref N) "__call__") (ab (.builtin "type.__call__"))
 typ:eJ M h (n7 (.ref N) (.type "type")) true
theorem wF {M:u4}(x:cf.In u)(Z:excIn cf z=true):zt M u z:=by
 unfold excIn at Z
 induction D:cf.lookup z with
 | none=>rw [D] at Z;exact absurd Z fv
 | some o=>
 rw [D] at Z
 obtain⟨t,S,I,X⟩:=o
 cases I with
 | cls p=>?_
 | _=>exact absurd Z fv
 ·simp only [oS,K1,beq_iff_eq] at Z
  obtain⟨⟨⟨⟨⟨⟨⟨⟨⟨⟨R,J⟩,L⟩,E⟩,Q⟩,G⟩,F⟩,K⟩,H⟩,A⟩,C⟩:=Z
  have b:yI cf z=ab p:=by unfold yI;rw [D]
  have V:eJ M u (vm (.ref z)) p.mro:=(vb x b).andThen .now
  obtain⟨i,N,h⟩: ∃i N,p.mro=i::N:=by cases P:p.mro with | nil=>rw [P] at E;cases E | cons i N=>exact⟨i,N,rfl⟩
  have B:eJ M u (Mh (.ref z)) (ab "Exception.__new__"):=by
   intro r n O U k P
   refine bt (V r _ O U k ?_)
   rw [h,CY]
   refine bt (bt (bt (bt (sP (k _ _ (x _ _ D)) (ct ?_)))))
   rw [←xY,L]
   exact ct (ct (ct P))
  refine⟨⟨t,S,p,X,x _ _ D,R,J,E⟩,B,?_,n0 x F,n0 x K,n0 x H,n0 x A,n0 x C,looks_specialIn x Q,MP x G⟩
  intro r n O U k P
  refine bt (V r _ O U k ?_)
  rw [h,CY]
  exact bt (bt (bt (B r _ O U k (ct (ct (ct P))))))
noncomputable abbrev mh (M V:a0):fi:= {cls:= .ref M,data:= .fields #[.ref V,.none,.none,.none,.bool false,.none]}
noncomputable abbrev ki (Q:List b7):fi:= {cls:= .type "tuple",data:= .seq Q.toArray}
section
variable {g:Array u0}
theorem Um(s:zt (bD G w) u z)(U:cw.length≤kJ)
 (S:ef (.ok (.ret (.ref (u.objs.size+1)))) ⟨(u.push (ki cw)).push (mh z u.objs.size),g,ju,A,kz⟩):
 jx (bD G w) Y (.call (.builtin "Exception.__new__") ⟨.ref z::cw,[]⟩) ef ⟨u,g,ju,A,kz⟩:=by
 obtain⟨⟨t,P,p,X,e,R,J,E⟩,B,F,D,T,L,b,h,N,Q⟩:=s
 have l:=PySem.F.excBase_Exception
 have K:=l.noStar
 have I:=l.ends
 refine codeAny_call_builtin_code (uY _ l.quiet) ?_
 unfold qK
 rw [l.newKind,l.newSplit,l.newRow]
 have W:eJ (bD G w) u (Bind.madeHere "BaseException.__new__" (.ref z)) ():=F.andThen (B.andThen (DB (by simp only [L6,l.canon,bne_self_eq_false,r6,if_false])))
 repeat (first | dsimp only [bne_self_eq_false,r6,if_false] | lk)
 refine codeAny_builtinAt l.entry ?_
 refine PySem.wpAt_bind ?_
 refine PySem.wpAt_bind (PySem.wpAt_stack fun c H=>PySem.wpAt_of_wpAny ?_)
 wp_walk
 refine PySem.wpAt_of_wpAny ?_
 rw [l.owner]
 repeat (first | dsimp only [r6,if_false] | lk)
 rw [if_neg (by rw [hq];exact jw.mpr U)]
 repeat lk
 have C:=fU (mh z u.objs.size) (fU (ki cw) e)
 refine mO C ?_
 dsimp only
 rw [J]
 refine ct ?_
 rw [if_neg (by decide)]
 refine ct (ct ?_)
 show ef _ _
 rw [nX]
 exact S
theorem TA(s:zt (bD G w) u z)(U:cw.length≤kJ)(K:eJ (bD G w) u (jf (.ref z) "__init__") (ab b8))
 (H: ∀D,eJ (bD G w) u (MU b8 D) (b8,[D]))
 (S:jx (bD G w) (Y.under (.builtin "type.__call__" ⟨.ref z::cw,[]⟩)) (.call b8 ⟨.ref (u.objs.size+1)::cw,[]⟩) (InitBack (u.objs.size+1) ef) ⟨(u.push (ki cw)).push (mh z u.objs.size),g,ju,A,kz⟩):
 jx (bD G w) Y (.call (.ref z) ⟨cw,[]⟩) ef ⟨u,g,ju,A,kz⟩:=by
 have C:=s
 obtain⟨⟨t,P,p,X,e,R,J,E⟩,B,F,D,T,L,b,h,N,Q⟩:=s
 refine sD ?_
 refine nd_load e ?_
 show cu _ _ (MW (.ref z) _) _ _ _
 refine bt (N.at ?_)
 dsimp only
 rw [tc_bind]
 refine bt (ct (bt (ct ?_)))
 refine ct (a:=MC (.call (.builtin "type.__call__") ⟨.ref z::cw,[]⟩)) (And.intro rfl ?_)
 refine codeAny_call_builtin_at (uY _ (by decide+kernel)) M1 (check_slot tc_kind tc_split Q (tc_args _ _ _) ?_)
 have V:eJ (bD G w) u (vm (.ref z)) p.mro:=((sx (part:=ao) e).andThen .now).andThen .now
 repeat (first | simp only [E,r6,if_false] | with_reducible refine ps ?_ | lk)
 refine Um C U ?_
 have k: ∀f o,u.get? f=ab o→((u.push (ki cw)).push (mh z u.objs.size)).get? f=ab o:=fun f o Z=>fU _ (fU _ Z)
 have i:((u.push (ki cw)).push (mh z u.objs.size)).get? (u.objs.size+1)=ab (mh z u.objs.size):=by heap_get
 have I:eJ (bD G w) ((u.push (ki cw)).push (mh z u.objs.size)) (mN (.ref (u.objs.size+1))) (.ref z):=(sx i).andThen .now
 have l:=D.keeps k
 have W:=K.keeps k
 have O:=(H (.ref (u.objs.size+1))).keeps k
 repeat (first | with_reducible refine ps ?_ | lk)
 refine qL S fun j c d=>?_
 rcases j with Z | (M | _ | _ | _)<;>first | exact d | exact d.elim | skip
 obtain⟨rfl,d⟩:=d
 exact ct (ct d)
end
structure vp (K:ey) (N f:a0):Prop where
 makes:excIn K N=true
 init:iY K (.ref N) "__init__" =ab (ab (.ref f))
 fn:yR K (.ref f)=ab (.type "function")
noncomputable def X0 (M:a0) (o:Spec):Spec:=fun b B L O=>b.length≤1000∧ ∀S,B S=ao→o (.val (.ref S)::b) (B.set S (.aD M ao)) (fun j e=>j= .none∧L (.val (.ref S)) e) O
section
theorem Yg(x:cf.In u)(c:vp cf z E)(y:ie G w u A (.ref E) e4):ie G w u (A+1) (.ref z) (X0 z e4):=by
 intro r q U B L O Q b p m j H
 have F:=x.keeps m.top
 obtain⟨X,g,T,V,W⟩:=U
 have gN:=b6.push (en:= []) m (ki Q)
 have M:=b6.alloc (en:= []) gN.st (mh z X.objs.size) (.aD z ao) ⟨_,_,gc _ rfl,d5 _,rfl⟩
 rw [nX] at M
 have N:=gN.trans M
 have K:B (X.objs.size+1)=ao:=by
  induction P:B (X.objs.size+1) with
  | none=>rfl
  | some o=>exact absurd (m.lt P) (by show ¬X.objs.size+1 < X.objs.size;(exact De))
 refine TA (wF F c.makes) (by rw [j.length];exact cg H.1 (cg (by decide) iF)) (qE F c.init) (fun D=>DF F D c.fn) ?_
 refine qL (y _ q ⟨(X.push (ki Q)).push (mh z X.objs.size),g,T,V,W⟩ _ _ _ (.ref (X.objs.size+1)::Q) (.val (.ref (X.objs.size+1))::b) (zU p _ _) N.st (.cons (.val _) (N.bO m j)) (H.2 (X.objs.size+1) K)) fun j a d=>?_
 rcases j with Z | (_ | _ | _ | v)
 ·exact cG.mono (s':=⟨(X.push (ki Q)).push (mh z X.objs.size),g,T,V,W⟩) N ⟨rfl,rfl⟩ d
 ·exact d.elim
 ·exact d.elim
 ·exact d.elim
 ·obtain⟨Y,e,⟨rfl,l⟩,t,f,C⟩:=d
  cases t
  exact⟨rfl,_,e,l,.val _,N.trans f,⟨C.gens,C.os⟩⟩
theorem Py(x:cf.In u)(c:excIn cf z=true):f6 G w u (.ref z):=by
 obtain⟨⟨t,P,p,X,e,R,J,E⟩,B,F,D,T,L,b,h,N,Q⟩:=wF (M:=bD G w) x c
 refine⟨.machine,.inr rfl,fun r n O U k S=>?_⟩
 refine bt (mO (k _ _ e) (bt (N r _ O U k ?_)))
 exact ct S
noncomputable def Sp (M:b7):Bool:=match M with
 | .ref _=>true
 | _=>false
noncomputable def G8 (N:List b7):Bool:=decide (N.dropWhile Sp= [.type "Exception",.type "BaseException",.type "object"])
structure kM (cf:ey) (N:a0) (name:PySem.Str):Prop where
 get:iY cf (.ref N) "__getattribute__" =ab (ab (.builtin "BaseException.__getattribute__"))
 noGet:iY cf (.ref N) "__getattr__" =ab ao
 set:iY cf (.ref N) "__setattr__" =ab (ab (.builtin "object.__setattr__"))
 mro:(yI cf N).any (fun cd=>G8 cd.mro)=true
 has:DH cf N=true
 sub:iv cf (.ref N) (.type "BaseException")=ab true
 top:iv cf (.ref N) (.type "object")=ab true
 none:iY cf (.ref N) name=ab ao
theorem Vo(D:b7)(Z:G8 cw=true):refuseLoop D "__setattr__" cw=pure ():=by
 have Z:=of_decide_eq_true Z
 induction cw with
 | nil=>contradiction
 | cons a j o=>
  rw [List.dropWhile_cons] at Z
  cases a
  case ref a=>rw [refuseLoop_ref];exact o (decide_eq_true Z) Z
  all_goals (cases Z;try exact PySem.F.store_Exception.passes D)
theorem St.exc(m:St G w u U q L)(Z:q z=ab (.exc E O))(J:q O=ab (.dict s)):
 ∃D X P Q,L.get? z=ab ⟨.ref E,ab O,.fields D,X⟩∧L.get? O=ab P∧L.DictOf (strKind G w) O Q∧jA L Q s∧InstAt L z ⟨.ref E,ab O,.fields D,X⟩ E (ab P):=by
 obtain⟨D,X,W,_⟩:=m.mem _ _ Z
 obtain⟨Q,K,C⟩:=m.mem _ _ J
 obtain⟨o,n⟩:=(m.mem _ _ J).there
 exact⟨D,X,o,Q,W,n,K,C,W,rfl,rfl,n⟩
theorem RY:splitId "BaseException.__getattribute__" =ab ("BaseException","__getattribute__"):=by decide+kernel
theorem RV:builtinKind "BaseException.__getattribute__" =ab .slot:=by decide+kernel
theorem RX:plainId "BaseException.__getattribute__" =true:=by decide+kernel
theorem RW: ¬(onTheHeap (.ref z) && (su "BaseException.__getattribute__" == su "object.__getattribute__"))=true:=by
 rw [show(su "BaseException.__getattribute__" == su "object.__getattribute__")=false from by decide+kernel,r4];decide
theorem R0(x:cf.In r.heap)(N:InstAt r.heap z iU E KW)(c:kM cf E t)
 (Q:findObj cf E KW t=ab (.value b8))(p:DG b8=true)(X:d1 b8 {r with toks:=r.toks+1}):cu (bD G w) Y (DR (.ref z) t dJ) d1 cq r:=by
 obtain⟨B,g,T,V,W⟩:=r
 have A:=N.type (M:=bD G w)
 have C:=qE (M:=bD G w) x c.get
 have F:=qE (M:=bD G w) x c.noGet
 have o:=looks_find (M:=bD G w) x N Q
 have K:eJ (bD G w) B (n7 (.ref z) (.type "BaseException")) true:=A.andThen (n0 x c.sub)
 refine bt (Ec (fz (bt (A.at (bt (C.at ?_))))))
 dsimp only
 rw [if_neg RW]
 delta getAttrByItsOwn hookBefore
 rw [if_pos (by rfl)]
 refine bt (F.at ?_)
 refine bt (D9 (fz ?_))
 have D:MX (.ref z) (.str t V) (.builtin "BaseException.__getattribute__") dJ=MV (.builtin "BaseException.__getattribute__") (.ref z) (.str t V):=by
  unfold MX
  refine(show(dJ && onTheHeap (.builtin "BaseException.__getattribute__"))=false from by cases dJ<;>rfl)▸?_;rfl
 rw [D]
 unfold MV
 rw [PySem.F.attr_Exception.ga.bind]
 refine bt (ct ?_)
 show cu _ _ (fW (.builtin "BaseException.__getattribute__") [.ref z,.str t V] []) _ _ _
 refine ps ?_
 have H: ∀ {Y:j7} {cq:b7→cx→Prop} {d1:Unit→cx→Prop},d1 () ⟨B,g,T,V+1,W⟩→cu (bD G w) Y (qK "BaseException.__getattribute__" ⟨[.ref z,.str t V],[]⟩) d1 cq ⟨B,g,T,V+1,W⟩:=fun P=>
  @check_slot (bD G w) _ _ ⟨B,g,T,V+1,W⟩ "BaseException.__getattribute__" "BaseException" "__getattribute__" (.ref z) [.str t V] [] _ RV RY K (PySem.F.args_bexc_ga _ _) P
 refine yT RX PySem.F.entry_bexc_ga (H ?_)
 unfold Builtin.«object.__getattribute__»
 repeat lk
 show cu _ _ (handedOut b8) _ _ _
 rw [MO p];exact ct X
theorem Jl(x:cf.In r.heap)(N:InstAt r.heap z iU E KW)(c:kM cf E t)
 (X: ∀b,cu (bD G w) Y.in1 (storeInOwnDict (.ref z) (.ref E) (.str t r.toks) t b8 b)
  (fun m a=>match m with | .done (.ret _)=>fG () a | _=>False) (fun Z a=>cq Z a) {r with toks:=r.toks+1}):
 cu (bD G w) Y (vn (.ref z) t b8) fG cq r:=by
 have A:=PySem.F.store_object
 refine dg ((yH c.mro)) fun p B D=>?_
 refine set_plain x N c.set ?_
 have L:eJ (bD G w) r.heap (n7 (.ref z) (.type "object")) true:=N.type.andThen (n0 x c.top)
 have V:eJ (bD G w) r.heap (vm (.ref E)) p.mro:=(vb x B).andThen .now
 refine yT A.slot.plain A.entry (@check_slot (bD G w) _ _ {r with toks:=r.toks+1} "object.__setattr__" "object" "__setattr__" (.ref z) [.str t r.toks,b8] [] _ A.kind A.split L (A.args (.ref z) (.str t r.toks) b8) ?_)
 have o:eJ (bD G w) r.heap (storeTaker? ao) ao:= .now
 rw [osa_eq,refuse_eq]
 refine bt (bt (N.type _ _ _ _ (fun F F Z=>Z) (bt (V _ _ _ _ (fun F F Z=>Z) ?_))))
 refine(Vo _ D)▸?_
 refine ct (bt (N.type _ _ _ _ (fun F F Z=>Z) (bt ((qE x c.none) _ _ _ _ (fun F F Z=>Z) (bt (o _ _ _ _ (fun F F Z=>Z) ?_))))))
 refine ea (X _) (fun m a d=>?_) fun F F d=>d
 rcases m with (_ | _ | _ | _) | _<;>first | exact d.elim | exact d
end
end
section
set_option tactic.hygienic true
def Ao (x:ey) (E:PySem.Str) (B:J) (L:KK) (o:dE):Prop:=match o with
 | .exc N h=>oB B h fun s=>kM x N E∧ ∃T,cL s E=ab T∧handOk T∧L T B
 | .inst N h=>Hp x E B L (.inst N h)
 | _=>False
def gI (x:ey) (E:PySem.Str) (R:D) (B:J) (L A:KK):Prop:=match R with
 | .val v=>eY B v (Ao x E B L)
 | _=>False
def Jg (x:ey) (E:PySem.Str) (T:D) (B:J) (L:KK) (M h:a0):Prop:=
 oB B h fun s=>(kM x M E∧s.length≤900)∧L .none (B.set h (.dict (ep s E T)))
def Wm (x:ey) (E:PySem.Str) (T:D) (B:J) (L:KK) (S M:a0) (h:Option a0):Prop:=match h with
 | some h=>Jg x E T B L M h
 | none=>kM x M E∧ ∀d,B d=ao→d≠S→L .none ((B.set d (.dict [(E,T)])).set S (.aD M (ab d)))
def w8 (x:ey) (E:PySem.Str) (T:D) (B:J) (L:KK) (S:a0) (o:dE):Prop:=match o with
 | .exc N h=>Jg x E T B L N h
 | .aD N h=>Wm x E T B L S N h
 | .inst N h=>Ji x E T B L (.inst N h)
 | _=>False
noncomputable def refOf (M:b7):a0:=match M with
 | .ref a=>a
 | _=>0
def mj (x:ey) (E:PySem.Str) (R T:D) (B:J) (L A:KK):Prop:=match R with
 | .val v=>eY B v (w8 x E T B L (refOf v))
 | _=>False
section
theorem lL {o:dE} {P:dE→Prop}(Z:q z=ab o)(X:P o):eY q (.ref z) P:=by
 unfold eY;dsimp only;refine Z▸?_;exact X
theorem XC(x:cf.In u)(E:PySem.Str)(b:Bool):sY G w u A (fun M=>DR M E b) (gI cf E):=by
 intro r q U B L O M R p m t g
 cases R with
 | val X=>
  obtain rfl:=t.val_inv
  replace g:=jV g
  obtain⟨S,o,Z,g⟩:=g
  induction o with
  | exc N h=>
   refine KH (tk g) fun s J c T W K C=>?_
   refine KL (m.exc Z J) fun I Y P Q k j V D H=>?_
   refine dg (D.find W) fun M n e=>?_
   have F:=wa V j E
   rw [n] at F
   exact R0 (x.keeps m.top) H c (MN c.has c.none rfl F) (e.handed K) ⟨T,B,C,e,b6.refl m,⟨rfl,rfl⟩⟩
  | inst N h=>exact XB x E b r q U B L O _ _ p m t (lL Z g)
  | _=>exact False.elim g
 | _=>exact False.elim g
theorem J0 {s:cx}(A:newKeyGuard z t fN=pure ())(j:s.heap.get? z=ab iU)(F:s.heap.DictOf (strKind G w) z fS)(U:fS.length≤901)
 (X: ∀L,L.DictOf (strKind G w) z (PySem.stored fS t b8)→hu z s.heap L→uu (.done (.ret .none)) {s with heap:=L,toks:=s.toks+1}):
 cu (bD G w) Y (storeInDict z fN t b8) uu cq s:=by
 unfold storeInDict
 refine A▸?_
 refine bt (ct (bt ?_))
 refine bt (bt (sN (ct (bt (Ec (bt (sP j ?_)))))))
 refine Ce (id F) fun p T M c J E C x D=>?_
 obtain rfl:=c4 (j.symm.trans c)
 rw [E]
 dsimp only
 have i:(!T.any (·.key.isStr t) && T.any (·.refKey))=false:=by
  have:T.any (·.refKey)=false:=by
   rw [K0]
   intro m B
   refine(C m B).elim fun r h=>?_
   have W:=h.1
   refine(Dy W).elim fun V K=>?_
   unfold Dr;refine K▸?_;simp
  rw [this,r4]
 rw [MQ,i]
 refine ND j ?_
 obtain⟨I,O,H,N,v,u,d⟩:=GU F t b8 s.toks
 refine bt (Eb v (by rw [u];exact Na (by refine n9▸?_;lia)) ?_)
 exact ct (X _ I (u1 ..))
theorem Jm(A:cf.In u)(m:St G w u U q r.heap)(H:cP r.heap b8 T)
 (k:r.heap.get? O=ab ⟨.ref z,ab E,.fields e0,hK⟩)(J:q E=ab (.dict s))(c:kM cf z t)(B:s.length≤900)(C:x .none (q.set E (.dict (ep s t T)))):
 cu (bD G w) Y (vn (.ref O) t b8) (fun F K=>vB G w u U q r (x .none) K) (cG G w u U q r bx) r:=by
 obtain⟨Q,V,D⟩:=m.mem _ _ J
 obtain⟨P,j⟩:=(m.mem _ _ J).there
 refine dg (yH c.has) fun p b e=>?_
 have N:W.InstAt r.heap O ⟨.ref z,ab E,.fields e0,hK⟩ z (ab P):=⟨k,rfl,rfl,j⟩
 have h:Q.length≤901:=by rw [←dP (f:=(·.1)),D.keys,dP];exact sj B
 refine Jl (A.keeps m.top) N c fun T=>?_
 refine bt (ct (bt (bt (sP k (bt (vb (A.keeps m.top) b _ _ _ _ (fun F F Z=>Z) ?_))))))
 rw [e]
 refine ct (a:=ab E) ?_
 exact J0 (s:= {r with toks:=r.toks+1}) rfl j V h fun L I y=>⟨_,C,b6.put m J D H I y,⟨rfl,rfl⟩⟩
theorem Wq(C:cf.In u)(m:St G w u U q r.heap)(h:cP r.heap b8 T)
 (Z:q E=ab (.aD z ao))(c:kM cf z t)(g: ∀d,q d=ao→d≠E→x .none ((q.set d (.dict [(t,T)])).set E (.aD z (ab d)))):
 cu (bD G w) Y (vn (.ref E) t b8) (fun F l=>vB G w u U q r (x .none) l) (cG G w u U q r bx) r:=by
 obtain⟨D,X,k,Q,V⟩:=m.mem _ _ Z
 have O:W.InstAt r.heap E ⟨.ref z,ao,.fields D,X⟩ z ao:=⟨k,rfl,rfl,trivial⟩
 refine Jl (C.keeps m.top) O c fun T=>?_
 refine dg ((yH c.has)) fun p b e=>?_
 refine bt (ct (bt (bt (sP k (bt (vb (C.keeps m.top) b _ _ _ _ (fun F F Z=>Z) ?_))))))
 rw [e]
 have A:E≠r.heap.objs.size:=hU (fV k)
 have B:(r.heap.push hW).get? E=ab ⟨.ref z,ao,.fields D,X⟩:=fU _ k
 dsimp only
 rw [if_neg (by decide),if_neg (by simp [typeHasDict])]
 refine bt (D8 (bt (NC B ?_)))
 refine ct (a:=ab r.heap.objs.size) ?_
 have gN:=b6.alloc (en:= []) m hW (.dict []) ⟨[],rh (sl:= #[]) (gc _ rfl),rfl,.nil⟩
 have S:(q.set r.heap.objs.size (.dict [])) E=ab (.aD z ao):=by rw [J.ag _ _ A];exact Z
 have f:((r.heap.push hW).update E fun o=> {cls:=o.cls,dict:=ab r.heap.objs.size,data:=o.data,slots:=o.slots}).get? E=ab ⟨.ref z,ab r.heap.objs.size,.fields D,X⟩:=u2 _ B rfl
 have v:hu E (r.heap.push hW) ((r.heap.push hW).update E fun o=> {cls:=o.cls,dict:=ab r.heap.objs.size,data:=o.data,slots:=o.slots}):= .update ..
 have M:=b6.upd (en:= []) gN.st S v (fun ac H=>by
  obtain rfl:=c4 (B.symm.trans H)
  exact .inr ⟨_,D,D,rfl,f,rfl,fun E i=>⟨E,i⟩⟩) (ao':= .aD z (ab r.heap.objs.size)) ⟨D,X,f,Q,V⟩
 have n:((q.set r.heap.objs.size (.dict [])).set E (.aD z (ab r.heap.objs.size))) r.heap.objs.size=ab (.dict []):=by rw [J.ag _ _ (Ne.symm A)];exact J.aa _ _ _
 have K:=(v.2 r.heap.objs.size (Ne.symm A)).trans (gc r.heap (o:=hW) rfl)
 refine J0 (s:= {r with heap:=(r.heap.push hW).update E fun o=> {cls:=o.cls,dict:=ab r.heap.objs.size,data:=o.data,slots:=o.slots},toks:=r.toks+1}) rfl K (rh (sl:= #[]) K) (by decide) fun L I y=>?_
 have N:=(gN.trans M).trans (b6.put M.st n ⟨rfl,.nil⟩ (h.mono ((gN.trans M).aq m)) I y)
 refine⟨_,g r.heap.objs.size m.fresh (Ne.symm A),N.forget fun R o P=>?_,⟨rfl,rfl⟩⟩
 by_cases k:R=E
 ·subst k
  rw [J.aa] at P
  rw [J.ag _ _ A,J.aa];exact P
 ·rw [J.ag _ _ k] at P
  by_cases j:R=r.heap.objs.size
  ·subst j
   rw [J.aa] at P ⊢;exact P
  ·rw [J.ag _ _ j] at P
   rw [J.ag _ _ j,J.ag _ _ k,J.ag _ _ j];exact P
theorem JG(x:cf.In u)(E:PySem.Str):FQ G w u A (fun M X=>vn M E X) (mj cf E):=by
 intro r q U B L O M X R f p m t z g
 cases R with
 | val W=>
  obtain rfl:=t.val_inv
  replace g:=jV g
  obtain⟨S,o,Z,g⟩:=g
  induction o with
  | exc N h=>
   obtain⟨s,J,⟨c,F⟩,C⟩:=tk g
   refine KL (m.exc Z J) fun H I P Q k j V D K=>?_
   exact Jm x m z k J c F C
  | aD N h=>
   cases h with
   | none=>exact Wq x m z Z g.1 g.2
   | some h=>
    obtain⟨s,J,⟨c,F⟩,C⟩:=tk g
    obtain⟨H,I,k,T,Y⟩:=m.mem _ _ Z
    exact Jm x m z k J c F C
  | inst N h=>exact XM x E r q U B L O _ X _ f p m t z (lL Z g)
  | _=>exact False.elim g
 | _=>exact False.elim g
end
end
section
section
theorem Jw(x:cf.In u)(i:c5 G w u A H I (cy cz H) cI)(D:ve cz t H (cy cz H)=cy cz H):
 c5 G w u A H I (cy (.Attribute cz t cD) H) (kv (gI cf t) cI):=by
 intro r q U Y B L O p m l z
 rw [arm_eval_Attribute,D]
 refine bt (i.ae p m l z (fun M T K E R f C g e N=>?_) fun F F c=>c)
 refine bt (kL (bt (fz (ea (XC (A:=A) x t true r q E K L O M T p e f R) (fun j J c=>?_) fun F F c=>cG.mono C g c))))
 exact bt (Nq (ct (ei.mono C g c)))
noncomputable def tS (x:ey) (E:PySem.Str) (Z o:W):eV:=fun Y B i F O=>(fun F:Nat=>Z Y B (fun T n=>o Y n (fun S v=>mj x E S T v (fun F b=>i Y b) (O Y)) (O Y)) (O Y)) eE
theorem Xb(x:cf.In u) {o:cT}(a:c5 G w u A H I (cy cz H) cI)(D:c5 G w u A H I (cy o H) gK)
 (y:iO cz (ab (.Attribute o t cD)) dw.line H=pure false):fX G w u A H I (gM (.Assign [.Attribute o t cD] cz dw) H) (tS cf t cI gK):=by
 intro r q U Y B i P O W p m l z
 refine plainObj_wpAny_Assign_Attribute (a.ae p m l z (fun M T al E R f C g e L=>?_) fun F F c=>cG.exc l m c) y
 refine D.ae p e L R (fun X S v J V d s Q j ac=>?_) fun F F c=>cG.exc l m (cG.mono C g c)
 refine ea (JG (A:=A) x t r q J v _ _ X M S T p j d (s.rv e f) V) (fun F K c=>?_) fun F F c=>cG.exc l m (cG.mono (C.trans s) (g.trans Q) c)
 obtain⟨b,k,Z,h⟩:=c
 have N:=(C.trans s).trans Z
 exact(⟨Y,b,k,l.go m N,N.wk,N.aq m,(g.trans Q).trans h⟩:iz ..)
theorem G9:(iY [] (.type "type") "__getattribute__")=ab (ab (.builtin "type.__getattribute__")):=by decide+kernel
theorem RE:findCls [] (.type "Exception") (.type "type") "__init__" =ab (.val (.builtin "Exception.__init__")):=by kernel_rfl
theorem RH:mN (.type "Exception")=pure (.type "type"):=by kernel_rfl
theorem RG:abf "Exception" =false:=by decide+kernel
theorem RF {n:b7×List b7→cx→Prop}(X:n (.builtin "Exception.__init__",[]) {r with toks:=r.toks+1}):cu (bD G w) Y (getMethod (.type "Exception") "__init__" qg) n cq r:=by
 have x:Frag.In [] r.heap:=fun F F Z=>nomatch Z
 have C:D0 (.type "Exception")=pure ao:=by unfold D0;dsimp only;refine RG▸?_;rfl
 have A:eJ (bD G w) r.heap (mN (.type "Exception")) (.type "type"):=DB RH
 refine bt (bt (A.here ((qE x G9).here ?_)))
 dsimp only
 refine(if_pos canon_tga)▸?_
 refine bt (ea (Q:=fun M=>n (M,[])) (E:=cq) ?_ (fun F F d=>ct d) fun F F d=>d)
 have B:eJ (bD G w) r.heap (D0 (.type "Exception")) ao:=DB C
 refine cls_open x B A G9 (looks_hook x (r:=ao) (by rfl)) (by show iv [] _ _=_;rfl) RE
  (ct (by show cu _ _ (handedOut (.builtin "Exception.__init__")) _ _ _;rw [MO (by decide+kernel)];exact ct X))
def G6 (o:dE) (L:a0→Prop):Prop:=match o with
 | .aD N d=>d=ao∧L N
 | _=>False
def Ay (x:ey) (b:List D) (B:J) (L:KK):Prop:=match b with
 | []=>False
 | d::j=>match d with
  | .val v=>eY B v fun o=>G6 o fun N=>(excIn x N=true∧j.length≤1000)∧L .none B
  | _=>False
theorem Rz {g:Array u0} {p:ClassData}(a:L.get? z=ab iU)(B:iU.cls= .ref E)(e:L.get? E=ab ⟨b8,df,.cls p,hK⟩)
 (K:eJ (bD G w) L (n7 (.ref z) (.type "Exception")) true)(P:fG () ⟨L,g,ju,C,kz⟩):
 cu (bD G w) Y (qK "Exception.__init__" ⟨.ref z::cw,[]⟩) fG cq ⟨L,g,ju,C,kz⟩:=by
 have l:=PySem.F.excBase_Exception
 have D:=l.noStar
 refine bt (K.at ?_)
 repeat (first | (with_reducible refine zc a ?_;refine B▸?_) | with_reducible refine zc e ?_ | wp_step)
 refine Nw ?_
 rw [show ∀(R f:String) (A:Nat),Bind.check ⟨.positional,"*","Exception",.self,[⟨"args",.varPos,false⟩]⟩ R f A (se (fun z=>z.fst) ({pos:= .ref z::cw}:Args).kw)=pure () from
  fun R f A=>PySem.check_star_args _ _ _ _ _ _]
 exact ct P
theorem RA {o:fi}(k:r.heap.get? z=ab o)(h:o.data= .fields e0)(J:e0[0]? =ab b8)(U:cw.length≤kJ)
 (d:uu (.done (.ret .none)) {r with heap:=(r.heap.push (ki cw)).update z (u5 (·.setIfInBounds 0 (.ref r.heap.objs.size)))}):
 cu (bD G w) Y (Builtin.«BaseException.__init__» ⟨.ref z::cw,[]⟩) uu cq r:=by
 have y:0 < e0.size:=by
  refine(nR 0 e0.size).elim (fun P=>?_) fun P=>?_
  ·exact P
  ·have n:=(oR P).symm.trans J;contradiction
 refine bt (wpAny_newTuple ?_ U)
 have j:=fU (ki cw) k
 refine bt (bt (l6 j h J (bt (qU j h y ?_))))
 cases b8<;>first | exact ct (ct d) | exact wpAny_letGo (ct d)
theorem X5(x:cf.In u):gu G w u A (.builtin "Exception.__init__") (fun b B L F=>Ay cf b B L):=by
 intro r q U B L O Q b p m j g
 cases j with
 | nil=>exact False.elim g
 | @cons v d Q _ I C=>
  cases d with
  | val X=>
   rw [I.val_inv]
   refine(show zx B _ X from jV g).rec fun S o Z g=>?_
   cases o with
   | aD N dn=>
    obtain⟨rfl,⟨y,am⟩,g⟩:=g
    obtain⟨D,c,k,Y,V⟩:=m.mem _ _ Z
    have al:W.InstAt U.heap S ⟨.ref N,ao,.fields D,c⟩ N ao:=⟨k,rfl,rfl,trivial⟩
    have s:=wF (M:=bD G w) (x.keeps m.top) y
    refine s.obj.elim fun t h=>?_
    refine aaq h fun n an ap e F=>?_
    have K:eJ (bD G w) U.heap (n7 (.ref S) (.type "Exception")) true:=al.type.andThen s.exc
    have l:=PySem.F.excBase_Exception
    refine ps (yT l.init.plain l.initEntry (Rz k rfl e K ?_))
    refine RA k rfl (CL (by(exact Nat.zero_lt_of_lt Y))) (by rw [C.length];exact cg am (cg (by decide) iF)) ?_
    have gN:=b6.push (en:= []) m (ki Q)
    have E:=fU (ki Q) k
    refine(rz (·.setIfInBounds 0 (qC U.heap.objs.size)) E).elim fun f T=>?_
    have ac:=b6.upd (en:= []) gN.st Z f (fun a H=>by
     obtain rfl:=c4 (E.symm.trans H)
     exact .inr ⟨_,D,_,rfl,T,rfl,fun S i=>⟨S,by rw [CM,if_neg (by decide)];exact i⟩⟩) (ao':= .aD N ao) ⟨_,c,T,by simpa using Y,by rw [CM,if_neg (by decide)];exact V⟩
    refine⟨.none,B,g,.none,(gN.trans ac).forget fun R o P=>?_,⟨rfl,rfl⟩⟩
    by_cases z:R=S
    ·subst z;rw [J.aa];rw [Z] at P;exact P
    ·refine(J.ag _ _ z)▸?_;exact P
   | _=>exact False.elim g
  | _=>exact False.elim g
end
end
section
section
noncomputable def BZ (x:ey) (K:g9):W:=fun Y B L O=>(fun F:Nat=>K Y B (fun b v=>Ay x b v L) O) eE
theorem Xl(x:cf.In u)(D:eJ (bD G w) u (cy (.Name t cD) H) (.type "Exception"))(R:i5 G w u A H I (ix (e9 kA (dF cN H))) dh)
 (a:cN= []∨ ∃Z j,cN=Z::j∧dF (Z::j) H=(false,cy Z H)::dF j H)(V:(e9 kA (dF cN H)).any (·.1)=false)
 (S:ve (.Name t cD) "__init__" H (cy (.Name t cD) H)=cy (.Name t cD) H)(E:vl (cN.length+([]:List u3).length) (e9 kA (dF cN H)) (qG kA (qO [] H))=true)(M:(dw.endLine == kA.line)=true):
 c5 G w u A H I (cy (.Call (.Attribute (.Name t cD) "__init__" dw) cN [] kA) H) (BZ cf dh):=by
 intro r q U Y B L O p m l z
 rw [DM,S]
 refine bt (D r _ _ U m.top ?_)
 refine bt (kL ?_)
 have X:n8 true (.Name t cD) H dw kA=pure kA:=by unfold n8;simp [M]
 unfold DX
 refine E▸?_
 refine bt (fz (RF (bt (gB X ?_))))
 exact ea (Bi (s:= {U with toks:=U.toks+1}) R a V p m l (first:= []) (fd:= []) .nil (gD _) (fun b v d=>⟨_,X5 x,d⟩) z)
  (fun F F ⟨T,e,k,j,N,P⟩=>⟨T,e,k,j,N,⟨P.gens,P.os⟩⟩) fun F F J=>J.casesOn fun Z i h e W K C n Q=>⟨Z,i,h,e,W,K,C,n,⟨Q.gens,Q.os⟩⟩
def vq (x:ey) (M:a0):Prop:=excIn x M=true∧yR x (.ref M)=ab (.type "type")
theorem Vn {o:dE}(Z:q z=ab o)(X:ur z o):w6 q (.val (.ref z)) ur:=by
 refine(show _=(match q z with | some o=>ur z o | none=>False) from rfl).mpr ?_
 rw [Z];exact X
def A0 (x:ey) (O:KK) (T:D) (B:J):Prop:=w6 B T fun S o=>match o with
 | .aD N K=>match K with
  | some h=>vq x N∧O (.val (.ref S)) (B.set S (.exc N h))
  | none=>False
 | _=>False
noncomputable def Bb (x:ey) (Z:W):eV:=fun Y B F F O=>(fun F:Nat=>Z Y B (A0 x (O Y)) (O Y)) eE
theorem Vk {g:Array u0}(p:Y.handled=ao)(k:L.get? z=ab ⟨.ref E,ab O,.fields e0,hK⟩)(W:e0[1]? =ab .none)
 (F:eJ (bD G w) L (mN (.ref E)) (.type "type"))(B:eJ (bD G w) L (mM (.ref E) (.type "BaseException")) true)(S:cq (.ref z) ⟨L,g,ju,C,kz⟩)(V:jb=pure (.ref z)):
 cu (bD G w) Y (sI H (ab jb) ao) uv cq ⟨L,g,ju,C,kz⟩:=by
 subst V
 have A:eJ (bD G w) L (mN (.ref z)) (.ref E):=(sx k).andThen .now
 have D:eJ (bD G w) L (n7 (.ref z) (.type "BaseException")) true:=A.andThen B
 refine bt (ct (bt (ct ?_)))
 have m:cu (bD G w) Y (raiseNew (.ref z):ej qx) uv cq ⟨L,g,ju,C,kz⟩:=wpAny_raiseNew_none p S
 repeat (first | exact m | with_reducible refine zc k ?_ | (with_reducible refine l6 k rfl W ?_) | with_reducible refine Looks.at (by assumption) ?_ | wp_step)
theorem Xa(x:cf.In u)(v:0 < A)(a:c5 G w u A H I (cy cz H) cI):fX G w u A H I (gM (.Raise (ab cz) ao cD) H) (Bb cf cI):=by
 intro r q U Y B i P O ch p m l z
 rw [arm_exec_Raise]
 show cu _ _ (do oa cD;sI H (ab (do let al←cy cz H;oa cD;pure al)) ao) _ _ _
 refine bt (kL ?_)
 have bx: ∀(y:ej b7),cu (bD G w) r y (fun al E=> ∀ac:qx→cx→Prop,cu (bD G w) r (sI H (ab (pure al)) ao) ac (jg G w u q H I B U O) E) (jg G w u q H I B U O) U→
  ∀ac:qx→cx→Prop,cu (bD G w) r (sI H (ab y) ao) ac (jg G w u q H I B U O) U:=by
  intro y bn ac
  unfold sI
  refine bt (ea bn (fun al E bv=>?_) fun F F c=>c)
  have d:=bv ac
  unfold sI at d
  exact d
 refine bx _ ?_ _
 refine bt (a.ae p m l z (fun al T n E R f bd bi e L=>bt (kL (ct fun ac=>?_))) fun F F c=>cG.exc l m c)
 revert f
 refine(IZ R).rec fun S bb b R f=>?_
 refine f.val_inv▸?_
 ·cases bb with
  | aD N b5=>
   cases b5 with
   | none=>exact False.elim R
   | some h=>
   obtain⟨⟨b8,bu⟩,R⟩:=R
   obtain⟨an,cb,k,ca,ap⟩:=e.mem _ _ b
   have bk:=wF (M:=bD G w) (x.keeps e.top) b8
   have t:=e
   have ce:=L
   have be:=bd
   have j:=bi
   obtain⟨X,g,T,V,cj⟩:=E
   refine Vk (p.here v).1 k ap (looks_typeIn (x.keeps t.top) bu) bk.bB ?_ rfl
   have Z:=b6.upd (en:= []) t b (Heap.SameBut.refl S X) (fun bb bm=> .inr ⟨_,an,an,by obtain rfl:=c4 (k.symm.trans bm);rfl,k,rfl,fun s D=>⟨s,D⟩⟩) (ao':= .exc N h) ⟨an,cb,k,ca,.inl ap⟩
   have am:=be.trans Z
   refine⟨S,N,h,Y,_,rfl,R,⟨J.aa _ _ _,fun o Q ci W K C=>?_⟩,l.go m am,am.wk,am.aq m,⟨j.gens,j.os⟩⟩
   obtain rfl:=c4 (k.symm.trans W);injection K with K;subst K
   rw [ap] at C;exact nomatch C
  | _=>exact False.elim R
def G7 (o:dE) (L:a0→Prop):Prop:=match o with
 | .exc c _=>L c
 | _=>False
def G4 (B:J) (S:D) (L:a0→Prop):Prop:=match S with
 | .val v=>eY B v fun o=>G7 o L
 | _=>False
theorem Ry(P:q z=ab (.exc E O)):G4 q (.val (.ref z)) Cg=Cg E:=by
 refine(show _=(match q z with | some o=>G7 o Cg | none=>False) from rfl).trans ?_
 rw [P];rfl
def G5 (f:Option Bool) (L n:Prop):Prop:=match f with
 | some f=>match f with
  | true=>L
  | false=>n
 | none=>False
noncomputable def mr (x:ey):List (a0×Nat×eV)→oo→KK→oo
 | [],_,_=>fM
 | h::j,O,R=>fun Y S B=>G4 B S fun A=>G5 (iv x (.ref A) (.ref h.1)) (h.2.2 (Y.put h.2.1 (ab S)) B (fun F F=>False) R fM) (mr x j O R Y S B)
theorem A9 {X:a0×Nat×eV}(P:q z=ab (.exc E O)):mr cf (X::mz) oN x V (.val (.ref z)) q=G5 (iv cf (.ref E) (.ref X.1)) (X.2.2 (V.put X.2.1 (ab (.val (.ref z)))) q (fun F F=>False) x fM) (mr cf mz oN x V (.val (.ref z)) q):=
 Ry P
noncomputable def p4 (x:ey) (f:eV) (y:List (a0×Nat×eV)):eV:=fun Y B i P O=>(fun F:Nat=>f Y B i P (mr x y O P)) eE
structure zh (K:ey) (N:a0):Prop where
 cls:isClsIn K N=true
 tup:instIn K (.ref N) (.type "tuple")=ab false
 exc:iv K (.ref N) (.type "BaseException")=ab true
theorem TM(x:cf.In r.heap)(A:eJ (bD G w) r.heap (mN (.ref z)) (.ref O))(c:zh cf E)(H:iv cf (.ref O) (.ref E)=ab dJ)(S:gT dJ r):
 cu (bD G w) Y (excMatches (.ref z) (.ref E)) gT cq r:=by
 obtain⟨X,g,T,V,W⟩:=r
 have C:=MP (M:=bD G w) x c.tup
 have F:=n0 (M:=bD G w) x c.exc
 have K:=n0 (M:=bD G w) x H
 obtain⟨p,b⟩:=nU.mp c.cls
 unfold yI at b
 induction D:cf.lookup E with
 | none=>rw [D] at b;exact lK b
 | some o=>
 rw [D] at b
 obtain⟨t,n,I,B⟩:=o
 cases I with
 | cls J=>?_
 | _=>exact lK b
 ·have e:=x _ _ D
  repeat (first | with_reducible refine zc e ?_ | with_reducible refine Looks.at (by assumption) ?_ | wp_step)
  cases dJ<;>(repeat wp_step)<;>exact S
inductive qY (G:d7) (w:di) (u:cO) (K:ey) (H:eP) (I:List PySem.Str):List yB→List (a0×Nat×eV)→Prop
 | nil:qY G w u K H I [] []
 | cons {t:cT} {nm:PySem.Str} {b₀:iN} {suite:List iN} {pos:e5} {rest:List yB} {N:a0} {i:Nat} {ws:eV} {hs:List (a0×Nat×eV)}:
  eJ (bD G w) u (cy t H) (.ref N)→zh K N→fo I nm=ab i→H.kindOf nm=ab .local→fX G w u 0 H I (hX (b₀::suite) H) ws→qY G w u K H I rest hs→
  qY G w u K H I (.ExceptHandler (ab t) (ab nm) (b₀::suite) pos::rest) ((N,i,ws)::hs)
theorem b6.none_of(N:b6 G w u U en q L M cm) {o:fi}(Z:L.get? z=ab o)(V:q z=ao):M z=ao:=by
 induction P:M z with
 | none=>rfl
 | some a=>
  rcases N.fresh z a P with d | d
  ·exact absurd V d
  ·have n:=Z.symm.trans d;contradiction
theorem XD(x:cf.In u)(cQ:0 < A)(b:qY G w u cf H I Cv mz): ∀ {r:j7} {q:List a0} {U D:cx} {Y:Loc} {B C:J} {bd:Loc→J→Prop} {al:KK} {O:oo} {Z an h:a0},
 lu u H q→fb A r q→(∀f o,u.get? f=ab o→D.heap.get? f=ab o)→dC U.heap B H I Y→B Z=ab (.exc an h)→fp D.heap U.heap B Z→b6 G w u q (fm H) C D.heap B U.heap→dy D.heap U.heap→dM D U→
 mr cf mz O al Y (.val (.ref Z)) B→cu (bD G w) r (handleBy (.ref Z) H Cv) (lx G w u q H I C D bd al) (jg G w u q H I C D O) U:=by
 induction b with
 | nil=>intro r q U D Y B C bd al O Z an h W p be l a Q ap bi bb z;exact z.elim
 | @cons V nm cJ cZ pos cY N i c2 mz cq ok hi g cC _ cE=>
  intro r q U D Y B C bd al O Z an h W p be l a Q ap bi bb z
  rw [A9 a] at z
  have m:=ap.st
  obtain⟨cP,X,k,cW,cX⟩:=m.mem _ _ a
  have bv: ∀ {f:Bool} {n:Bool→cx→Prop} {cb:j7} {ch:b7→cx→Prop},iv cf (.ref an) (.ref N)=ab f→n f U→cu (bD G w) cb (excMatches (.ref Z) (.ref N)) n ch U:=fun ac S=>
   TM (x.keeps m.top) ((sx k).andThen .now) ok ac S
  refine wpAny_handleBy_cons (codeAny_handlers_test (cq _ _ _ U m.top ?_)) (by intro P;contradiction)
  induction ac:iv cf (.ref an) (.ref N) with
  | none=>rw [ac] at z;exact False.elim z
  | some cp=>
   rw [ac] at z
   cases cp with
   | true=>
    refine bv ac ?_
    refine codeAny_handlers_suite_as (Bm m be ap a Q fun cD am K=>?_)
    have ci:=am.kept.frame am.aL l
    have ce:fb 0 (r.mark (ab (.ref Z))) q:=⟨fun P=>absurd P (oX _),p.aH⟩
    refine oI (r:= {U with heap:=cD}) hi (.inl g) W am.go.st ci (.val (.ref Z)) fun bm cm bn M cn bu=>?_
    have co:dy D.heap bm.heap:=fun R E d=>cn R E (am.aL R E (bi R E d))
    refine ea (cC _ q bm _ B (fun F F=>False) al fM W ce cm bn z) (fun t c0 c=>?_) fun F F c=>c.no
    have cj:b6 G w u q (fm H) C D.heap B bm.heap:=am.go.trans M
    induction t with
    | next=>obtain⟨_,_,d,_⟩:=c;exact d.elim
    | brk=>exact c.elim
    | cont=>exact c.elim
    | ret v=>
     obtain⟨T,e,cF,cG,bk,j,b5,y,b8⟩:=c
     have cH:B H.locals=ao:=l.free
     refine xF bn.loc fun F cV F F cA F=>?_
     have cI:e H.locals=ao:=bk.none_of cA cH
     refine k5 (id b8) fun cS cM cK cw cr F=>?_
     refine wpAny_nameGoes g b8 (by refine l.ok.kind▸?_;rfl) fun L cR bx cB=>?_
     refine k5 (id bx) fun cU cN cL cz cs F=>?_
     obtain⟨ca,ck⟩:=R3 (H:=H) bk.st cB er cI W.loc cw cz (.inl ⟨_,_,_,_,cr,cs⟩)
     exact⟨T,e,cF,cG.mono ca,(cj.trans bk).trans ck,fun R E d=>ca R E (j R E (co R E d)),⟨b5.gens.trans (bu.gens.trans bb.gens),b5.os.trans (bu.os.trans bb.os)⟩,_,bx⟩
   | false=>exact bv ac (cE W p be l a Q ap bi bb z)
theorem Xd(x:cf.In u)(be:0 < A) {f:yB}(ap:fX G w u A H I (hX ik H) eh)(b:qY G w u cf H I (f::Cv) mz):
 fX G w u A H I (gM (.Try ik (f::Cv) [] [] cD) H) (p4 cf eh mz):=by
 intro r q U Y B an P O W p m l z
 refine wpAny_Try_except (ea (ap r q U Y B an P (mr cf mz O P) W p m l z) (fun t am c=>?_) fun S am c=>?_)
 ·induction t with
  | next=>exact y9 c
  | ret v=>exact c
  | brk=>exact c
  | cont=>exact c
 ·obtain⟨Z,i,h,bv,e,rfl,bi,⟨ac,bn⟩,bk,al,bm,y⟩:=c
  refine nz W.bZ fun g j bu bb=>?_;subst bu
  refine fR p.aH fun N o a bd=>?_
  have k: ∀(C:eP) (Q:List eP),N=C::Q→C.frame=ab g→sG (.ref Z) H=sG (.ref Z) C:=fun C Q F J=>by
   delta PySem.noteFrame PySem.frameOf
   rw [bb,J]
  induction N with
  | nil=>cases a
  | cons C Q=>
   have J:C.frame=ab g:=(sb a).1
   rw [k C Q rfl J]
   refine JF o a bd J al.st m.top al ac bn fun T L K=>?_
   have X:=L.kept.frame L.aL bk
   refine Bm (s:= {am with heap:=T}) L.go.st m.top L.go ac K fun V n D=>?_
   have M:=n.kept.frame n.aL X
   exact XD x be b W p m.top M ac D n.go (fun R E d=>n.aL R E (L.aL R E (bm R E d))) ⟨y.gens,y.os⟩ bi
end
end
end Mine
end
section
open PySem PySem.W PySem.Calls PyProof.Rows
namespace Mine
variable {G:d7}{w:di}{u:cO}{A:Nat}{H:eP}{I:List PySem.Str}{U:List a0}{Y:j7}{r:cx}{q:J}{V:Loc}{x bx cF:KK}{oN:oo}{cf:ey}{my:dE}{z:a0}{xJ:a0→List Nat→Prop}{lU:Args}{ee:Array (Int×b7)}{hK:Array (Option b7)}{fD:Array Nat}{eG:Array UInt8}{e0:Array b7}{dJ:Bool}{gT:Bool→cx→Prop}{qc:Builtin}{fZ:jO}{hP:Code}{T:D}{ju:Drawn}{cz:cT}{uu:Fin→cx→Prop}{d6:uZ}{B:Int}{Cp:Int→Int→Prop}{c0:KB}{mz:List (a0×Nat×eV)}{uw:List (Bool×ej b7)}{ft:List (List Int×D)}{rY:List (Option D)}{uy:List (Option cT)}{fx:List (PySem.Str×a0)}{s:List (PySem.Str×D)}{Cr:List (PySem.Str×D)→J→Prop}{uA:List (PySem.Str×mF)}{nD:List (PySem.Str×W)}{n:List D}{mA:List D→D×List D}{iH:List D→J→Prop}{uB:List D→Option a0→J→Prop}{cN:List cT}{de:List Int}{b5:List Nat}{ik:List iN}{cw:List b7}{xP:List b7→Prop}{uC:List b7→cx→Prop}{nE:List gC}{d3:Loc→KK}{cR:Loc→J→Prop}{dB:u4}{jM:nY}{Cx:Option (Array UInt8)→cx→Prop}{xS:Option (Int×Int)}{mC:Option (Option (Int×Int))}{r0:Option (b7×Nat)→cx→Prop}{df:Option a0}{c3:Option D}{fF:Option b7}{qe:Option b7→cx→Prop}{ky:Option gC}{kz:u6}{cD:e5}{dp:Prop}{CF:PySem.Fin→cx→Prop}{t:PySem.Str}{nJ:PySem.Str×D}{e7:PySem.Str→Int→Prop}{ef:qz→cx→Prop}{c8:mH}{r1:ej (List b7)}{qg:ej Bool}{r2:ej qx}{jb:ej b7}{e4:Spec}{uF:iN}{gn:String}{iJ:kO}{d4:j8}{c2:Type}{fG:Unit→cx→Prop}{b8:b7}{cq:b7→cx→Prop}{cI:W}{gL:gC}{nK:ow}{dh:g9}{eh:eV}{E:a0}{fg:D}{gG:eP}{eu:cT}{L:cO}{bk:Int}{oO:List (PySem.Str×D)}{en:List a0}{y:List D}{fu:List Nat}{iI:List PySem.Str}{M:J}{C:Nat}{nF:Option (Option (Int×Int))}{dW:Option D}{KV:Option cT}{dw:e5}{e8:PySem.Str}{dK:cx}{CG:Spec}{gJ:j8}{d1:b7→cx→Prop}{gK:W}{iK:eV}{O:a0}{kx:D}{rX:cT}{cm:cO}{ew:Int}{g7:List D}{eo:J}{dc:Nat}{dk:Option D}{kA:e5}{f3:cx}{xV:String}{qh:W}{cn:a0}{xM:D}{eN:cO}{jv:Int}{il:Nat}{dX:Option D}{xT:e5}{cS:a0}{Cj:D}{Cq:Int}{dU:Option D}{c9:a0}{Ck:D}{xN:Int}{dO:Option D}{dz:a0}{aaw:D}{eT:Option D}{eX:a0}{aax:D}{aay:Int}{gH:Option D}{fC:a0}{KU:Int}{gA:Option D}{j1:a0}{Cy Cz CA CB CC:Option D}
section
noncomputable def jm (B:mH) (A:List (PySem.Str×a0)) (M:a0) (C:eP):eP:=
 {scope:=y4 B C,locals:=M,globals:=C.globals,cells:=A,qual:=C.qual,func:=ao,code:=C.code,frame:=C.frame,builtins:=C.builtins}
noncomputable def fw (B:mH) (S:PySem.Str) (A:List (PySem.Str×a0)) (M:a0):List (PySem.Str×a0):=if B.names.lookup S=ab .cell then (S,M+1)::A else A
section
theorem Ul {n:eP→cx→Prop}
 (d:n {scope:=c8,locals:=r.heap.objs.size,globals:=H.globals,cells:=qJ (r.heap.objs.size+1) c8.names fx,qual:=H.qual,func:=ao,code:=H.code,frame:=H.frame,builtins:=H.builtins}
  {r with heap:=y2 (r.heap.push {cls:= .type "dict",data:= .dict #[]}) c8.names}):
 cu (bD G w) Y (DY c8 H.globals fx [] H.qual ao .none (ab H)) n cq r:=by
 simp only [DY,Option.isSome_some,if_true]
 refine bt (D8 ?_)
 refine bt (wpAny_layCells _ (fun E L A=>by cases B:L == mG<;>simp) _ _ _ _ ?_)
 rw [show({r with heap:=r.heap.push {cls:= .type "dict",data:= .dict #[]}}:cx).heap.objs.size=r.heap.objs.size+1 from nX ..]
 rw [LA]
 exact bt (ct (ct d))
theorem Wf {s:cx}(S:gO s.heap q z C n df)(X:d1 (.ref z) s):cu (bD G w) Y (y3 (.ref z)) d1 cq s:=by
 induction S with
 | tup a b c=>exact wpAny_pyIter_tupleiter a X
 | list a b=>exact wpAny_pyIter_listiter a X
 | bz a b=>exact wpAny_pyIter_rangeiter a X
 | bE a=>exact KBw.pyIter_self a X
structure oj (H:eP) (scope:mH) (x:PySem.Str) (cl:List (PySem.Str×a0)) (I:List PySem.Str):Prop where
 bS:closureFor scope H=pure cl
 kind:scope.kind= .function
 names: ∀y ∈ scope.names,y.2= .local→scope.names.lookup y.1=ab .local
 own:scope.names.lookup x=ab .local∨scope.names.lookup x=ab .cell
 cells: ∀N cl',qJ (N+1) scope.names cl'=fw scope x cl' N
 free: ∀y ∈ I,y≠x→(scope.names.lookup y≠ab .local∧scope.names.lookup y≠ab .cell)∧(scope.names.lookup y=ab .free→(H.kindOf y=ab .cell∨H.kindOf y=ab .free)∧cl.lookup y=H.cells.lookup y)
 bX:cl.lookup x=ao
 bc: ∀y c,cl.lookup y=ab c→H.cells.lookup y=ab c
theorem I3:
 (uA.map fun(A,k)=>if (k == qy && H.scope.kind == .function && H.kindOf A == ab .cell) then (A,mG) else (A,k)).lookup t=
  (uA.lookup t).map fun k=>if (k == qy && H.scope.kind == .function && H.kindOf t == ab .cell) then mG else k:=by
 induction uA with
 | nil=>rfl
 | cons p j o=>
  obtain⟨A,k⟩:=p
  have Z: ∀f:Bool,(if f=true then (A,mG) else (A,k))=(A,if f=true then mG else k):=fun f=>by cases f<;>rfl
  rw [gq]
  dsimp only
  rw [Z,j4,j4]
  induction D:t == A with
  | true=>cases beq_iff_eq.mp D;rfl
  | false=>exact o
theorem Sa(X:fo (t::I) e8=ab C)(F:e8≠t): ∃E,fo I e8=ab E∧C=E+1:=by
 unfold fo at X
 rw [if_neg (by simpa using Ne.symm F)] at X
 refine dg ((nV.mp X)) fun E W K=>?_
 exact⟨E,W,K.symm⟩
theorem Sd: ∀ {I:List PySem.Str} {s:PySem.Str} {E:Nat},fo I s=ab E→s ∈ I:=fun X=>uQ (oE X)
theorem ti(Z:(fw c8 t fx z).lookup e8=ab E):(e8=t∧E=z+1∧c8.names.lookup t=ab .cell)∨fx.lookup e8=ab E:=by
 unfold fw at Z
 by_cases i:c8.names.lookup t=ab .cell
 ·rw [if_pos i,j4] at Z
  induction D:e8 == t with
  | true=>rw [D] at Z;obtain rfl:=c4 Z;exact .inl ⟨beq_iff_eq.mp D,rfl,i⟩
  | false=>rw [D] at Z;exact .inr Z
 ·rw [if_neg i] at Z;exact .inr Z
theorem GH(X:c8.names.lookup t=ab .cell):(fw c8 t fx z).lookup t=ab (z+1):=by
 unfold fw;rw [if_pos X,j4,beq_self_eq_true]
theorem P5(P:e8≠t):(fw c8 t fx z).lookup e8=fx.lookup e8:=by
 unfold fw
 by_cases i:c8.names.lookup t=ab .cell
 ·rw [if_pos i,j4,beq_eq_false_iff_ne.mpr P]
 ·rw [if_neg i]
theorem z7 {scope:mH} {cc:List (PySem.Str×a0)} {C:a0} {y:PySem.Str}:(jm scope cc C H).kindOf y=(scope.names.lookup y).map fun k=>if (k == qy && H.scope.kind == .function && H.kindOf y == ab .cell) then mG else k:=I3
theorem JO(g:H.kindOf t=ab .cell∨H.kindOf t=ab .free)(b:H.cells.lookup t=ab z)(A:L.IsCell z fF)(V: ∀d,c3=ab d→ ∃v,fF=ab v∧cP L v d):gi L H t c3:=by
 unfold gi
 rcases g with e | e<;>rw [e]<;>exact⟨z,fF,b,A,V⟩
theorem XX(g:H.kindOf t=ao):gi L H t c3:=by
 unfold gi;refine g▸?_;trivial
theorem XU(g:H.kindOf t=ab .cell∨H.kindOf t=ab .free)(k:gi L H t c3): ∃i p,H.cells.lookup t=ab i∧L.IsCell i p∧ ∀T,c3=ab T→ ∃M,p=ab M∧cP L M T:=by
 unfold gi at k
 rcases g with e | e<;>rw [e] at k<;>exact k
section
theorem P6(c:oj H c8 t fx I)(l:dC L q H I V)(S: ∀f o,L.get? f=ab o→cm.get? f=ab o) {s:PySem.Str} {E:Nat}(N:fo I s=ab E)(P:s≠t):gi cm (jm c8 (fw c8 t fx z) z H) s (V.at E):=by
 obtain⟨⟨A,F⟩,m⟩:=c.free s (Sd N) P
 have x:=z7 (H:=H) (scope:=c8) (cc:=fw c8 t fx z) (C:=z) (y:=s)
 have G:=l.at_ s E N
 induction hl:c8.names.lookup s with
 | none=>rw [hl] at x;exact XX x
 | some k=>
  rw [hl] at x
  induction k with
  | «local»=>exact absurd hl A
  | cell=>exact absurd hl F
  | free=>
   obtain⟨g,b⟩:=m hl
   refine(XU g G).elim fun i h=>?_
   refine fR h fun p Y B Z=>?_
   refine JO ?_ ((P5 P).trans (b.trans Y)) (B.keeps S) fun T d=>let ⟨M,R,f⟩:=Z T d;⟨M,R,f.mono fun f J ⟨o,D,j⟩=>⟨o,S f o D,j⟩⟩
   rw [x,L6]
   cases (qy == qy && H.scope.kind == .function && H.kindOf s == ab .cell)
   ·exact .inr rfl
   ·exact .inl rfl
  | _=>unfold gi;refine x▸?_;trivial
theorem P1(c:oj H c8 t fx I)(l:dC L q H I V)(S: ∀b o,L.get? b=ab o→cm.get? b=ab o)(O:cm.Ns z (fun F=>ao))(Q:c8.names.lookup t=ab .cell→cm.IsCell (z+1) ao)(D: ∀i p,L.IsCell i p→i < z)(n:q z=ao):dC cm q (jm c8 (fw c8 t fx z) z H) (t::I) (ao::V):=by
 have M: ∀ {s i},fx.lookup s=ab i→ ∃p,cm.IsCell i p∧i < z:=fun Z=>by
  refine(l.aU _ _ (c.bc _ _ Z)).elim fun p d=>?_
  exact⟨p,d.keeps S,D _ _ d⟩
 have G: ∀ {s i},fx.lookup s=ab i→i≠z+1:=fun Z P=>by
  refine dg (M Z) fun F F N=>?_
  rw [P] at N;exact absurd N (jw.mpr (lj _))
 refine⟨⟨c.kind,l.ok.glob,l.ok.blt,fun s d i R Y=>?_,.inr trivial⟩,n,by rw [lb,lb,l.len],⟨_,O⟩,fun s i Z=>?_,fun s J Z=>?_⟩
 ·rcases ti R with ⟨U,B,_⟩ | a<;>rcases ti Y with ⟨j,X,_⟩ | b
  ·exact U.trans j.symm
  ·exact absurd B (G b)
  ·exact absurd X (G a)
  ·exact l.ok.apart s d i (c.bc _ _ a) (c.bc _ _ b)
 ·rcases ti Z with ⟨_,rfl,f⟩ | a
  ·exact⟨ao,Q f⟩
  ·refine dg (M a) fun p d F=>?_;exact⟨p,d⟩
 ·by_cases P:s=t
  ·subst P
   have K:J=0:=by unfold fo at Z;rw [if_pos (beq_self_eq_true s)] at Z;exact(c4 Z).symm
   refine K▸?_
   have x:=z7 (H:=H) (scope:=c8) (cc:=fw c8 s fx z) (C:=z) (y:=s)
   rcases c.own with W | W
   ·rw [W] at x
    unfold gi
    refine x▸?_
    exact⟨_,O,fun T d=>nomatch d⟩
   ·rw [W] at x
    exact JO (.inl x) (GH W) (Q W) fun T d=>nomatch d
  ·refine dg (Sa Z P) fun E e A=>?_;subst A
   exact P6 c l S e P
end
theorem P0(c:oj H c8 t fx I)(m:St G w u U q L)(l:dC L q H I V):
 dC (y2 (L.push {cls:= .type "dict",data:= .dict #[]}) c8.names) q (jm c8 (fw c8 t fx L.objs.size) L.objs.size H) (t::I) (ao::V):=by
 have A:=cellsFrom_ok c8.names (L.push {cls:= .type "dict",data:= .dict #[]}) (L.objs.size+1) [] ⟨fun F F B=>(nomatch B),aaF⟩ (by rw [nX];exact d5 _)
 rw [nX,c.cells] at A
 refine P1 c l (fun f o Z=>D2 _ _ f o (fU _ Z)) ((Heap.Ns.new L (.type "dict")).keeps (D2 _ _)) (fun C=>(A.empty t (L.objs.size+1) ?_).1) (fun i p d=>d.lt) m.fresh
 unfold fw;rw [if_pos C];exact er
end
end
section
noncomputable abbrev j9:=List D→J→Prop
noncomputable def mn:KK:=fun F F=>False
def iC (E:W) (A:Option gC) (X:Option a0) (C:List D):List D→List D→Loc→J→j9→Prop
 | [],cM,_,B,K=>K cM B
 | d::j,cM,Y,B,K=>match A with
  | none=>E (ab d::Y) B (fun Z e=>gj X C e∧iC E A X C j (cM++ [Z]) Y e K) mn
  | some V=>V (ab d::Y) B (fun f e=>if f=true then E (ab d::Y) e (fun Z e=>gj X C e∧iC E A X C j (cM++ [Z]) Y e K) mn
   else gj X C e∧iC E A X C j cM Y e K) mn
noncomputable def BX (V:ow) (A:Option gC) (E:W):W:=fun Y B x O=>(fun F:Nat=>V Y B (fun b X n=>b.length≤1000000∧iC E A X b b [] Y n (fun cM v=> ∀d,v d=ao→x (.val (.ref d)) (v.set d (.list cM)))) O) eE
section
theorem cG.no(c:cG G w u U q r mn b8 dK):dp:=by
 obtain⟨_,_,_,_,_,X,_⟩:=c
 exact X.elim
theorem b6.adopt {o:dE}(N:b6 G w u U en q L M cm)(t:L.get? z=ao)(H:u.get? z=ao)(Q:z ∉ U)(j:ic G w cm z o):b6 G w u U en q L (M.set z o) cm:=by
 refine⟨⟨N.st.top,fun f a Z=>?_,fun f a Z=>?_,fun g c=>?_⟩,N.keep,fun f a Z=>?_,N.there⟩
 ·by_cases P:f=z
  ·subst P;rw [J.aa] at Z;obtain rfl:=c4 Z;exact j
  ·rw [J.ag _ _ P] at Z;exact N.st.mem f a Z
 ·by_cases P:f=z
  ·subst P;exact H
  ·rw [J.ag _ _ P] at Z;exact N.st.out f a Z
 ·exact(N.st.aH g c).to ((J.ag _ _ fun(P:g=z)=>Q (P▸c)).trans (N.st.aH g c).mu) fun F Z=>Z
 ·by_cases P:f=z
  ·refine P▸?_;exact .inr t
  ·rw [J.ag _ _ P] at Z;exact N.fresh f a Z
theorem rO(m:St G w u U q L)(V:q z=ao)(H:u.get? z=ao)(Q:z ∉ U) {o:fi}(D:L.get? z=ab o)(W: ∀t,¬hV L z t)(K: ∀B,o.data= .fields B→B[3]? =ao)(O:lZ z L cm):
 St G w u U q cm∧dy L cm:=by
 have x:dy L cm:=fun f t ⟨N,C,b,A,j⟩=>⟨N,O f N (fun P=>by subst P;exact W t ⟨N,C,b,A,j⟩) C,b,A,j⟩
 refine⟨⟨fun f o Z=>O f o (fun P=>by subst P;have n:=H.symm.trans Z;contradiction) (m.top f o Z),fun f r Z=>?_,m.out,fun g c=>?_⟩,x⟩
 ·have P:f≠z:=fun P=>by subst P;have n:=V.symm.trans Z;contradiction
  refine((m.mem f r Z).there).elim fun I E=>?_
  refine(m.mem f r Z).aX x ((O f I P E).trans E.symm) fun y e v S F Y l i=>?_
  have s:y≠z:=fun P=>by
   subst P;obtain rfl:=c4 (D.symm.trans Y);have n:=(K v l).symm.trans i;contradiction
  exact⟨e,v,O y e s Y,l,S,i⟩
 ·exact(m.aH g c).to (m.aH g c).mu fun o Z=>O g o (fun P=>Q (P▸c)) Z
theorem wj(l:dC L q H I V)(h:H.locals≠z)(b: ∀S i,H.cells.lookup S=ab i→i≠z)(x:dy L cm)(O:lZ z L cm):dC cm q H I V:=by
 have e: ∀y,L.Ns H.locals y→cm.Ns H.locals y:=fun y d=>Ns.up d fun o Z=>⟨o.slots,O _ o h Z⟩
 have B: ∀i M,i≠z→L.IsCell i M→cm.IsCell i M:=fun i M P d=>IsCell.up d fun o Z=>⟨o.slots,O _ o P Z⟩
 exact⟨l.ok,l.free,l.len,l.loc.imp e,fun S i Z=>(l.aU S i Z).imp fun p d=>B i p (b S i Z) d,fun S J Z=>(l.at_ S J Z).up x (fun y F d=>⟨y,e y d,rfl⟩) fun i M A d=>B i M (b _ i A) d⟩
structure ka (G:d7) (w:di) (u:cO) (fa:List a0) (cenv:eP) (I:List PySem.Str) (x:PySem.Str) (ρ:Loc) (μ₀:J) (s₀:cx) (it Da N:a0) (ds:List D) (src:Option a0) (i:Nat) (cM:List D) (μ:J) (s:cx):Prop where
 fr: ∃od,dC s.heap μ cenv (x::I) (od::ρ)
 go:b6 G w u fa [N,N+1] μ₀ s₀.heap μ s.heap
 aL:dy s₀.heap s.heap
 sh:dM s₀ s
 iter:gO s.heap μ it i ds src
 bL:μ it=ao
 dn:μ Da=ao
 list: ∃vs,s.heap.PlainList Da (sf vs)∧c7 s.heap vs cM
structure sT (u:cO) (fa:List a0) (cenv:eP) (x:PySem.Str) (s₀:cx) (it Da N:a0):Prop where
 loc:cenv.locals=N
 kind:pC cenv x
 aU: ∀c,cenv.cells.lookup x=ab c→c=N+1∧u.get? c=ao
 bC:u.get? N=ao
 fit:s₀.heap.get? it=ao∧u.get? it=ao∧it ∉ fa
 bR:s₀.heap.get? Da=ao∧u.get? Da=ao∧Da ∉ fa
 bF:cenv.locals≠it∧ ∀y c,cenv.cells.lookup y=ab c→c≠it
 bQ:cenv.locals≠Da∧ ∀y c,cenv.cells.lookup y=ab c→c≠Da
 ne:it≠Da
 bW:it ∉ [N,N+1]
 bV:Da ∉ [N,N+1]
theorem Va(S:L.PlainList z e0)(t:Array b7): ¬hV L z t:=by
 rintro ⟨o,D,b,_⟩
 refine S.elim fun A Z=>?_
 obtain rfl:=c4 (D.symm.trans Z);exact absurd b (by simp)
theorem HJ(S:vw L z)(t:Array b7): ¬hV L z t:=by
 rintro ⟨o,D,b,A,hd⟩
 refine fR S fun p c W F=>?_
 obtain rfl:=c4 (D.symm.trans c);exact W _ _ hd
theorem Sf:fo (t::I) t=ab 0:=by unfold fo;simp
def q7 (G:d7) (w:di) (u:cO) (A:Nat) (B:eP) (I:List PySem.Str):List cT→Option gC→Prop
 | [],ao=>True
 | [c],ab V=>iR G w u A B I (isTrue c B (cy c B)) V
 | _,_=>False
section
theorem ka.on(x:sT u U gG t r z E O)(g:ka G w u U gG I t V q r z E O n df C y M dK)(N:b6 G w u U [] M dK.heap eo f3.heap)(b:dM dK f3)(c:gj df n eo)(l:dC f3.heap eo gG (t::I) (c3::V)):
 ka G w u U gG I t V q r z E O n df C y eo f3:=by
 have B:=N.aq g.go.st
 obtain⟨Q,⟨nl,h⟩,J⟩:=g.list
 refine g.iter.obj.elim fun W H=>?_
 have A:=H.1
 exact⟨⟨_,l⟩,g.go.trans (N.weaken fun F P=>nomatch P),fun R D d=>B R D (g.aL R D d),g.sh.trans b,g.iter.keep (((N.keep z W A g.bL (fun P=>nomatch P)).1 x.fit.2.2).trans A.symm) B c,N.none_of A g.bL,N.none_of h g.dn,Q,⟨nl,(N.keep E _ h g.dn (fun P=>nomatch P)).1 x.bR.2.2⟩,J.mono B⟩
theorem ka.app(x:sT u U gG t r z E O)(g:ka G w u U gG I t V q r z E O n df C y M dK)(h:y.length≤1000000)(j:cP dK.heap b8 T)
 (k: ∀v L,ka G w u U gG I t V q r z E O n df C (y++ [T]) M {dK with heap:=L}→cq v {dK with heap:=L}):cu (bD G w) Y (fW (.builtin "list.append") [.ref E,b8]) cq d1 dK:=by
 obtain⟨Q,⟨nl,a⟩,J⟩:=g.list
 obtain⟨P,l⟩:=g.fr
 refine Nr ⟨nl,a⟩ (fun f ⟨K,H⟩ D=>k _ f ?_) (by rw [hq,J.length];exact cg h iF)
 obtain⟨F,A⟩:=rO g.go.st g.dn x.bR.2.1 x.bR.2.2 a (Va ⟨nl,a⟩) (fun B d=>by contradiction) D.extBut
 exact⟨⟨_,wj l x.bQ.1 x.bQ.2 A D.extBut⟩,g.go.aF F x.bR.1 D.extBut,fun R N d=>A R N (g.aL R N d),⟨g.sh.gens,g.sh.os⟩,g.iter.keep (D.2 z x.ne) A g.iter.isOk,g.bL,g.dn,Q++ [b8],⟨K,by rw [←List.push_toArray];exact H⟩,(J.mono A).append (.cons (j.mono A) .nil)⟩
theorem ka.next(x:sT u U gG t r z E O)(g:ka G w u U gG I t V q r z E O n df C y M dK)(s:C < n.length)(a:lZ z dK.heap L)(l:dy dK.heap L→cP L b8 n[C]∧gO L M z (C+1) n df)
 (k: ∀K,ka G w u U gG I t V q r z E O n df (C+1) y M K→dC K.heap M gG (t::I) (ab n[C]::V)→fG () K):cu (bD G w) Y (n5 (.Name t cD) gG b8) fG cq {dK with heap:=L,toks:=dc}:=by
 refine g.fr.elim fun P X=>?_
 refine fR (id g.iter.obj) fun W A e Z=>?_
 obtain⟨f,B⟩:=rO g.go.st g.bL x.fit.2.1 x.fit.2.2 A (HJ g.iter.obj) Z a
 obtain⟨m,H⟩:=l B
 obtain⟨Q,⟨nl,h⟩,J⟩:=g.list
 refine PySem.wpAny_assign_Name (JH (ex:= [O,O+1]) (fun F=>by rw [x.loc];exact er) (fun i b=>by rw [(x.aU i b).1];exact fJ _ er) Sf x.kind
  (fun F=>by rw [x.loc];exact x.bC) (fun i b=>(x.aU i b).2) f (wj X x.bF.1 x.bF.2 B a) m fun K v S N c T=>k K ?_ S)
 refine H.obj.elim fun o p=>?_
 have D:=p.1
 exact⟨⟨_,S⟩,(g.go.aF f x.fit.1 a).trans N,fun R j d=>c R j (B R j (g.aL R j d)),g.sh.trans ⟨T.gens,T.os⟩,H.keep (((N.keep z o D g.bL x.bW).1 x.fit.2.2).trans D.symm) c H.isOk,g.bL,g.dn,Q,⟨nl,(N.keep E _ (a E _ (Ne.symm x.ne) h) g.dn x.bV).1 x.bR.2.2⟩,J.mono fun R j d=>c R j (B R j d)⟩
inductive zi (G:d7) (w:di) (u:cO) (U:List a0) (gG:eP) (I:List PySem.Str) (t:PySem.Str) (V:Loc) (q:J) (r:cx) (z E O:a0) (n:List D) (df:Option a0) (W:List D→List D→J→Prop) (k:Nat) (f3:cx):Prop
 | mk (C:Nat) (y:List D) (eo:J) (hi:C≤n.length) (ha:y.length≤C) (hk:k=n.length+1 - C) (L:ka G w u U gG I t V q r z E O n df C y eo f3) (hw:W (n.drop C) y eo)
end
theorem P2(v:0 < A) {ρ:Loc} {μ₀:J} {s₀:cx} {C:a0} {KL':j9}
 (p:fb A Y U)(x:sT u U gG t s₀ z E C)(ce:c5 G w u A gG (t::I) (cy cz gG) cI)(b:q7 G w u A gG (t::I) cN ky)(cr:n.length≤1000000)
 (S: ∀cM e a,KL' cM e→(∃P,dC a.heap e gG (t::I) (P::ρ))→b6 G w u U [C,C+1] μ₀ s₀.heap e a.heap→dy s₀.heap a.heap→dM s₀ a→e E=ao→(∃Q,a.heap.PlainList E (sf Q)∧c7 a.heap Q cM)→ef (.ok .next) a)
 {μ:J}(cb:ka G w u U gG I t ρ μ₀ s₀ z E C n df 0 [] μ r)(al:iC cI ky df n n [] ρ μ KL'):
 jx (bD G w) Y (.compLoop (.ListComp cz [⟨.Name t cD,eu,cN,0⟩] c8 dw) 0 (.ref z) (.ref E) gG) ef r:=by
 refine codeAny_compLoop_tests (zi G w u U gG I t ρ μ₀ s₀ z E C n df fun j cM μ=>iC cI ky df n j cM ρ μ KL') (fun k cE H=>?_) (n.length+1) ⟨0,[],μ,eA _,d5 _,rfl,cb,al⟩
 clear cb al
 obtain⟨ac,cM,cG,K,bm,rfl,g,al⟩:=H
 rcases C8 K with bb | rfl
 ·rw [yc bb] at al
  refine AL g.go.st g.iter (gV bb) fun L X M am i=>g.next x bb am i fun cK o bx=>?_
  have ca: ∀ {N:cx} {bk:List D} {q:J},bk.length≤ac+1→ka G w u U gG I t ρ μ₀ s₀ z E C n df (ac+1) bk q N→iC cI ky df n (n.drop (ac+1)) bk ρ q KL'→ ∃y,y < n.length+1 - ac∧zi G w u U gG I t ρ μ₀ s₀ z E C n df (fun j cM μ=>iC cI ky df n j cM ρ μ KL') y N:=
   fun T ck cA=>⟨n.length+1 - (ac+1),yr (nS bb) (oY ac),ac+1,_,_,bb,T,rfl,ck,cA⟩
  have cq:cM.length≤1000000:=cg bm (cg K cr)
  have m: ∀ {l:J} {bi:cx},ka G w u U gG I t ρ μ₀ s₀ z E C n df (ac+1) cM l bi→ ∀ {q:J} {N:cx} {s:b7} {Z:D} (bv:b7→cx→Prop),b6 G w u U [] l bi.heap q N.heap→dM bi N→cP N.heap s Z→(gj df n q∧iC cI ky df n (n.drop (ac+1)) (cM++ [Z]) ρ q KL')→dC N.heap q gG (t::I) (ab n[ac]::ρ)→
   cu (bD G w) Y (fW (.builtin "list.append") [.ref E,s]) (fun F cF=> ∃y,y < n.length+1 - ac∧zi G w u U gG I t ρ μ₀ s₀ z E C n df (fun j cM μ=>iC cI ky df n j cM ρ μ KL') y cF) bv N:=
   fun {_ _} cj {_ _ _ _} bv O ap cB cf an=>(cj.on x O ap cf.1 an).app x cq cB fun M L cm=>ca (by rw [dR];exact kE bm) cm cf.2
  induction ky with
  | none=>cases cN with
   | cons c j=>cases j<;>exact False.elim b
   | nil=>
   rw [LA]
   refine ct ?_
   rw [if_pos rfl]
   exact ce.ae p o.go.st bx al (fun s Z q N bn bu O ap cp an=>m o _ O ap bu bn an) fun F F be=>be.no
  | some V=>cases cN with
   | nil=>exact False.elim b
   | cons c j=>induction j with
   | cons=>exact False.elim b
   | nil=>
   refine wpAny_tests_one (iR.ae b p o.go.st bx al (fun f l bi bd W b8 co b5=>?_) fun F F be=>be.no)
   induction f with
   | true=>
    rw [if_pos rfl] at bd ⊢
    exact ce.ae p co b5 bd (fun s Z q N bn bu O ap cp an=>m o _ (W.trans O) (b8.trans ap) bu bn an) fun F F be=>be.no
   | false=>
    rw [if_neg fv] at bd ⊢
    exact ca (sj bm) (o.on x W b8 bd.1 b5) bd.2
 ·rw [CW] at al
  refine Ad (p.here v).1 g.go.st g.iter (nN (d5 _)) fun L X am=>?_
  refine fR ((id g.iter.obj)) fun cJ cs cH cw=>?_
  obtain⟨cn,B⟩:=rO g.go.st g.bL x.fit.2.1 x.fit.2.2 cs (HJ g.iter.obj) cw am
  obtain⟨P,ci⟩:=g.fr
  obtain⟨Q,⟨nl,h⟩,cC⟩:=g.list
  exact S cM cG {cE with heap:=L,toks:=X} al ⟨_,wj ci x.bF.1 x.bF.2 B am⟩ (g.go.aF cn x.fit.1 am) (fun R ch d=>B R ch (g.aL R ch d)) ⟨g.sh.gens,g.sh.os⟩ g.dn ⟨Q,⟨nl,am E _ (Ne.symm x.ne) h⟩,cC.mono B⟩
end
end
section
section
structure Behind (u:cO) (fa:List a0) (μ₁:J) (s:cx) (N:a0):Prop where
 s: ∀b,N≤b→s.heap.get? b=ao
 b: ∀b,N≤b→u.get? b=ao
 m: ∀b,N≤b→μ₁ b=ao
 f: ∀b,N≤b→b ∉ fa
theorem Behind.of(N:b6 G w u U [] q r.heap M dK.heap):Behind u U M r dK.heap.objs.size:=
 ⟨fun f H=>by
  induction P:r.heap.get? f with
  | none=>rfl
  | some o=>refine(N.there f o P).elim fun p Z=>?_;exact absurd (fV Z) (jw.mpr H),
  fun f H=>by
   induction P:u.get? f with
   | none=>rfl
   | some o=>exact absurd (fV (N.st.top f o P)) (jw.mpr H),
  fun f H=>by
   induction P:M f with
   | none=>rfl
   | some o=>exact absurd (N.st.lt P) (jw.mpr H),
  fun f H V=>by
   obtain⟨_,_,o,_,_,Z,_⟩:=N.st.aH f V
   exact absurd (fV Z) (jw.mpr H)⟩
theorem It(X:z < E):z ∉ [E,E+1]:=fun P=>by
 rcases gr.mp P with P | P
 ·exact hU X P
 ·exact hU (nS X) (gW.mp P)
theorem P4(c:oj H c8 t fx I)(l:dC r.heap q H I V)(L:Behind u U M r E)(a:z < E)(K:r.heap.get? z=ao)(D:u.get? z=ao)(j:z ∉ U):
 sT u U (jm c8 (fw c8 t fx (E+1)) (E+1) H) t r z E (E+1):=by
 have G: ∀R,R≤E→r.heap.get? R=ao→ ∀s i,(fw c8 t fx (E+1)).lookup s=ab i→i≠R:=fun R h A s i Z P=>by
  subst P
  rcases ti Z with ⟨_,P,_⟩ | P
  ·rw [P] at h;exact absurd h (Nat.not_le.mpr (nS (oY E)))
  ·refine nz (l.aU s i (c.bc s i P)) fun p o d F=>?_
   have n:=A.symm.trans d;contradiction
 refine⟨rfl,?_,fun i Z=>?_,L.b _ (lj E),⟨K,D,j⟩,⟨L.s _ (d5 _),L.b _ (d5 _),L.f _ (d5 _)⟩,⟨yp (nS a),G z (nQ a) K⟩,⟨yp (oY E),G E (d5 E) (L.s _ (d5 _))⟩,hU a,It (nS a),It (oY E)⟩
 ·have x:=z7 (H:=H) (scope:=c8) (cc:=fw c8 t fx (E+1)) (C:=E+1) (y:=t)
  rcases c.own with h | h
  ·rw [h] at x;exact .inl x
  ·rw [h] at x;exact .inr ⟨x,by show((fw c8 t fx (E+1)).lookup t).isSome=true;rw [GH h];rfl⟩
 ·rcases ti Z with ⟨_,P,_⟩ | P
  ·exact⟨P,by rw [P];exact L.b _ (sj (lj E))⟩
  ·rw [c.bX] at P;contradiction
theorem GG(v:0 < A) {bb:j9} {use:Option (b7→ej Unit)} {Q:b7→cx→Prop}
 (p:fb A Y U)(m:St G w u U q r.heap)(l:dC r.heap q H I V)(al:oj H c8 t fx I)(cf: ∀M,qN eu H M=pure M)
 (ch:ov G w u A H I eu nK)(ce: ∀N,c5 G w u A (jm c8 (fw c8 t fx N) N H) (t::I) (cy cz (jm c8 (fw c8 t fx N) N H)) cI)
 (ck: ∀N,q7 G w u A (jm c8 (fw c8 t fx N) N H) (t::I) cN ky)
 (z:nK V q (fun b X n=>b.length≤1000000∧iC cI ky X b b [] V n bb) x)(bm: ∀M a,cG G w u U q r x M a→cq M a)
 (cb: ∀cM Da N e a y,bb cM e→b6 G w u U [] q r.heap e a.heap→dM r a→r.heap.get? Da=ao→u.get? Da=ao→Da ∉ U→e Da=ao→(∃bn,a.heap.PlainList Da (sf bn)∧c7 a.heap bn cM)→
  a.heap.Ns N y→r.heap.get? N=ao→e N=ao→u.get? N=ao→N ∉ U→Da≠N→compPost (bD G w) Y cq use Q (.ref Da) N (.ok .next) a):
 cu (bD G w) Y (comprehension (.ListComp cz [⟨.Name t cD,eu,cN,0⟩] c8 dw) c8 H kA (newList []) false (cy eu H) use) Q cq r:=by
 refine wpAny_comprehension_free rfl cf al.bS al.kind al.names (ea (ch Y U r V q _ x p m l z) (fun M cC c=>ea c (fun cw J c=>?_) bm) bm)
 obtain⟨k,b,X,n,rfl,⟨ci,z⟩,bk,bx,b5,b8,ca,ac,g⟩:=c
 refine Nu ?_ (by decide)
 refine Ul ?_
 refine(id bk.obj).elim fun cs h=>?_
 refine h.elim fun bi F=>?_
 have L:=Behind.of ac
 have bv:=P4 al l L (fV bi) bx b5 ca
 have am:=P0 al (ac.st.push {cls:= .type "list",data:= .seq ([]:List b7).toArray}) ((l.go m ac).ext fun f o Z=>fU {cls:= .type "list",data:= .seq ([]:List b7).toArray} Z)
 have S: ∀f o,(J.heap.push {cls:= .type "list",data:= .seq ([]:List b7).toArray}).get? f=ab o→(y2 ((J.heap.push {cls:= .type "list",data:= .seq ([]:List b7).toArray}).push {cls:= .type "dict",data:= .dict #[]}) c8.names).get? f=ab o:=
  fun f o Z=>D2 _ _ f o (fU _ Z)
 have be:=S _ _ (show(J.heap.push {cls:= .type "list",data:= .seq ([]:List b7).toArray}).get? J.heap.objs.size=ab {cls:= .type "list",data:= .seq ([]:List b7).toArray} from gc _ rfl)
 rw [show(J.heap.push {cls:= .type "list",data:= .seq ([]:List b7).toArray}).objs.size=J.heap.objs.size+1 from nX ..] at am ⊢
 have S: ∀f o,J.heap.get? f=ab o→_:=fun f o Z=>S f o (fU _ Z)
 revert am be S
 generalize y2 ((J.heap.push {cls:= .type "list",data:= .seq ([]:List b7).toArray}).push {cls:= .type "dict",data:= .dict #[]}) c8.names=an
 generalize J.heap.objs.size=i at *
 intro am be S
 have B:dy J.heap an:=fun R E ⟨o,D,j⟩=>⟨o,S R o D,j⟩
 have O:gO an n k 0 b X:=bk.keep ((S k cs bi).trans bi.symm) B bk.isOk
 have bd:jx (bD G w) Y (.compLoop (.ListComp cz [⟨.Name t cD,eu,cN,0⟩] c8 dw) 0 (.ref k) (.ref i) (jm c8 (fw c8 t fx (i+1)) (i+1) H)) (compPost (bD G w) Y cq use Q (.ref i) (i+1)) {J with heap:=an}:=by
  refine P2 (C:=i+1) (μ₀:=q) (s₀:=r) (KL':=bb) (μ:=n) (ρ:=V) v p bv (ce _) (ck _) ci (fun cM e a cm ap cn cA co cp cr=>?_)
   ⟨⟨ao,am⟩,(ac.weaken fun F P=>nomatch P).trans (b6.ext ac.st S),fun R E d=>B R E (ac.aq m R E d),⟨g.gens,g.os⟩,O,b8,L.m _ (d5 _),[],⟨0,be⟩,.nil⟩ z
  obtain⟨cB,ap⟩:=ap
  obtain⟨y,cj⟩:=ap.loc
  have bu:b6 G w u U [] q r.heap e a.heap:=cn.drop (fun R T=>by
   rcases gr.mp T with rfl | T
   ·exact L.s _ (lj i)
   ·refine(gW.mp T)▸?_;exact L.s _ (sj (lj i))) (fun R W K=>absurd W K) fun F P=>P
  exact cb cM _ _ e a y cm bu co (L.s _ (d5 _)) (L.b _ (d5 _)) (L.f _ (d5 _)) cp cr cj (L.s _ (lj i)) ap.free (L.b _ (lj i)) (L.f _ (lj i)) (hU (oY i))
 rw [←al.cells] at bd
 exact codeAny_compStart_list bd (Wf (s:= {J with heap:=an}) O bd)
theorem Xn(bd:0 < A)(bk:oj H c8 t fx I)(V: ∀v,qN eu H v=pure v)
 (K:ov G w u A H I eu nK)(C: ∀N,c5 G w u A (jm c8 (fw c8 t fx N) N H) (t::I) (cy cz (jm c8 (fw c8 t fx N) N H)) cI)
 (be: ∀N,q7 G w u A (jm c8 (fw c8 t fx N) N H) (t::I) cN ky):
 c5 G w u A H I (cy (.ListComp cz [⟨.Name t cD,eu,cN,0⟩] c8 dw) H) (BX nK ky cI):=by
 intro r q U Y B x O p m l z
 rw [eval_ListComp]
 refine GG bd p m l bk V K C be z (fun F F c=>c) fun cM E N e a y k al am S X i g ⟨Q,h,j⟩ J bb bi P Z R=>?_
 refine⟨y,J,fun L ac=>?_⟩
 refine(id J).elim fun bv bm=>?_
 refine j0 bm fun T bn W an F=>?_
 obtain⟨f,ap⟩:=rO al.st bi P Z W (fun bu ⟨o,D,b,s,hd⟩=>by obtain rfl:=c4 (W.symm.trans D);have n:=an.symm.trans hd;contradiction) (fun bx d=>by have n:=an.symm.trans d;contradiction) ac.extBut
 have M:=al.aF f bb ac.extBut
 refine h.elim fun nl h=>?_
 exact⟨_,_,k E g,.val _,M.adopt S X i (o:= .list cM) ⟨Q,nl,(),(ac.2 E R).trans h,j.mono ap⟩,⟨am.gens,am.os⟩⟩
noncomputable def A7 (J:Nat) (V:ow) (A:Option gC) (E:W):eV:=fun Y B i F O=>(fun F:Nat=>V Y B (fun b X n=>b.length≤1000000∧iC E A X b b [] Y n (fun cM v=> ∀d,v d=ao→i (Y.put J (ab (.val (.ref d)))) (v.set d (.list cM)))) (O Y)) eE
theorem W2(v:0 < A)(cw:fo I e8=ab C)(g:H.kindOf e8=ab .local)
 (cr:iO (.ListComp cz [⟨.Name t cD,eu,cN,0⟩] c8 kA) (ab (.Name e8 dw)) xT.line H=pure true)(cH:oj H c8 t fx I)(V: ∀M,qN eu H M=pure M)
 (K:ov G w u A H I eu nK)(cn: ∀N,c5 G w u A (jm c8 (fw c8 t fx N) N H) (t::I) (cy cz (jm c8 (fw c8 t fx N) N H)) cI)
 (cs: ∀N,q7 G w u A (jm c8 (fw c8 t fx N) N H) (t::I) cN ky):
 fX G w u A H I (gM (.Assign [.Name e8 dw] (.ListComp cz [⟨.Name t cD,eu,cN,0⟩] c8 kA) xT) H) (A7 C nK ky cI):=by
 intro r q U Y B b6 b8 O W p m l z
 refine(exec_Assign_Name_used _ _ _ _ cr)▸?_
 refine bt (kL (bt ?_))
 refine bt (ea (GG (use:=ab (n5 (.Name e8 dw) H)) (Q:=fun F a=>lx G w u q H I B U b6 b8 .next a) v p m l cH V K cn cs z (fun M a c=>cG.exc l m c)
  fun cM al N e a y k bx bb ck ch cm cB ⟨cK,h,j⟩ co n cA cf cj cE=>?_) (fun F a S=>ct (ct S)) fun F F Z=>Z)
 refine h.elim fun nl h=>?_
 have ac:=bx.adopt ck ch cm (o:= .list cM) ⟨cK,nl,(),h,j⟩
 have bv:=l.go m ac
 refine PySem.wpAny_assign_Name (oI cw (.inl g) W ac.st bv (.val (.ref al)) fun x ca bn ap ce bd=>?_)
 refine k5 (id co) fun cF T ci cq f cJ=>?_
 have bk:H.locals≠N:=fun P=>by
  refine xF l.loc fun F o F F D F=>?_
  rw [P,n] at D;contradiction
 have bm: ∀t i,H.cells.lookup t=ab i→i≠N:=fun t i Z P=>by
  refine nz (l.aU t i Z) fun F o D F=>?_
  rw [P,n] at D;contradiction
 have cC:N ∉ fm H:=fun P=>by
  rcases wO P with P | ⟨t,Z⟩
  ·exact bk P.symm
  ·exact bm t N Z rfl
 have bi:(e.set al (.list cM)) N=ao:=by rw [J.ag _ _ (Ne.symm cE)];exact cA
 obtain⟨X,am⟩:=(ap.keep N cF cq bi cC).2
 have cp:x.heap.Ns N y:=⟨_,T,ci,am,f,cJ⟩
 refine⟨y,cp,fun L an=>?_⟩
 obtain⟨cb,be⟩:=rO ca bi cf cj am (fun cL ⟨o,D,b,s,hd⟩=>by obtain rfl:=c4 (am.symm.trans D);exact absurd (f.symm.trans hd) (fun d=>nomatch d)) (fun cP d=>absurd (f.symm.trans d) (fun d=>nomatch d)) an.extBut
 have bu:=wj bn bk bm be an.extBut
 have b5:=(ac.wk.trans ap).aF cb n an.extBut
 exact⟨_,_,k al cB,bu,b5,fun R E d=>be R E (ce R E (ac.aq m R E d)),⟨bd.gens.trans bb.gens,bd.os.trans bb.os⟩⟩
end
end
section
section
def tw (b:List D) (B:J) (L:KK):Prop:=kZ b fun T=>match T with
 | .tup l=>l.length≤1000000∧L (.int (l.length:Int)) B
 | .bytes l=>l.length≤1000000∧L (.int (l.length:Int)) B
 | .val v=>eY B v fun o=>match o with
  | .list l=>l.length≤1000000∧L (.int (l.length:Int)) B
  | .dict s=>s.length≤1000000∧L (.int (s.length:Int)) B
  | _=>False
 | _=>False
theorem wd {k:Nat}(X:k≤1000000):(k:Int) < 2 ^ 63:=qj (hh.mpr X) (by decide)
theorem X7(y:jC u):gu G w u A (.builtin "len") (fun C B L F=>tw C B L):=by
 intro r q U B L O Q C p m j g
 refine oG j g fun M T I g=>?_
 cases T with
 | tup=>
  refine I.ar.rec fun R Y E P=>?_
  have h:Y.toArray.size=_:=P.length
  exact aaU E (by rw [h];exact wd g.1) ⟨_,B,g.2,by refine h▸?_;exact .int _ _,b6.refl m,⟨rfl,rfl⟩⟩
 | bytes=>
  refine(lC I).rec fun S V i=>?_
  subst i
  refine g.elim fun W K=>?_
  rw [dP] at W K
  exact PySem.W.len_bytes (b:=S.toArray) (by rw [hq];exact cg W (by decide)) ⟨_,B,K,.int _ _,b6.refl m,⟨rfl,rfl⟩⟩
 | val X=>
  rw [I.val_inv]
  replace g:=jV g
  refine g.rec fun R o Z g=>?_
  induction o with
  | list l=>
   obtain⟨Y,k,_,D,P⟩:=m.mem _ _ Z
   have h:Y.toArray.size=_:=P.length
   exact Ms ⟨_,D,rfl,k,rfl⟩ (by rw [h];exact wd g.1) ⟨_,B,g.2,by refine h▸?_;exact .int _ _,b6.refl m,⟨rfl,rfl⟩⟩
  | dict s=>
   obtain⟨Y,hd,P⟩:=m.mem _ _ Z
   have h:Y.length=s.length:=by have:=congrArg sd P.keys;rwa [dP,dP] at this
   exact call_len_dict (rE y m Z) hd (by rw [h];exact wd g.1) ⟨_,B,g.2,by refine h▸?_;exact .int _ _,b6.refl m,⟨rfl,rfl⟩⟩
  | _=>exact g.elim
 | _=>exact g.elim
def pS (N:List D) (L:List Int→Prop):Prop:=match jn N with
 | some ns=>L ns
 | none=>False
theorem UG {L:List Int→Prop}(X:pS n L): ∃K,jn n=ab K∧L K:=by
 unfold pS at X
 induction P:jn n with
 | none=>rw [P] at X;exact X.elim
 | some K=>rw [P] at X;exact⟨K,rfl,X⟩
def As (B:J) (b:List D) (L:List D→List Int→Prop):Prop:=kZ b fun T=>match T with
 | .val v=>eY B v fun o=>nd o fun N=>pS N (L N)
 | _=>False
@[elab_as_elim] theorem HA(m:St G w u U q L) {A:List D→List Int→Prop}(j:c7 L cw n)(k:As q n A)
 (t: ∀R N K Y,q R=ab (.list N)→L.IsList R (sf Y)→c7 L Y N→ll Y K→A N K→xP [.ref R]):xP cw:=by
 refine oG j k fun M T I k=>?_
 cases T with
 | val X=>
  refine I.val_inv▸?_
  replace k:=jV k
  refine k.rec fun R o Z k=>?_
  refine dg (wW k) fun N Q k=>?_;subst Q
  refine dg (UG k) fun K J k=>?_
  obtain⟨Y,y,_,B,P⟩:=m.mem _ _ Z
  exact t R N K Y Z ⟨_,B,rfl,y,rfl⟩ P (HB P J) k
 | _=>exact k.elim
def Aw (b:List D) (B:J) (L:KK):Prop:=As B b fun N K=>(N.length≤1000000∧ ∀k ∈ K,0≤k∧k < 256)∧L (.bytes (K.map r9)) B
theorem OX(X: ∀k ∈ de,0≤k∧k < 256):(byteArr de).toList.map gs=de.map r9:=by
 unfold byteArr
 rw [qk]
 apply uP
 intro k g
 obtain⟨J,W⟩:=X k g
 show(k.toNat.toUInt8).toNat=k.toNat
 rw [Nat.toUInt8,UInt8.toNat_ofNat']
 exact Nat.mod_eq_of_lt (by(exact(uL J).mpr W))
theorem X3(v:0 < A):gu G w u A (.type "bytes") (fun b B L F=>Aw b B L):=by
 intro r q U B L O Q b p m j g
 refine HA m j g fun R N K Y Z h P C g=>?_
 refine call_bytes_ints h C g.1.2 (P.length▸(cg g.1.1 iF)) (p.here v).1 fun D V E S=>?_
 refine⟨_,B,g.2,?_,b6.ext m S,⟨rfl,rfl⟩⟩
 refine(OX g.1.2)▸?_
 exact .bytes _ _
def AD (b:List D) (B:J) (L:KK):Prop:=kZ b fun T=>match T with
 | .tup N=>L (.tup N) B
 | .val v=>eY B v fun o=>nd o fun N=>N.length≤1000000∧L (.tup N) B
 | _=>False
theorem Yd:gu G w u A (.type "tuple") (fun b B L F=>AD b B L):=by
 intro r q U B L O Q b p m j g
 refine oG j g fun M T I g=>?_
 cases T with
 | tup=>
  refine I.ar.rec fun R Y s P=>?_
  exact call_tuple_tup s ⟨_,B,g,.tup s P,b6.refl m,⟨rfl,rfl⟩⟩
 | val X=>
  rw [I.val_inv]
  replace g:=jV g
  refine g.rec fun R o Z g=>?_
  refine(wW g).elim fun N h=>?_
  obtain⟨rfl,g⟩:=h
  obtain⟨Y,k,_,D,P⟩:=m.mem _ _ Z
  refine call_tuple_list ⟨_,D,rfl,k,rfl⟩ (fun C S=>?_) (by rw [hq,P.length];exact cg g.1 iF)
  have gN:b6 G w u q [] B U.heap B C:=b6.ext m S
  exact⟨_,B,g.2,.tup (Ma _ _) ((P.mono (gN.aq m)).mono (oL _)),gN.trans (b6.push gN.st _),⟨rfl,rfl⟩⟩
 | _=>exact g.elim
def HU (b:List D) (B:J) (L:KK):Prop:=kZ b fun T=>match T with
 | .int i=>(0≤i∧i < 4611686018427387904)∧L (.str (PySem.Str.ofString (toString i))) B
 | _=>False
theorem Yb:gu G w u A (.type "str") (fun b B L F=>HU b B L):=by
 intro r q U B L O Q b p m j g
 refine oG j g fun M T I g=>?_
 cases T with
 | int i=>
  obtain⟨⟨J,W⟩,K⟩:=g
  exact I.az fun V=>str_of_int_fit (N:=4611686018427387904) (by split<;>omega) (CR _) fun F=>⟨_,B,K,.str _ _,b6.refl m,⟨rfl,rfl⟩⟩
 | _=>exact g.elim
def AB (b:List D) (B:J) (L:KK):Prop:=As B b fun F K=>L (.int K.sum) B
theorem IV(K:List Int): ∀k,k≤K.length→preSum (fun J=>K.getD J 0) k=(K.take k).sum
 | 0,_=>rfl
 | k+1,h=>by
  unfold preSum
  rw [IV K k (by(exact LX h)),LS,LQ]
  have g:k < K.length:=by(assumption)
  simp [LB,g]
theorem Sn(X:ll cw de): ∀ {J:Nat} {M:b7},cw[J]? =ab M→ ∃V,M= .int (de.getD J 0) V:=by
 induction X with
 | nil=>intro J M Z;contradiction
 | cons k V _ o=>
  intro J M Z
  induction J with
  | zero=>obtain rfl:=c4 Z;exact⟨V,rfl⟩
  | succ J=>exact o Z
theorem Yc(v:0 < A):gu G w u A (.builtin "sum") (fun b B L F=>AB b B L):=by
 intro r q U B L O Q b p m j g
 refine HA m j g fun R N K Y Z h P C g=>?_
 refine dg (id h) fun o D F=>?_
 refine call_sum_walkG (Ny h ?_)
 refine⟨_,_,_,_,_,_,fun J=>K.getD J 0,rfl,Walks.list (A:=r.in1) (p.here v).1 _ _ (hU (fV D)) Y.toArray,⟨⟨_,gc _ rfl,rfl,rfl⟩,h.push _⟩,fun f H=>?_,fun J M V=>Sn C (by simpa using V),fun E fB d S=>?_⟩
 ·show f < (U.heap.push _).objs.size
  rw [nX]
  rcases gr.mp H with rfl | H
  ·exact oY _
  ·rw [gW] at H;refine H▸?_;exact nS (fV D)
 ·rw [show preSum (fun J=>K.getD J 0) Y.toArray.size=K.sum from by rw [hq,C.length,IV K _ (d5 _),List.take_length]]
  refine⟨_,B,g,.int _ _,b6.ext m fun f o Z=>S f o (fun H=>?_) (fU _ Z),⟨rfl,rfl⟩⟩
  rw [gW] at H
  subst H
  exact absurd (fV Z) (oX _)
def HS (b:List D) (B:J) (L:KK):Prop:=AP b fun R f=>match R with
 | .int R=>match f with
  | .int f=>L (.int (if f > R then f else R)) B
  | _=>False
 | _=>False
theorem X9(v:0 < A):gu G w u A (.builtin "max") (fun D B L F=>HS D B L):=by
 intro r q U B L O Q D p m j g
 refine Iy j g fun M T X Z I C g=>?_
 cases T with
 | int a=>cases Z with
  | int b=>
   refine I.az fun V=>C.az fun d=>max_two_ints (p.here v).1 fun E fB S=>⟨_,B,g,?_,b6.ext m S,⟨rfl,rfl⟩⟩
   split<;>exact .int _ _
  | _=>exact g.elim
 | _=>exact g.elim
def Az (b:List D) (B:J) (L:KK):Prop:=AP b fun R f=>f= .val (.type "str")∧match R with
 | .str _=>L (.bool true) B
 | .none=>L (.bool false) B
 | .tup _=>L (.bool false) B
 | _=>False
theorem X6:gu G w u A (.builtin "isinstance") (fun b B L F=>Az b B L):=by
 intro r q U B L O Q b p m j g
 refine Iy j g fun M T X Z I C g=>?_
 obtain⟨rfl,g⟩:=g
 refine C.val_inv▸?_
 cases T with
 | str=>exact I.aG fun V=>PySem.IsiPair.str_str ⟨_,B,g,.bool _,b6.refl m,⟨rfl,rfl⟩⟩
 | none=>cases I;exact PySem.IsiPair.NoneType_str ⟨_,B,g,.bool _,b6.refl m,⟨rfl,rfl⟩⟩
 | tup=>
  refine I.ar.rec fun R Y E P=>?_
  refine fR E fun o D H F=>?_
  exact PySem.IsiPair.tuple_str D H ⟨_,B,g,.bool _,b6.refl m,⟨rfl,rfl⟩⟩
 | _=>exact g.elim
end
end
section
noncomputable abbrev zm:=List (PySem.Str×D)→J→Prop
def xy:List (PySem.Str×W)→Loc→J→zm→KK→Prop
 | [],_,B,K,_=>(fun F:Nat=>K [] B) eE
 | (k,b)::j,Y,B,K,O=>b Y B (fun T n=>xy j Y n (fun s v=>K ((k,T)::s) v) O) O
noncomputable def ua (N:List (PySem.Str×W)):W:=fun Y B x O=>(fun F:Nat=>xy N Y B (fun s n=> ∀d,n d=ao→x (.val (.ref d)) (n.set d (.dict s))) O) eE
section
inductive qX (G:d7) (w:di) (u:cO) (A:Nat) (H:eP) (I:List PySem.Str):List (Option cT)→List cT→List (PySem.Str×W)→Prop
 | nil:qX G w u A H I [] [] []
 | cons {k:PySem.Str} {kk:Nat} {p:e5} {e:cT} {ks:List (Option cT)} {vs:List cT} {we:W} {l:List (PySem.Str×W)}:c5 G w u A H I (cy e H) we→qX G w u A H I ks vs l→
  qX G w u A H I (ab (.Constant (.str k) kk p)::ks) (e::vs) ((k,we)::l)
theorem Ra {pos:e5}(X:qX G w u A H I uy cN nD): ∃d:List (ej b7×ej b7),
 (M3 uy H).zip ((evalEach cN H).map fun M=>do let S←M;oa pos;pure S)=(d.map fun c=>(ab c.1,c.2))∧d.length=nD.length∧
 ∀r q U Y B (x:zm) O,fb A r q→St G w u q B U.heap→dC U.heap B H I Y→xy nD Y B x O→
  cu (bD G w) r (evalPairs d) (fun t a=> ∃v y e,x y e∧Carries (strKind G w) t v∧v.map (·.1)=nD.map (·.1)∧jA a.heap v y∧b6 G w u q [] B U.heap e a.heap∧dM U a) (cG G w u q B U O) U:=by
 induction X with
 | nil=>exact⟨[],rfl,rfl,fun r q U Y B x O p m l z=>evalPairs_nil ⟨[],[],B,z,trivial,rfl,⟨rfl,.nil⟩,b6.refl m,dM.refl U⟩⟩
 | @cons k an c Z uy cN b nD ap _ o=>
  refine fR o fun d W K C=>?_
  refine⟨(cy (.Constant (.str k) an c) H,(do let S←cy Z H;oa pos;pure S))::d,?_,by rw [lb,lb,K],fun r q U Y B x O p m l z=>?_⟩
  ·show(ab (cy (.Constant (.str k) an c) H)::M3 uy H).zip ((do let S←cy Z H;oa pos;pure S)::(evalEach cN H).map fun M=>do let S←M;oa pos;pure S)=_
   rw [yl,W];rfl
  ·refine evalPairs_cons (Ng (bt (ap.ae (s:= {U with toks:=U.toks+1}) p m l z (fun M T n E R f al g am L=>?_) fun F F J=>J.casesOn fun Z i h e ac j V D N=>⟨Z,i,h,e,ac,j,V,D,⟨N.gens,N.os⟩⟩)))
   refine bt (kL (ct (ea (C r q E Y n _ O p am L R) (fun t bb P=>?_) fun F F P=>cG.mono (r:=U) al ⟨g.gens,g.os⟩ P)))
   refine Ce P fun v y e ac j V D N Q=>?_
   exact⟨(k,M)::v,(k,T)::y,e,ac,⟨nr _ _,rfl,j⟩,by rw [gq,gq,V],⟨by rw [gq,gq,D.keys],.cons (N.rv am f) D.vals⟩,al.trans N,⟨Q.gens.trans g.gens,Q.os.trans g.os⟩⟩
theorem TO(v A:List (PySem.Str×b7))(X:((A++v).map (·.1)).Nodup):merged A v=A++v:=by
 induction v generalizing A with
 | nil=>exact(fI A).symm
 | cons p v o=>
  have g: ¬(A.any fun B=>decide (B.1=p.1))=true:=by
   rw [CV]
   rintro ⟨P,l,C⟩
   rw [fh,uR] at X
   exact X.2.2 P.1 (yj l) p.1 er (of_decide_eq_true C)
  have Z:PySem.stored A p.1 p.2=A++ [p]:=by unfold PySem.stored;rw [if_neg g]
  refine(show merged A (p::v)=merged (PySem.stored A p.1 p.2) v from rfl).trans ?_
  rw [Z,o (A++ [p]) (by rw [fH];exact X),fH];rfl
theorem Xi:c5 G w u A H I (cy (.Dict [] [] cD) H) (ua []):=by
 intro r q U Y B x O p m l z
 refine wpAny_Dict_empty ?_
 exact wQ m _ (.dict []) ⟨[],rh (sl:= #[]) (gc _ rfl),rfl,.nil⟩ z U.toks
theorem Xh(X:qX G w u A H I uy cN nD)(J:nD≠ [])(an:nD.length≤15)(ap:(nD.map (·.1)).Nodup):
 c5 G w u A H I (cy (.Dict uy cN cD) H) (ua nD):=by
 intro r q U Y B x O p m l z
 refine fR (Ra (pos:=cD) X) fun bd W K C=>?_
 have a:(U.heap.push hW).get? U.heap.objs.size=ab hW:=gc _ rfl
 have R:=b6.push (en:= []) m hW
 have n:=l.go m R
 refine wpAny_Dict_pairs (knd:=strKind G w) W (by rintro rfl;exact J (List.length_eq_zero_iff.mp K.symm)) (by(exact le_of_eq_of_le K an))
  (ea (C r q {U with heap:=U.heap.push hW} Y B _ O p R.st n z) (fun bi E P=>?_) fun F F J=>J.casesOn fun Z i h e k j ac al N=>⟨Z,i,h,e,k,j,⟨ac.1,ac.2.aV R⟩,R.trans al,⟨N.gens,N.os⟩⟩)
 refine Ce P fun v s e k j ac al N Q=>?_
 have g:e U.heap.objs.size=ao:=N.none_of a m.fresh
 have S:U.heap.objs.size ∉ q:=fun V=>by
  obtain⟨_,_,o,_,_,Z,_⟩:=m.aH _ V
  exact absurd (fV Z) (oX _)
 have T:=(N.keep _ _ a m.fresh (fun d=>nomatch d)).1 S
 refine⟨v,j,rh (sl:= #[]) T,fun L hd y=>?_⟩
 rw [TO v [] (by rw [kC,ac];exact ap),kC] at hd
 have c:U.heap.get? U.heap.objs.size=ao:=yE (d5 _)
 obtain⟨f,am⟩:=rO N.st g m.aC S T (fun t ⟨o,D,b,bb,hd⟩=>by obtain rfl:=c4 (T.symm.trans D);contradiction) (fun be d=>by contradiction) y.extBut
 have M:=(R.trans N).aF f c y.extBut
 exact⟨_,_,k _ g,.val _,M.adopt c m.aC S (o:= .dict s) ⟨v,hd,al.mono am⟩,⟨Q.gens,Q.os⟩⟩
end
end
section
structure cA (w:di) (base:cO):Prop where
 top:jC base
 k:(hd.ah w.params).In base
 blt: ∃mb,base.Ns kH mb∧ ∀x:PySem.Str,x≠ "__name__" →mb x=vg x
section
theorem Ts(x:cf.In u)(h:(t == ("__debug__" :PySem.Str))=false)(a:H.globals=hB)(y:H.scope.kind= .function)(g:H.kindOf t=ab .globalImplicit)(Z:nsIn cf hB t=ab (ab b8)):
 eJ (bD G w) u (cy (.Name t cD) H) b8:=by
 intro r n O U k S
 refine D7 ?_ h
 have A:H.blockKind= .function:=by unfold Ds;rw [y];rfl
 unfold vk
 rw [y]
 simp only [MF,r5,r6,if_false,A,g]
 unfold loadGlobal
 rw [a]
 exact bt (looks_nsIn x Z r _ O U k (ct S))
theorem H7 {x:ey}(C:x.In u)(p: ∃m,u.Ns kH m∧ ∀S:PySem.Str,S≠ "__name__" →m S=vg S) {S:PySem.Str} {M:b7} {D:e5}(h:(S == ("__debug__" :PySem.Str))=false)(a:H.globals=hB)(N:H.builtins=kH)(y:H.scope.kind= .function)(g:H.kindOf S=ab .globalImplicit)
 (Z:nsIn x hB S=ab ao)(V:vg S=ab M)(v:S≠ "__name__"):eJ (bD G w) u (cy (.Name S D) H) M:=by
 intro r n O U k F
 refine D7 ?_ h
 have E:H.blockKind= .function:=by unfold Ds;rw [y];rfl
 unfold vk
 rw [y]
 simp only [MF,r5,r6,if_false,E,g]
 unfold loadGlobal
 rw [a,N]
 refine dg p fun m d A=>?_
 refine bt (looks_nsIn C Z r _ O U k ?_)
 have B:U.heap.Ns kH m:=d.keeps k
 refine bt (Nv B ?_)
 rw [A S v,V]
 exact ct F
theorem ie.mono(X:ie G w u A b8 e4)(k: ∀b B x O,CG b B x O→e4 b B x O):ie G w u A b8 CG:=
 fun r q U B x O Q b p m j y=>X r q U B x O Q b p m j (k _ _ _ _ y)
end
section
theorem WD(X:ou G w u A H I cN nE):iR G w u A H I (isTrue (.BoolOp .And cN cD) H jb) (mU nE):=fun r q U Y B x O p m l z=>Np (WG X r q U Y B x O p m l z)
theorem WE(X:ou G w u A H I cN nE):iR G w u A H I (isTrue (.BoolOp .Or cN cD) H jb) (s9 nE):=fun r q U Y B x O p m l z=>Np (WI X r q U Y B x O p m l z)
end
end
section
structure jy (n:Nat) (A:j7) (fa:List a0):Prop where
 b:fb n A fa
 g:A.guards=ab []
section
variable (cX:d7) (cY:di) (da:cO)
def kc (I:Nat) (C:eP) (K:List PySem.Str) (V:ej b7) (J:W):Prop:=
 ∀r q U Y B x O,jy I r q→St cX cY da q B U.heap→dC U.heap B C K Y→J Y B x O→
  dr (bD cX cY) r V (ei cX cY da q B U x) (cG cX cY da q B U O) U
def q6 (I:Nat) (C:eP) (K:List PySem.Str) (V:ej Bool) (J:gC):Prop:=
 ∀r q U Y B x O,jy I r q→St cX cY da q B U.heap→dC U.heap B C K Y→J Y B x O→
  dr (bD cX cY) r V (FA cX cY da q B U x) (cG cX cY da q B U O) U
def pB (I:Nat) (C:eP) (K:List PySem.Str) (V:ej (List b7)) (J:g9):Prop:=
 ∀r q U Y B x O,jy I r q→St cX cY da q B U.heap→dC U.heap B C K Y→J Y B x O→
  dr (bD cX cY) r V (FC cX cY da q B U x) (cG cX cY da q B U O) U
def iA (I:Nat) (C:eP) (K:List PySem.Str) (V:ej qx) (J:eV):Prop:=
 ∀r q U Y B i P O,lu da C q→jy I r q→St cX cY da q B U.heap→dC U.heap B C K Y→J Y B i P O→
  dr (bD cX cY) r V (lx cX cY da q C K B U i P) (jg cX cY da q C K B U O) U
def ke (I:Nat) (M:b7) (o:Spec):Prop:=
 ∀r q U B x O Q b,jy I r q→St cX cY da q B U.heap→c7 U.heap Q b→o b B x O→
  gY (bD cX cY) r (.call M ⟨Q,[]⟩) (Eu cX cY da q B U x O) U
def l7 (I:Nat) (M:b7) (o:Spec):Prop:=
 ∀r q U B x O Q b,jy I r q→St cX cY da q B U.heap→c7 U.heap Q b→o b B x O→
  dr (bD cX cY) r (fW M Q) (ei cX cY da q B U x) (cG cX cY da q B U O) U
end
section
theorem WN(X:c5 G w u A H I jb cI):kc G w u A H I jb cI:=fun r q U Y B x O p m l z=>ja (X r q U Y B x O p.b m l z)
theorem WC(X:iR G w u A H I qg gL):q6 G w u A H I qg gL:=fun r q U Y B x O p m l z=>ja (X r q U Y B x O p.b m l z)
theorem Jt(X:i5 G w u A H I r1 dh):pB G w u A H I r1 dh:=fun r q U Y B x O p m l z=>ja (X r q U Y B x O p.b m l z)
theorem xa(X:fX G w u A H I r2 eh):iA G w u A H I r2 eh:=fun r q U Y B i P O W p m l z=>ja (X r q U Y B i P O W p.b m l z)
theorem PA(X:gu G w u A b8 e4):l7 G w u A b8 e4:=fun r q U B x O Q b p m j y=>ja (X r q U B x O Q b p.b m j y)
theorem ke.call(X:ke G w u A b8 e4):l7 G w u A b8 e4:=fun r q U B x O Q b p m j y=>
 uf (v5 (X r q U B x O Q b p m j y) fun j a d=>by
  rcases j with Z | (b8 | _ | _ | _)<;>first | exact d.elim | exact d)
theorem ke.mono(X:ke G w u A b8 e4)(k: ∀b B x O,CG b B x O→e4 b B x O):ke G w u A b8 CG:=
 fun r q U B x O Q b p m j y=>X r q U B x O Q b p m j (k _ _ _ _ y)
theorem kc.ae(X:kc G w u A H I jb cI) {s:cx} {K E:KK}
 (p:jy A Y U)(m:St G w u U q s.heap)(l:dC s.heap q H I V)(z:cI V q K E)
 (d: ∀M T e a,K T e→cP a.heap M T→b6 G w u U [] q s.heap e a.heap→dM s a→St G w u U e a.heap→dC a.heap e H I V→cq M a)
 (r: ∀S a,cG G w u U q s E S a→d1 S a):dr (bD G w) Y jb cq d1 s:=
 iG (X Y U s V q K E p m l z) (fun M a ⟨T,e,k,j,N,b⟩=>d M T e a k j N b N.st (l.go m N)) r
theorem q6.ae(X:q6 G w u A H I qg gL) {s:cx} {K:Bool→J→Prop} {E:KK}
 (p:jy A Y U)(m:St G w u U q s.heap)(l:dC s.heap q H I V)(z:gL V q K E)
 (d: ∀f e a,K f e→b6 G w u U [] q s.heap e a.heap→dM s a→St G w u U e a.heap→dC a.heap e H I V→gT f a)
 (r: ∀S a,cG G w u U q s E S a→cq S a):dr (bD G w) Y qg gT cq s:=
 iG (X Y U s V q K E p m l z) (fun f a ⟨e,k,N,b⟩=>d f e a k N b N.st (l.go m N)) r
theorem pB.ae(X:pB G w u A H I r1 dh) {s:cx} {K:List D→J→Prop} {E:KK}
 (p:jy A Y U)(m:St G w u U q s.heap)(l:dC s.heap q H I V)(z:dh V q K E)
 (d: ∀M T e a,K T e→c7 a.heap M T→b6 G w u U [] q s.heap e a.heap→dM s a→St G w u U e a.heap→dC a.heap e H I V→uC M a)
 (r: ∀S a,cG G w u U q s E S a→cq S a):dr (bD G w) Y r1 uC cq s:=
 iG (X Y U s V q K E p m l z) (fun M a ⟨T,e,k,j,N,b⟩=>d M T e a k j N b N.st (l.go m N)) r
theorem WR(i:kc G w u A H I (cy cz H) cI)(t:pB G w u A H I (ix (e9 cD (dF cN H))) dh)
 (a:dF (cz::cN) H=(false,cy cz H)::dF cN H):pB G w u A H I (ix (e9 cD (dF (cz::cN) H))) (jI cI dh):=by
 intro r q U Y B x O p m l z
 refine a▸?_
 show dr _ r (do
  let M←cy cz H
  let W←(pure [M]:ej (List b7))
  return W++(←mL W (ix (e9 cD (dF cN H))))) _ _ U
 refine dI (i.ae p m l z (fun M T n E R f C g e L=>dI (eF (dI (nx ?_)))) fun F F c=>c)
 exact t.ae p e L R (fun Q b v J S d s D j o=>eF ⟨T::b,v,S,.cons (s.rv e f) d,C.trans s,g.trans D⟩) fun F F c=>cG.mono C g c
theorem WM {k:Nat}(X:pB G w u A H I (ix (e9 cD (dF cN H))) dh):kc G w u A H I (cy (.Tuple cN k cD) H) (p9 dh):=by
 intro r q U Y B x O p m l z
 rw [arm_eval_Tuple]
 refine dI (jJ (dI (X.ae p m l z (fun Q b n E R f C g e L=>?_) fun F F c=>c)))
 refine ja (sQ ?_ (by show Q.toArray.size≤kJ;rw [hq,f.length];exact cg R.1 iF))
 exact ei.mono C g (wR (K:=x) e f R.2 E.toks)
theorem WB(y:jC u)(v:0 < A)(h:kc G w u A H I (cy cz H) cI)(t:c5 G w u A H I (cy eu H) gK)(V:sz fZ eu=false):
 q6 G w u A H I (isTrue (.Compare cz [fZ] [eu] cD) H jb) (mV fZ cI gK):=by
 intro r q U Y B x O p m l z
 rw [isTrue_Compare1,markedBehindIn_of_false V]
 refine dI (h.ae p m l z (fun M T n E R f C g D L=>dI (nx ?_)) fun F F c=>c)
 refine ja (t.ae p.b D L R (fun X Z K J S d s Q j o=>?_) fun F F c=>cG.mono C g c)
 refine dI (jJ (d2 (wpAny_operate' (ea ((Bj y v fZ).ae p.b j (s.rv D f) d S (C.trans s) (g.trans Q)) (fun F F P=>jK P fun i e Z k N b=>?_) fun F F c=>c))))
 refine Z▸?_
 exact ja (fz (sR ⟨e,k,N,b⟩))
theorem iA.ae(X:iA G w u A H I r2 eh) {s:cx} {E:oo}(W:lu u H U)(p:jy A Y U)(m:St G w u U q s.heap)(l:dC s.heap q H I V)(z:eh V q cR x E)
 (N:b6 G w u U (fm H) M r.heap q s.heap)(y:dy r.heap s.heap)(b:dM r s):
 dr (bD G w) Y r2 (lx G w u U H I M r cR x) (jg G w u U H I M r E) s:=
 iG (X Y U s V q cR x E W p m l z) (fun F F c=>lx.mono N y b c) fun F F c=>jg.mono N y b c
theorem WZ(T:iA G w u A H I (gM uF H) eh)(C:iA G w u A H I (hX ik H) iK):iA G w u A H I (hX (uF::ik) H) (jZ eh iK):=by
 intro r q U Y B i P O W p m l z
 rw [execs_cons]
 refine dI (iG (T r q U Y B _ P O W p m l z) (fun t a c=>?_) fun F F c=>c)
 induction t with
 | next=>
  obtain⟨E,e,k,K,N,y,b⟩:=c
  exact C.ae W p N.st K k N y b
 | ret v=>exact eF c
 | brk=>exact c.elim
 | cont=>exact c.elim
theorem WS(Q:kc G w u A H I (cy cz H) cI)(K:fo I t=ab C)
 (g:H.kindOf t=ab .local∨(H.kindOf t=ab .cell∧(H.cells.lookup t).isSome=true))(y:iO cz (ab (.Name t cD)) dw.line H=pure false):
 iA G w u A H I (gM (.Assign [.Name t cD] cz dw) H) (rK C cI):=by
 intro r q U Y B i P O W p m l z
 refine(exec_Assign_Name _ _ _ _ _ y)▸?_
 refine dI (jJ (dI (Q.ae p m l z (fun M T n E k j N b e L=>dI (jJ (d2 (Nj ?_)))) fun F F c=>cG.exc l m c)))
 exact oI K g W e L j fun a R D f J Z=>eF (⟨_,n,k,D,N.wk.trans f,(N.aq m).trans J,b.trans Z⟩:iz ..)
theorem WV {o:List iN}(s:q6 G w u A H I (isTrue cz H (cy cz H)) gL)(J:iA G w u A H I (hX ik H) eh)(D:iA G w u A H I (hX o H) iK):
 iA G w u A H I (gM (.If cz ik o cD) H) (rM gL eh iK):=by
 intro r q U Y B K P O W p m l z
 rw [exec_If]
 refine dI (jJ (dI (s.ae p m l z (fun i n E R C g e L=>?_) fun F F c=>cG.exc l m c)))
 induction i with
 | true=>exact J.ae W p e L R C.wk (C.aq m) g
 | false=>exact D.ae W p e L (R) C.wk (C.aq m) g
theorem WW(a:kc G w u A H I (cy cz H) cI):iA G w u A H I (gM (.Return (ab cz) cD) H) (lO cI):=by
 intro r q U Y B i P O W p m l z
 rw [exec_Return_some]
 exact dI (jJ (dI (a.ae p m l z (fun M T n E R f C g e L=>eF (⟨T,n,R,f,C.wk,C.aq m,g,L.loc⟩:mR ..)) fun F F c=>cG.exc l m c)))
theorem WT(a:kc G w u A H I (cy cz H) cI)(K:yZ H=false)(y:iO cz ao cD.line H=pure false):iA G w u A H I (gM (.Expr cz cD) H) (rL cI):=by
 intro r q U Y B i P O W p m l z
 refine(exec_Expr H cz cD K y)▸?_
 refine dI (jJ (dI (a.ae p m l z (fun M T n E D f C g e L=>?_) fun F F c=>cG.exc l m c)))
 split at D
 ·cases f
  rw [dropValue_plain (fun R X=>by contradiction)]
  exact eF (⟨Y,n,D,L,C.wk,C.aq m,g⟩:iz ..)
 ·exact D.elim
theorem WX(x:cf.In u) {o:cT}(a:kc G w u A H I (cy cz H) cI)(D:c5 G w u A H I (cy o H) gK)
 (y:iO cz (ab (.Attribute o t cD)) dw.line H=pure false):iA G w u A H I (gM (.Assign [.Attribute o t cD] cz dw) H) (tS cf t cI gK):=by
 intro r q U Y B i P O W p m l z
 refine(plainObj_exec_Assign_Attribute _ _ _ _ _ y)▸?_
 refine dI (jJ (dI (a.ae p m l z (fun M T al E R f C g e L=>?_) fun F F c=>cG.exc l m c)))
 rw [assign_Attribute]
 refine ja (bt (bt (fz (D.ae p.b e L R (fun X S v J V d s Q j ac=>?_) fun F F c=>cG.exc l m (cG.mono C g c)))))
 refine bt (kL (bt (fz (ea (JG (A:=A) x t r q J v _ _ X M S T p.b j d (s.rv e f) V) (fun F K c=>?_) fun F F c=>cG.exc l m (cG.mono (C.trans s) (g.trans Q) c)))))
 obtain⟨b,k,Z,h⟩:=c
 have N:=(C.trans s).trans Z
 exact NA (ct (⟨Y,b,k,l.go m N,N.wk,N.aq m,(g.trans Q).trans h⟩:iz ..))
end
end
section
section
theorem PW(c:tL hP=true)(S:hP.quiet=true)(N:Nat→cx→Prop)
 (I: ∀A r,N A r→dr dB (Y.under hP) (dB.den hP) (fun m a=>match m with
  | .done f=>ef (.ok f) a
  | .again B=>(B=hP∧ ∃y,y < A∧N y a)∨(B.quiet=true∧gY dB Y B ef a)) (fun e a=>ef (.error e) a) r)
 (A:Nat)(X:N A r):gY dB Y hP ef r:=by
 induction A using Nat.strongRecOn generalizing r with
 | ind A o=>
  refine pI c (iG (I A r X) (fun m a Q=>?_) fun F F L=>L)
  induction m with
  | done f=>exact Q
  | again B=>
   rcases Q with ⟨rfl,y,V,C⟩ | Q
   ·exact⟨S,o y V C⟩
   ·exact Q
theorem PU {M k D orelse H}(N:Nat→cx→Prop)
 (I: ∀A r,N A r→cu (bD G w) Y (qS k) (fun j E=>match j with
  | none=>cu (bD G w) Y (hX orelse H) (fun t K=>ef (.ok t) K) (sH (bD G w) Y H fun e a=>ef (.error e) a) E
  | some v=>cu (bD G w) Y (DV M k v) (fun F O=>
   cu (bD G w) Y (n5 M H v) (fun F J=>dr (bD G w) Y (hX D H) (fun t K=>match t with
    | .next | .cont=> ∃m,m < A∧N m K
    | .brk=>ef (.ok .next) K
    | .ret v=>ef (.ok (.ret v)) K) (sH (bD G w) Y H fun e a=>ef (.error e) a) J) (sH (bD G w) Y H fun e a=>ef (.error e) a) O) (sH (bD G w) Y H fun e a=>ef (.error e) a) E) (sH (bD G w) Y H fun e a=>ef (.error e) a) r)
 (A:Nat)(X:N A r):gY (bD G w) Y (.forLoop M k D orelse H) ef r:=by
 refine PW rfl rfl N (fun A r C=>?_) A X
 show dr _ Y ((forTurn M k D orelse H).onRaise (fun S=>do sG S H;Nc S)) _ _ r
 refine Z2 ?_
 refine dI (jJ (d2 (Nw (ea (I A r C) (fun j E T=>?_) fun F F L=>kL L))))
 induction j with
 | none=>exact eF (.inr ⟨rfl,PX (codeAny_block T)⟩)
 | some v=>
  refine d2 (ea T (fun F O P=>?_) fun F F L=>L)
  refine d2 (ea P (fun F J V=>dI (iG V (fun t K B=>?_) fun F F L=>L)) fun F F L=>L)
  induction t with
  | next=>exact eF (.inl ⟨rfl,B⟩)
  | cont=>exact eF (.inl ⟨rfl,B⟩)
  | brk=>exact eF B
  | ret v=>exact eF B
theorem WU(v:0 < A)(s:s6 G w u A H I (n5 cz H) iJ)(K:ov G w u A H I eu nK)(cr:iA G w u A H I (hX ik H) eh)
 (cs: ∀S,qN eu H S=pure S):iA G w u A H I (gM (.For cz eu ik [] cD) H) (tR iJ nK eh):=by
 intro r q U Y B bv P O W p m l z
 rw [exec_For]
 refine dI (jJ (d2 (ea (K r q U Y B _ _ p.b m l z) (fun S cK T=>d2 (gB (cs S) (dI (jJ (d2 (fz (ea T (fun M cL c=>?_) fun F F c=>cG.exc l m c))))))) fun F F c=>cG.exc l m c)))
 obtain⟨ce,b,X,n,rfl,cf,ci,bb,b8,ca,cb,C,g⟩:=c
 have N:Eo u H q U ce:=⟨bb,b8,cb,HI l bb⟩
 have cw:=(p.b.here v).1
 refine Z4 ?_ (by intro S;contradiction)
 refine PU (El G w u H I q B U ce b X fun j Y B=>eS iJ eh X b bv P j Y B) (fun k cF cp=>?_) (b.length+1) ⟨0,Y,n,eA _,rfl,cf,l.go m C,C.wk,C.aq m,g,ci,ca⟩
 clear cf ci bb b8 ca cb C g z l m
 obtain⟨J,ck,e,cA,rfl,x,bk,f,y,Z,am,V⟩:=cp
 rcases C8 cA with Q | rfl
 ·rw [yc Q] at x
  cases bd:iJ ck b[J] with
  | none=>exact(H9 x bd).elim
  | some cI=>
   rw [AI bd] at x
   refine AL f.st am (gV Q) fun L ch M a i=>?_
   refine gz (wx f.st bk V N.f2 N.f4 N.hl am.obj a) fun ac an al=>?_
   obtain⟨cE,bi⟩:=i al
   refine H4 bi (s _ _ _ _ _ _ _ _ _ _ W p.b ac an cE bd fun be cq cm bm b5 bu=>?_)
   have mQ:=(f.aF ac N.f1 a).trans bm
   have bx:dy U.heap be.heap:=fun R E d=>b5 R E (al R E (y R E d))
   have bn:dM U be:=⟨bu.gens.trans Z.gens,bu.os.trans Z.os⟩
   have cj:=bi.bw bm b5 V N.hl N.f4 bi.isOk
   refine iG (cr r q be cI e _ P fM W p cq cm x) (fun t cM c=>?_) fun F F c=>c.no
   induction t with
   | next=>
    obtain⟨cJ,cH,⟨cC,cB⟩,cn,ap,b6,co⟩:=c
    refine cj.obj.elim fun o h=>?_
    have D:=h.1
    exact⟨b.length+1 - (J+1),yr (nS Q) (oY J),J+1,cJ,cH,Q,rfl,cB,cn,mQ.trans ap,bx.trans b6,bn.trans co,cj.bw ap b6 V N.hl N.f4 cC,ap.aQ V D⟩
   | ret M=>exact mR.mono mQ bx bn c
   | brk=>exact c.elim
   | cont=>exact c.elim
 ·rw [CW] at x
  refine Ad cw f.st am (nN (d5 _)) fun L ch a=>y9 ?_
  refine gz (wx f.st bk V N.f2 N.f4 N.hl am.obj a) fun ac an al=>?_
  exact(⟨ck,e,x,an,f.aF ac N.f1 a,fun R E d=>al R E (y R E d),⟨Z.gens,Z.os⟩⟩:iz G w u q H I B U bv {cF with heap:=L,toks:=ch})
def xj (G:d7) (w:di) (u:cO) (A:Nat) (M:b7) (x O:KK):List D→J→Prop:=fun b B=> ∃o,l7 G w u A M o∧o b B x O
def v3 (G:d7) (w:di) (u:cO) (A:Nat) (K:g9) (Y:Loc) (x O:KK):D→J→Prop:=fun t B=>match t with
 | .val v=>f6 G w u v∧K Y B (xj G w u A v x O) O
 | _=>False
noncomputable def BV (G:d7) (w:di) (u:cO) (A:Nat) (J:W) (K:g9):W:=fun Y B x O=>(fun F:Nat=>J Y B (v3 G w u A K Y x O) O) eE
theorem PB(X:v3 G w u A dh V x bx T q): ∃M,T= .val M∧f6 G w u M∧dh V q (xj G w u A M x bx) bx:=by
 cases T with
 | val M=>exact⟨M,rfl,X⟩
 | _=>exact X.elim
theorem PD {k:yF}(A:uw.any (·.1)=false)(g:k= .frame∨k= .machine)
 (X:cu (bD G w) Y (DQ b8 true uw []) (fun R E=>(∀cq:yF→cx→Prop,cq k E→cu (bD G w) Y (DT b8) cq d1 E)∧dr (bD G w) Y (fW b8 (cw++R.pos) R.kw) cq d1 E) d1 r):
 dr (bD G w) Y (mJ cD b8 cw uw []) cq d1 r:=by
 unfold mJ
 refine d2 (fz (ea X (fun R E T=>dI (jJ ?_)) fun F F S=>S))
 have tail: ∀ {V:ej b7},dr (bD G w) Y V cq d1 E→dr (bD G w) Y (V >>=fun j=>mL [j] point >>=fun F=>pure j) cq d1 E:=
  fun s=>dI (iG s (fun j J t=>ja (bt (fz (Ed (ct t))))) fun F F S=>S)
 rw [A,Ln,CN]
 refine d2 (T.1 _ ?_)
 rcases g with rfl | rfl
 ·dsimp only
  split
  ·exact tail T.2
  ·exact tail (Z0 T.2)
 ·exact tail T.2
theorem Js(T:i5 G w u A H I (ix (e9 cD (dF cN H))) dh)
 (a:cN= []∨ ∃e j,cN=e::j∧dF (e::j) H=(false,cy e H)::dF j H)(N:(e9 cD (dF cN H)).any (·.1)=false)
  {first:List b7} {fd:List D}(p:jy A Y U)(m:St G w u U q r.heap)(l:dC r.heap q H I V)(C:c7 r.heap first fd)(M:f6 G w u b8)
  (f: ∀b v,iH b v→ ∃o,l7 G w u A b8 o∧o (fd++b) v x bx)(z:dh V q iH bx):
 dr (bD G w) Y (mJ cD b8 first (e9 cD (dF cN H)) []) (ei G w u U q r x) (cG G w u U q r bx) r:=by
 refine dg M fun k g L=>?_
 refine PD N g (Af a ?_)
 refine T.ae p.b m l z (fun Q b v J S O s E K R=>?_) fun F F c=>c
 refine dg (f _ _ S) fun o y B=>?_
 exact⟨fun n P=>L Y n _ J K.top P,iG (y Y U J v x bx (first++Q) (fd++b) p K ((s.bO m C).append O) B) (fun F F d=>ei.mono s E d) fun F F d=>cG.mono s E d⟩
theorem WK(Q:c5 G w u A H I (cy (.Name t cD) H) cI)(K:i5 G w u A H I (ix (e9 dw (dF cN H))) dh)
 (a:cN= []∨ ∃e j,cN=e::j∧dF (e::j) H=(false,cy e H)::dF j H)(P:(e9 dw (dF cN H)).any (·.1)=false):
 kc G w u A H I (cy (.Call (.Name t cD) cN [] dw) H) (BV G w u A cI dh):=by
 intro r q U Y B x O p m l z
 show dr _ r (cy (.Name t cD) H >>=fun J=>mJ dw J [] (e9 dw (dF cN H)) []) _ _ U
 refine d2 (Q.ae p.b m l z (fun M T n E R f C g D L=>?_) fun F F cD=>cD)
 refine(PB R).elim fun N h=>?_
 obtain⟨rfl,b,S⟩:=h
 refine f.val_inv▸?_
 exact iG (Js K a P p D L (first:= []) .nil b (fun F F d=>d) S) (fun F F cD=>ei.mono C g cD) fun F F cD=>cG.mono C g cD
noncomputable def rA (G:d7) (w:di) (u:cO) (x:ey) (A:Nat) (E:PySem.Str) (K:g9) (Y:Loc) (L O:KK):KK:=fun S n=>match S with
 | .val (.ref a)=>match n a with
  | some (.inst N h)=>match n h with
   | some (.dict s)=>cL s E=ao∧ ∃t,vy x N E t∧f6 G w u (.ref t)∧K Y n (fun b v=> ∃o,l7 G w u A (.ref t) o∧o (S::b) v L O) O
   | _=>False
  | _=>False
 | _=>False
noncomputable def B2 (G:d7) (w:di) (u:cO) (x:ey) (A:Nat) (E:PySem.Str) (M:W) (K:g9):W:=fun Y B L O=>(fun F:Nat=>M Y B (rA G w u x A E K Y L O) O) eE
theorem WL(x:cf.In u) {o:cT}(D:c5 G w u A H I (cy o H) cI)(an:i5 G w u A H I (ix (e9 dw (dF cN H))) dh)
 (bb:cN= []∨ ∃e j,cN=e::j∧dF (e::j) H=(false,cy e H)::dF j H)(bi:(e9 dw (dF cN H)).any (·.1)=false)
 (ap:ve o t H (cy o H)=cy o H)(bd:vl (cN.length+([]:List u3).length) (e9 dw (dF cN H)) (qG dw (qO [] H))=true)(be:(cD.endLine == dw.line)=true):
 kc G w u A H I (cy (.Call (.Attribute o t cD) cN [] dw) H) (B2 G w u cf A t cI dh):=by
 intro r q U Y B L O p m l z
 rw [DM,ap]
 refine d2 (D.ae p.b m l z (fun M T n E R f C v Z al=>?_) fun F F c=>c)
 refine dI (jJ ?_)
 have i:n8 true o H cD dw=pure dw:=by unfold n8;simp [be]
 unfold DX
 refine bd▸?_
 cases T with
 | val X=>?_
 | _=>exact False.elim R
 cases X with
 | ref a=>?_
 | _=>exact False.elim R
 have V:=f.val_inv
 rw [V]
 dsimp only [rA] at R
 induction e:n a with
 | none=>rw [e] at R;exact False.elim R
 | some bm=>
  rw [e] at R
  cases bm with
  | inst N h=>
   dsimp only at R
   induction J:n h with
   | none=>rw [J] at R;exact False.elim R
   | some K=>
    rw [J] at R
    cases K with
    | dict s=>
     obtain⟨y,ac,W,b,bk⟩:=R
     refine Cd (Z.inst e J) fun bx P Q k bn bu bv am=>?_
     have g:=wa bu bn t
     rw [BU bv y] at g
     show dr _ r (do
      let (ac,first)←mL [.ref a] (calleeOf true o H (.ref a) t)
      let S←n8 true o H cD dw
      mJ S ac first (e9 dw (dF cN H)) (qG dw (qO [] H))) _ _ _
     refine d2 (fz ?_)
     refine method_fn (x.keeps Z.top) am W.get W.no W.at_ W.fn (by show(yL t P).map _=_;refine g▸?_;rfl) ?_
     refine dI (mw i ?_)
     exact iG (Js an bb bi p Z al (first:= [.ref a]) (fd:= [.val (.ref a)]) (.cons (.val _) .nil) b (fun F F d=>d) bk) (fun F F c=>ei.mono C v c) fun F F c=>cG.mono C v c
    | _=>exact False.elim R
  | _=>exact False.elim R
end
end
section
set_option backward.match.sparseCases true
set_option tactic.hygienic true
section
theorem PT {o:fi}(N:Y.depth < recursionLimit)(D:r.heap.get? z=ab o)
 (O:o.data= .func d6)(I:d6.scope.isCoroutine=false)(M:d6.scope.isGenerator=false)(B:d6.body= .stmts ik)(H:r.heap.CodeRec d6.code d6.qualname)
 (X:cu (bD G w) Y.in1 (dQ d6 lU) (fun A E=>
  cu (bD G w) Y.in1 (DY d6.scope d6.globals d6.closure A (d6.qualname++ ".<locals>.") (ab z) d6.code ao d6.builtins)
   (fun C J=>J.heap.NoLimit∧gY (bD G w) Y (.func ik C) ef J) (fun e a=>ef (.error e) a) E) (fun e a=>ef (.error e) a) r):
 gY (bD G w) Y (.call (.ref z) lU) ef r:=by
 refine pI rfl ?_
 show dr _ Y.in1 (DN (.ref z) lU) _ _ r
 refine d2 (mO D ?_)
 refine H.elim fun i h=>?_
 refine h.elim fun t h=>?_
 refine jK h fun Q R b P K S=>?_
 simp only [O,callFunction,I,M,B,b]
 rw [b] at X
 refine d2 (m:=field (.ref i) 1) (l6 P K S (dI (eF ?_)))
 exact d2 (ea X (fun A E T=>d2 (ea T (fun C J V=>d2 (wpAny_enterFrame V.1 N
  (eF (And.intro rfl V.2)))) fun F F L=>L)) fun F F L=>L)
theorem PV
 (X:dr (bD G w) (Y.deeper H) (hX ik H) (fun t a=>ef (.ok (.ret (match t with | .ret v=>v | _=> .none))) a)
  (fun e a=>cu (bD G w) (Y.deeper H) (DU H e) (fun F x=>ef (.error e) x) (fun b x=>ef (.error b) x) a) r):
 gY (bD G w) Y (.func ik H) ef r:=by
 refine pI rfl ?_
 show dr _ (Y.deeper H) (do point;match←(hX ik H).onRaise (DU H) with | .ret v=>ret v | _=>ret .none) _ _ r
 refine d2 (Ed (dI (B8 (iG X (fun t a L=>?_) fun F F L=>ja L))))
 cases t<;>exact eF L
theorem Ye {o:fi} {k:Nat}(y:jC u)(t:vt u z o d6 ik k I cw n)(cK: ∀S ∈ iI,d6.scope.names.lookup S≠ab .free)
 (H: ∀bd,iA G w u A (hy d6 bd z) (I++iI) (hX ik (hy d6 bd z)) eh):
 ke G w u (A+1) (.ref z) (fun b B x O=>b.length=k∧eh (start (b++n) iI.length) B (fun F e=>x .none e) x (fun F=>O)):=by
 intro r q U B x O Q b p m j bk
 have ci:=bk.1;have bk:=bk.2
 refine gz (p.b.here (qq _)) fun cL cV cW=>?_
 refine fR p.b.aH fun N ch cj ck=>?_
 have cm:Q.length=k:=j.length.trans ci
 have bi:I.length=(Q++cw).length:=by rw [t.len,dR,cm]
 have cA:c7 U.heap (Q++cw) (b++n):=j.append (t.dflt _)
 refine PT (by show r.depth < 1000;omega) (m.top _ _ t.at_) t.data t.bT t.gen t.body (t.code.keeps m.top) ?_
 refine t.bind U Q m.top cm _ _ _ _ ?_
 refine t.bU▸?_
 refine Nt t.fn (fun S cn=>?_) fun C ac E S=>?_
 ·have V:S.1 ∈ I:=by
   have:S.1 ∈ (I.zip (Q++cw)).map (·.1):=yj cn
   rwa [xI bi] at this
  rcases t.kind _ V with h | h
  ·exact .inl h
  ·exact .inr ⟨h,tg (.inr (kW h))⟩
 ·have cJ:C=hy d6 U.heap.objs.size z:=ac
  subst cJ
  clear ac
  refine rU S.toInCall.same fun al cQ cS=>?_;subst cS
  have ap:=S.toInCall.keep
  refine⟨(y.noLimit.keeps m.top).keeps ap,PV ?_⟩
  have b8: ∀f,U.heap.objs.size≤f→U.heap.get? f=ao:=fun f H=>yE H
  have bn: ∀f,U.heap.objs.size≤f→u.get? f=ao:=fun f H=>by
   induction P:u.get? f with
   | none=>rfl
   | some o=>exact absurd (fV (m.top _ _ P)) (jw.mpr H)
  have cp: ∀f,U.heap.objs.size≤f→B f=ao:=fun f H=>by
   induction P:B f with
   | none=>rfl
   | some o=>exact absurd (m.lt P) (jw.mpr H)
  have am:b6 G w u q [] B U.heap B al:=b6.ext m ap
  have cR:dy U.heap al:=fun f cX ⟨o,D,j⟩=>⟨o,ap f o D,j⟩
  have ca:=S.toInCall.ns
  have ce:St G w u (U.heap.objs.size::q) B al:=⟨am.st.top,am.st.mem,am.st.out,fun bd bx=>by
   rcases gr.mp bx with rfl | bx
   ·refine k5 ca fun o cE A D hd F=>?_
    exact⟨bn _ (d5 _),cp _ (d5 _),o,cE,A,D,hd⟩
   ·exact am.st.aH bd bx⟩
  have cz:lu u (hy d6 U.heap.objs.size z) (U.heap.objs.size::q):=⟨⟨_,_,rfl,rfl⟩,bn _ (d5 _),fun s i Z=>bn _ (nQ (S.above s i (mem_of_lookup Z)))⟩
  have cq:jy A (r.deeper (hy d6 U.heap.objs.size z)) (U.heap.objs.size::q):=by
   refine⟨⟨fun F=>⟨cL,?_,?_⟩,(hy d6 U.heap.objs.size z)::N,?_,?_,?_⟩,p.g⟩
   ·show r.depth+1+3 * A < 690;omega
   ·show r.units+3+40 * A < 9000;lia
   ·show r.frames.map _=_;rw [ch];rfl
   ·rw [gq,gq,cj];rfl
   ·intro Z ac
    rcases gr.mp ac with rfl | ac
    ·show d6.scope.kind≠_;rw [t.fn];decide
    ·exact ck Z ac
  have cr:dC al B (hy d6 U.heap.objs.size z) (I++iI) (start (b++n) iI.length):=by
   refine⟨⟨t.fn,t.glob,t.blt,fun s d i R cD=>M7 S.apart (mem_of_lookup R) (mem_of_lookup cD),.inr trivial⟩,cp _ (d5 _),?_,⟨_,ca⟩,fun s i Z=>⟨_,S.cell s i Z⟩,fun s J Z=>?_⟩
   ·unfold start
    rw [dR,dR,dP,dR,oW,t.len,ci,(t.dflt U.heap).length]
   ·have X: ∀T,(start (b++n) iI.length).at J=ab T→ ∃M,I[J]? =ab s∧(Q++cw)[J]? =ab M∧cP al M T:=fun T hd=>by
     refine dg ((cA.get (JX hd))) fun M W K=>?_
     refine⟨M,?_,W,K.mono cR⟩
     have cM:J < I.length:=by
      rw [bi]
      refine(nR J (Q++cw).length).elim (fun P=>?_) fun P=>?_
      ·exact P
      ·have cY:=(nN P).symm.trans W;contradiction
     have:=oE Z
     rwa [CZ cM] at this
    unfold gi
    split
    ·rename_i g
     exact⟨_,ca,fun T hd=>by
      refine fR ((X T hd)) fun M bv W K=>?_
      exact⟨M,by rw [zS g t.nodup bi bv];exact W,K⟩⟩
    ·rename_i g
     obtain⟨i,cf⟩:=nU.mp (tg (n:=U.heap.objs.size+1) (acc:= []) (.inr (kW g)))
     exact⟨i,_,cf,S.cell s i cf,fun T hd=>by
      refine fR (X T hd) fun M bv W K=>?_
      exact⟨M,by rw [F3 g t.nodup bi bv];exact W,K⟩⟩
    ·rename_i g
     have V:s ∈ I++iI:=uQ (oE Z)
     rcases j5.mp V with V | V
     ·refine(t.kind _ V).elim (fun h=>?_) fun h=>?_
      ·exact absurd (h.symm.trans g) (by decide)
      ·exact absurd (h.symm.trans g) (by decide)
     ·exact absurd g (cK s V)
    ·trivial
  have cF: ∀f ∈ fm (hy d6 U.heap.objs.size z),U.heap.get? f=ao:=fun f H=>by
   rcases wO H with rfl | ⟨s,Z⟩
   ·exact b8 _ (d5 _)
   ·exact b8 _ (nQ (S.above s f (mem_of_lookup Z)))
  have bb:b6 G w u (U.heap.objs.size::q) (fm (hy d6 U.heap.objs.size z)) B U.heap B al:=by
   refine⟨ce,fun f o Z V cn=>⟨fun F=>ap f o Z,o.slots,ap f o Z⟩,am.fresh,am.there⟩
  have bu: ∀ {e be},b6 G w u (U.heap.objs.size::q) (fm (hy d6 U.heap.objs.size z)) B U.heap e be→b6 G w u q [] B U.heap e be:=fun cs=>
   cs.drop cF (fun f H v=>by
    rcases gr.mp H with rfl | H
    ·exact b8 _ (d5 _)
    ·exact absurd H v) fun f H=>fJ _ H
  refine iG (H U.heap.objs.size _ _ ⟨al,U.gens,U.drawn,cQ,U.os⟩ _ B _ _ _ cz cq ce cr bk) (fun cI a c=>?_) fun Z a c=>?_
  ·induction cI with
   | next=>
    obtain⟨cU,e,Y,l,bm,b5,an⟩:=c
    exact(⟨.none,e,Y,.none,bu (bb.trans bm),⟨an.gens,an.os⟩⟩:ei ..)
   | ret M=>
    obtain⟨T,e,Y,l,bm,b5,an,_⟩:=c
    exact(⟨T,e,Y,l,bu (bb.trans bm),⟨an.gens,an.os⟩⟩:ei ..)
   | brk=>exact c.elim
   | cont=>exact c.elim
  ·obtain⟨Z,i,cC,cU,e,rfl,Y,⟨l,cN⟩,bm,b5,an,co⟩:=c
   have cb:=bb.trans b5
   refine JB (eN:=U.heap) (M:=B) (U:=U.heap.objs.size::q) (outer:=N) (L:=U.heap.objs.size) (by show r.frames.map _=_;rw [ch];rfl) (by rw [gq,gq,cj];rfl) (fun Z ac=>?_) rfl cb.st m.top cb l (cN.aV bb) fun be cB cH=>?_
   ·rcases gr.mp ac with rfl | ac
    ·show d6.scope.kind≠_;rw [t.fn];decide
    ·exact ck Z ac
   ·show cG G w u q B U O (.ref Z) {a with heap:=be}
    exact⟨Z,i,cC,e,rfl,Y,⟨l,cH⟩,bu cB.go,⟨co.gens,co.os⟩⟩
end
end
section
section
variable {g:Array u0}
theorem Z1 {n:c2→cx→Prop} {k:fi→ej c2} {o:fi}(D:r.heap.get? E=ab o)(L:dr dB Y (k o) n cq r):dr dB Y (.load E fF k) n cq r:=fun A P C W K=>⟨o,D,L A P C W K⟩
theorem TB(s:Makes (bD G w) L z)(K:eJ (bD G w) L (jf (.ref z) "__init__") (ab b8))
 (H: ∀D,eJ (bD G w) L (MU b8 D) (b8,[D]))(F:(ab b8 != ab (su "object.__init__"))=true∨(cw= []∧([]:List (PySem.Str×b7))= []))
 (S:gY (bD G w) (Y.under (.builtin "type.__call__" ⟨.ref z::cw,[]⟩)) (.call b8 ⟨.ref (L.objs.size+1)::cw,[]⟩) (InitBack (L.objs.size+1) ef) ⟨(L.push hW).push (l4 z L.objs.size),g,ju,A,kz⟩):
 gY (bD G w) Y (.call (.ref z) ⟨cw,[]⟩) ef ⟨L,g,ju,A,kz⟩:=by
 have C:=s
 obtain⟨⟨t,P,p,X,e,R,J,E⟩,B,u,D,T,N,Q⟩:=s
 refine pI rfl ?_
 refine Z1 e ?_
 show dr _ _ (MW (.ref z) _) _ _ _
 refine d2 (N.at ?_)
 dsimp only
 rw [tc_bind]
 refine dI (eF (dI (eF ?_)))
 refine eF (a:=MC (.call (.builtin "type.__call__") ⟨.ref z::cw,[]⟩)) (And.intro rfl ?_)
 refine zZ (by decide) (uY _ (by decide+kernel)) M1 (check_slot tc_kind tc_split Q (tc_args _ _ _) ?_)
 unfold Builtin.«type.__call__»
 have V:eJ (bD G w) L (vm (.ref z)) p.mro:=((sx (part:=ao) e).andThen .now).andThen .now
 dsimp only
 rw [if_neg (by show ¬(false=true);decide)]
 refine d2 (V.here ?_)
 rw [E,if_neg (by decide)]
 refine d2 (B.here ?_)
 refine dI (eF (d2 (fz (ps (new_K C K F ?_)))))
 have k: ∀f o,L.get? f=ab o→((L.push hW).push (l4 z L.objs.size)).get? f=ab o:=fun f o Z=>fU _ (fU _ Z)
 have i:((L.push hW).push (l4 z L.objs.size)).get? (L.objs.size+1)=ab (l4 z L.objs.size):=by heap_get
 have I:eJ (bD G w) ((L.push hW).push (l4 z L.objs.size)) (mN (.ref (L.objs.size+1))) (.ref z):=(sx i).andThen .now
 have l:=D.keeps k
 have W:=K.keeps k
 have M:=(H (.ref (L.objs.size+1))).keeps k
 refine d2 (Looks.at (I.andThen l) ?_)
 rw [if_neg (by decide)]
 refine dI (nx ?_)
 refine dI (d2 (Looks.at I ?_))
 refine ja (Looks.at W ?_)
 refine nx (d2 (Looks.at M ?_))
 refine dI (uf (v5 S fun j O d=>?_))
 rcases j with Z | (_ | _ | _ | v)
 ·exact d
 ·exact d.elim
 ·exact d.elim
 ·exact d.elim
 ·obtain⟨rfl,d⟩:=d
  exact eF (eF d)
theorem OR(p:jy (C+1) Y U)(z:a0)(Q:List b7):jy C (Y.under (.builtin "type.__call__" ⟨.ref z::Q,[]⟩)) U:=⟨zU p.b z Q,p.g⟩
theorem JV(x:cf.In u) {f:a0}(c:Ej cf z f)(y:ke G w u C (.ref f) e4):ke G w u (C+1) (.ref z) (JS z e4):=by
 intro Y q U B J O Q b p m j I
 have F:=x.keeps m.top
 obtain⟨L,g,ju,A,kz⟩:=U
 have gN:=b6.alloc (en:= []) m hW (.dict []) ⟨[],rh (sl:= #[]) (gc _ rfl),rfl,.nil⟩
 have M:=b6.alloc (en:= []) gN.st (l4 z L.objs.size) (.inst z L.objs.size) ⟨#[],gc _ rfl⟩
 rw [nX] at M
 have N:=gN.trans M
 refine TB (DJ F c.makes) (qE F c.init) (fun D=>DF F D c.fn) (.inl rfl) ?_
 have K:B (L.objs.size+1)=ao:=by
  induction P:B (L.objs.size+1) with
  | none=>rfl
  | some o=>exact absurd (m.lt P) (by show ¬L.objs.size+1 < L.objs.size;(exact De))
 refine v5 (y _ q ⟨(L.push hW).push (l4 z L.objs.size),g,ju,A,kz⟩ _ _ _ (.ref (L.objs.size+1)::Q) (.val (.ref (L.objs.size+1))::b) (OR p _ _) N.st (.cons (.val _) (N.bO m j)) (I (L.objs.size+1) L.objs.size K m.fresh (L2 _))) fun j a d=>?_
 rcases j with Z | (_ | _ | _ | v)
 ·exact cG.mono (s':=⟨(L.push hW).push (l4 z L.objs.size),g,ju,A,kz⟩) N ⟨rfl,rfl⟩ d
 ·exact d.elim
 ·exact d.elim
 ·exact d.elim
 ·obtain⟨R,e,⟨rfl,l⟩,t,H,E⟩:=d
  cases t
  exact⟨rfl,_,e,l,.val _,N.trans H,⟨E.gens,E.os⟩⟩
end
end
section
namespace Ba
theorem mro:vm (.type "bytearray")=pure [.type "bytearray",.type "object"]:=by rw [mroOf_type];kernel_rfl
theorem Tt:jf (.type "bytearray") "__new__" =pure (ab (.builtin "bytearray.__new__")):=by rw [i1,iZ];kernel_rfl
theorem XW:Slot "bytearray" "__init__" "bytearray.__init__" :=
 .of (owner:= "bytearray") (n:= "__init__") (by rw [i1,iZ];kernel_rfl) (by decide+kernel) (by decide+kernel) (by decide+kernel)
  (by first | exact .inl (by decide+kernel) | exact .inr (by decide+kernel)) (by rw [lq];kernel_rfl)
theorem called:TypeCalled "bytearray" "bytearray.__new__" "bytearray.__init__" :=
 ⟨by decide+kernel,by decide+kernel,⟨_,_,mro⟩,madeBy_type mro Tt (by decide+kernel),by decide+kernel,by rw [lq];kernel_rfl,XW⟩
theorem typeCall(R:b7):M0 "bytearray" ⟨[R],[]⟩=pure ():=by kernel_rfl
theorem newCall(R:b7):qK "bytearray.__new__" ⟨[.type "bytearray",R],[]⟩=pure ():=by kernel_rfl
theorem entry_new:l5 kK "bytearray.__new__" =ab Builtin.«list.__new__»:=
 DP (id':= "list.__new__") (by kernel_rfl) (by first | rfl | decide+kernel) (by decide+kernel) (by kernel_rfl)
theorem plain_new:plainId "bytearray.__new__" =true:=by decide+kernel
theorem entry_init:l5 kK "bytearray.__init__" =ab Builtin.«bytearray.__init__»:=by first | exact yV (by kernel_rfl) | exact yW (by kernel_rfl)
set_option maxRecDepth 1000000 in
set_option maxHeartbeats 4000000 in
theorem owner_new:("bytearray.__new__".splitOn ".__new__").headD "" = "bytearray" :=by simp+decide [String.splitOn,String.splitOnAux]
theorem sub_self:mM (.type "bytearray") (.type "bytearray")=pure true:=by rw [lq];kernel_rfl
theorem bind(M:b7):aa4 "bytearray.__init__" "bytearray" ["source","encoding","errors"] [M] []=pure [ab M,ao,ao]:=by kernel_rfl
theorem release:jf (.type "bytearray") "__release_buffer__" =pure (ab (.builtin "bytearray.__release_buffer__")):=by rw [i1,iZ];kernel_rfl
theorem noIndex:jf (.type "bytes") "__index__" =pure ao:=by rw [i1,iZ];kernel_rfl
theorem int_index:jf (.type "int") "__index__" =pure (ab (.builtin "int.__index__")):=by rw [i1,iZ];kernel_rfl
theorem buf:jf (.type "bytes") "__buffer__" =pure (ab (.builtin "bytes.__buffer__")):=by rw [i1,iZ];kernel_rfl
theorem noRelease:jf (.type "bytes") "__release_buffer__" =pure ao:=by rw [i1,iZ];kernel_rfl
theorem ends1: "bytearray.__release_buffer__".endsWith ("." ++ "__release_buffer__")=true:=by decide+kernel
theorem drop1: "bytearray.__release_buffer__".dropRight ("__release_buffer__".length+1)= "bytearray" :=by decide+kernel
theorem ends2: "bytes.__buffer__".endsWith ("." ++ "__buffer__")=true:=by decide+kernel
theorem drop2: "bytes.__buffer__".dropRight ("__buffer__".length+1)= "bytes" :=by decide+kernel
theorem sub_bytes:mM (.type "bytes") (.type "bytes")=pure true:=by rw [lq];kernel_rfl
end Ba
section
theorem FZ(R:b7)
 (X:d1 (.ref r.heap.objs.size) {r with heap:=r.heap.push {cls:= .type "bytearray",data:= .bytearray #[]}}):
 jx (bD G w) Y (.call (.builtin "bytearray.__new__") ⟨[.type "bytearray",R],[]⟩) (og d1 cq) r:=by
 refine sD ?_
 show cu _ Y.in1 (do qK "bytearray.__new__" ⟨[.type "bytearray",R],[]⟩;again (.builtin "bytearray.__new__" ⟨[.type "bytearray",R],[]⟩)) _ _ r
 refine bt (gB (Ba.newCall R) (ct ⟨qR Ba.plain_new _,codeAny_builtin_stack Ba.entry_new rfl fun c st=>?_⟩))
 rw [o1 Ba.plain_new _]
 have N:=Ba.sub_self
 have A:=Ba.owner_new
 obtain⟨l,g,T,fB,W⟩:=r
 simp only [A]
 wp_walk
 exact X
end
end
section
section
theorem GB {C xV:String} {Q₁:b7→cx→Prop}(A:TypeCalled gn C xV)(H:qt.contains xV=false)
 (P:M0 gn ⟨cw,[]⟩=pure ())(D:l5 kK xV=ab qc)
 (L:jx (bD G w) Y.in1 (.call (.builtin C) ⟨.type gn::cw,[]⟩) (og Q₁ cq) r)
 (M: ∀obj E,Q₁ obj E→E.TypeIs obj gn∧kG xV ⟨obj::cw,[]⟩∧
  dr (bD G w) Y.in1.in1 (qc ⟨obj::cw,[]⟩)
   (fun m a=>match m with | .done f=>og (fun j J=>j= .none∧d1 obj J) cq (.ok f) a | .again B=>B.quiet=true∧gY (bD G w) Y.in1 B (og (fun j J=>j= .none∧d1 obj J) cq) a)
   (fun Z a=>og (fun j J=>j= .none∧d1 obj J) cq (.error Z) a) E):
 dr (bD G w) Y (fW (.type gn) cw) d1 cq r:=by
 refine rU A.mro fun i V S=>?_
 have Q:=A.made
 have N:=A.sub
 refine uf (pI rfl ?_)
 show dr _ _ (DN (.type gn) _) _ _ _
 refine eF ⟨uY _ (by decide+kernel),GF (by decide) Mz ?_⟩
 rw [Mg (Nf gn cw []) rfl]
 have W:=A.notType
 have K:=A.canCreate
 unfold Builtin.«type.__call__»
 dsimp only
 rw [W,if_neg (by decide)]
 rw [K,if_neg (by decide)]
 refine dI (mw P ?_)
 refine dI (mw S ?_)
 rw [if_neg (by show ¬(false=true);decide)]
 refine dI (mw Q (dI (eF (d2 (fz (ps ?_))))))
 refine qL L fun j E t=>?_
 rcases j with Z | (_ | _ | _ | obj)
 ·exact t
 ·exact t.elim
 ·exact t.elim
 ·exact t.elim
 ·refine gz (M _ _ t) fun e R O=>?_
  refine d2 (pv e N ?_)
  rw [if_neg (by decide)]
  refine dI (nx ?_)
  unfold MY
  refine d2 (ia e A.init.lookup ?_)
  dsimp only
  refine nx (dI (mw (A.init.bind obj) ?_))
  dsimp only
  refine dI (uf (zZ H (qR A.init.plain _) D ?_))
  rw [o1 A.init.plain _]
  refine A.init.check _ _ _ _ _ _ _ _ e R ?_
  refine iG O (fun m a d=>?_) fun F F d=>d
  induction m with
  | again B=>
   refine⟨d.1,v5 d.2 fun j J I=>?_⟩
   rcases j with Z | (_ | _ | _ | v)
   ·exact I
   ·exact I.elim
   ·exact I.elim
   ·exact I.elim
   ·obtain⟨rfl,I⟩:=I
    exact eF (eF I)
  | done f=>
   rcases f with (_ | _ | _ | v)
   ·exact d.elim
   ·exact d.elim
   ·exact d.elim
   ·obtain⟨rfl,I⟩:=d
    exact eF (eF I)
end
end
section
section
theorem ny {R f:ej c2} {n:c2→cx→Prop}(b:dJ=false)(X:dr dB Y f n cq r):dr dB Y (if dJ=true then R else f) n cq r:=by subst b;exact X
theorem B9 {R f:ej c2} {n:c2→cx→Prop}(b:dJ=true)(X:dr dB Y R n cq r):dr dB Y (if dJ=true then R else f) n cq r:=by subst b;exact X
theorem AU(e:r.TypeIs b8 "bytearray")(X:gT false r):cu dB Y (Mm b8) gT cq r:=by
 refine bt (bt (ia e Ba.release ?_))
 dsimp only
 rw [Ba.ends1,if_neg (by decide),Ba.drop1]
 exact pv e Ba.sub_self (ct X)
theorem UO(X:gT false r):cu dB Y (Mm (.bytes eG d4)) gT cq r:=by
 refine bt (bt (ia (sy _ _ _) Ba.noRelease ?_))
 exact ct (ct X)
theorem OT(X:Cx (ab eG) r):cu dB Y (yw gn (.bytes eG d4) dJ) Cx cq r:=by
 have e:r.TypeIs (.bytes eG d4) "bytes" :=sy _ _ _
 refine bt (ia e Ba.buf ?_)
 dsimp only
 refine bt (bt (ia e Ba.buf ?_))
 show cu dB Y (if (!"bytes.__buffer__".endsWith ("." ++ "__buffer__"))=true then _ else n7 _ (.type ("bytes.__buffer__".dropRight ("__buffer__".length+1)))) _ _ _
 rw [Ba.ends2,if_neg (by decide),Ba.drop2]
 refine pv e Ba.sub_bytes ?_
 rw [if_neg (by decide)]
 refine bt (ia e Ba.buf ?_)
 refine bt (UO ?_)
 rw [if_neg (by decide)]
 refine bt ?_
 exact bt (ct (ct (ct X)))
theorem ta {k:Nat} {t:Array UInt8→Array UInt8}(D:r.heap.get? z=ab ⟨b8,df,.bytearray eG k,hK⟩)(U:(t eG).size≤kJ)
 (X: ∀L,hu z r.heap L→L.get? z=ab ⟨b8,df,.bytearray (t eG) k,hK⟩→fG () {r with heap:=L}):cu dB Y (Mn (.ref z) t) fG cq r:=by
 show cu dB Y (updateBytearray z t) fG cq r
 refine bt (mO D ?_)
 have c:(r.heap.update z (MD t)).get? z=ab ⟨b8,df,.bytearray (t eG) k,hK⟩:=u2 (MD t) D rfl
 refine bt (NC D (Eb c ?_ (X _ (u1 ..) c)))
 show(if (t eG).size > kJ then ab "bytearray:memory" else ao)=ao
 rw [if_neg (jw.mpr U)]
theorem Uv(D:r.heap.get? z=ab ⟨b8,df,.bytearray eG 0,hK⟩)(X:gT false r):cu dB Y (do return (←Mi (.ref z)) > 0:ej Bool) gT cq r:=by
 exact bt (bt (mO D (ct (ct X))))
theorem Iu(a:Y.guards=ab [])(D:r.heap.get? z=ab ⟨b8,df,.bytearray eG 0,hK⟩)(X:gT false r):
 dr (bD G w) Y (yx (.ref z) <||> (do return (←Mi (.ref z)) > 0)) gT cq r:=by
 refine dI (m:=yx (.ref z)) (Uu a ?_)
 exact ja (Uv D X)
theorem OA(a:Y.guards=ab [])(D:r.heap.get? z=ab ⟨.type "bytearray",df,.bytearray #[] 0,hK⟩)(U:eG.size≤kJ)
 (X: ∀L,hu z r.heap L→L.get? z=ab ⟨.type "bytearray",df,.bytearray eG 0,hK⟩→CF (.done (.ret .none)) {r with heap:=L}):dr (bD G w) Y (Builtin.«bytearray.__init__» ⟨[.ref z,.bytes eG d4],[]⟩) CF cq r:=by
 have e:r.TypeIs (.ref z) "bytearray" :=⟨_,D,rfl⟩
 refine d2 (AU e ?_)
 rw [if_neg (by decide),Ba.bind]
 refine dI (eF ?_)
 refine dI (eF (dI (eF ?_)))
 refine dI (Iu a D ?_)
 rw [if_neg (by decide)]
 refine d2 (ta D (eA _) fun T i C=>?_)
 refine dI (mw (rfl:asStr? (.bytes eG d4)=pure ao) ?_)
 rw [if_neg (by decide),if_neg (by decide),if_neg (by decide)]
 refine dI (eF ?_)
 refine d2 (ia (sy _ _ _) Ba.noIndex ?_)
 rw [if_neg (by decide)]
 refine d2 (OT ?_)
 refine d2 (oh ?_)
 refine d2 (ta C U fun V A O=>?_)
 exact eF (X V (i.trans A) O)
theorem OB {k:Nat}(M:Y.guards=ab [])(D:r.heap.get? z=ab ⟨.type "bytearray",df,.bytearray #[] 0,hK⟩)(g:k≤4096)
 (X: ∀L,hu z r.heap L→L.get? z=ab ⟨.type "bytearray",df,.bytearray (K4 k 0) 0,hK⟩→CF (.done (.ret .none)) {r with heap:=L}):dr (bD G w) Y (Builtin.«bytearray.__init__» ⟨[.ref z,.int (k:Int) d4],[]⟩) CF cq r:=by
 have e:r.TypeIs (.ref z) "bytearray" :=⟨_,D,rfl⟩
 have U:(k:Int).toNat=k:=rfl
 have J: ¬((k:Int) < 0):=by(exact uK k)
 have I:(k:Int)≤4096:=by(exact hh.mpr (by assumption))
 have l:(k:Int) > 0 ↔ 0 < k:=by(exact Lj)
 generalize (k:Int)=n at U J I l ⊢
 refine d2 (AU e ?_)
 refine ny rfl ?_
 rw [Ba.bind]
 refine dI (eF ?_)
 refine dI (eF (dI (eF ?_)))
 refine dI (Iu M D ?_)
 refine ny rfl ?_
 refine d2 (ta D (eA _) fun T i C=>?_)
 extract_lets P E H
 have y:E=(pure ():ej Unit):=rfl
 clear_value E
 subst y
 refine dI (m:=asStr? (qB n d4)) (mw (a:=ao) rfl ?_)
 refine ny rfl ?_
 refine dI (eF ?_)
 refine d2 (ia (typeIs_int _ _ _) Ba.int_index ?_)
 refine B9 rfl ?_
 refine dI (m:=(asIndex (.int n d4)).attempt) (mw (a:= .ok n) rfl ?_)
 have K:Mj n=true:=by
  unfold Mj
  have c: -(2 ^ 63:Int)≤n:=by lia
  have B:n < (2 ^ 63:Int):=by(exact qj (by assumption) (by decide))
  rw [decide_eq_true c,decide_eq_true B];rfl
 refine ny (by rw [K];rfl) ?_
 refine xC (fun X=>absurd X J) fun F=>?_
 refine xC (fun X=>absurd (beq_iff_eq.mp X) (by omega)) fun F=>?_
 refine xC (fun X=>absurd X (by unfold aa7;rw [U,n9];simp;omega)) fun F=>?_
 refine d2 (oh ?_)
 refine U▸?_
 refine xC (fun F=>d2 (ta C (by rw [Array.size_replicate,n9];omega) fun V A O=>eF (X V (i.trans A) O))) fun v=>?_
 have N:k=0:=by lia
 subst N
 exact eF (X T i C)
theorem F0(a:Y.guards=ab [])(U:eG.size≤kJ)
 (X: ∀L,(∀R o,r.heap.get? R=ab o→L.get? R=ab o)→L.get? r.heap.objs.size=ab ⟨.type "bytearray",ao,.bytearray eG 0, #[]⟩→d1 (.ref r.heap.objs.size) {r with heap:=L}):
 dr (bD G w) Y (fW (.type "bytearray") [.bytes eG d4]) d1 cq r:=by
 have S: ∀L,hu r.heap.objs.size (r.heap.push {cls:= .type "bytearray",data:= .bytearray #[]}) L→ ∀R o,r.heap.get? R=ab o→L.get? R=ab o:=fun L y R o Z=>by
  rw [y.2 R (hU (fV Z))];exact fU _ Z
 have A:(r.heap.push {cls:= .type "bytearray",data:= .bytearray #[]}).get? r.heap.objs.size=ab {cls:= .type "bytearray",data:= .bytearray #[]}:=gc _ rfl
 refine GB (Q₁:=fun C E=>C= .ref r.heap.objs.size∧E= {r with heap:=r.heap.push {cls:= .type "bytearray",data:= .bytearray #[]}}) Ba.called (by decide) (Ba.typeCall _) Ba.entry_init (FZ _ ⟨rfl,rfl⟩) fun C E T=>?_
 obtain⟨rfl,rfl⟩:=T
 exact⟨⟨_,A,rfl⟩,by unfold kG;kernel_rfl,OA a A U fun L y D=>⟨rfl,X L (S L y) D⟩⟩
theorem OC {k:Nat}(a:Y.guards=ab [])(g:k≤4096)
 (X: ∀L,(∀R o,r.heap.get? R=ab o→L.get? R=ab o)→L.get? r.heap.objs.size=ab ⟨.type "bytearray",ao,.bytearray (K4 k 0) 0, #[]⟩→d1 (.ref r.heap.objs.size) {r with heap:=L}):
 dr (bD G w) Y (fW (.type "bytearray") [.int (k:Int) d4]) d1 cq r:=by
 have S: ∀L,hu r.heap.objs.size (r.heap.push {cls:= .type "bytearray",data:= .bytearray #[]}) L→ ∀R o,r.heap.get? R=ab o→L.get? R=ab o:=fun L y R o Z=>by
  rw [y.2 R (hU (fV Z))];exact fU _ Z
 have A:(r.heap.push {cls:= .type "bytearray",data:= .bytearray #[]}).get? r.heap.objs.size=ab {cls:= .type "bytearray",data:= .bytearray #[]}:=gc _ rfl
 refine GB (Q₁:=fun C E=>C= .ref r.heap.objs.size∧E= {r with heap:=r.heap.push {cls:= .type "bytearray",data:= .bytearray #[]}}) Ba.called (by decide) (Ba.typeCall _) Ba.entry_init (FZ _ ⟨rfl,rfl⟩) fun C E T=>?_
 obtain⟨rfl,rfl⟩:=T
 exact⟨⟨_,A,rfl⟩,by unfold kG;kernel_rfl,OB a A g fun L y D=>⟨rfl,X L (S L y) D⟩⟩
end
end
section
namespace Ba
theorem slot_getitem:Slot "bytearray" "__getitem__" "bytearray.__getitem__" :=
 .of (owner:= "bytearray") (n:= "__getitem__") (by rw [i1,iZ];kernel_rfl) (by decide+kernel) (by decide+kernel) (by decide+kernel)
  (by first | exact .inl (by decide+kernel) | exact .inr (by decide+kernel)) (by rw [lq];kernel_rfl)
theorem slot_setitem:Slot "bytearray" "__setitem__" "bytearray.__setitem__" :=
 .of (owner:= "bytearray") (n:= "__setitem__") (by rw [i1,iZ];kernel_rfl) (by decide+kernel) (by decide+kernel) (by decide+kernel)
  (by first | exact .inl (by decide+kernel) | exact .inr (by decide+kernel)) (by rw [lq];kernel_rfl)
theorem entry_getitem:l5 kK "bytearray.__getitem__" =ab Builtin.«bytearray.__getitem__»:=by first | exact yV (by kernel_rfl) | exact yW (by kernel_rfl)
theorem entry_setitem:l5 kK "bytearray.__setitem__" =ab Builtin.«bytearray.__setitem__»:=by first | exact yV (by kernel_rfl) | exact yW (by kernel_rfl)
theorem args_getitem(R f:b7):kG "bytearray.__getitem__" ⟨[R,f],[]⟩:=by unfold kG;kernel_rfl
theorem args_setitem(R f i:b7):kG "bytearray.__setitem__" ⟨[R,f,i],[]⟩:=by unfold kG;kernel_rfl
theorem sl_index:jf (.type "slice") "__index__" =pure ao:=by rw [i1,iZ];kernel_rfl
theorem ba_bytes:jf (.type "bytearray") "__bytes__" =pure ao:=by rw [i1,iZ];kernel_rfl
theorem ba_index:jf (.type "bytearray") "__index__" =pure ao:=by rw [i1,iZ];kernel_rfl
theorem ba_buffer:jf (.type "bytearray") "__buffer__" =pure (ab (.builtin "bytearray.__buffer__")):=by rw [i1,iZ];kernel_rfl
theorem by_bytes:jf (.type "bytes") "__bytes__" =pure (ab (.builtin "bytes.__bytes__")):=by rw [i1,iZ];kernel_rfl
theorem by_int:jf (.type "bytes") "__int__" =pure ao:=by rw [i1,iZ];kernel_rfl
theorem by_float:jf (.type "bytes") "__float__" =pure ao:=by rw [i1,iZ];kernel_rfl
theorem by_complex:mM (.type "bytes") (.type "complex")=pure false:=by rw [lq];kernel_rfl
theorem by_ba:mM (.type "bytes") (.type "bytearray")=pure false:=by rw [lq];kernel_rfl
theorem ends3: "bytearray.__buffer__".endsWith ("." ++ "__buffer__")=true:=by decide+kernel
theorem drop3: "bytearray.__buffer__".dropRight ("__buffer__".length+1)= "bytearray" :=by decide+kernel
end Ba
end
section
section
theorem OP(R f I:Nat)(H:f≤I)(B:R≤f):Nb (ab (R:Int)) (ab (f:Int)) ao I=((R:Int),(f:Int),1):=by
 simp only [Nb,Option.getD_none]
 have W: ¬((R:Int) < 0):=by(exact uK R)
 have K: ¬((f:Int) < 0):=by(exact uK f)
 simp only [W,K,if_false,show(1:Int) > 0 by decide,if_true]
 rw [Li (hh.mpr (cg B H)),Li (hh.mpr H),CS (fy R),CS (fy f)]
theorem Bn {n:b7×b7×b7→cx→Prop}(y:r.heap.IsSliceOf z (.int A d4) (.int C gJ) .none)(X:n (hY A,hY C,.none) r):cu dB Y (yz (.ref z)) n cq r:=by
 refine fR y fun W J K B=>?_
 have D: ∀(I:Nat) (d4:j8) (n:b7→cx→Prop),n (hY I) r→cu dB Y (do
  if (qB (I:Int) d4) == .none then return .none
  if (←sM (.int (I:Int) d4) "__index__").isNone then
   sJ "bytes.slice.part-no-index";raiseError "TypeError" "slice indices must be integers or None or have an __index__ method"
  return hY (←asIndex (.int (I:Int) d4))) n cq r:=fun I d4 n P=>by
  refine iw (by rfl) ?_
  refine bt (ia (typeIs_int _ _ _) Ba.int_index ?_)
  refine iw (by rfl) ?_
  exact bt (gB (a:=(I:Int)) rfl (ct P))
 refine bt (l6 J B (x:= .none) rfl (bt (gB (a:=nZ) rfl ?_)))
 refine iw (by rfl) ?_
 refine bt (l6 J B (x:= .int A d4) rfl (bt (D A d4 _ ?_)))
 refine bt (l6 J B (x:= .int C gJ) rfl (bt (D C gJ _ ?_)))
 exact ct X
theorem Hw(H:C≤dc)(B:A≤C) {n:Int×Int×Int→cx→Prop}(X:n ((A:Int),(C:Int),1) r):cu dB Y (D4 (hY A) (hY C) .none dc) n cq r:=
 gB ((sliceIndices_raw (ab (A:Int)) (ab (C:Int)) ao dc (by decide)).trans (by rw [OP A C dc H B])) X
theorem vL {k:Nat} {n:Array UInt8→cx→Prop}(D:r.heap.get? z=ab ⟨b8,df,.bytearray eG k,hK⟩)(X:n eG r):cu dB Y (yy (.ref z)) n cq r:=by
 exact bt (bt (mO D (ct (ct X))))
theorem J2 {n:Option Int→cx→Prop}(e:r.TypeIs (.ref z) "slice")(X:n ao r):cu dB Y (yA (.ref z)) n cq r:=by
 unfold yA
 refine bt (ia e Ba.sl_index ?_)
 exact qH rfl (ct X)
theorem Oz {k:Nat}(D:r.heap.get? z=ab ⟨.type "bytearray",df,.bytearray eG k,hK⟩)(y:r.heap.IsSliceOf E (.int A d4) (.int C gJ) .none)
 (H:C≤eG.size)(B:A≤C)(U:eG.size≤kJ)(X:d1 (.ref r.heap.objs.size) {r with heap:=r.heap.push {cls:= .type "bytearray",data:= .bytearray ((eG.toList.drop A).take (C - A)).toArray}}):cu (bD G w) Y (mK (.ref z) (.ref E)) d1 cq r:=by
 have e:r.TypeIs (.ref z) "bytearray" :=⟨_,D,rfl⟩
 have I:r.TypeIs (.ref E) "slice" :=by refine fR y fun W J K F=>?_;exact⟨W,J,K⟩
 refine wpAny_getItem_slot e (by decide) Ba.slot_getitem (sO Ba.slot_getitem e Ba.entry_getitem ?_ (Ba.args_getitem _ _))
 refine bt (m:=D5 "__getitem__" 1 _) (gB (a:=(.ref z,[.ref E])) rfl ?_)
 refine bt (m:=yA (.ref E)) (J2 I ?_)
 refine bt (m:=mN (.ref E)) (zd I ?_)
 refine iw (by decide) ?_
 refine bt (m:=yz (.ref E)) (Bn y ?_)
 refine bt (m:=yy (.ref z)) (vL D ?_)
 refine bt (m:=D4 _ _ _ _) (Hw H B ?_)
 refine bt (m:=Ml _) ?_
 delta Ml aa6
 rw [sliceRange_one,pick_run]
 exact sQ (ct ⟨_,rfl,X⟩) (by show(sf _).size≤_;rw [hq,yf];exact TR H U)
theorem OD {M:Array UInt8} {a b:Nat} {d:j8}(k:Y.guards=ab [])(D:r.heap.get? z=ab ⟨.type "bytearray",df,.bytearray eG 0,hK⟩)(y:r.heap.IsSliceOf E (.int a d4) (.int b gJ) .none)
 (H:b≤eG.size)(B:a≤b)(U:eG.size≤kJ)(V:M.size=b - a)
 (X: ∀T L,(∀c o,r.heap.get? c=ab o→T.get? c=ab o)→hu z T L→L.get? z=ab ⟨.type "bytearray",df,.bytearray (eG.extract 0 a++M++eG.extract b eG.size) 0,hK⟩→fG () {r with heap:=L}):dr (bD G w) Y (setItem (.ref z) (.ref E) (.bytes M d)) fG cq r:=by
 have e:r.TypeIs (.ref z) "bytearray" :=⟨_,D,rfl⟩
 have I:r.TypeIs (.ref E) "slice" :=by refine fR y fun W J K F=>?_;exact⟨W,J,K⟩
 have Q:r.TypeIs (.bytes M d) "bytes" :=sy _ _ _
 refine nx (d2 (wpAny_sequenceKey e (by decide) ?_))
 refine dI (m:=MY (.ref z) _ _) ?_
 refine d2 (ia e Ba.slot_setitem.lookup ?_)
 refine nx (dI (mw (Ba.slot_setitem.bind _) ?_))
 refine dI (m:=fW (.builtin "bytearray.__setitem__") [.ref z,.ref E,.bytes M d]) ?_
 refine uf (zZ (by decide) (qR Ba.slot_setitem.plain _) Ba.entry_setitem ?_)
 rw [o1 Ba.slot_setitem.plain _]
 refine Ba.slot_setitem.check _ _ _ _ _ _ _ _ e (Ba.args_setitem _ _ _) ?_
 unfold Builtin.«bytearray.__setitem__»
 refine ny (by rfl) ?_
 refine d2 (m:=yA (.ref E)) (J2 I ?_)
 refine d2 (m:=mN (.ref E)) (zd I ?_)
 refine ny (by decide) ?_
 refine d2 (m:=yz (.ref E)) (Bn y ?_)
 refine ny (by rfl) ?_
 refine d2 (m:=n7 (.bytes M d) (.type "bytearray")) (pv Q Ba.by_ba ?_)
 refine B9 (by rfl) ?_
 have S: ∀ {g:u4} {Y:j7} {cq:b7→cx→Prop} (f:PySem.Str) (fG:Bool→cx→Prop),jf (.type "bytes") f=pure ao→fG false r→cu g Y (do
  let j←sM (.bytes M d) f
  pure j.isSome) fG cq r:=fun f fG Z P=>bt (ia Q Z (ct P))
 refine d2 (m:=orM _ _) ?_
 refine bt (m:=do
  let j←sM (.bytes M d) "__index__"
  pure j.isSome) (S _ _ Ba.noIndex ?_)
 refine bt (m:=do
  let j←sM (.bytes M d) "__int__"
  pure j.isSome) (S _ _ Ba.by_int ?_)
 show cu _ _ (orM _ _) _ _ _
 refine bt (m:=do
  let j←sM (.bytes M d) "__float__"
  pure j.isSome) (S _ _ Ba.by_float ?_)
 refine pv Q Ba.by_complex ?_
 refine dI (m:=asStr? (.bytes M d)) (mw (a:=ao) rfl ?_)
 refine ny (by rfl) ?_
 refine d2 (m:=sJ _) (oh ?_)
 refine dI (m:=fW (.type "bytearray") [.bytes M d]) (F0 k (V▸cg (nT ..) (cg H U)) fun T R v=>?_)
 have C:=R _ _ D
 have i:T.IsSliceOf E (.int a d4) (.int b gJ) .none:=by refine dg y fun W J j=>?_;exact⟨W,R _ _ J,j⟩
 refine d2 (m:=mL _ (yz (.ref E))) (fz (Bn (r:= {r with heap:=T}) i ?_))
 refine d2 (m:=yy (.ref r.heap.objs.size)) (vL (r:= {r with heap:=T}) v ?_)
 refine d2 (m:=yy (.ref z)) (vL (r:= {r with heap:=T}) C ?_)
 refine d2 (m:=D4 _ _ _ _) (Hw H B ?_)
 refine B9 (by rfl) ?_
 refine d2 (m:=sJ _) (oh ?_)
 refine ny (by rw [bne_eq_false_iff_eq,V];omega) ?_
 have N:(max (a:Int) (b:Int)).toNat=b:=by rw [CS (hh.mpr B)];rfl
 have h:((a:Int)).toNat=a:=rfl
 rw [N,h]
 refine d2 (m:=Mn (.ref z) _) (ta (r:= {r with heap:=T}) C ?_ fun l A O=>?_)
 ·rw [K5,K5,K6,K6,V,uV (cg B H),Nat.min_self,L1,xX B,xX H];exact U
 ·exact eF (eF (eF (X T l R A O)))
end
end
section
set_option tactic.hygienic true
section
theorem OS {k:Nat}(D:r.heap.get? z=ab ⟨.type "bytearray",df,.bytearray eG k,hK⟩)(X:Cx (ab eG) r):cu dB Y (yw gn (.ref z) dJ) Cx cq r:=by
 have e:r.TypeIs (.ref z) "bytearray" :=⟨_,D,rfl⟩
 refine bt (ia e Ba.ba_buffer ?_)
 refine bt (bt (ia e Ba.ba_buffer ?_))
 show cu dB Y (if (!"bytearray.__buffer__".endsWith ("." ++ "__buffer__"))=true then _ else n7 _ (.type ("bytearray.__buffer__".dropRight ("__buffer__".length+1)))) _ _ _
 rw [Ba.ends3,if_neg (by decide),Ba.drop3]
 refine pv e Ba.sub_self ?_
 rw [if_neg (by decide)]
 refine bt (ia e Ba.ba_buffer ?_)
 refine bt (AU e ?_)
 rw [if_neg (by decide)]
 exact bt (vL D (ct X))
theorem OU {k:Nat}(D:r.heap.get? z=ab ⟨.type "bytearray",df,.bytearray eG k,hK⟩)(U:eG.size≤kJ)
 (d: ∀V k,d1 (.bytes eG V) {r with toks:=k}):
 jx (bD G w) Y (.call (.builtin "bytes.__new__") ⟨[.type "bytes",.ref z],[]⟩) (og d1 cq) r:=by
 refine sD ?_
 refine bt (gB (Mw _) (ct ⟨qR yC _,sC Mv ?_⟩))
 refine(o1 yC _)▸?_
 have e:r.TypeIs (.ref z) "bytearray" :=⟨_,D,rfl⟩
 refine bt (gB (a:=true) rfl ?_)
 refine iw rfl ?_
 refine bt (gB F.bm_sub ?_)
 refine iw rfl ?_
 refine bt (gB (Mu _) ?_)
 refine bt (gB (a:=()) rfl ?_)
 refine bt (gB (a:=()) rfl ?_)
 refine iw rfl ?_
 refine bt (ia e Ba.ba_bytes ?_)
 refine bt (bt ?_)
 refine bt (mO D ?_)
 refine ct (ct ?_)
 refine iw rfl ?_
 refine bt (ia e Ba.ba_index ?_)
 refine qH rfl ?_
 first
  | show cu _ _ (yw "bytes.__new__" (.ref z) true >>=_) _ _ _
  | (refine bt ?_;show cu _ _ (yw "bytes.__new__" (.ref z) true >>=_) _ _ _)
 refine bt (OS D ?_)
 refine bt (m:=sJ _) (oh ?_)
 refine bt (wpAny_mkBytes ?_ U)
 first
  | exact ct (d _ _)
  | exact bt (ct (ct (d _ _)))
  | exact bt (ct (d _ _))
theorem OV(d:d1 (.bytes eG d4) r):
 jx (bD G w) Y (.call (.builtin "bytes.__new__") ⟨[.type "bytes",.bytes eG d4],[]⟩) (og d1 cq) r:=by
 refine sD ?_
 refine bt (gB (Mw _) (ct ⟨qR yC _,sC Mv ?_⟩))
 refine(o1 yC _)▸?_
 have e:r.TypeIs (.bytes eG d4) "bytes" :=sy _ _ _
 refine bt (gB (a:=true) rfl ?_)
 refine iw rfl ?_
 refine bt (gB F.bm_sub ?_)
 refine iw rfl ?_
 refine bt (gB (Mu _) ?_)
 refine bt (gB (a:=()) rfl ?_)
 refine bt (gB (a:=()) rfl ?_)
 refine iw rfl ?_
 refine bt (ia e Ba.by_bytes ?_)
 refine bt (m:=sJ _) (oh ?_)
 refine bt (m:=mN (.bytes eG d4)) (zd e ?_)
 refine qH (by decide) ?_
 first
  | exact ct d
  | exact bt (ct (ct d))
theorem PE {k:Nat}(D:r.heap.get? z=ab ⟨.type "bytearray",df,.bytearray eG k,hK⟩)(U:eG.size≤kJ)
 (d: ∀V k,d1 (.bytes eG V) {r with toks:=k}):cu (bD G w) Y (fW (.type "bytes") [.ref z]) d1 cq r:=by
 refine MZ (Q₁:=fun C E=>E.TypeIs C "bytes" ∧d1 C E) sq (Mx _) My
  (OU D U fun V k=>⟨PySem.W.typeIs_bytes _ _ _,d V k⟩) fun C E T=>?_
 exact⟨T.1,Mt C _,M8 sq.init.lookup sq.made (by decide) G w Y.in1 _ E ⟨T.1,rfl,T.2⟩⟩
theorem PF(d:d1 (.bytes eG d4) r):cu (bD G w) Y (fW (.type "bytes") [.bytes eG d4]) d1 cq r:=by
 refine MZ (Q₁:=fun C E=>E.TypeIs C "bytes" ∧d1 C E) sq (Mx _) My
  (OV ⟨PySem.W.typeIs_bytes _ _ _,d⟩) fun C E T=>?_
 exact⟨T.1,Mt C _,M8 sq.init.lookup sq.made (by decide) G w Y.in1 _ E ⟨T.1,rfl,T.2⟩⟩
end
section
def wV (o:dE) (L:List Nat→Prop):Prop:=match o with
 | .ay l=>L l
 | _=>False
def Ax (b:List D) (B:J) (L:KK):Prop:=kZ b fun T=>match T with
 | .bytes N=>L (.bytes N) B
 | .val v=>eY B v fun o=>wV o fun N=>N.length≤1000000∧L (.bytes N) B
 | _=>False
theorem X4:gu G w u A (.type "bytes") (fun b B L F=>Ax b B L):=by
 intro r q U B L O Q b p m j g
 refine oG j g fun M T S g=>?_
 cases T with
 | bytes l=>
  refine(lC S).rec fun s V v=>?_
  subst v
  exact PF ⟨_,B,g,by simpa using cP.bytes (h:=U.heap) s.toArray V,b6.refl m,dM.refl U⟩
 | val X=>
  rw [S.val_inv]
  replace g:=jV g
  refine g.rec fun R o Z g=>?_
  induction o with
  | ay l=>
   obtain⟨f,C,D,rfl⟩:=m.mem _ _ Z
   obtain⟨W,K⟩:_∧_:=g
   rw [dP,qi] at W
   exact PE D (cg W iF) fun V k=>⟨_,B,K,.bytes f V,b6.refl m,⟨rfl,rfl⟩⟩
  | _=>exact False.elim g
 | _=>exact False.elim g
def HL (b:List D) (B:J) (L:KK):Prop:=kZ b fun T=>match T with
 | .bytes l=>l.length≤1000000∧ ∀d,B d=ao→L (.val (.ref d)) (B.set d (.ay l))
 | .int k=>(0≤k∧k≤4096)∧ ∀d,B d=ao→L (.val (.ref d)) (B.set d (.ay (iu k.toNat 0)))
 | _=>False
theorem Hs(m:St G w u U q r.heap)(k: ∀a o,r.heap.get? a=ab o→L.get? a=ab o)(j:ic G w L r.heap.objs.size my):b6 G w u U [] q r.heap (q.set r.heap.objs.size my) L:=by
 have N:b6 G w u U [] q r.heap q L:=b6.ext m k
 have t:r.heap.get? r.heap.objs.size=ao:=yE (d5 _)
 refine N.adopt t m.aC (fun V=>?_) j
 obtain⟨_,_,o,_,_,Z,_⟩:=m.aH _ V
 have n:=t.symm.trans Z;contradiction
theorem X2:l7 G w u A (.type "bytearray") (fun b B L F=>HL b B L):=by
 intro r q U B L O Q b p m j g
 refine oG j g fun M T S g=>?_
 cases T with
 | bytes l=>
  refine(lC S).rec fun S V v=>?_
  subst v
  obtain⟨W,K⟩:_∧_:=g
  rw [dP] at W
  refine F0 p.g (cg W iF) fun C k D=>?_
  exact⟨_,_,K _ m.fresh,.val _,Hs m k ⟨_,_,D,by simp⟩,⟨rfl,rfl⟩⟩
 | int k=>
  refine S.az fun V=>?_
  obtain⟨⟨J,W⟩,K⟩:(_∧_)∧_:=g
  obtain⟨y,rfl⟩:=jN J
  refine OC p.g (by(exact hh.mp (by assumption))) fun C k D=>?_
  exact⟨_,_,K _ m.fresh,.val _,Hs m k ⟨_,_,D,by simp⟩,⟨rfl,rfl⟩⟩
 | _=>exact False.elim g
end
end
section
set_option tactic.hygienic true
section
theorem J3 {A KV:Option cT} {T:String}
 (h:jf (.type T) "__getitem__" =pure (ab (.builtin gn)))
 (X:cu (bD G w) Y (cy cz H) (fun o E=>cu (bD G w) Y (cy (.Slice A KV ao cD) H) (fun J C=>C.TypeIs o T∧cu (bD G w) Y (mK o J) d1 cq C) cq E) cq r):
 cu (bD G w) Y (cy (.Subscript cz (.Slice A KV ao cD) dw) H) d1 cq r:=by
 rw [eval_Subscript]
 refine bt (ea X (fun o E D=>bt (fz (ea D (fun J C V=>bt (kL ?_)) fun F F S=>S))) fun F F S=>S)
 have L:cu (bD G w) Y (pg [J,o] (mK o J)) (fun j K=>cu (bD G w) Y (DW cz o j >>=fun F=>pure j) d1 cq K) cq C:=
  wpAny_operating (ea V.2 (fun j K B=>bt (Nq (ct B))) fun F F S=>S)
 refine bt ?_
 refine(getitemInPython_of_ne V.1.not_modules)▸?_
 refine bt (ia V.1 h ?_)
 first
  | exact ct (bt L)
  | exact bt (ct (bt L))
  | exact bt L
theorem NH {k c d D}(i:c5 G w u A H I (cy cz H) cI):
 c5 G w u A H I (cy (.Subscript cz (.Slice (ab (.Constant (.int (C:Int)) k d)) ao ao c) D) H) (kv (m4 C) cI):=by
 intro r q U Y B x O p m K z
 refine J3 (T:= "str") PySem.F.slot_str_getitem.lookup (i.ae p m K z (fun M P n E g j N b e L=>?_) fun F F c=>c)
 unfold m4 at g
 split at g
 ·cases j
  rename_i s V
  have J:=g.1;have W:=g.2
  refine vo ?_
  simp only [yY,yX]
  refine y8 (ct (ct ⟨typeIs_str _ _ _,?_⟩))
  refine wpAny_getItem_str_slice (l:=ab ((C:Int),E.toks)) (u:=ao) (st:=ao) ⟨_,gc _ rfl,rfl,rfl⟩ rfl ?_
  have f:=b6.push (en:= []) e {cls:= .type "slice",data:= .fields #[.int C E.toks,.none,.none]}
  rw [show sliceMade s V (ab ((C:Int),E.toks)) ao ao= .str (i9 s C) from by
   delta sliceMade slicePicked
   rw [if_neg (by simpa using J.1)];rfl]
  exact⟨cg J.2 iF,⟨_,n,W,.str _ _,N.trans f,⟨b.gens,b.os⟩⟩⟩
 ·exact g.elim
theorem cP.int_inv(j:cP L b8 (.int B)): ∃V,b8= .int B V:=by cases j with | int B V=>exact⟨V,rfl⟩
def vK (B:J) (R:D) (L:a0→List Nat→Prop):Prop:=match R with
 | .val v=>eY B v fun o=>wV o (L (refOf v))
 | _=>False
theorem FY(X:vK q T xJ): ∃S N,T= .val (.ref S)∧q S=ab (.ay N)∧xJ S N:=by
 cases T with
 | val v=>
  replace X:=jV X
  obtain⟨S,o,Z,X⟩:=X
  induction o with
  | ay N=>exact⟨S,N,rfl,Z,X⟩
  | _=>exact False.elim X
 | _=>exact False.elim X
theorem FX(Z:q z=ab (.ay b5))(X:xJ z b5):vK q (.val (.ref z)) xJ:=lL (P:=fun o=>wV o (xJ z)) Z X
def ints2 (f i:D) (L:Int→Int→Prop):Prop:=match f with
 | .int lo=>match i with
  | .int hi=>L lo hi
  | _=>False
 | _=>False
theorem Hz(X:ints2 T fg Cp): ∃s K,T= .int s∧fg= .int K∧Cp s K:=by
 cases T with
 | int s=>cases fg with
  | int K=>exact⟨s,K,rfl,rfl,X⟩
  | _=>exact False.elim X
 | _=>exact False.elim X
def F8 (T:D) (L:List Nat→Prop):Prop:=match T with
 | .bytes l=>L l
 | _=>False
theorem OW {L:List Nat→Prop}(X:F8 T L): ∃N,T= .bytes N∧L N:=by
 cases T with
 | bytes N=>exact⟨N,rfl,X⟩
 | _=>exact False.elim X
def HK (R f i:D) (B:J) (x:KK):Prop:=vK B R fun F N=>ints2 f i fun s K=>
 (0≤s∧s≤K∧K≤N.length∧N.length≤1000000)∧ ∀d,B d=ao→x (.val (.ref d)) (B.set d (.ay ((N.drop s.toNat).take (K.toNat - s.toNat))))
noncomputable def t9 (N a A:W):W:=fun Y B x O=>(fun F:Nat=>N Y B (fun R n=>a Y n (fun f v=>A Y v (fun i b=>HK R f i b x) O) O) O) eE
theorem Xf(i:c5 G w u A H I (cy cz H) cI)(be:c5 G w u A H I (cy eu H) gK)(bd:c5 G w u A H I (cy rX H) qh):c5 G w u A H I (cy (.Subscript cz (.Slice (ab eu) (ab rX) ao cD) dw) H) (t9 cI gK qh):=by
 intro r q U Y B x O p m l z
 refine J3 (T:= "bytearray") Ba.slot_getitem.lookup (i.ae p m l z (fun M bv n b8 R bk C g e L=>?_) fun F F cD=>cD)
 refine vo ?_
 refine be.ae p e L R (fun ce b5 v ca S d s Q j o=>?_) fun F F cD=>cG.mono C g cD
 refine bd.ae p j o S (fun cb bx b K ac bm al am y bu=>?_) fun F F cD=>cG.mono (C.trans s) (g.trans Q) cD
 refine ct ?_
 have t:=al.rv j (s.rv e bk)
 have bi:=al.rv j d
 refine(FY ac).elim fun cz bn=>?_
 obtain⟨N,rfl,Z,ac⟩:=bn
 obtain⟨eu,rX,rfl,rfl,⟨k,ap,bb,a⟩,ac⟩:=Hz ac
 obtain rfl:=t.val_inv
 obtain⟨V,rfl⟩:=bi.int_inv
 obtain⟨P,rfl⟩:=bm.int_inv
 obtain⟨f,X,D,rfl⟩:=y.mem _ _ Z
 rw [dP,qi] at bb a
 obtain⟨J,rfl⟩:=jN k
 obtain⟨E,rfl⟩:=jN (j2 k ap)
 have W:=b6.push (en:= []) y {cls:= .type "slice",data:= .fields #[.int (J:Int) V,.int (E:Int) P,.none]}
 have c:=fU {cls:= .type "slice",data:= .fields #[.int (J:Int) V,.int (E:Int) P,.none]} D
 refine⟨⟨_,c,rfl⟩,Oz c (yD ..) (by(exact hh.mp (by assumption))) (by(exact hh.mp (by assumption))) (cg a iF) ?_⟩
 have an:=b6.alloc (en:= []) (L:=K.heap.push {cls:= .type "slice",data:= .fields #[.int (J:Int) V,.int (E:Int) P,.none]}) W.st {cls:= .type "bytearray",data:= .bytearray ((f.toList.drop J).take (E - J)).toArray} (.ay (((f.toList.map gs).drop J).take (E - J))) ⟨_, #[],gc _ rfl,by simp [LI,LJ]⟩
 exact⟨_,_,ac _ W.st.fresh,.val _,(((C.trans s).trans al).trans W).trans an,⟨((g.trans Q).trans am).gens,((g.trans Q).trans am).os⟩⟩
theorem Ss(f:Array UInt8)(s:List UInt8)(J E:Nat):(f.extract 0 J++s.toArray++f.extract E f.size).toList.map gs=(f.toList.map gs).take (J:Int).toNat++s.map gs++(f.toList.map gs).drop (E:Int).toNat:=by
 show _=(f.toList.map gs).take J++s.map gs++(f.toList.map gs).drop E
 rw [K7,K7,fh,fh,K8,K8,Lu,Lu,Lr,←LJ,←LI,L1]
 congr 2
 rw [C5]
 simp
def HT (R f i T:D) (B:J) (L:J→Prop):Prop:=vK B R fun S N=>ints2 f i fun s K=>F8 T fun M=>
 (0≤s∧s≤K∧K≤N.length∧N.length≤1000000∧(M.length:Int)=K - s)∧L (B.set S (.ay (N.take s.toNat++M++N.drop K.toNat)))
noncomputable def tU (Z o N X:W):eV:=fun Y B A F O=>(fun F:Nat=>Z Y B (fun T n=>o Y n (fun S v=>N Y v (fun f b=>X Y b (fun i l=>HT S f i T l (fun q=>A Y q)) (O Y)) (O Y)) (O Y)) (O Y)) eE
theorem WY {Z:cT} {b5:W}(cj:c5 G w u A H I (cy Z H) cI)(i:c5 G w u A H I (cy cz H) gK)(h:c5 G w u A H I (cy eu H) qh)(ck:c5 G w u A H I (cy rX H) b5)
 (y:iO Z (ab (.Subscript cz (.Slice (ab eu) (ab rX) ao cD) dw)) kA.line H=pure false):
 iA G w u A H I (gM (.Assign [.Subscript cz (.Slice (ab eu) (ab rX) ao cD) dw] Z kA) H) (tU cI gK qh b5):=by
 intro r q U Y B cL P O cM p m l z
 refine(exec_Assign_Subscript _ _ _ _ _ y)▸?_
 refine dI (jJ (d2 (cj.ae p.b m l z (fun M T c3 cU cq cA al ac bu b8=>?_) fun F F cD=>cG.exc l m cD)))
 rw [assign_Subscript]
 refine dI (d2 (fz (i.ae p.b bu b8 cq (fun c2 cQ n cV R cB C g e ca=>?_) fun F F cD=>cG.exc l m (cG.mono al ac cD))))
 refine d2 (fz (vo ?_))
 simp only [yY,yX]
 refine h.ae p.b e ca R (fun c0 cP c6 cW cr cC am Q j o=>?_) fun F F cD=>cG.exc l m (cG.mono (al.trans C) (ac.trans g) cD)
 refine ck.ae p.b j o cr (fun cZ cN c7 K x cE an bn bv cK=>?_) fun F F cD=>cG.exc l m (cG.mono ((al.trans C).trans am) ((ac.trans g).trans Q) cD)
 refine ct ?_
 have t:=an.rv j (am.rv e cB)
 have cw:=an.rv j cC
 have cs:=an.rv j (am.rv e (C.rv bu cA))
 obtain⟨cz,N,rfl,Z,x⟩:=FY x
 refine j0 (Hz x) fun eu rX cH cJ x=>?_;subst cH;subst cJ
 obtain⟨cR,rfl,⟨k,ce,cf,bx,ch⟩,x⟩:=OW x
 obtain rfl:=t.val_inv
 obtain⟨bb,rfl⟩:=cw.int_inv
 obtain⟨ap,rfl⟩:=cE.int_inv
 refine(lC cs).rec fun bk cY cF=>?_
 subst cF
 obtain⟨f,X,D,rfl⟩:=bv.mem _ _ Z
 rw [dP,qi] at cf bx
 rw [dP] at ch
 obtain⟨J,rfl⟩:=jN k
 obtain⟨E,rfl⟩:=jN (j2 k ce)
 have bd:=b6.push (en:= []) bv {cls:= .type "slice",data:= .fields #[.int (J:Int) bb,.int (E:Int) ap,.none]}
 have c:=fU {cls:= .type "slice",data:= .fields #[.int (J:Int) bb,.int (E:Int) ap,.none]} D
 have V:bk.toArray.size=E - J:=by rw [hq];lia
 generalize ci:K.heap.push {cls:= .type "slice",data:= .fields #[.int (J:Int) bb,.int (E:Int) ap,.none]}=bi at bd c
 have co:bi.IsSliceOf K.heap.objs.size (.int J bb) (.int E ap) .none:=ci▸yD ..
 refine dI (jJ (dI (nx ?_)))
 refine OD (r:= {K with heap:=bi}) (a:=J) (b:=E) p.g c co (by(exact hh.mp (by assumption))) (by(exact hh.mp (by assumption))) (cg bx iF) V fun cp L S y v=>?_
 refine ja (NA (eF ?_))
 have bm:b6 G w u q [] _ bi _ cp:=b6.ext bd.st S
 have cn:=S _ _ c
 have cb:=b6.upd (en:= []) (cm:=L) (ao':= .ay (((f.toList.map gs).take (J:Int).toNat++bk.map gs)++(f.toList.map gs).drop (E:Int).toNat)) bm.st Z y (fun cS cm=> .inl fun cX d=>by
  obtain rfl:=c4 (cn.symm.trans cm);contradiction) ⟨_,_,v,Ss f bk J E⟩
 have be:=(((((al.trans C).trans am).trans an).trans bd).trans bm).trans cb
 exact⟨Y,_,x,l.go m be,be.wk,be.aq m,⟨(((ac.trans g).trans Q).trans bn).gens,(((ac.trans g).trans Q).trans bn).os⟩⟩
end
end
section
section
theorem Rg(F:E≠z)(I J:Nat)(r:cx)(n:List b7→cx→Prop)(a:r.heap.IsListIter z E J)(s:r.heap.IsList E e0)(C:J+I≤e0.size)
 (d: ∀L,Heap.IsListIter L z E (J+I)→hu z r.heap L→n ((e0.toList.drop J).take I) {r with heap:=L}):cu (bD G w) Y (draw (.ref z) I) n cq r:=by
 induction I generalizing J r n with
 | zero=>exact ct (d r.heap a (Heap.SameBut.refl ..))
 | succ I o=>
  have Q:J < e0.size:=qn C
  refine bt (wpAny_pyNext_list_item a s (CL Q) fun T B i=>?_)
  refine bt (fz (o (J+1) _ _ B (s.extBut i.extBut F) (Di J I▸C) fun V D A=>ct ?_))
  have S:=d V (Di J I▸D) (i.trans A)
  rw [show e0.toList.drop J=e0[J]::e0.toList.drop (J+1) from yc Q,List.take_succ_cons] at S
  exact S
theorem YM(p:Y.handled=ao)(s:r.heap.IsList z e0)
 (d: ∀L,lZ r.heap.objs.size r.heap L→uC e0.toList {r with heap:=L}):cu (bD G w) Y (unpackItems (.ref z) e0.size ao) uC cq r:=by
 have Q:z≠r.heap.objs.size:=by refine dg s fun o D F=>?_;exact hU (fV D)
 refine bt ?_
 refine bt (ia s.typeIs slot_list_iter.lookup ?_)
 refine ct ?_
 refine bt (fz (Ny s ?_))
 refine bt (fz (Rg Q e0.size 0 _ _ ⟨_,gc _ rfl,rfl,rfl⟩ (s.push _) (by lia) fun T B i=>?_))
 have A:List.take e0.size (List.drop 0 e0.toList)=e0.toList:=by
  rw [Lr];exact C5 (d5 _)
 rw [A]
 rw [if_neg (by simp)]
 have E:Heap.IsList T z e0:=(s.push _).extBut i.extBut Q
 rw [qr] at B
 refine bt (fz (wpAny_pyNext_list_end p B E (by simp) fun V C=>?_))
 exact ct (d V fun f o H Z=>C f o H (i.extBut f o H (fU _ Z)))
end
section
noncomputable def tW (H:List Nat) (Z:W):eV:=fun Y B i F O=>(fun F:Nat=>Z Y B (fun T e=>match T with
 | .val (.ref a)=>match e a with
  | some (.list b)=>match puts H b Y with
   | some E=>i E e
   | none=>False
  | _=>False
 | _=>False) (O Y)) eE
theorem W5 {k:Nat}(v:0 < A)(y:y7 [.Tuple cN k cD] cz dw.line H=pure false)(z:ob [.Tuple cN k cD] cz H=pure ao)(X:kN H I cN b5)(d:c5 G w u A H I (cy cz H) cI):fX G w u A H I (gM (.Assign [.Tuple cN k cD] cz dw) H) (tW b5 cI):=by
 intro r q U Y B i bm O W p m l bb
 refine L8 (d.ae p m l bb (fun M T n E R be C g e al=>?_) fun F F c=>cG.exc l m c) y z
 cases T with
 | val bi=>?_
 | _=>exact False.elim R
 cases bi with
 | ref a=>?_
 | _=>exact False.elim R
 refine be.val_inv▸?_
 dsimp only at R
 induction P:n a with
 | none=>rw [P] at R;exact False.elim R
 | some bd=>
  rw [P] at R
  cases bd with
  | list b=>
   dsimp only at R
   induction s:puts b5 b Y with
   | none=>rw [s] at R;exact False.elim R
   | some bk=>
    rw [s] at R
    obtain⟨Q,V,_,D,ac⟩:=e.mem _ _ P
    refine(Il X).elim fun ap J=>?_
    rw [MS]
    refine bt (kL ?_)
    unfold unpack
    have h:(qF cN H).length=Q.toArray.size:=by rw [ap,X.length,AZ s,←ac.length];rfl
    rw [h,J]
    refine bt (fz (YM (p.here v).1 ⟨_,D,rfl,V,rfl⟩ fun L d=>?_))
    have S:=Ag d
    have x:dy E.heap L:=fun f t ⟨o,D,j⟩=>⟨o,S f o D,j⟩
    have N:b6 G w u q (fm H) n E.heap n L:=b6.ext e S
    exact JA X W N.st (al.ext S) (ac.mono x) s fun bu bn K am an Z=>(⟨bk,n,R,K,C.wk.trans (N.trans am),(C.aq m).trans (x.trans an),⟨Z.gens.trans g.gens,Z.os.trans g.os⟩⟩:iz ..)
  | _=>exact False.elim R
end
end
section
set_option backward.match.sparseCases true
noncomputable abbrev fs (led:Bool) (V:Array Nat):SetTable:= {mask:=7,place:=V,dummies:= #[],finger:=0,led,moves:=0,plain:=true}
theorem slot0(led:Bool)(E:Nat):(fs led #[]).slot E= .empty:=by
 delta MH iX pb Dv
 simp
theorem vN(c E:Nat):iX #[c] E=if c < E then 1 else 0:=by
 show pb #[c] E 1 0 1=_
 rfl
theorem Bo(led:Bool)(c E:Nat):(fs led #[c]).slot E=if E=c then .live 0 else .empty:=by
 unfold MH
 rw [vN]
 by_cases X:c < E
 ·have R: ¬E=c:=by(exact Nat.ne_of_lt' X)
  rw [if_pos X,if_neg R]
  simp [Dv,iX,pb]
 ·rw [if_neg X]
  by_cases Z:E=c
  ·rw [Z];simp
  ·rw [if_neg Z]
   have: ¬c=E:=fun P=>Z P.symm
   simp [Dv,iX,pb,this]
theorem RS(led:Bool)(X:Int): ∃E,(fs led #[]).freeSlot X=ab (E,false):=by
 refine⟨qA X % 8,?_⟩
 have:kF (fs led #[]) (fun F=>X+1) X (10 * sr 7) ((fs led #[]).probeStart X)=ab (.empty (qA X % 8) ao):=by
  show kF (fs led #[]) (fun F=>X+1) X (219+1) _=_
  unfold kF
  rw [slot0]
  rfl
 show(match kF (fs led #[]) (fun F=>X+1) X (10 * sr 7) ((fs led #[]).probeStart X) with
  | some (.empty E dummy)=>ab (dummy.getD E,dummy.isSome)
  | _=>ao)=_
 rw [this]
 rfl
theorem R2(led:Bool)(X:Int)(P:Nat)(S:P < 8): ∀(k A:Nat) (c:MG),c.i=c.j→c.more=0→c.dummy=ao→c.j < 8→c.perturb < 32 ^ k→k+2≤A→
 ∃E,kF (fs led #[P]) (fun F=>X+1) X A c=ab (.empty E ao)∧E≠P:=by
 have B: ∀c:MG,c.more=0→(fs led #[P]).advance c= {c with j:=(c.i * 5+1+c.perturb / 32) % 8,more:=0,i:=(c.i * 5+1+c.perturb / 32) % 8,perturb:=c.perturb / 32}:=fun c V=>by
  delta abh abk Dw
  rw [if_neg (by(exact Std.Rxo.size_eq_zero_iff_not_le.mp V))]
  dsimp only
  rw [if_neg (by(exact Ef.mp rfl))]
  simp
 have D:((fun F:Nat=>X+1) 0 == X)=false:=by
  rw [beq_eq_false_iff_ne];show X+1≠X;exact nM (Int.lt_succ X)
 intro k
 induction k with
 | zero=>
  intro A c W K C n e f
  obtain⟨t,rfl⟩: ∃t,A=t+2:=⟨A - 2,by(exact(qo (by assumption)).symm)⟩
  unfold kF
  rw [Bo]
  by_cases Z:c.j=P
  ·rw [if_pos Z]
   dsimp only
   rw [D,if_neg (by decide),B c K]
   have l:c.perturb=0:=by have:(32:Nat) ^ 0=1:=rfl;(exact Nat.lt_one_iff.mp e)
   unfold kF
   rw [Bo]
   dsimp only
   have R: ¬(c.i * 5+1+c.perturb / 32) % 8=P:=by rw [l,W,Z];exact(by decide: ∀P < 8,¬(P * 5+1+0 / 32) % 8=P) P S
   rw [if_neg R]
   exact⟨_,C▸rfl,R⟩
  ·rw [if_neg Z]
   exact⟨_,C▸rfl,Z⟩
 | succ k o=>
  intro A c W K C n e f
  obtain⟨t,rfl⟩: ∃t,A=t+1:=⟨A - 1,(qo (cg (yo 1 (k+2)) f)).symm⟩
  unfold kF
  rw [Bo]
  by_cases Z:c.j=P
  ·rw [if_pos Z]
   dsimp only
   rw [D,if_neg (by decide),B c K]
   refine o t _ rfl rfl C (C9 _ (by decide)) ?_ (by(exact uT f))
   rw [Nat.pow_succ] at e
   exact Nat.div_lt_of_lt_mul (by rw [LZ];exact e)
  ·rw [if_neg Z]
   exact⟨_,by rw [C],Z⟩
theorem RT(led:Bool)(X:Int)(P:Nat)(S:P < 8): ∃E,(fs led #[P]).freeSlot X=ab (E,false)∧E≠P:=by
 have H:qA X < 32 ^ 13:=by
  have:qA X < 2 ^ 64:=by
   unfold qA
   have W:=uI X (show(0:Int) < 2 ^ 64 by decide)
   have J:=r7 X (show(2:Int) ^ 64≠0 by decide)
   have Z:((2:Int) ^ 64).toNat=2 ^ 64:=by decide
   refine Z▸?_
   exact(Int.toNat_lt_toNat (by decide)).mpr W
  exact uU this (by decide)
 obtain⟨E,W,K⟩:=R2 led X P S 13 (10 * sr 7) ((fs led #[P]).probeStart X) rfl (by
  show Dw 7 _ - _=0
  unfold Dw
  rw [if_neg (by(exact Ef.mp rfl))]
  exact Dg _) rfl (C9 _ (by show 0 < 8;decide)) H (by decide)
 refine⟨E,?_,K⟩
 show(match kF (fs led #[P]) (fun F=>X+1) X (10 * sr 7) ((fs led #[P]).probeStart X) with
  | some (.empty E dummy)=>ab (dummy.getD E,dummy.isSome)
  | _=>ao)=_
 refine W▸?_
 rfl
theorem NG(led:Bool)(X:Int): ∃E,(fs led #[]).freeSlot X=ab (E,false)∧E < 8:=by
 refine⟨qA X % 8,?_,C9 _ (by decide)⟩
 refine(RS led X).elim fun E Z=>?_
 have:kF (fs led #[]) (fun F=>X+1) X (10 * sr 7) ((fs led #[]).probeStart X)=ab (.empty (qA X % 8) ao):=by
  show kF (fs led #[]) (fun F=>X+1) X (219+1) _=_
  unfold kF
  rw [slot0]
  rfl
 show(match kF (fs led #[]) (fun F=>X+1) X (10 * sr 7) ((fs led #[]).probeStart X) with
  | some (.empty E dummy)=>ab (dummy.getD E,dummy.isSome)
  | _=>ao)=_
 rw [this]
 rfl
theorem S3(led:Bool)(X:Int)(S:b7): ∃E,E < 8∧sF (fs led #[]) #[] X S=(#[(X,S)],fs led #[E],false,false):=by
 refine dg ((NG led X)) fun E Z N=>?_
 refine⟨E,N,?_⟩
 unfold sF
 rw [Z]
 rfl
theorem S4(led:Bool)(X L:Int)(S A:b7)(P:Nat)(B:P < 8): ∃E,E≠P∧sF (fs led #[P]) #[(L,A)] X S=
 (if P < E then (#[(L,A),(X,S)],fs led #[P,E],false,false) else (#[(X,S),(L,A)],fs led #[E,P],false,false)):=by
 refine dg ((RT led X P B)) fun E Z N=>?_
 refine⟨E,N,?_⟩
 unfold sF
 rw [Z]
 unfold abl
 dsimp only
 rw [vN]
 by_cases Q:P < E
 ·rw [if_pos Q,if_pos Q];rfl
 ·rw [if_neg Q,if_neg Q];rfl
end
section
def mS (X:cO) (m:a0) (led:Bool) (T:Array (Int×b7)) (V:Array Nat):Prop:= ∃Y,X.get? m=ab ⟨.type "set",ao,.set T Y (fs led V), #[]⟩
section
noncomputable abbrev gg (G:d7) (w:di) (R:Int):Int:=(i0 G w).hash R
theorem GY(R:Int)(V:j8):ElemsOf (i0 G w) [(gg G w R,.int R V)]:=fun Z a=>by
 rw [gW] at a;subst a
 exact⟨⟨R,vj _ _ _ _,rfl⟩,rfl⟩
theorem Be {es':Array (Int×b7)} {B:Array Nat}(D:r.heap.get? z=ab ⟨.type "set",ao,.set ee A (fs dJ fD), #[]⟩)(U:es'.size≤2)
 (X: ∀L,hu z r.heap L→mS L z dJ es' B→fG () {r with heap:=L}):cu (bD G w) Y (storeSet z es' (fs dJ B)) fG cq r:=by
 refine wpAny_storeSet_of D rfl ?_ (by rw [n9];(exact cg (by assumption) (b9 rfl)))
 refine X _ (u1 ..) ⟨A+1,?_⟩
 have:=u2 (Obj.putSet es' (fs dJ B)) D (by rw [putSet_of es' (fs dJ B) rfl];rfl)
 rw [putSet_of es' (fs dJ B) rfl] at this
 exact this
theorem Wr(D:mS r.heap z dJ #[] #[])
 (X: ∀L fB E,E < 8→hu z r.heap L→mS L z dJ #[(gg G w B,.int B d4)] #[E]→gT true {r with heap:=L,toks:=fB}):cu (bD G w) Y (y5 z (.int B d4)) gT cq r:=by
 refine D.elim fun A D=>?_
 refine fz (bt ((i0 G w).pyHash (k:=B) (vj _ _ _ _) ?_))
 refine fz (bt (Ee (s:= {r with toks:=r.toks+1}) D rfl rfl ?_))
 dsimp only
 rw [byScan_of (knd:=i0 G w) (x:= .int B d4) (es:= #[]) rfl (by show 0 < 4096;decide) (fun Z a=>by simp at a)]
 refine bt (bt (oh ?_))
 refine bt (NB (knd:=i0 G w) (s:= {r with toks:=r.toks+1}) (vj _ _ _ _) D rfl rfl (fun Z a=>by simp at a) ?_)
 refine dg (S3 dJ (gg G w B) (.int B d4)) fun E N Z=>?_
 refine(show sF (fs dJ #[]) #[] ((i0 G w).hash B) (.int B d4)=_ from Z)▸?_
 dsimp only
 refine bt (ct ?_)
 rw [if_pos rfl,DS 8 rfl]
 refine bt (ct ?_)
 rw [show D1 (.int B d4)=true from rfl,if_pos rfl]
 refine bt (Be (r:= {r with toks:=r.toks+1}) (es':= #[(gg G w B,.int B d4)]) D ((b9 rfl)) fun L y T=>?_)
 refine(if_neg (by show ¬(false=true);decide))▸?_
 exact ct (ct (X L _ E N y T))
theorem Ws(S:A < 8)(D:mS r.heap z dJ #[(gg G w B,.int B d4)] #[A])
 (X: ∀L fB T pl,hu z r.heap L→mS L z dJ T pl→((B=bk∧T= #[(gg G w B,.int B d4)]∧pl= #[A])∨
  (B≠bk∧((∃E,A < E∧T= #[(gg G w B,.int B d4),(gg G w bk,.int bk gJ)]∧pl= #[A,E])∨(∃E,E < A∧T= #[(gg G w bk,.int bk gJ),(gg G w B,.int B d4)]∧pl= #[E,A]))))→ ∀j,gT j {r with heap:=L,toks:=fB}):
 cu (bD G w) Y (y5 z (.int bk gJ)) gT cq r:=by
 refine D.elim fun F D=>?_
 refine fz (bt ((i0 G w).pyHash (k:=bk) (vj _ _ _ _) ?_))
 refine fz (bt (Ee (s:= {r with toks:=r.toks+1}) D rfl rfl ?_))
 dsimp only
 rw [byScan_of (knd:=i0 G w) (x:= .int bk gJ) (es:= #[(gg G w B,.int B d4)]) rfl (by show 1 < 4096;decide) (GY B d4)]
 refine bt (bt (oh ?_))
 refine bt (NB (knd:=i0 G w) (s:= {r with toks:=r.toks+1}) (vj _ _ _ _) D rfl rfl (GY B d4) ?_)
 have g:(i0 G w).is bk (.int B d4)=decide (B=bk):=by
  show Dx bk (.int B d4)=_
  unfold Dx
  by_cases Z:B=bk
  ·refine Z▸?_;simp
  ·simp [Z]
 rw [show List.findIdx? (fun Z=>(i0 G w).is bk Z.2) (#[(gg G w B,qB B d4)]:Array (Int×b7)).toList=if B=bk then ab 0 else ao from by
  rw [Lz]
  rw [g]
  by_cases Z:B=bk<;>simp [Z]]
 by_cases Z:B=bk
 ·rw [if_pos Z]
  dsimp only
  exact ct (ct (X r.heap (r.toks+1) _ _ (Heap.SameBut.refl ..) ⟨F,D⟩ (.inl ⟨Z,rfl,rfl⟩) _))
 ·rw [if_neg Z]
  refine dg ((S4 dJ (gg G w bk) (gg G w B) (.int bk gJ) (.int B d4) A S)) fun E N i=>?_
  refine(show sF (fs dJ #[A]) #[(gg G w B,.int B d4)] ((i0 G w).hash bk) (.int bk gJ)=_ from i)▸?_
  by_cases Q:A < E
  ·rw [if_pos Q]
   dsimp only
   refine bt (ct ?_)
   rw [if_pos rfl,DS 8 rfl]
   refine bt (ct ?_)
   rw [show D1 (.int bk gJ)=true from rfl,if_pos rfl]
   refine bt (Be (r:= {r with toks:=r.toks+1}) (es':= #[(gg G w B,.int B d4),(gg G w bk,.int bk gJ)]) D (d5 _) fun L y C=>?_)
   rw [if_neg (by show ¬(false=true);decide)]
   exact ct (ct (X L _ _ _ y C (.inr ⟨Z,.inl ⟨E,Q,rfl,rfl⟩⟩) _))
  ·rw [if_neg Q]
   dsimp only
   refine bt (ct ?_)
   rw [if_pos rfl,DS 8 rfl]
   refine bt (ct ?_)
   rw [show D1 (.int bk gJ)=true from rfl,if_pos rfl]
   refine bt (Be (r:= {r with toks:=r.toks+1}) (es':= #[(gg G w bk,.int bk gJ),(gg G w B,.int B d4)]) D (d5 _) fun L y C=>?_)
   rw [if_neg (by show ¬(false=true);decide)]
   exact ct (ct (X L _ _ _ y C (.inr ⟨Z,.inr ⟨E,by lia,rfl,rfl⟩⟩) _))
end
end
section
set_option backward.match.sparseCases true
namespace St
theorem slot_next:Slot "set_iterator" "__next__" "set_iterator.__next__" :=
 .of (owner:= "set_iterator") (n:= "__next__") (by rw [i1,iZ];kernel_rfl) (by decide+kernel) (by decide+kernel) (by decide+kernel)
  (by first | exact .inl (by decide+kernel) | exact .inr (by decide+kernel)) (by rw [lq];kernel_rfl)
theorem entry_next:l5 kK "set_iterator.__next__" =ab Builtin.«set_iterator.__next__»:=by first | exact yV (by kernel_rfl) | exact yW (by kernel_rfl)
theorem args_next(R:b7):kG "set_iterator.__next__" ⟨[R],[]⟩:=by unfold kG;kernel_rfl
theorem entry_iter:l5 kK "set.__iter__" =ab Builtin.«frozenset.__iter__»:=
 DP (id':= "frozenset.__iter__") (by kernel_rfl) (by first | rfl | decide+kernel) (by decide+kernel) (by kernel_rfl)
theorem args_iter(R:b7):kG "set.__iter__" ⟨[R],[]⟩:=by unfold kG;kernel_rfl
end St
noncomputable def g0 (u:di) (m:a0) (Y:Nat) (T:Array (Int×b7)):List b7:=
 if u.params.followText "set-order" =true then (qQ (u.params.setOrder m Y) T).toList.map (·.2) else T.toList.map (·.2)
theorem U1(t:Nat→Nat)(S:c2):qQ t #[S]= #[S]:=by
 unfold qQ y1
 simp [Dc,y1]
theorem U2(t:Nat→Nat)(S s:c2):qQ t #[S,s]= #[S,s]∨qQ t #[S,s]= #[s,S]:=by
 have h:t 0 % 2=0∨t 0 % 2=1:=by(exact Nat.mod_two_eq_zero_or_one (t 0))
 unfold qQ
 rcases h with h | h
 ·left;simp [y1,h,Dc]
 ·right;simp [y1,h,Dc]
theorem Jj(u:di)(m:a0)(Y:Nat)(Z:Int×b7):g0 u m Y #[Z]= [Z.2]:=by
 unfold g0;rw [U1];simp
theorem Jk(u:di)(m:a0)(Y:Nat)(Z t:Int×b7):g0 u m Y #[Z,t]= [Z.2,t.2]∨g0 u m Y #[Z,t]= [t.2,Z.2]:=by
 unfold g0
 split
 ·rcases U2 (u.params.setOrder m Y) Z t with h | h<;>rw [h]
  ·left;rfl
  ·right;rfl
 ·left;rfl
def ly (V:Array Nat) (I:Nat):Prop:=V.size=I∧I≤2∧iX V 0=0∧ ∀J E,V[J]? =ab E→iX V (E+1)=J+1
theorem U5(P:Nat):ly #[P] 1:=by
 refine⟨rfl,by decide,by rw [vN,if_neg (by(exact sk P))],fun J E X=>?_⟩
 induction J with
 | zero=>simp at X;subst X;rw [vN,if_pos (by(exact d5 _))]
 | succ J=>simp at X
theorem zR(c P E:Nat):iX #[c,P] E=if P < E then 2 else if c < E then 1 else 0:=by
 show pb #[c,P] E 2 0 2=_
 show(if P < E then pb #[c,P] E 1 2 2 else pb #[c,P] E 1 0 1)=_
 unfold pb
 by_cases X:P < E
 ·rw [if_pos X,if_pos X];simp
 ·rw [if_neg X,if_neg X]
  rfl
theorem IM(c P:Nat)(X:c < P):ly #[c,P] 2:=by
 refine⟨rfl,by decide,by rw [zR,if_neg (by(exact sk P)),if_neg (by(exact sk c))],fun J E Z=>?_⟩
 cases J with
 | zero=>simp at Z;subst Z;rw [zR,if_neg (by(exact jw.mpr X)),if_pos (by(exact d5 _))]
 | succ J=>
  induction J with
  | zero=>simp at Z;subst Z;rw [zR,if_pos (by(exact d5 _))]
  | succ J=>simp at Z
section
noncomputable abbrev nj (T:Array (Int×b7)) (Y:Nat) (led:Bool) (V:Array Nat):fi:=⟨.type "set",ao,.set T Y (fs led V), #[]⟩
noncomputable abbrev ro (C J m I Y:Nat):fi:=⟨.type "set_iterator",ao,.fields #[hY C,hY J,.ref m,hY I,hY Y], #[]⟩
theorem tb(X:gT (dB.w.params.followText "set-order") r):cu dB Y setsByText gT cq r:=bt (sN (ct X))
theorem nk {n:Array (Int×b7)×Nat×SetTable→cx→Prop}(D:r.heap.get? z=ab (nj ee A dJ fD))(l:ly fD ee.size)(X:n (ee,A,fs dJ fD) r):cu (bD G w) Y (setState z) n cq r:=
 Ee D rfl (by
  delta abj abi
  have W:=l.1
  have K:=l.2.1
  simp [W];(exact cg (by assumption) (b9 rfl))) X
theorem Wv
 (D:r.heap.get? z=ab (nj ee A (!w.params.followText "set-order") fD))(l:ly fD ee.size)(i:(g0 w z A ee)[dc]? =ab b8)(y:w.params.followText "set-order" =false→iX fD C=dc)
 (d: ∀B,(w.params.followText "set-order" =false→iX fD B=dc+1)→r0 (ab (b8,B)) r):cu (bD G w) Y (sL z C dc A) r0 cq r:=by
 unfold sL
 refine bt (nk D l (bt (tb ?_)))
 show cu _ _ (if w.params.followText "set-order" =true then _ else _) _ _ _
 induction H:w.params.followText "set-order" with
 | true=>
  refine qH rfl ?_
  refine iw (by simp) ?_
  refine bt ?_
  refine bt (nk D l (bt (tb ?_)))
  refine qH H ?_
  refine bt (sN (ct (ct ?_)))
  unfold g0 at i
  rw [if_pos H,lX,xY] at i
  refine(nV.mp i).elim fun Z h=>?_
  obtain⟨W,rfl⟩:=h
  show r0 (((qQ (w.params.setOrder z A) ee)[dc]?).map fun Z=>(Z.2,C)) r
  rw [W]
  exact d C (by refine H▸?_;intro X;contradiction)
 | false=>
  refine iw rfl ?_
  refine iw (by rfl) ?_
  refine bt (m:=_) (gB (a:=()) rfl ?_)
  unfold g0 at i
  rw [if_neg (by refine H▸?_;decide),lX,xY] at i
  obtain⟨Z,W,rfl⟩:=nV.mp i
  have Q:dc < ee.size:=by
   refine(nR dc ee.size).elim (fun P=>?_) fun P=>?_
   ·exact P
   ·have n:=(oR P).symm.trans W;contradiction
  obtain⟨E,N⟩: ∃E,fD[dc]? =ab E:=⟨fD[dc]'(by rw [l.1];exact Q),CL _⟩
  refine ct ?_
  show r0 (match ee[iX fD C]?,fD[iX fD C]? with
   | some (_,b8),ab E=>ab (b8,E+1)
   | _,_=>ao) r
  rw [y H,W,N]
  exact d (E+1) fun F=>l.2.2.2 dc E N
theorem Ww
 (D:r.heap.get? z=ab (nj ee A (!w.params.followText "set-order") fD))(l:ly fD ee.size)(h:(g0 w z A ee).length=ee.size)(y:w.params.followText "set-order" =false→iX fD C=ee.size)
 (d:r0 ao r):cu (bD G w) Y (sL z C ee.size A) r0 cq r:=by
 unfold sL
 refine bt (nk D l (bt (tb ?_)))
 show cu _ _ (if w.params.followText "set-order" =true then _ else _) _ _ _
 induction H:w.params.followText "set-order" with
 | true=>
  refine qH rfl ?_
  refine iw (by simp) ?_
  refine bt ?_
  refine bt (nk D l (bt (tb ?_)))
  refine qH H ?_
  refine bt (sN (ct (ct ?_)))
  unfold g0 at h
  rw [if_pos H,dP,qi] at h
  rw [oR (by(exact iW (by assumption)))]
  exact d
 | false=>
  refine iw rfl ?_
  refine iw (by rfl) ?_
  refine bt (m:=_) (gB (a:=()) rfl ?_)
  refine ct ?_
  show r0 (match ee[iX fD C]?,fD[iX fD C]? with
   | some (_,S),ab j=>ab (S,j+1)
   | _,_=>ao) r
  rw [y H,oR (d5 _)]
  exact d
theorem Un
 (D:r.heap.get? E=ab (nj ee A (!w.params.followText "set-order") fD))(l:ly fD ee.size)(K:r.heap.get? z=ab (ro C dc E ee.size A))
 (i:(g0 w E A ee)[dc]? =ab b8)(y:w.params.followText "set-order" =false→iX fD C=dc)
 (d: ∀L B,hu z r.heap L→L.get? z=ab (ro B (dc+1) E ee.size A)→(w.params.followText "set-order" =false→iX fD B=dc+1)→qe (ab b8) {r with heap:=L}):
 cu (bD G w) Y (qS (.ref z)) qe cq r:=by
 have e:r.TypeIs (.ref z) "set_iterator" :=⟨_,K,rfl⟩
 refine bt (D9 (Nk (name:=pd "__next__") e St.slot_next (sO St.slot_next e St.entry_next ?_ (St.args_next _))))
 refine bt (m:=D5 "__next__" 0 _) (gB (a:=(.ref z,[])) rfl ?_)
 refine bt (m:=fieldsOf (.ref z)) (Nl K rfl ?_)
 refine bt (bt (nk D l (ct ?_)))
 refine iw (by simp) ?_
 refine bt (m:=sL E C dc A) (Wv D l i y fun B F=>?_)
 have f:=rz (·.setIfInBounds 0 (hY B)) K
 refine bt (m:=y6 (.ref z) 0 (hY B)) (qU K rfl (by show 0 < 5;decide) ?_)
 refine bt (m:=y6 (.ref z) 1 (hY ((dc:Int)+1))) (qU (s:= {r with heap:=r.heap.update z (u5 (·.setIfInBounds 0 (hY B)))}) f.2 rfl ((b9 rfl)) ?_)
 have T:=rz (·.setIfInBounds 1 (hY ((dc:Int)+1))) f.2
 exact ct ⟨b8,rfl,ct (d _ B (f.1.trans T.1) T.2 F)⟩
theorem Ru(p:Y.handled=ao)
 (D:r.heap.get? E=ab (nj ee A (!w.params.followText "set-order") fD))(l:ly fD ee.size)(K:r.heap.get? z=ab (ro C ee.size E ee.size A))
 (h:(g0 w E A ee).length=ee.size)(y:w.params.followText "set-order" =false→iX fD C=ee.size)
 (d: ∀L,lZ z r.heap L→qe ao {r with heap:=L}):cu (bD G w) Y (qS (.ref z)) qe cq r:=by
 have e:r.TypeIs (.ref z) "set_iterator" :=⟨_,K,rfl⟩
 refine bt (D9 (Nk (name:=pd "__next__") e St.slot_next (sO St.slot_next e St.entry_next ?_ (St.args_next _))))
 refine bt (m:=D5 "__next__" 0 _) (gB (a:=(.ref z,[])) rfl ?_)
 refine bt (m:=fieldsOf (.ref z)) (Nl K rfl ?_)
 refine bt (bt (nk D l (ct ?_)))
 refine iw (by simp) ?_
 refine bt (m:=sL E C ee.size A) (Ww D l h y ?_)
 refine bt (m:=y6 (.ref z) 2 .none) (qU K rfl (by show 2 < 5;decide) ?_)
 show cu _ _ (newExc (.type "StopIteration") [] >>=_) _ _ _
 refine bt ?_
 refine bt (sQ ?_ (by size_fits))
 refine bt (m:=M4 _ _) (gB (a:=nZ) (by first | rfl | (simp only [M4];rfl)) ?_)
 refine sQ ?_ (by size_fits)
 refine bt (wpAny_handled ?_)
 rw [show Y.in1.handled=ao from p]
 refine bt (ct (wpAny_throw ?_))
 refine bt (pv (T:= "StopIteration") (b:=true) ⟨_,gc _ rfl,rfl⟩ (by rw [lq];kernel_rfl) ?_)
 exact ct (d _ (((u1 ..).extBut.push _).push _))
end
end
section
namespace St
theorem slot_self:Slot "set_iterator" "__iter__" "set_iterator.__iter__" :=
 .of (owner:= "set_iterator") (n:= "__iter__") (by rw [i1,iZ];kernel_rfl) (by decide+kernel) (by decide+kernel) (by decide+kernel)
  (by first | exact .inl (by decide+kernel) | exact .inr (by decide+kernel)) (by rw [lq];kernel_rfl)
theorem entry_self:l5 kK "set_iterator.__iter__" =ab Builtin.«dict_keyiterator.__iter__»:=DP (id':= "dict_keyiterator.__iter__") (by kernel_rfl) (by first | rfl | decide+kernel) (by decide+kernel) (by kernel_rfl)
theorem args_self(R:b7):kG "set_iterator.__iter__" ⟨[R],[]⟩:=by unfold kG;kernel_rfl
end St
section
noncomputable abbrev jS (w:di):Bool:=w.params.followText "set-order"
theorem Sr(D:r.heap.get? z=ab (nj ee A (!jS w) fD))(l:ly fD ee.size)
 (d:d1 (.ref r.heap.objs.size) {r with heap:=r.heap.push (ro 0 0 z ee.size A)}):cu (bD G w) Y (y3 (.ref z)) d1 cq r:=by
 have e:r.TypeIs (.ref z) "set" :=⟨_,D,rfl⟩
 refine Nz e MB (sO MB e St.entry_iter ?_ (St.args_iter _))
 refine bt (m:=aba "__iter__" _) (gB (a:=z) rfl ?_)
 refine bt (m:=aa9 z) ?_
 refine bt (bt (nk D l (ct (ct ?_))))
 refine bt (m:=setDrawn z) ?_
 refine bt (nk D l (bt (tb (ct ?_))))
 refine iw (by show(!_ && false)=false;exact r4 _) ?_
 refine bt (ct ?_)
 refine bt (m:=setEpoch z) ?_
 refine bt (nk D l (ct ?_))
 exact bt (sQ (ct ⟨_,rfl,"set_iterator",_,⟨_,gc _ rfl,rfl⟩,St.slot_next.lookup,d⟩))
theorem R8(e:r.TypeIs (.ref z) "set")(X:gT false r):cu (bD G w) Y (Mo (.ref z)) gT cq r:=by
 unfold Mo
 refine bt (ia e PySem.F.slot_set_len.lookup ?_)
 generalize A:("set.__len__" :String)=C
 wp_delta
 rw [show splitId C=ab ("set","__len__") from by subst A;decide+kernel]
 subst A
 refine bt (pv (T:= "set") (b:=true) e (by rw [lq];kernel_rfl) ?_)
 refine Ea (fun B=>absurd B (by decide)) (fun F=>?_)
 refine Ea (fun F=>?_) (fun B=>absurd (by decide+kernel) B)
 refine bt (zd e ?_)
 exact ct X
theorem Wy(l:ly fD ee.size)(h:(g0 w z A ee).length=ee.size):
 KdlSrc G w "set" z z ee.size (fun J M=>(g0 w z A ee)[J]? =ab M) (fun X=>X.get? z=ab (nj ee A (!jS w) fD)):=by
 refine⟨fun r X=>⟨_,X,rfl⟩,fun X Z=>⟨fV Z,fV Z⟩,fun X L Z k=>k z (.inl rfl) _ Z,by decide,by decide,fun Y cq r n Z P=>R8 ⟨_,Z,rfl⟩ P,fun Y r p c=>?_⟩
 have N:z≠r.heap.objs.size:=hU (fV c)
 refine⟨ro 0 0 z ee.size A,fun J X=>X.get? z=ab (nj ee A (!jS w) fD)∧ ∃C,X.get? r.heap.objs.size=ab (ro C J z ee.size A)∧(jS w=false→iX fD C=J),fun cq n P=>Sr c l P,?_,fU _ c,0,gc _ rfl,fun F=>l.2.2.1⟩
 refine⟨fun f H=>by simp at H;simp [H],fun J X L st k=>?_,fun J a n cq K st d=>?_,fun a n cq st d=>?_,fun J a n cq st P=>?_⟩
 ·obtain⟨R,C,f,i⟩:=st
  exact⟨k z (by simp) _ R,C,k _ (by simp) _ f,i⟩
 ·obtain⟨R,C,f,i⟩:=st
  have Q:J < (g0 w z A ee).length:=by rw [h];exact K
  exact Un R l f (gV Q) i fun L B y D b=>d _ L _ (gV Q) ⟨(y.2 z N).trans R,B,D,b⟩ fun E o H Z=>(y.2 E (by simpa using H)).trans Z
 ·obtain⟨R,C,f,i⟩:=st
  exact Ru p R l f h i fun L I=>d L _ fun E o H Z=>I E o (by simpa using H) Z
 ·obtain⟨R,C,f,i⟩:=st
  have e:a.TypeIs (.ref r.heap.objs.size) "set_iterator" :=⟨_,f,rfl⟩
  refine Nz e St.slot_self (sO St.slot_self e St.entry_self ?_ (St.args_self _))
  exact ct ⟨_,rfl,"set_iterator",_,e,St.slot_next.lookup,P⟩
theorem XZ(p:Y.handled=ao)(D:r.heap.get? z=ab (nj ee A (!jS w) fD))(l:ly fD ee.size)
 (h:(g0 w z A ee).length=ee.size)(C:ll (g0 w z A ee) de)
 (X: ∀L fB N (M:List b7) (E:List Int) n,(∀f o,r.heap.get? f=ab o→L.get? f=ab o)→r.heap.get? N=ao→L.get? N=ab ⟨.type "list",ao,.seq M.toArray n, #[]⟩→ll M E→E.Perm de→E.Pairwise (· ≤ ·)→d1 (.ref N) {r with heap:=L,toks:=fB}):
 cu (bD G w) Y (fW (.builtin "sorted") [.ref z]) d1 cq r:=by
 refine call_function_entry kind_sorted plain_sorted entry_sorted (args_sorted1 _) ?_
 refine bt (m:=checkCount "sorted" 1 1 _) (ct ?_)
 refine bt (kdu_collect (A:=Y.in1) (Wy l h) p D (by rw [n9];have:=l.2.1;(exact cg (by assumption) (b9 rfl))) fun L fB cM g F=>?_)
 have I:cM.toList=g0 w z A ee:=by
  apply List.ext_getElem?
  intro J
  by_cases K:J < ee.size
  ·have W:J < cM.toList.length:=by rw [qi,F.1];exact K
   rw [F.2 J _ (xY▸(gV W)),gV W]
  ·rw [nN (by rw [qi,F.1];omega),nN (by rw [h];omega)]
 have V:cM.toList.length≤2:=by rw [I,h];exact l.2.1
 refine bt (Nu ?_ (by rw [n9];(exact cg (by assumption) (b9 rfl))))
 refine I▸?_
 have O:(L.push (yu "list" (g0 w z A ee).toArray 0)).get? L.objs.size=ab (yu "list" (g0 w z A ee).toArray 0):=gc _ rfl
 refine bt (fz (sO slot_list_sort (s:= {r with heap:=L.push (yu "list" (g0 w z A ee).toArray 0),toks:=fB}) ⟨_,O,rfl⟩ entry_list_sort (list_sort_tree O C (by rw [h];have:=l.2.1;(exact kD (by assumption) (b9 rfl))) fun M E c B P=>⟨_,rfl,?_⟩) (args_list_sort _)))
 have Q: ∀f o,r.heap.get? f=ab o→f < L.objs.size:=fun f o Z=>fV (g f o Z)
 refine(sortedHeap_at (out:=M) O).elim fun Z a=>?_
 refine ct ⟨_,rfl,X _ fB L.objs.size M.toList E Z (fun f o H=>?_) ?_ (by simpa [yu] using a) c B P⟩
 ·rw [sortedHeap_old (hU (Q f o H)) (by rw [size_push'];exact nS (Q f o H)),Heap.get?_push_ne _ _ _ (hU (Q f o H))]
  exact g f o H
 ·induction S:r.heap.get? L.objs.size with
  | none=>rfl
  | some o=>exact absurd (Q _ o S) (oX _)
end
end
section
section
theorem PZ(R:b7) {Q₁:b7→cx→Prop}
 (X:Q₁ (.ref r.heap.objs.size) {r with heap:=r.heap.push {cls:= .type "set",dict:=ao,data:= .set #[] 0 (.fresh 0 0 (!jS w))}}):
 jx (bD G w) Y (.call (.builtin "set.__new__") ⟨[.type "set",R],[]⟩) (og Q₁ cq) r:=by
 refine sD ?_
 show cu _ Y.in1 (do qK "set.__new__" ⟨[.type "set",R],[]⟩;again (.builtin "set.__new__" ⟨[.type "set",R],[]⟩)) _ _ r
 refine bt (gB (F.newCall_set_1 R) (ct ⟨qR MA _,sC F.entry_set_new ?_⟩))
 rw [o1 MA _]
 unfold Builtin.«set.__new__» aa8
 have N:=sub_set_self
 obtain⟨l,g,T,fB,W⟩:=r
 dsimp only
 wp_walk
 refine sN (ct ?_)
 dsimp only
 simp only [newObj]
 refine bt (D8 (ct ?_))
 exact ct X
theorem H8 {t} {x:b7}(a:qs r.heap E O A)(s:hV r.heap O t)(i:t[A]? =ab x)
 (X: ∀L,qs L E O (A+1)→hu E r.heap L→cu (bD G w) Y.in1 (y5 z x) (fun F B=>jx (bD G w) Y (.builtin "set.update.loop" ⟨[.ref z,.ref E],[]⟩) ef B) (fun Z B=>ef (.error Z) B) {r with heap:=L}):
 jx (bD G w) Y (.builtin "set.update.loop" ⟨[.ref z,.ref E],[]⟩) ef r:=by
 refine sC L9 ?_
 rw [o1 Dl _]
 show cu _ Y.in1 (qS (.ref E) >>=_) _ _ r
 refine bt (Md a s i fun L R f=>?_)
 show cu _ Y.in1 (mL [x] (y5 z x) >>=_) _ _ _
 refine bt (fz (ea (X L R f) (fun j B y=>?_) fun F F Z=>Z))
 exact ct ⟨qR Dl _,y⟩
theorem Tu {t}(p:Y.handled=ao)(a:qs r.heap E O A)(s:hV r.heap O t)(i:t[A]? =ao)
 (X: ∀L,lZ E r.heap L→ef (.ok (.ret .none)) {r with heap:=L}):
 jx (bD G w) Y (.builtin "set.update.loop" ⟨[.ref z,.ref E],[]⟩) ef r:=by
 refine sC L9 ?_
 rw [o1 Dl _]
 show cu _ Y.in1 (qS (.ref E) >>=_) _ _ r
 refine bt (Mc (by simp [p]) a s i fun L R=>?_)
 show cu _ Y.in1 (ret nZ) _ _ _
 exact ct (X L R)
structure vA (G:d7) (w:di) (S:a0) (a b:Int) (t u:j8) (h:cO):Prop where
 at': ∃es pl,mS h S (!jS w) es pl∧((a=b∧ ∃q,es= #[(gg G w a,.int a t)]∧pl= #[q])∨
  (a≠b∧ ∃q j,(q < j∧es= #[(gg G w a,.int a t),(gg G w b,.int b u)]∧pl= #[q,j])∨(j < q∧es= #[(gg G w b,.int b u),(gg G w a,.int a t)]∧pl= #[j,q])))
theorem Wu(p:Y.handled=ao)(U:mS r.heap z (!jS w) #[] #[])(a:qs r.heap E O 0)(bd:hV r.heap O #[.int B d4,.int bk gJ])
 (A:z≠E)(j:E≠O)(H:z≠O)
 (X: ∀h' fB,vA G w z B bk d4 gJ h'→(∀i o,i≠z→i≠E→r.heap.get? i=ab o→h'.get? i=ab o)→ef (.ok (.ret .none)) {r with heap:=h',toks:=fB}):
 jx (bD G w) Y (.builtin "set.update.loop" ⟨[.ref z,.ref E],[]⟩) ef r:=by
 have an: ∀ {X h':cO} {led T V},mS X z led T V→(∀i o,i≠E→X.get? i=ab o→h'.get? i=ab o)→mS h' z led T V:=fun⟨bu,d⟩ k=>⟨bu,k _ _ A d⟩
 have al: ∀ {X h':cO} {t},hV X O t→(∀o,X.get? O=ab o→h'.get? O=ab o)→hV h' O t:=fun⟨o,D,b,I,hd⟩ k=>⟨o,k _ D,b,I,hd⟩
 have be: ∀ {X h':cO} {J},qs X E O J→(∀o,X.get? E=ab o→h'.get? E=ab o)→qs h' E O J:=fun⟨o,D,b,hd⟩ k=>⟨o,k _ D,b,hd⟩
 refine H8 a bd (x:= .int B d4) rfl fun W bx l=>?_
 have lA:=an U (h':=W) fun i o b Z=>(l.2 i b).trans Z
 have bn:=al bd (h':=W) fun o Z=>(l.2 O j.symm).trans Z
 refine Wr lA fun K bm P S m f=>?_
 have Q:=be bx (h':=K) fun o Z=>(m.2 E A.symm).trans Z
 have ap:=al bn (h':=K) fun o Z=>(m.2 O H.symm).trans Z
 refine H8 (r:= {r with heap:=K,toks:=bm}) Q ap (x:= .int bk gJ) rfl fun C g h=>?_
 have v:=an f (h':=C) fun i o b Z=>(h.2 i b).trans Z
 have c:=al ap (h':=C) fun o Z=>(h.2 O j.symm).trans Z
 refine Ws (r:= {r with heap:=C,toks:=bm}) S v fun n b5 T V u L bv F=>?_
 have q:=be g (h':=n) fun o Z=>(u.2 E A.symm).trans Z
 have y:=al c (h':=n) fun o Z=>(u.2 O H.symm).trans Z
 refine Tu (r:= {r with heap:=n,toks:=b5}) p q y rfl fun e bi=>?_
 refine X e _ ⟨T,V,an L fun i o b Z=>bi i o b Z,?_⟩ fun i o bb M Z=>bi i o M ((u.2 i bb).trans ((h.2 i M).trans ((m.2 i bb).trans ((l.2 i M).trans Z))))
 rcases bv with ⟨Z,R,ac⟩ | ⟨Z,⟨am,N,R,ac⟩ | ⟨am,N,R,ac⟩⟩
 ·exact .inl ⟨Z,P,R,ac⟩
 ·exact .inr ⟨Z,P,am,.inl ⟨N,R,ac⟩⟩
 ·exact .inr ⟨Z,P,am,.inr ⟨N,R,ac⟩⟩
end
end
section
section
theorem Wt(p:Y.handled=ao)(U:r.heap.get? z=ab {cls:= .type "set",dict:=ao,data:= .set #[] 0 (.fresh 0 0 (!jS w))})(h:hV r.heap E #[.int B d4,.int bk gJ])(R:z≠E)
 (X: ∀(L:cO) (fB:Nat),vA G w z B bk d4 gJ L→(∀i o,i≠z→r.heap.get? i=ab o→L.get? i=ab o)→uu (.done (.ret .none)) {r with heap:=L,toks:=fB}):
 cu (bD G w) Y (Builtin.«set.__init__» ⟨[.ref z,.ref E],[]⟩) uu cq r:=by
 have e:r.TypeIs (.ref z) "set" :=⟨_,U,rfl⟩
 have J:r.TypeIs (.ref E) "tuple" :=h.typeIs
 have O:=PySem.F.sub_tuple_set
 have N:=PySem.F.sub_tuple_frozenset
 obtain⟨⟨Q,T,S,V⟩,K,A,nl,P⟩:=id h
 simp only at A P
 subst A;subst P
 have F:(DA "tuple" == DA "dict")=false:=by decide
 unfold Builtin.«set.__init__» noKeywords abb
 generalize C:y3=M
 wp_walk
 subst C
 refine Mb h (bt (wpAny_runValue ?_))
 have D:E < r.heap.objs.size:=fV K
 refine Wu (by simp [p]) ⟨0,fU _ U⟩ ⟨_,gc _ rfl,rfl,rfl⟩ (h.push _) (hU (fV U)) (yp D) R fun L fB H g=>?_
 show cu _ _ _ _ _ _
 exact ct (show cu _ _ (ret nZ) _ _ _ from ct (X L fB H fun i o I Z=>g i o I (hU (fV Z)) (fU _ Z)))
theorem PG
 (p:Y.handled=ao)(h:hV r.heap z #[.int B d4,.int bk gJ])
 (X: ∀(L:cO) (fB:Nat),vA G w r.heap.objs.size B bk d4 gJ L→
  (∀bk o,r.heap.get? bk=ab o→L.get? bk=ab o)→d1 (.ref r.heap.objs.size) {r with heap:=L,toks:=fB}):
 cu (bD G w) Y (fW (.type "set") [.ref z]) d1 cq r:=by
 refine rU o2.mro fun i V S=>?_
 have Q:=o2.made
 have N:=o2.sub
 refine ps (sD ?_)
 show cu _ _ (DN (.type "set") _) _ _ _
 refine ct ⟨uY _ (by decide+kernel),sC Mz ?_⟩
 rw [Mg (Nf "set" [.ref z] []) rfl]
 have W:=o2.notType
 have K:=o2.canCreate
 have P:=F.typeCall_set_1 (.ref z)
 repeat (any_goals (first | assumption | wp_step))
 refine qL (PZ (.ref z) (cq:=cq) (Q₁:=fun C c=>C= .ref r.heap.objs.size∧c= {r with heap:=r.heap.push {cls:= .type "set",dict:=ao,data:= .set #[] 0 (.fresh 0 0 (!jS w))}}) ⟨rfl,rfl⟩) fun j c t=>?_
 induction j with
 | error Z=>exact t
 | ok A=>
  induction A with
  | ret C=>
   obtain⟨rfl,rfl⟩:=t
   have U:(r.heap.push {cls:= .type "set",dict:=ao,data:= .set #[] 0 (.fresh 0 0 (!jS w))}).get? r.heap.objs.size=ab {cls:= .type "set",dict:=ao,data:= .set #[] 0 (.fresh 0 0 (!jS w))}:=gc _ rfl
   have e:Shared.TypeIs {r with heap:=r.heap.push {cls:= .type "set",dict:=ao,data:= .set #[] 0 (.fresh 0 0 (!jS w))}} (.ref r.heap.objs.size) "set" :=⟨_,U,rfl⟩
   have b:=o2.init.lookup
   have a:=o2.init.bind (.ref r.heap.objs.size)
   repeat (any_goals (first | assumption | wp_step))
   refine qL (yT (R:=og (fun j J=>j= .none∧ ∃L fB,J= {r with heap:=L,toks:=fB}∧
    vA G w r.heap.objs.size B bk d4 gJ L∧
    (∀bk o,r.heap.get? bk=ab o→L.get? bk=ab o)) cq) o2.init.plain F.entry_set_init (check_set_init_1 e ?_)) fun d J O=>?_
   ·exact Wt (r:= {r with heap:=r.heap.push {cls:= .type "set",dict:=ao,data:= .set #[] 0 (.fresh 0 0 (!jS w))}}) (by simp [p]) U (h.push _) (yp (by refine dg h fun f D f=>?_;exact fV D)) fun L fB H g=>⟨rfl,L,fB,rfl,H,fun bk o Z=>g bk o (hU (fV Z)) (fU _ Z)⟩
   ·induction d with
    | error Z=>exact O
    | ok T=>
     induction T with
     | ret j=>
      obtain⟨rfl,L,fB,rfl,M,I⟩:=O
      repeat (any_goals (first | assumption | wp_step))
      exact X _ _ M I
     | _=>exact O.elim
  | _=>exact t.elim
end
end
section
set_option tactic.hygienic true
section
theorem b6.aZ(m:St G w u U q L)(k: ∀f o,L.get? f=ab o→cm.get? f=ab o):b6 G w u U en q L q cm:=by
 have x:dy L cm:=fun f t ⟨o,D,j⟩=>⟨o,k f o D,j⟩
 refine⟨⟨fun f o Z=>k f o (m.top f o Z),fun R o Z=>?_,m.out,fun g c=>?_⟩,fun f o Z F F=>⟨fun F=>k f o Z,o.slots,k f o Z⟩,fun R o Z=> .inl (by refine Z▸?_;exact fun S=>nomatch S),fun f o Z=>⟨o,k f o Z⟩⟩
 ·have j:=m.mem R o Z
  refine j.there.elim fun p b=>?_
  exact j.mono x ((k R p b).trans b.symm) fun y e B F W K=>⟨e,B,k y e W,K,fun S i=>⟨S,i⟩⟩
 ·exact(m.aH g c).to (m.aH g c).mu fun o Z=>k g o Z
end
noncomputable def p6 (R f:Int):List Int:=if R=f then [R] else if R < f then [R,f] else [f,R]
theorem XY(c:de.Perm (if B=bk then [B] else [B,bk]))(o:de.Pairwise (· ≤ ·)):de=p6 B bk:=by
 unfold p6
 by_cases Z:B=bk
 ·rw [if_pos Z] at c ⊢
  exact List.perm_singleton.mp c
 ·rw [if_neg Z] at c ⊢
  match de,c.length_eq with
  | [S,y],_=>
   have i:S ∈ [B,bk]:=c.mem_iff.mp (by simp)
   have D:y ∈ [B,bk]:=c.mem_iff.mp (by simp)
   have T:B ∈ [S,y]:=c.mem_iff.mpr (by simp)
   have H:bk ∈ [S,y]:=c.mem_iff.mpr (by simp)
   have A:S≤y:=by simpa using o
   simp only [gr,nO,or_false] at i D T H
   split
   ·rcases i with rfl | rfl<;>rcases D with rfl | rfl<;>first | rfl | (exfalso;lia)
   ·rcases i with rfl | rfl<;>rcases D with rfl | rfl<;>first | rfl | (exfalso;lia)
def intD (T:D) (L:Int→Prop):Prop:=match T with
 | .int a=>L a
 | _=>False
def pairD (T:D) (L:Int→Int→Prop):Prop:=match T with
 | .tup l=>match l with
  | [S,y]=>intD S fun R=>intD y fun f=>L R f
  | _=>False
 | _=>False
theorem Hx {L:Int→Prop}(X:intD T L): ∃R,T= .int R∧L R:=by
 cases T
 case int R=>exact⟨R,rfl,X⟩
 all_goals exact X.elim
theorem UW(X:pairD T Cp): ∃R f,T= .tup [.int R,.int f]∧Cp R f:=by
 cases T
 case tup l=>
  match l,X with
  | [S,y],X=>
   refine dg (Hx X) fun R Q X=>?_;subst Q
   refine dg (Hx X) fun f g X=>?_
   refine g▸?_
   exact⟨R,f,rfl,X⟩
 all_goals exact X.elim
def AA (T:D) (B:J) (x:D→J→Prop):Prop:=pairD T fun R f=> ∀d,B d=ao→x (.val (.ref d)) (B.set d (.list ((p6 R f).map .int)))
theorem VW(j:c7 u cw [.int B,.int bk]): ∃P Z,cw= [.int B P,.int bk Z]:=by
 cases j with
 | cons A b=>cases b with
  | cons C b=>cases b;exact A.az fun P=>C.az fun Z=>⟨P,Z,rfl⟩
noncomputable def B5 (b:W):W:=fun Y B x O=>(fun F:Nat=>b Y B (fun T n=>AA T n x) O) eE
theorem VV(j:ll cw de):c7 u cw (de.map .int):=by
 induction j with
 | nil=>exact .nil
 | cons n V _ o=>exact .cons (.int n V) o
section
theorem b6.bg(N:b6 G w u U [] q L M cm)(c:cm.get? z=ao):L.get? z=ao∧u.get? z=ao∧M z=ao∧z ∉ U:=by
 have S: ∀ {A:Prop} {o:fi},cm.get? z=ab o→A:=fun Z=>by have n:=c.symm.trans Z;contradiction
 refine⟨?_,?_,?_,fun V=>?_⟩
 ·induction P:L.get? z with
  | none=>rfl
  | some o=>obtain⟨p,b⟩:=N.there z o P;exact S b
 ·induction P:u.get? z with
  | none=>rfl
  | some o=>exact S (N.st.top z o P)
 ·induction P:M z with
  | none=>rfl
  | some o=>obtain⟨p,b⟩:=(N.st.mem z o P).there;exact S b
 ·obtain⟨_,_,o,_,_,D,_⟩:=N.st.aH z V;exact S D
theorem Xs(cs:jC u)(v:0 < A)(cj:eJ (bD G w) u (cy (.Name t cD) H) (.builtin "sorted"))(ck:eJ (bD G w) u (cy (.Name e8 dw) H) (.type "set"))
 (a:c5 G w u A H I (cy cz H) cI)
 (W:dF [.Call (.Name e8 dw) [cz] [] xT] H=(false,cy (.Call (.Name e8 dw) [cz] [] xT) H)::dF [] H)(K:dF [cz] H=(false,cy cz H)::dF [] H):
 c5 G w u A H I (cy (.Call (.Name t cD) [.Call (.Name e8 dw) [cz] [] xT] [] kA) H) (B5 cI):=by
 intro r q U Y B x O p m l z
 have be:=(p.here v).1
 refine yt rfl (cj r _ _ U m.top ?_)
 refine GC (by refine W▸?_;rfl) (.inr rfl) (Af (.inr ⟨_,_,rfl,W⟩) ?_)
 refine za (yt rfl (ck r _ _ U m.top ?_)) W
 refine callWith_type1 ?_ K
 refine za (a.ae p m l z (fun M T n ac ap cn C bd e cq=>?_) fun F F cD=>cD) K
 refine zb ?_
 refine(UW ap).elim fun R cp=>?_
 refine dg cp fun f Q ap=>?_;subst Q
 refine cn.ar.rec fun cw cC k b=>?_
 refine rU (VW b) fun P Z co=>?_;subst co
 refine PG be k fun L fB b5 g=>?_
 refine zb ?_
 refine⟨fun cr dw=>ct dw,?_⟩
 have S:b6 G w u q [] n ac.heap n L:=b6.aZ e g
 obtain⟨an,V,⟨am,b8⟩,X⟩:=b5.at'
 obtain⟨ci,bb,h,bx,ch⟩:ly V an.size∧ ∃bb,(g0 w ac.heap.objs.size am an).length=an.size∧ll (g0 w ac.heap.objs.size am an) bb∧bb.Perm (if R=f then [R] else [R,f]):=by
  rcases X with ⟨cz,dw,al,J⟩ | ⟨cz,dw,E,⟨N,al,J⟩ | ⟨N,al,J⟩⟩
  ·subst al J
   refine⟨U5 dw,[R],by rw [Jj];rfl,by rw [Jj];exact .cons R _ .nil,by rw [if_pos cz]⟩
  ·subst al J
   refine⟨IM dw E N,?_⟩
   rcases Jk w ac.heap.objs.size am (gg G w R,qB R P) (gg G w f,qB f Z) with d | d
   ·refine⟨[R,f],by rw [d];rfl,by rw [d];exact .cons _ _ (.cons _ _ .nil),by rw [if_neg cz]⟩
   ·refine⟨[f,R],by rw [d];rfl,by rw [d];exact .cons _ _ (.cons _ _ .nil),by rw [if_neg cz];exact List.Perm.swap ..⟩
  ·subst al J
   refine⟨IM E dw N,?_⟩
   rcases Jk w ac.heap.objs.size am (gg G w f,qB f Z) (gg G w R,qB R P) with d | d
   ·refine⟨[f,R],by rw [d];rfl,by rw [d];exact .cons _ _ (.cons _ _ .nil),by rw [if_neg cz];exact List.Perm.swap ..⟩
   ·refine⟨[R,f],by rw [d];rfl,by rw [d];exact .cons _ _ (.cons _ _ .nil),by rw [if_neg cz]⟩
 refine XZ (r:= {ac with heap:=L,toks:=fB}) be b8 ci h bx fun bv cB bm cm cA y cb c ce ca cf D=>?_
 obtain rfl:=XY (cf.trans ch) D
 have bk:b6 G w u q [] n L n bv:=b6.aZ S.st cb
 have bi:=(C.trans S).trans bk
 refine ui ((C.trans S).bg c) fun bn bu i j=>?_
 exact⟨_,_,ap bm i,.val _,bi.adopt bn bu j (o:= .list ((p6 R f).map .int)) ⟨cm,y,(),ce,VV ca⟩,⟨bd.gens,bd.os⟩⟩
end
end
section
set_option tactic.hygienic true
section
structure cK (G:d7) (w:di) (u:cO) (C:Nat) (v:b7) (sp:Spec):Prop where
 ok:f6 G w u v
 sp: ∀A,C≤A→gu G w u A v sp
structure fq (G:d7) (w:di) (u:cO) (C:Nat) (v:b7) (sp:Spec):Prop where
 ok:f6 G w u v
 sp: ∀A,C≤A→l7 G w u A v sp
theorem cK.of(c:f6 G w u b8)(k: ∀A,C+1≤A→ie G w u (A+1) b8 e4):cK G w u (C+2) b8 e4:=
 ⟨c,fun A v=>by
  obtain⟨y,rfl⟩: ∃y,A=y+1:=⟨A - 1,Hh v⟩
  exact(k y (by(exact uT v))).call⟩
theorem fq.of(c:f6 G w u b8)(k: ∀A,C+1≤A→ke G w u (A+1) b8 e4):fq G w u (C+2) b8 e4:=
 ⟨c,fun A v=>by
  obtain⟨y,rfl⟩: ∃y,A=y+1:=⟨A - 1,Hh v⟩
  exact(k y (by(exact uT v))).call⟩
theorem cp(C:dc≤A)(T:nP il dc=true):il≤A:=cg (b9 T) C
theorem et(l:cK G w u C b8 e4)(v:C≤A)(k:e4 n q x bx):f6 G w u b8∧ ∃e4,gu G w u A b8 e4∧e4 n q x bx:=⟨l.ok,e4,l.sp A v,k⟩
theorem mg(l:fq G w u C b8 e4)(v:C≤A)(k:e4 n q x bx):f6 G w u b8∧ ∃e4,l7 G w u A b8 e4∧e4 n q x bx:=⟨l.ok,e4,l.sp A v,k⟩
theorem wg:cK G w u 1 (.type "bytes") (fun b B L F=>Aw b B L):=⟨kj _,fun A v=>X3 (by(assumption))⟩
theorem gQ(y:jC u):cK G w u 1 (.builtin "len") (fun b B L F=>tw b B L):=⟨gD _,fun A v=>X7 y⟩
theorem Hd:cK G w u 1 (.type "bytes") (fun b B L F=>Ax b B L):=⟨kj _,fun A v=>X4⟩
theorem Ak:fq G w u 1 (.type "bytearray") (fun b B L F=>HL b B L):=⟨kj _,fun A v=>X2⟩
theorem Al:cK G w u 1 (.type "tuple") (fun b B L F=>AD b B L):=⟨kj _,fun A v=>Yd⟩
theorem Hg:cK G w u 1 (.type "str") (fun b B L F=>HU b B L):=⟨kj _,fun A v=>Yb⟩
theorem RO:cK G w u 1 (.builtin "sum") (fun b B L F=>AB b B L):=⟨gD _,fun A v=>Yc (by(assumption))⟩
theorem RN:cK G w u 1 (.builtin "max") (fun b B L F=>HS b B L):=⟨gD _,fun A v=>X9 (by(assumption))⟩
theorem He:cK G w u 1 (.builtin "isinstance") (fun b B L F=>Az b B L):=⟨gD _,fun A v=>X6⟩
end
section
theorem jG(Z:q z=ab (.list n))(k:dh V q (fun b v=>tq (.val (.ref z)) b v x) bx):ko G w u cf A "append" dh V x bx (.val (.ref z)) q:=by
 unfold ko;simp only [Z];exact⟨trivial,k⟩
theorem rB(Z:q z=ab (.dict s))(k:dh V q (fun b v=>mi (.val (.ref z)) b v x) bx):ko G w u cf A "get" dh V x bx (.val (.ref z)) q:=by
 unfold ko;simp only [Z];exact⟨trivial,k⟩
theorem TQ(Z:iS (q z)=ab ft)(k:dh V q (fun b v=>mi (.val (.ref z)) b v x) bx):ko G w u cf A "get" dh V x bx (.val (.ref z)) q:=by
 unfold ko
 induction P:q z with
 | none=>rw [P] at Z;contradiction
 | some o=>
  rw [P] at Z
  cases o<;>first | (simp only [P];exact⟨trivial,k⟩) | (contradiction;done) | (simp [iS] at Z)
theorem wI {f:a0}(W:q z=ab (.inst E O))(K:q O=ab (.dict s))(C:cL s t=ao)(y:vy cf E t f)(c:f6 G w u (.ref f))
 (k:dh V q (fun b v=> ∃sp,gu G w u A (.ref f) sp∧sp (.val (.ref z)::b) v x bx) bx):ko G w u cf A t dh V x bx (.val (.ref z)) q:=by
 unfold ko;simp only [W,K];exact⟨C,f,y,c,k⟩
theorem TP {f:a0}(W:q z=ab (.inst E O))(K:q O=ab (.dict s))(C:cL s t=ao)(y:vy cf E t f)(c:f6 G w u (.ref f))
 (k:dh V q (fun b v=> ∃sp,l7 G w u A (.ref f) sp∧sp (.val (.ref z)::b) v x bx) bx):rA G w u cf A t dh V x bx (.val (.ref z)) q:=by
 unfold rA;simp only [W,K];exact⟨C,f,y,c,k⟩
theorem dA(l:cK G w u C b8 e4)(v:C≤A)(k:e4 n q x bx):mv G w u A b8 x bx n q:=⟨e4,l.sp A v,k⟩
theorem t4(l:fq G w u C b8 e4)(v:C≤A)(k:e4 n q x bx):xj G w u A b8 x bx n q:=⟨e4,l.sp A v,k⟩
end
def Q (m:List a0) (B e:J):Prop:= ∀R o,R ∉ m→B R=ab o→e R=ab o
theorem Q.refl(B:J):Q U B B:=fun F F F Z=>Z
theorem Q.trans(S:Q U q M)(s:Q U M eo):Q U q eo:=fun R o X Z=>s R o X (S R o X Z)
theorem Q.mono(S:Q U q M)(X: ∀R ∈ U,R ∈ en):Q en q M:=fun R o I Z=>S R o (fun P=>I (X R P)) Z
theorem Q.new {S:List a0} {o:dE}(X:q z=ao):Q S q (q.set z o):=fun R p F Z=>by
 rw [J.ag _ _ (fun P=>by subst P;have n:=X.symm.trans Z;contradiction)];exact Z
theorem Q.set {o:dE}(k:Q U q M)(X:q z=ao):Q U q (M.set z o):=fun R p I Z=>by
 rw [J.ag _ _ (fun P=>by subst P;have n:=X.symm.trans Z;contradiction)];exact k R p I Z
theorem Q.wr {o:dE}(k:Q U q M)(X:z ∈ U):Q U q (M.set z o):=fun R p I Z=>by
 rw [J.ag _ _ (fun P=>by subst P;exact I X)];exact k R p I Z
theorem Q.none(k:Q U q M)(X:M z=ao)(I:z ∉ U):q z=ao:=by
 induction P:q z with
 | none=>rfl
 | some o=>have n:=(k z o I P).symm.trans X;contradiction
noncomputable def dE.soft:dE→Bool
 | .list _=>true
 | .aJ _=>true
 | .ay _=>true
 | _=>false
def i3 (B e:J):Prop:= ∀R o,dE.soft o=false→B R=ab o→e R=ab o
theorem Q.h(k:Q [] q M):i3 q M:=fun R o F Z=>k R o (by simp) Z
theorem Q.hs(k:Q U q M)(A: ∀R ∈ U,∀o,q R=ab o→dE.soft o=true):i3 q M:=fun R o X Z=>k R o (fun P=>by have n:=(A R P o Z).symm.trans X;contradiction) Z
noncomputable def J.minus (B C:J):J:=fun f=>if C f=ao then B f else ao
noncomputable def J.del (B:J) (m:List a0):J:=fun f=>if f ∈ m then ao else B f
theorem Ii:Q [] (q.minus M) q:=fun R o F Z=>by unfold J.minus at Z;split at Z<;>first | exact Z | contradiction
theorem AJ {o:dE}(Z:(q.minus M) z=ab o):M z=ao∧q z=ab o:=by unfold J.minus at Z;split at Z<;>first | exact⟨by assumption,Z⟩ | contradiction
theorem pP {o:dE}(Z:q z=ab o)(I:M z=ao):(q.minus M) z=ab o:=by unfold J.minus;rw [if_pos I];exact Z
theorem TU(k:Q [] eo M):Q [] (q.minus M) (q.minus eo):=fun R o F Z=>by
 obtain⟨I,Z⟩:=AJ Z;exact pP Z (k.none I (by simp))
theorem TS(k:Q [] q M):Q [] (q.minus eo) (M.minus eo):=fun R o F Z=>by
 obtain⟨I,Z⟩:=AJ Z;exact pP (k _ _ (by simp) Z) I
theorem TV {o:dE}(I:M z=ao):(q.set z o).minus M=(q.minus M).set z o:=by
 funext b;unfold J.minus J.set;by_cases P:b=z
 ·subst P;simp [I]
 ·simp [P]
theorem z8(k:Q U q M):Q [] (q.del U) (M.del U):=fun R o F Z=>by
 unfold J.del at Z ⊢;split at Z
 ·contradiction
 ·rename_i P;rw [if_neg P];exact k R o P Z
theorem GI:Q [] (q.del U) q:=fun R o F Z=>by unfold J.del at Z;split at Z<;>first | exact Z | contradiction
theorem Ih(X: ∀R ∈ U,M R≠ao):Q [] (q.minus M) (q.del U):=fun R o F Z=>by
 obtain⟨I,Z⟩:=AJ Z
 unfold J.del;rw [if_neg (fun P=>X R P I)];exact Z
theorem J.ne {o:dE}(X:q z=ab o)(t:q E=ao):z≠E:=fun P=>by subst P;have n:=X.symm.trans t;contradiction
theorem gj.keep(X:gj df n q)(k:Q U q M)(I: ∀r,df=ab r→r ∉ U):gj df n M:=by
 induction df with
 | none=>trivial
 | some r=>
  show fL (M r)=ab n
  have L:fL (q r)=ab n:=X
  induction P:q r with
  | none=>rw [P] at L;contradiction
  | some o=>rw [k r o (I r rfl) P,←P];exact L
theorem lQ(X:q z=ab (.list n)):gj (ab z) n q:=by show fL (q z)=ab n;rw [X];rfl
theorem th(B g:c2→D)(y:gj df n q)
 (j:List c2)(A:List D)(X: ∀d ∈ j,∀P:KK,P (g d) q→cI (ab (B d)::V) q P mn)(k:iH (A++j.map g) q):iC cI ao df n (j.map B) A V q iH:=by
 induction j generalizing A with
 | nil=>rw [yh,fI] at k;exact k
 | cons d j o=>exact X d er _ ⟨y,o (A++ [g d]) (fun Z a=>X Z (fJ _ a)) (by rw [fH];exact k)⟩
theorem ints_map(g:c2→Int): ∀N:List c2,jn (N.map fun a=> .int (g a))=ab (N.map g)
 | []=>rfl
 | a::N=>by rw [gq,jn,ints_map g N];rfl
theorem lo1:i4 1:=by unfold i4;decide
theorem jo(X: -18446744073709551616 < B)(L:B < 18446744073709551616):ib B:=by
 unfold ib
 rcases Int.natAbs_eq B with e | e
 ·exact gp.mp (e▸L)
 ·exact gp.mp (Int.neg_lt_neg_iff.mp (e▸X))
theorem jq(L:List D→Loc→J→Prop)(G: ∀Y B,L [] Y B→cR Y B)
 (W: ∀d j Y B (C:Loc→J→Prop),L (d::j) Y B→(∀E e,L j E e→gj df n e→C E e)→match iJ Y d with
  | some E=>eh E B C x fM
  | none=>False): ∀j Y B,L j Y B→eS iJ eh df n cR x j Y B
 | [],Y,B,h=>G Y B h
 | d::j,Y,B,h=>W d j Y B (fun F A=>gj df n A∧eS iJ eh df n cR x j F A) h fun E e l y=>⟨y,jq L G W j E e l⟩
theorem rq {L:List D→J→KK→KK→Prop}(X:L y q x bx)(Z:n=y):L n q x bx:=Z▸X
end
section
noncomputable abbrev iQ:=List (PySem.Str×mF)
structure eQ (env:eP) (kd:iQ):Prop where
 nm:env.scope.names=kd
 fn:env.scope.kind= .function
 glob:env.globals=hB
 blt:env.builtins=kH
 cell: ∀y,kd.lookup y=ab .cell∨kd.lookup y=ab .free→(env.cells.lookup y).isSome=true
variable {bu:iQ}
theorem eQ.k(O:eQ H bu)(S:PySem.Str):H.kindOf S=bu.lookup S:=by unfold Env.kindOf;rw [O.nm]
noncomputable def kV (x:ey) (B:iQ) (S:PySem.Str):Option b7:=
 if (S == ("__debug__" :PySem.Str))=false∧B.lookup S=ab .globalImplicit then
  match nsIn x hB S with
  | some (ab v)=>ab v
  | some ao=>if S= "__name__" then ao else vg S
  | none=>ao
 else ao
noncomputable def xD (B:iQ) (K:List PySem.Str) (S:PySem.Str):W:=
 if (S == ("__debug__" :PySem.Str))=false∧(S == ("__classdict__" :PySem.Str))=false∧(B.lookup S=ab .local∨B.lookup S=ab .cell∨B.lookup S=ab .free) then
  match fo K S with
  | some i=>g4 i
  | none=>ub
 else ub
noncomputable def uh (x:ey) (B:iQ) (K:List PySem.Str) (S:PySem.Str):W:=match kV x B S with
 | some v=>fQ (.val v)
 | none=>xD B K S
set_option genCtorIdx false in
inductive vF (p:Prop):Type
 | y (h:p)
 | n
def En (Z:cT):Prop:=(∀j C,dF (Z::j) C=(false,cy Z C)::dF j C)∧(∀o P,qT Z false o P=pg [o,P] (mK o P))∧(∀V N C,iO Z V N C=pure false)∧(∀C S,qN Z C S=pure S)
def vu (Z:cT):Prop:=(∀j C,dF (Z::j) C=(false,cy Z C)::dF j C)∧(∀C S,qN Z C S=pure S)
def NV (Z:cT):Prop:= ∀T k x C,ob [.Tuple T k x] Z C=pure ao
def NT (Z:cT):Prop:= ∀C V,isTrue Z C V=(do let M←V;oa Z.pos;mL [M] (truthy M))
def NS (Z:cT):Prop:= ∀R C V,ve Z R C V=V
set_option genCtorIdx false in
inductive dS:cT→Type
 | name (x:PySem.Str) (p:e5):dS (.Name x p)
 | call (f:cT) (as:List cT) (p:e5):dS (.Call f as [] p)
 | attr (o:cT) (a:PySem.Str) (p:e5):dS (.Attribute o a p)
 | sub (x i:cT) (p:e5):dS (.Subscript x i p)
 | tup (es:List cT) (k:Nat) (p:e5):dS (.Tuple es k p)
 | comp (elt:cT) (g:so) (s:mH) (p:e5):dS (.ListComp elt [g] s p)
 | slice (a b:Option cT) (p:e5):dS (.Slice a b ao p)
 | const (c:Const) (k:Nat) (p:e5):dS (.Constant c k p)
 | bad (e:cT):dS e
 | other (e:cT) (g:En e) (g':NV e):dS e
noncomputable section
noncomputable def view (Z:cT):dS Z:=by
 cases Z with
 | Name=>exact .name _ _
 | Call f B r p=>cases r with
  | nil=>exact .call _ _ _
  | cons=>exact .bad _
 | Attribute=>exact .attr _ _ _
 | Subscript=>exact .sub _ _ _
 | Tuple=>exact .tup _ _ _
 | ListComp a L=>cases L with
  | nil=>exact .bad _
  | cons g j=>cases j with
   | nil=>exact .comp _ _ _ _
   | cons=>exact .bad _
 | Slice a b s=>cases s with
  | none=>exact .slice _ _ _
  | some=>exact .bad _
 | Constant=>exact .const _ _ _
 | Starred=>exact .bad _
 | Set=>exact .bad _
 | SetComp=>exact .bad _
 | DictComp=>exact .bad _
 | _=>exact .other _ ⟨fun F F=>rfl,fun F F=>rfl,fun F F F=>rfl,fun F F=>rfl⟩ fun F F F F=>rfl
noncomputable def tn (Z:cT):vF (En Z):=by
 induction view Z with
 | comp=>exact .n
 | slice=>exact .n
 | bad=>exact .n
 | other _ g=>exact .y g
 | _=>exact .y ⟨fun F F=>rfl,fun F F=>rfl,fun F F F=>rfl,fun F F=>rfl⟩
noncomputable def oD (Z:cT):vF (vu Z):=by
 induction view Z with
 | slice=>exact .n
 | bad=>exact .n
 | other _ g=>exact .y ⟨g.1,g.2.2.2⟩
 | _=>exact .y ⟨fun F F=>rfl,fun F F=>rfl⟩
noncomputable def U9 (Z:cT):vF (NT Z):=by
 induction view Z with
 | bad=>exact .n
 | other=>exact .n
 | _=>exact .y fun F F=>rfl
noncomputable def zQ (Z:cT):vF (NS Z):=by
 induction view Z with
 | call=>exact .n
 | bad=>exact .n
 | other=>exact .n
 | _=>exact .y fun F F F=>rfl
noncomputable def nq (Z:cT):Bool:=match oD Z with
 | .y _=>true
 | .n=>false
theorem Ho(X:nq cz=true):vu cz:=by
 unfold nq at X
 induction P:oD cz with
 | y g=>exact g
 | n=>rw [P] at X;contradiction
set_option genCtorIdx false in
inductive zu:cT→Type
 | yes (x:PySem.Str) (p:e5):zu (.Name x p)
 | no (e:cT):zu e
noncomputable def m8 (Z:cT):zu Z:=by
 induction view Z with
 | name S p=>exact .yes S p
 | _=>exact .no _
set_option genCtorIdx false in
inductive zw {α:Type}:List α→Type
 | yes (a:α):zw [a]
 | no (l:List α):zw l
noncomputable def one (N:List c2):zw N:=by
 cases N with
 | nil=>exact .no _
 | cons a j=>cases j with
  | nil=>exact .yes a
  | cons=>exact .no _
end
section
structure Top (G:d7) (w:di) (u:cO) (cf:ey) (A:Nat):Prop where
 X:cf.In u
 bl: ∃mb,u.Ns kH mb∧ ∀x:PySem.Str,x≠ "__name__" →mb x=vg x
 T:jC u
 hn:0 < A
theorem rx(p:Top G w u cf A)(O:eQ H bu)(X:kV cf bu t=ab b8):eJ (bD G w) u (cy (.Name t cD) H) b8:=by
 unfold kV at X
 by_cases d:(t == ("__debug__" :PySem.Str))=false∧bu.lookup t=ab .globalImplicit
 ·rw [if_pos d] at X
  induction P:nsIn cf hB t with
  | none=>rw [P] at X;contradiction
  | some o=>induction o with
   | some B=>rw [P] at X;obtain rfl:=c4 X;exact Ts p.X d.1 O.glob O.fn ((O.k t).trans d.2) P
   | none=>
    rw [P] at X
    by_cases s:t= "__name__"
    ·have n:=(if_pos s).symm.trans X;contradiction
    ·exact H7 p.X p.bl d.1 O.glob O.blt O.fn ((O.k t).trans d.2) P ((if_neg s).symm.trans X) s
 ·have n:=(if_neg d).symm.trans X;contradiction
theorem KA(O:eQ H bu)(S:PySem.Str)(D:e5):c5 G w u A H I (cy (.Name S D) H) (xD bu I S):=by
 unfold xD
 by_cases d:(S == ("__debug__" :PySem.Str))=false∧(S == ("__classdict__" :PySem.Str))=false∧(bu.lookup S=ab .local∨bu.lookup S=ab .cell∨bu.lookup S=ab .free)
 ·rw [if_pos d]
  induction P:fo I S with
  | none=>exact Bk _
  | some i=>exact tY d.1 (rN P (by rw [O.k];exact d.2.2) d.2.1)
 ·rw [if_neg d];exact Bk _
theorem Ca(p:Top G w u cf A)(O:eQ H bu)(S:PySem.Str)(D:e5):c5 G w u A H I (cy (.Name S D) H) (uh cf bu I S):=by
 unfold uh
 induction P:kV cf bu S with
 | some v=>exact JC (rx p O P)
 | none=>exact KA O S D
theorem p7: ∀ {T:List cT},T.all nq=true→(e9 cD (dF T H)).any (·.1)=false
 | [],_=>rfl
 | e::j,h=>by
  rw [ya,oS] at h
  rw [(Ho h.1).1]
  exact p7 h.2
theorem t6: ∀ {T:List cT},T.all nq=true→T= []∨ ∃e j,T=e::j∧dF (e::j) H=(false,cy e H)::dF j H
 | [],_=> .inl rfl
 | e::j,h=>by
  rw [ya,oS] at h
  exact .inr ⟨e,j,rfl,(Ho h.1).1 _ _⟩
theorem oC(X:cN.all nq=true)(N:cN.length < 30):vl (cN.length+([]:List u3).length) (e9 cD (dF cN H)) (qG cD (qO [] H))=true:=by
 unfold vl
 rw [←List.not_any_eq_all_not,p7 X]
 exact decide_eq_true N
end
end
variable {bu:iQ}
variable {aaz nC:iQ}
section
set_option tactic.hygienic true
noncomputable def ni (B C:iQ):iQ:=C.map fun(I,k)=>if (k == qy && B.lookup I == ab .cell) then (I,mG) else (I,k)
noncomputable def kl (A:List (PySem.Str×a0)):iQ→List (PySem.Str×a0)→List (PySem.Str×a0)
 | [],cM=>cM
 | (y,k)::j,cM=>kl A j (if k= .free then (y,(A.lookup y).getD 0)::cM else cM)
noncomputable def mX:iQ→List PySem.Str
 | []=> []
 | (y,k)::j=>if k= .cell then y::mX j else mX j
noncomputable def wX (B C:iQ) (S:PySem.Str) (s:PySem.Str×mF):Bool:=match s.2 with
 | .local=>decide (C.lookup s.1=ab .local)
 | .free=>decide ((B.lookup s.1=ab .cell∨B.lookup s.1=ab .free)∧s.1≠S)
 | _=>true
noncomputable def rf (B:iQ) (U:mH) (S:PySem.Str) (K:List PySem.Str):Bool:=
 decide (U.kind= .function) && U.names.all (wX B U.names S) &&
 decide (mX U.names=if U.names.lookup S=ab .cell then [S] else []) && decide (U.names.lookup S=ab .local∨U.names.lookup S=ab .cell) &&
 K.all fun s=>decide (s=S∨(U.names.lookup s≠ab .local∧U.names.lookup s≠ab .cell))
theorem PJ(S:PySem.Str)(M:a0)(C:iQ)(A:List (PySem.Str×a0)):(mX C= []→qJ M C A=A)∧(mX C= [S]→qJ M C A=(S,M)::A):=by
 induction C generalizing S M A with
 | nil=>exact⟨fun F=>rfl,fun X=>nomatch X⟩
 | cons p j o=>
  obtain⟨s,k⟩:=p
  unfold mX qJ
  by_cases X:k= .cell
  ·rw [if_pos X,if_pos (by rw [X];rfl)]
   refine⟨fun X=>(nomatch X),fun X=>?_⟩
   obtain⟨rfl,L⟩:=sb X
   exact(o s _ _).1 L
  ·rw [if_neg X,if_neg (by simpa using X)]
   exact o S M A
section
theorem GD(O:eQ H bu) {acc:List (PySem.Str×a0)}(X: ∀s ∈ nC,wX bu aaz t s=true)(W: ∀s i,acc.lookup s=ab i→H.cells.lookup s=ab i)(K:acc.lookup t=ao):
 (∀s i,(kl H.cells nC acc).lookup s=ab i→H.cells.lookup s=ab i)∧(kl H.cells nC acc).lookup t=ao∧(∀s,(s,qy) ∈ nC∨(acc.lookup s).isSome=true→((kl H.cells nC acc).lookup s).isSome=true):=by
 induction nC generalizing acc with
 | nil=>exact⟨W,K,fun s X=>X.elim (fun d=>nomatch d) id⟩
 | cons p j o=>
  obtain⟨s,k⟩:=p
  have P:=X _ er
  have L:=fun d U=>X d (fJ _ U)
  unfold kl
  by_cases g:k= .free
  ·subst g
   have P:=of_decide_eq_true P
   obtain⟨i,b⟩:=nU.mp (O.cell s P.1)
   rw [if_pos rfl,b]
   obtain⟨c,B,J⟩:=o (acc:=(s,i)::acc) L (fun d T Z=>by
    rw [j4] at Z
    split at Z
    ·rename_i f;rw [beq_iff_eq.mp f,←Z];exact b
    ·exact W d T Z) (by rw [j4,beq_eq_false_iff_ne.mpr fun d=>P.2 d.symm];exact K)
   refine⟨c,B,fun d U=>J d (U.elim (fun U=>(gr.mp U).elim (fun Z=> .inr ?_) .inl) fun U=> .inr ?_)⟩
   ·rw [(Prod.mk.inj Z).1,j4,beq_self_eq_true];rfl
   ·rw [j4]
    split
    ·rfl
    ·exact U
  ·rw [if_neg g]
   refine gz (o L W K) fun c B J=>?_
   exact⟨c,B,fun d U=>J d (U.imp (fun U=>(gr.mp U).elim (fun Z=>absurd (Prod.mk.inj Z).2.symm g) id) id)⟩
theorem PM(O:eQ H bu) {acc:List (PySem.Str×a0)}(X: ∀s ∈ nC,wX bu aaz t s=true):
 (forIn nC acc fun(s:PySem.Str×mF) (A:List (PySem.Str×a0))=>(if s.2 == .free then (do let R←vi H s.1;pure (x3 ((s.1,R)::A))) else pure (x3 A):ej _))=pure (kl H.cells nC acc):=by
 induction nC generalizing acc with
 | nil=>rfl
 | cons p j o=>
  obtain⟨s,k⟩:=p
  have o:=fun acc=>o (acc:=acc) fun d U=>X d (fJ _ U)
  have P:=X _ er
  rw [CY]
  unfold kl
  by_cases g:k= .free
  ·subst g
   obtain⟨i,b⟩:=nU.mp (O.cell s (of_decide_eq_true P).1)
   have Z:vi H s=pure i:=by unfold vi;rw [b]
   rw [if_pos rfl,b]
   show(vi H s >>=_) >>=_=_
   rw [Z]
   exact o _
  ·rw [if_neg g]
   rw [if_neg (by simpa using g)]
   exact o _
theorem z6(O:eQ H bu)(X:rf bu c8 t I=true):oj H c8 t (kl H.cells c8.names []) I:=by
 unfold rf at X
 simp only [oS,decide_eq_true_eq,sa] at X
 obtain⟨⟨⟨⟨W,K⟩,C⟩,n⟩,e⟩:=X
 refine gz (GD O K (acc:= []) (fun F F Z=>nomatch Z) rfl) fun c B J=>?_
 refine⟨?_,W,fun s D Z=>?_,n,fun N E=>?_,fun s D L=>⟨?_,fun G=>⟨?_,?_⟩⟩,B,c⟩
 ·have P:=PM O (acc:= []) K
  show(forIn c8.names ([]:List (PySem.Str×a0)) (fun(s:PySem.Str×mF) (A:List (PySem.Str×a0))=>(if s.2 == .free then (do let R←vi H s.1;pure (x3 ((s.1,R)::A))) else pure (x3 A):ej _)) >>=pure)=_
  rw [P]
  rfl
 ·have:=K s D
  unfold wX at this
  rw [Z] at this
  exact of_decide_eq_true this
 ·unfold fw
  have P:=PJ t (N+1) c8.names E
  split
  ·rename_i d;rw [if_pos d] at C;exact P.2 C
  ·rename_i d;rw [if_neg d] at C;exact P.1 C
 ·exact(e s D).resolve_left L
 ·rw [O.k];exact(of_decide_eq_true (K _ (kW G))).1
 ·obtain⟨i,b⟩:=nU.mp (J s (.inl (kW G)))
  rw [b,c s i b]
theorem eQ.comp(O:eQ H bu)(X:rf bu c8 t I=true)(M:a0):eQ (jm c8 (fw c8 t (kl H.cells c8.names []) M) M H) (ni bu c8.names):=by
 have k:=z6 O X
 have Z:(y4 c8 H).names=ni bu c8.names:=by
  unfold y4 ni
  simp only [O.fn,O.k,beq_self_eq_true,K9]
 refine⟨Z,k.kind,O.glob,O.blt,fun s D=>?_⟩
 unfold rf at X
 simp only [oS,decide_eq_true_eq,sa] at X
 obtain⟨⟨⟨⟨W,K⟩,C⟩,n⟩,e⟩:=X
 refine gz (GD O K (acc:= []) (fun F F Z=>nomatch Z) rfl) fun c B J=>?_
 show((fw c8 t (kl H.cells c8.names []) M).lookup s).isSome=true
 have L:(kl H.cells c8.names []).lookup s≠ao→((fw c8 t (kl H.cells c8.names []) M).lookup s).isSome=true:=fun P=>by
  unfold fw
  split
  ·rw [j4]
   split
   ·rfl
   ·exact Dk.mpr P
  ·exact Dk.mpr P
 rw [←Z] at D
 unfold y4 at D
 simp only [I3] at D
 induction P:c8.names.lookup s with
 | none=>rw [P] at D;simp at D
 | some S=>
  have m:S= .free→((fw c8 t (kl H.cells c8.names []) M).lookup s).isSome=true:=fun A=>L (Dk.mp (J s (.inl (kW (A▸P)))))
  induction S with
  | free=>exact m rfl
  | cell=>
   have y:s ∈ mX c8.names:=by
    have: ∀nm:iQ,(s,mG) ∈ nm→s ∈ mX nm:=by
     intro nm
     induction nm with
     | nil=>intro X;cases X
     | cons a j o=>
      intro X
      unfold mX
      rcases gr.mp X with Z | X
      ·rw [←Z,if_pos rfl];exact er
      ·split
       ·exact fJ _ (o X)
       ·exact o X
    exact this _ (kW P)
   unfold fw
   by_cases d:c8.names.lookup t=ab .cell
   ·rw [if_pos d] at C ⊢
    rw [C] at y
    rw [gW.mp y,j4,beq_self_eq_true];rfl
   ·rw [if_neg d] at C;rw [C] at y;contradiction
  | «local»=>rw [P] at D;simp at D
  | globalExplicit=>rw [P] at D;simp at D
  | globalImplicit=>rw [P] at D;simp at D
end
end
section
noncomputable def wM:g9:=fun F F F F=>False
noncomputable def AM:gC:=fun F F F F=>False
noncomputable def tJ:eV:=fun F F F F F=>False
noncomputable def HC (U:String) (M:Option b7):Bool:=match M with
 | some (.builtin V)=>V == U
 | _=>false
noncomputable def isT (U:String) (M:Option b7):Bool:=match M with
 | some (.type V)=>V == U
 | _=>false
theorem So(X:HC gn fF=true):fF=ab (.builtin gn):=by
 cases fF with
 | none=>exact absurd X fv
 | some fF=>cases fF with
  | builtin V=>exact congrArg (fun S=>ab (su S)) (beq_iff_eq.mp X)
  | _=>exact absurd X fv
theorem Au(X:isT gn fF=true):fF=ab (.type gn):=by
 cases fF with
 | none=>exact absurd X fv
 | some fF=>cases fF with
  | type V=>exact congrArg (fun S=>ab (DA S)) (beq_iff_eq.mp X)
  | _=>exact absurd X fv
section
theorem XJ:c5 G w u A H I jb ub:=Bk jb
theorem Bl:i5 G w u A H I r1 wM:=fun F F F F F F F F F F X=>X.elim
theorem JE:iR G w u A H I qg AM:=fun F F F F F F F F F F X=>X.elim
theorem xe:fX G w u A H I r2 tJ:=fun F F F F F F F F F F F F X=>X.elim
theorem J5 {o:cT}:iO cz (ab (.Attribute o t cD)) C H=pure false:=by cases cz<;>rfl
theorem J6 {o:cT}:iO cz (ab (.Subscript o eu cD)) C H=pure false:=by cases cz<;>rfl
theorem YA {k:Nat}:iO cz (ab (.Tuple cN k cD)) C H=pure false:=by cases cz<;>rfl
theorem Hy(O:eQ H bu):yZ H=false:=by unfold yZ;rw [O.fn];rfl
theorem F6(O:eQ H bu):H.blockKind= .function:=by unfold Ds;rw [O.fn];rfl
end
noncomputable section
section
variable (cX:d7) (cY:di) (da:cO) (fT:Nat) (eH:iQ) (eI:List PySem.Str)
def jQ (S:cT):Type:= {v:W // ∀C,eQ C eH→c5 cX cY da fT C eI (cy S C) v}
def zG (S:List cT):Type:= {v:g9 // ∀C D,eQ C eH→i5 cX cY da fT C eI (ix (e9 D (dF S C))) v}
def sX (S:cT):Type:= {v:gC // ∀C,eQ C eH→iR cX cY da fT C eI (isTrue S C (cy S C)) v}
def zE (S:List cT):Type:= {v:List gC // ∀C,eQ C eH→ou cX cY da fT C eI S v}
def FP (S:cT):Type:= {v:ow // ∀C,eQ C eH→ov cX cY da fT C eI S v}
def zH (S:List iN):Type:= {v:eV // ∀C,eQ C eH→fX cX cY da fT C eI (hX S C) v}
def lA (S:iN):Type:= {v:eV // ∀C,eQ C eH→fX cX cY da fT C eI (gM S C) v}
def zk (S:cT):Type:= {v:W // ∀C,eQ C eH→kc cX cY da fT C eI (cy S C) v}
def NU (S:List cT):Type:= {v:g9 // ∀C D,eQ C eH→pB cX cY da fT C eI (ix (e9 D (dF S C))) v}
def Em (S:cT):Type:= {v:gC // ∀C,eQ C eH→q6 cX cY da fT C eI (isTrue S C (cy S C)) v}
def mQ (S:List iN):Type:= {v:eV // ∀C,eQ C eH→iA cX cY da fT C eI (hX S C) v}
def gN (S:iN):Type:= {v:eV // ∀C,eQ C eH→iA cX cY da fT C eI (gM S C) v}
noncomputable def rS (S:PySem.Str):Option {i:Nat // ∀C,eQ C eH→fo eI S=ab i∧pC C S}:=
 if h:(eH.lookup S=ab .local∨eH.lookup S=ab .cell)∧(fo eI S).isSome=true then ab ⟨(fo eI S).get h.2,fun C O=>⟨(L7 h.2).symm,by
  unfold pC
  rw [O.k]
  exact h.1.imp id fun d=>⟨d,O.cell S (.inl d)⟩⟩⟩ else ao
noncomputable def KC (T:List cT):Option {is:List Nat // ∀C,eQ C eH→kN C eI T is}:=by
 induction T with
 | nil=>exact ab ⟨[],fun F F=> .nil⟩
 | cons e j o=>induction m8 e with
  | no=>exact ao
  | yes S p=>exact match rS eH eI S,o with
   | some i,ab is=>ab ⟨i.1::is.1,fun C O=> .cons (i.2 C O).1 (i.2 C O).2 (is.2 C O)⟩
   | _,_=>ao
noncomputable def aaj (T:List PySem.Str):Option {is:List Nat // ∀C,eQ C eH→ot C eI T is}:=by
 induction T with
 | nil=>exact ab ⟨[],fun F F=> .nil⟩
 | cons S j o=>exact match rS eH eI S,o with
  | some i,ab is=>ab ⟨i.1::is.1,fun C O=> .cons (i.2 C O).1 (i.2 C O).2 (is.2 C O)⟩
  | _,_=>ao
def N:Type:=(∀eH eI S,jQ cX cY da fT eH eI S)×(∀eH eI S,zG cX cY da fT eH eI S)×(∀eH eI S,sX cX cY da fT eH eI S)×(∀eH eI S,zE cX cY da fT eH eI S)×(∀eH eI S,zH cX cY da fT eH eI S)×(∀eH eI S,mQ cX cY da fT eH eI S)
variable {cX cY da fT}
noncomputable def N.e (i:N cX cY da fT): ∀eH eI S,jQ cX cY da fT eH eI S:=i.1
noncomputable def N.l (i:N cX cY da fT): ∀eH eI S,zG cX cY da fT eH eI S:=i.2.1
noncomputable def N.b (i:N cX cY da fT): ∀eH eI S,sX cX cY da fT eH eI S:=i.2.2.1
noncomputable def N.bs (i:N cX cY da fT): ∀eH eI S,zE cX cY da fT eH eI S:=i.2.2.2.1
noncomputable def N.ss (i:N cX cY da fT): ∀eH eI S,zH cX cY da fT eH eI S:=i.2.2.2.2.1
noncomputable def N.sg (i:N cX cY da fT): ∀eH eI S,mQ cX cY da fT eH eI S:=i.2.2.2.2.2
end
section
noncomputable def f9:jQ G w u A bu I cz:=⟨ub,fun F F=>XJ⟩
noncomputable def gE:lA G w u A bu I uF:=⟨tJ,fun F F=>xe⟩
noncomputable def rD:sX G w u A bu I cz:=⟨AM,fun F F=>JE⟩
noncomputable def tI:gN G w u A bu I uF:=⟨tJ,fun F F=>xa xe⟩
set_option genCtorIdx false in
inductive zr:Option cT→Type
 | yes (m k:Nat) (p:e5):zr (ab (.Constant (.int (m:Int)) k p))
 | no (e:Option cT):zr e
noncomputable def Im (Z:Option cT):zr Z:=by
 cases Z with
 | none=>exact .no _
 | some Z=>induction view Z with
  | const c k p=>cases c with
   | int i=>cases i with
    | ofNat m=>exact .yes m k p
    | negSucc=>exact .no _
   | _=>exact .no _
  | _=>exact .no _
set_option genCtorIdx false in
inductive zo:Option cT→Type
 | yes (x:PySem.Str) (k:Nat) (p:e5):zo (ab (.Constant (.str x) k p))
 | no (e:Option cT):zo e
noncomputable def SM (Z:Option cT):zo Z:=by
 cases Z with
 | none=>exact .no _
 | some Z=>induction view Z with
  | const c k p=>cases c with
   | str S=>exact .yes S k p
   | _=>exact .no _
  | _=>exact .no _
set_option genCtorIdx false in
inductive zv (cf:ey) (bu:iQ) (s:Option b7→Bool):cT→Type
 | yes (x:PySem.Str) (p:e5) (a:cT) (q:e5) (h:s (kV cf bu x)=true) (g:vu a):zv cf bu s (.Call (.Name x p) [a] [] q)
 | no (e:cT):zv cf bu s e
noncomputable def GA (cf:ey) (bu:iQ) (U:Option b7→Bool) (Z:cT):zv cf bu U Z:=by
 induction view Z with
 | call f B P=>induction m8 f with
  | no=>exact .no _
  | yes S p=>induction one B with
   | no=>exact .no _
   | yes a=>exact match oD a with
    | .y g=>if h:U (kV cf bu S)=true then .yes S p a P h g else .no _
    | .n=> .no _
 | _=>exact .no _
set_option genCtorIdx false in
inductive vE (G:d7) (w:di) (u:cO) (A:Nat) (bu:iQ) (I:List PySem.Str) (elt:cT) (s:mH):so→Type
 | yes (x:PySem.Str) (px:e5) (iter:cT) (ifs:List cT) (it:FP G w u A bu I iter) (ts:Option gC) (el:jQ G w u A (ni bu s.names) (x::I) elt) (z:rf bu s x I=true) (g:vu iter)
  (ht: ∀env,eQ env (ni bu s.names)→q7 G w u A env (x::I) ifs ts):vE G w u A bu I elt s ⟨.Name x px,iter,ifs,0⟩
 | no (g:so):vE G w u A bu I elt s g
variable (c6:Top G w u cf A) (cb:N G w u A)
include c6 cb
noncomputable def aab (t:cT) (B:List cT) (r:List u3) (D:e5):jQ G w u A bu I (.Call t B r D):=by
 cases r with
 | cons=>exact f9
 | nil=>induction view t with
  | name S p=>
   have F:jQ G w u A bu I (.Call (.Name S p) B [] D):=if h:B.all nq=true then ⟨rR G w u A (uh cf bu I S) (cb.l bu I B).1,fun C O=>Jx (Ca c6 O S p) ((cb.l bu I B).2 C D O) (t6 h) (p7 h)⟩ else f9
   induction one B with
   | no=>exact F
   | yes a=>induction GA cf bu (isT "set") a with
    | no=>exact F
    | yes y P e d h g=>exact if hs:HC "sorted" (kV cf bu S)=true then ⟨B5 (cb.e bu I e).1,fun C O=>Xs c6.T c6.hn (rx c6 O (So hs)) (rx c6 O (Au h)) ((cb.e bu I e).2 C O) rfl (g.1 _ _)⟩ else F
  | attr o name E=>
   refine if h:(E.endLine == D.line)=true∧B.all nq=true∧B.length < 30 then ?_ else f9
   have H:jQ G w u A bu I (.Call (.Attribute o name E) B [] D):=match zQ o with
    | .y g=>⟨xw G w u cf A name (cb.e bu I o).1 (cb.l bu I B).1,fun C O=>Xo c6.X c6.T c6.hn ((cb.e bu I o).2 C O) ((cb.l bu I B).2 C D O) (t6 h.2.1) (p7 h.2.1) (g _ _ _) (oC h.2.1 h.2.2) h.1⟩
    | .n=>f9
   induction m8 o with
   | no=>exact H
   | yes S p=>exact if hi:isT "Exception" (kV cf bu S)=true∧name= "__init__" then ⟨BZ cf (cb.l bu I B).1,fun C O=>by
    rw [hi.2];exact Xl c6.X (rx c6 O (Au hi.1)) ((cb.l bu I B).2 C D O) (t6 h.2.1) (p7 h.2.1) rfl (oC h.2.1 h.2.2) h.1⟩ else H
  | _=>exact f9
noncomputable def aak (r:List (Option cT)) (Q:List cT):Option {l:List (PySem.Str×W) // ∀C,eQ C bu→qX G w u A C I r Q l}:=by
 induction r generalizing Q with
 | nil=>cases Q with
  | nil=>exact ab ⟨[],fun F F=> .nil⟩
  | cons=>exact ao
 | cons k r o=>cases Q with
  | nil=>exact ao
  | cons e Q=>induction SM k with
   | no=>exact ao
   | yes S B p=>exact match o Q with
    | some l=>ab ⟨(S,(cb.e bu I e).1)::l.1,fun C O=> .cons ((cb.e bu I e).2 C O) (l.2 C O)⟩
    | none=>ao
noncomputable def aad (r:List (Option cT)) (Q:List cT) (D:e5):jQ G w u A bu I (.Dict r Q D):=by
 refine match aak (bu:=bu) (I:=I) cb r Q with
 | some l=>if d:l.1.isEmpty=false∧l.1.length≤15∧(l.1.map (·.1)).Nodup then ⟨ua l.1,fun C O=>Xh (l.2 C O) (LD.mp d.1) d.2.1 d.2.2⟩ else ?_
 | none=>f9
 cases r with
 | nil=>cases Q with
  | nil=>exact⟨ua [],fun F F=>Xi⟩
  | cons=>exact f9
 | cons=>exact f9
noncomputable def aam (S J:cT) (D:e5):jQ G w u A bu I (.Subscript S J D):=by
 have H:jQ G w u A bu I (.Subscript S J D):=match tn J with
  | .y g=>⟨uc (cb.e bu I S).1 (cb.e bu I J).1,fun C O=>Xj ((cb.e bu I S).2 C O) ((cb.e bu I J).2 C O) g.2.1⟩
  | .n=>f9
 induction view J with
 | slice R f p=>
  have E: ∀R f,jQ G w u A bu I (.Subscript S (.Slice (ab R) (ab f) ao p) D):=fun R f=>⟨t9 (cb.e bu I S).1 (cb.e bu I R).1 (cb.e bu I f).1,fun C O=>Xf ((cb.e bu I S).2 C O) ((cb.e bu I R).2 C O) ((cb.e bu I f).2 C O)⟩
  cases R with
  | none=>induction Im f with
   | no=>exact f9
   | yes m k P=>induction m8 S with
    | no=>exact f9
    | yes y B=>exact⟨kv (tx m) (cb.e bu I (.Name y B)).1,fun C O=>Xq ((cb.e bu I (.Name y B)).2 C O) fun F F=>rfl⟩
  | some R=>cases f with
   | some f=>exact E R f
   | none=>cases Im (ab R) with
    | no=>exact f9
    | yes m k P=>
     refine if h:m=5 then ⟨kv (m4 m) (cb.e bu I S).1,fun C O=>NH ((cb.e bu I S).2 C O)⟩ else ?_
     induction m8 S with
     | no=>exact f9
     | yes y B=>exact⟨kv (tv m) (cb.e bu I (.Name y B)).1,fun C O=>Xr ((cb.e bu I (.Name y B)).2 C O) fun F F=>rfl⟩
 | _=>exact H
noncomputable def ug (Z:cT):FP G w u A bu I Z:=by
 induction GA cf bu (isT "range") Z with
 | no Z=>exact⟨B0 (cb.e bu I Z).1,fun C O=>WO ((cb.e bu I Z).2 C O)⟩
 | yes S p a P h g=>exact⟨B4 (cb.e bu I a).1,fun C O=>WQ (rx c6 O (Au h)) ((cb.e bu I a).2 C O) (g.1 _ _)⟩
noncomputable def Ku (E:cT) (U:mH) (g:so):vE G w u A bu I E U g:=by
 cases g with
 | mk V iter K a=>induction m8 V with
  | no=>exact .no _
  | yes S P=>cases oD iter with
   | n=>exact .no _
   | y g=>cases a with
    | negSucc=>exact .no _
    | ofNat m=>cases m with
     | succ=>exact .no _
     | zero=>
      refine if d:rf bu U S I=true then ?_ else .no _
      have L: ∀B,(∀C,eQ C (ni bu U.names)→q7 G w u A C (S::I) K B)→vE G w u A bu I E U ⟨.Name S P,iter,K,0⟩:=fun B s=> .yes S P iter K (ug c6 cb iter) B (cb.e (ni bu U.names) (S::I) E) d g s
      cases K with
      | nil=>exact L ao fun F F=>trivial
      | cons V j=>cases j with
       | nil=>exact L (ab (cb.b (ni bu U.names) (S::I) V).1) fun C O=>(cb.b (ni bu U.names) (S::I) V).2 C O
       | cons=>exact .no _
noncomputable def aac (E:cT) (L:List so) (U:mH) (D:e5):jQ G w u A bu I (.ListComp E L U D):=by
 induction one L with
 | no=>exact f9
 | yes g=>induction Ku (bu:=bu) (I:=I) c6 cb E U g with
  | no=>exact f9
  | yes S P iter K k B i d g s=>exact⟨BX k.1 B i.1,fun C O=>Xn c6.hn (z6 O d) (g.2 _) (k.2 C O) (fun N=>i.2 _ (O.comp d N)) fun N=>s _ (O.comp d N)⟩
noncomputable def aae (S:cT):jQ G w u A bu I S:=by
 cases S with
 | Name S p=>exact⟨uh cf bu I S,fun C O=>Ca c6 O S p⟩
 | Constant k H p=>cases k with
  | none=>exact⟨fQ .none,fun F F=>XK⟩
  | bool b=>exact⟨fQ (.bool b),fun F F=>Xz⟩
  | int i=>exact⟨fQ (.int i),fun F F=>xd⟩
  | str s=>exact⟨fQ (.str s),fun F F=>JI⟩
  | bytes b=>exact⟨fQ (.bytes (b.map gs)),fun F F=>XA⟩
  | _=>exact f9
 | UnaryOp K a p=>cases K with
  | USub=>exact⟨kv fY (cb.e bu I a).1,fun C O=>Xu ((cb.e bu I a).2 C O)⟩
  | _=>exact f9
 | BinOp l K j p=>exact⟨rQ K (cb.e bu I l).1 (cb.e bu I j).1,fun C O=>xc ((cb.e bu I l).2 C O) ((cb.e bu I j).2 C O)⟩
 | Compare l ops D p=>induction one ops with
  | no=>exact f9
  | yes K=>induction one D with
   | no=>exact f9
   | yes j=>exact if h:sz K j=false then ⟨BW K (cb.e bu I l).1 (cb.e bu I j).1,fun C O=>Xg c6.T c6.hn ((cb.e bu I l).2 C O) ((cb.e bu I j).2 C O) h⟩ else f9
 | BoolOp K Q p=>cases K with
  | And=>exact f9
  | Or=>cases Q with
   | nil=>exact f9
   | cons a j=>induction one j with
    | no=>exact f9
    | yes b=>exact⟨B3 (cb.e bu I a).1 (cb.e bu I b).1,fun C O=>Xp ((cb.e bu I a).2 C O) ((cb.e bu I b).2 C O)⟩
 | IfExp V a b p=>exact⟨p8 (cb.b bu I V).1 (cb.e bu I a).1 (cb.e bu I b).1,fun C O=>Jy ((cb.b bu I V).2 C O) ((cb.e bu I a).2 C O) ((cb.e bu I b).2 C O)⟩
 | Tuple T k p=>exact⟨p9 (cb.l bu I T).1,fun C O=>Jz ((cb.l bu I T).2 C _ O)⟩
 | List T p=>exact⟨B1 (cb.l bu I T).1,fun C O=>Xm ((cb.l bu I T).2 C _ O)⟩
 | Dict r Q p=>exact aad cb r Q p
 | Attribute o a p=>exact match zQ o with
  | .y g=>⟨kv (gI cf a) (cb.e bu I o).1,fun C O=>Jw c6.X ((cb.e bu I o).2 C O) (g _ _ _)⟩
  | .n=>f9
 | Subscript S i p=>exact aam cb S i p
 | Call f B r p=>exact aab c6 cb f B r p
 | ListComp E L s p=>exact aac c6 cb E L s p
 | _=>exact f9
omit c6 in
noncomputable def Kz (S:List cT):zG G w u A bu I S:=by
 cases S with
 | nil=>exact⟨nv,fun F F F=>Bf⟩
 | cons e j=>exact match oD e with
  | .y g=>⟨jI (cb.e bu I e).1 (cb.l bu I j).1,fun C D O=>Ju ((cb.e bu I e).2 C O) ((cb.l bu I j).2 C D O) (g.1 _ _)⟩
  | .n=>⟨wM,fun F F F=>Bl⟩
noncomputable def Z9 (S:cT):sX G w u A bu I S:=by
 have V:sX G w u A bu I S:=match U9 S with
  | .y g=>⟨zO (cb.e bu I S).1,fun C O=>WJ ((cb.e bu I S).2 C O) (g _ _)⟩
  | .n=>rD
 cases S with
 | UnaryOp K a p=>cases K with
  | Not=>exact⟨zN (cb.b bu I a).1,fun C O=>WH ((cb.b bu I a).2 C O)⟩
  | _=>exact rD
 | BoolOp K Q p=>cases K with
  | And=>exact⟨mU (cb.bs bu I Q).1,fun C O=>WD ((cb.bs bu I Q).2 C O)⟩
  | Or=>exact⟨s9 (cb.bs bu I Q).1,fun C O=>WE ((cb.bs bu I Q).2 C O)⟩
 | Compare l ops b p=>induction one ops with
  | no=>exact rD
  | yes K=>induction one b with
   | no=>exact rD
   | yes j=>exact if h:sz K j=false then ⟨mV K (cb.e bu I l).1 (cb.e bu I j).1,fun C O=>Jr c6.T c6.hn ((cb.e bu I l).2 C O) ((cb.e bu I j).2 C O) h⟩ else rD
 | _=>exact V
omit c6 in
noncomputable def aaa (S:List cT):zE G w u A bu I S:=by
 cases S with
 | nil=>exact⟨[],fun F F=> .nil⟩
 | cons e j=>exact⟨(cb.b bu I e).1::(cb.bs bu I j).1,fun C O=> .cons ((cb.b bu I e).2 C O) ((cb.bs bu I j).2 C O)⟩
end
end
end
section
noncomputable def pK (B:iQ):eP:= {(default:eP) with scope:= {(default:mH) with names:=B,kind:= .function}}
section
theorem HY(O:eQ H bu):H.kindOf=(pK bu).kindOf:=funext O.k
theorem J7(O:eQ H bu) {j:Option (List PySem.Str)}(X:ob cN cz (pK bu)=pure j):ob cN cz H=pure j:=by
 refine Eq.trans ?_ X
 unfold ob
 rw [HY O,(F6 O).trans (show _=(pK bu).blockKind from rfl)]
theorem J8(O:eQ H bu) {g:List so}(X:iO (.ListComp cz g c8 dw) (ab (.Name t cD)) A (pK bu)=pure dJ):iO (.ListComp cz g c8 dw) (ab (.Name t cD)) A H=pure dJ:=by
 refine Eq.trans ?_ X
 unfold iO
 dsimp only
 rw [HY O,(F6 O).trans (show _=(pK bu).blockKind from rfl)]
end
noncomputable section
section
variable (c6:Top G w u cf A) (cb:N G w u A)
noncomputable def aan (T:List cT) (k:Nat) (x D:e5) (H: {H:List Nat // ∀C,eQ C bu→kN C I T H}) (M:cT):lA G w u A bu I (.Assign [.Tuple T k x] M D):=by
 have B: ∀C M,y7 [.Tuple T k x] M D.line C=pure false:=fun C M=>(show iO M (ab (.Tuple T k x)) D.line C=_ from YA)
 have V: ∀M,(∀C,eQ C bu→ob [.Tuple T k x] M C=pure ao)→lA G w u A bu I (.Assign [.Tuple T k x] M D):=fun M z=>⟨tV (gR H.1) (cb.e bu I M).1,fun C O=>W4 c6.hn (B _ _) (z C O) (H.2 C O) ((cb.e bu I M).2 C O)⟩
 induction view M with
 | comp E g s p=>exact⟨tW H.1 (cb.e bu I (.ListComp E [g] s p)).1,fun C O=>W5 c6.hn (B _ _) rfl (H.2 C O) ((cb.e bu I (.ListComp E [g] s p)).2 C O)⟩
 | tup Q r d=>cases h:ob [.Tuple T k x] (.Tuple Q r d) (pK bu) with
  | pure j=>cases j with
   | none=>exact V _ fun C O=>J7 O h
   | some l=>exact match aaj bu I l.reverse with
    | some F=>⟨tV (nt F.1) (cb.e bu I (.Tuple Q r d)).1,fun C O=>W3 c6.hn (B _ _) (J7 O h) (F.2 C O) ((cb.e bu I (.Tuple Q r d)).2 C O)⟩
    | none=>gE
  | _=>exact gE
 | slice=>exact gE
 | bad=>exact gE
 | other _ g J=>exact V _ fun C O=>J _ _ _ _
 | _=>exact V _ fun C O=>rfl
noncomputable def Z8 (S:PySem.Str) (c D:e5) (J: {J:Nat // ∀C,eQ C bu→fo I S=ab J∧pC C S}) (M:cT):lA G w u A bu I (.Assign [.Name S c] M D):=by
 have V:(∀C,eQ C bu→iO M (ab (.Name S c)) D.line C=pure false)→lA G w u A bu I (.Assign [.Name S c] M D):=fun X=>⟨rK J.1 (cb.e bu I M).1,fun C O=>W0 ((cb.e bu I M).2 C O) (J.2 C O).1 (J.2 C O).2 (X C O)⟩
 have H:lA G w u A bu I (.Assign [.Name S c] M D):=match tn M with
  | .y g=>V fun F F=>g.2.2.1 _ _ _
  | .n=>gE
 induction view M with
 | comp E g s Q=>
  cases X:iO (.ListComp E [g] s Q) (ab (.Name S c)) D.line (pK bu) with
  | pure b=>cases b with
   | false=>exact V fun C O=>J8 O X
   | true=>induction Ku (bu:=bu) (I:=I) c6 cb E s g with
    | no=>exact gE
    | yes y P iter K k B i d g R=>exact if L:bu.lookup S=ab .local then ⟨A7 J.1 k.1 B i.1,fun C O=>W2 c6.hn (J.2 C O).1 ((O.k S).trans L) (J8 O X) (z6 O d) (g.2 _) (k.2 C O) (fun N=>i.2 _ (O.comp d N)) fun N=>R _ (O.comp d N)⟩ else gE
  | _=>exact gE
 | _=>exact H
noncomputable def Kt (V M:cT) (D:e5):lA G w u A bu I (.Assign [V] M D):=by
 induction view V with
 | name S p=>exact match rS bu I S with
  | some i=>Z8 c6 cb S p D i M
  | none=>gE
 | attr o a p=>exact⟨tS cf a (cb.e bu I M).1 (cb.e bu I o).1,fun C O=>Xb c6.X ((cb.e bu I M).2 C O) ((cb.e bu I o).2 C O) J5⟩
 | sub o i p=>exact⟨tT (cb.e bu I M).1 (cb.e bu I o).1 (cb.e bu I i).1,fun C O=>Xc c6.hn ((cb.e bu I M).2 C O) ((cb.e bu I o).2 C O) ((cb.e bu I i).2 C O) J6⟩
 | tup T k p=>exact match KC bu I T with
  | some is=>aan c6 cb T k p D is M
  | none=>gE
 | _=>exact gE
noncomputable def KD (v:0 < A) (V:cT):Option {g:kO // ∀C,eQ C bu→s6 G w u A C I (n5 V C) g}:=by
 induction view V with
 | name S p=>exact match rS bu I S with
  | some i=>ab ⟨e6 i.1,fun C O=>Xe (i.2 C O).1 (i.2 C O).2⟩
  | none=>ao
 | tup T k p=>exact match KC bu I T with
  | some is=>ab ⟨gR is.1,fun C O=>Jv v (is.2 C O)⟩
  | none=>ao
 | _=>exact ao
noncomputable def mW:N G w u A:=
 ⟨fun F F F=>f9,fun F F F=>⟨wM,fun F F F=>Bl⟩,fun F F F=>rD,fun F F S=>⟨S.map fun F=>AM,fun F F=>by
  induction S with
  | nil=>exact .nil
  | cons _ _ o=>exact .cons JE o⟩,fun F F F=>⟨tJ,fun F F=>xe⟩,fun F F F=>⟨tJ,fun F F=>xa xe⟩⟩
noncomputable def aaf (x:cf.In u) (cb:N G w u 0) (S:cT):jQ G w u 0 bu I S:=by
 cases S with
 | Name S p=>exact⟨xD bu I S,fun C O=>KA O S p⟩
 | Constant k A p=>cases k with
  | str s=>exact⟨fQ (.str s),fun F F=>JI⟩
  | _=>exact f9
 | BinOp l K j p=>exact⟨rQ K (cb.e bu I l).1 (cb.e bu I j).1,fun C O=>xc ((cb.e bu I l).2 C O) ((cb.e bu I j).2 C O)⟩
 | Tuple T k p=>exact⟨p9 (cb.l bu I T).1,fun C O=>Jz ((cb.l bu I T).2 C _ O)⟩
 | Attribute o a p=>exact match zQ o with
  | .y g=>⟨kv (gI cf a) (cb.e bu I o).1,fun C O=>Jw x ((cb.e bu I o).2 C O) (g _ _ _)⟩
  | .n=>f9
 | _=>exact f9
noncomputable def F9 (x:cf.In u) (k:Nat):N G w u 0:=by
 induction k with
 | zero=>exact mW
 | succ k cb=>exact⟨fun F F=>aaf x cb,fun F F=>Kz cb,cb.2.2⟩
noncomputable def A2 (M:Option b7):a0:=match M with
 | some (.ref a)=>a
 | _=>0
noncomputable def zY (cf:ey) (M:a0):Bool:=isClsIn cf M && decide (instIn cf (.ref M) (.type "tuple")=ab false) && decide (iv cf (.ref M) (.type "BaseException")=ab true)
theorem PI(X:zY cf z=true):zh cf z:=by
 unfold zY at X
 rw [oS,oS] at X
 exact⟨X.1.1,of_decide_eq_true X.1.2,of_decide_eq_true X.2⟩
noncomputable def aai (c6:Top G w u cf A) (y:List yB):Option {l:List (a0×Nat×eV) // ∀C,eQ C bu→qY G w u cf C I y l}:=by
 induction y with
 | nil=>exact ab ⟨[],fun F F=> .nil⟩
 | cons h j o=>cases h with
  | ExceptHandler V nm b pos=>
   cases V with
   | none=>exact ao
   | some V=>cases nm with
    | none=>exact ao
    | some m=>induction m8 V with
     | no=>exact ao
     | yes S p=>induction one b with
      | no=>exact ao
      | yes s=>cases s with
       | Return v=>cases v with
        | none=>exact ao
        | some e=>
         exact match o with
          | none=>ao
          | some l=>if d:kV cf bu S=ab (.ref (A2 (kV cf bu S)))∧zY cf (A2 (kV cf bu S))=true∧bu.lookup m=ab .local∧(fo I m).isSome=true then
           ab ⟨(A2 (kV cf bu S),(fo I m).get d.2.2.2,jZ (lO ((F9 c6.X 9).e bu I e).1) k3)::l.1,fun C O=> .cons (rx c6 O d.1) (PI d.2.1) (L7 d.2.2.2).symm ((O.k m).trans d.2.2.1) (Bh (Bg (((F9 c6.X 9).e bu I e).2 C O)) xb) (l.2 C O)⟩
           else ao
       | _=>exact ao
noncomputable def Cb (U:iN):lA G w u A bu I U:=by
 cases U with
 | Assign B v pos=>induction one B with
  | no=>exact gE
  | yes V=>exact Kt c6 cb V v pos
 | AugAssign V K e pos=>induction m8 V with
  | no=>exact gE
  | yes S p=>exact if h:K= .Add∧(S == ("__classdict__" :PySem.Str))=false then match rS bu I S with
   | some i=>⟨w7 i.1 (cb.e bu I e).1,fun C O=>by rw [h.1];exact W6 ((cb.e bu I e).2 C O) (i.2 C O).1 (i.2 C O).2 h.2⟩
   | none=>gE else gE
 | If V b o pos=>exact⟨rM (cb.b bu I V).1 (cb.ss bu I b).1 (cb.ss bu I o).1,fun C O=>W9 ((cb.b bu I V).2 C O) ((cb.ss bu I b).2 C O) ((cb.ss bu I o).2 C O)⟩
 | For V k b o pos=>cases o with
  | cons=>exact gE
  | nil=>exact match KD (bu:=bu) (I:=I) (G:=G) (w:=w) (u:=u) c6.hn V,oD k with
   | some g,.y d=>⟨tR g.1 (ug c6 cb k).1 (cb.ss bu I b).1,fun C O=>W8 c6.hn (g.2 C O) ((ug c6 cb k).2 C O) ((cb.ss bu I b).2 C O) (d.2 _)⟩
   | _,_=>gE
 | Return v=>cases v with
  | none=>exact gE
  | some e=>exact⟨lO (cb.e bu I e).1,fun C O=>Bg ((cb.e bu I e).2 C O)⟩
 | Expr e pos=>exact match tn e with
  | .y g=>⟨rL (cb.e bu I e).1,fun C O=>W7 ((cb.e bu I e).2 C O) (Hy O) (g.2.2.1 _ _ _)⟩
  | .n=>gE
 | Try b hs o f pos=>cases hs with
  | nil=>exact gE
  | cons h hl=>cases o with
   | cons=>exact gE
   | nil=>cases f with
    | cons=>exact gE
    | nil=>exact match aai (bu:=bu) (I:=I) c6 (h::hl) with
     | some l=>⟨p4 cf (cb.ss bu I b).1 l.1,fun C O=>Xd c6.X c6.hn ((cb.ss bu I b).2 C O) (l.2 C O)⟩
     | none=>gE
 | Raise e o=>cases e with
  | none=>exact gE
  | some e=>cases o with
   | none=>exact⟨Bb cf (cb.e bu I e).1,fun C O=>Xa c6.X c6.hn ((cb.e bu I e).2 C O)⟩
   | some=>exact gE
 | _=>exact gE
noncomputable def aal (S:List iN):zH G w u A bu I S:=by
 cases S with
 | nil=>exact⟨k3,fun F F=>xb⟩
 | cons s j=>exact⟨jZ (Cb c6 cb s).1 (cb.ss bu I j).1,fun C O=>Bh ((Cb c6 cb s).2 C O) ((cb.ss bu I j).2 C O)⟩
noncomputable def RU:List PySem.Str:= ["_law_told","run_rows","_law_registers_hold","put_number","put_layout","Packet","Regs","bytearray","op"]
noncomputable def lT (Z:cT):zk G w u A bu I Z:=by
 have H:zk G w u A bu I Z:=⟨(cb.e bu I Z).1,fun C O=>WN ((cb.e bu I Z).2 C O)⟩
 induction view Z with
 | call f B pos=>induction view f with
  | name S p=>exact if h:RU.contains S=true∧B.all nq=true then ⟨BV G w u A (uh cf bu I S) (cb.l bu I B).1,fun C O=>WK (Ca c6 O S p) ((cb.l bu I B).2 C pos O) (t6 h.2) (p7 h.2)⟩ else H
  | attr o name E=>induction m8 o with
   | no=>exact H
   | yes S p=>exact if h:(name= "put" ∧S= "regs")∧(E.endLine == pos.line)=true∧B.all nq=true∧B.length < 30 then
    ⟨B2 G w u cf A name (cb.e bu I (.Name S p)).1 (cb.l bu I B).1,fun C O=>WL c6.X ((cb.e bu I (.Name S p)).2 C O) ((cb.l bu I B).2 C pos O) (t6 h.2.2.1) (p7 h.2.2.1) rfl (oC h.2.2.1 h.2.2.2) h.2.1⟩ else H
  | _=>exact H
 | _=>exact H
noncomputable def Kw (S:List cT):NU G w u A bu I S:=by
 induction S with
 | nil=>exact⟨nv,fun F F F=>Jt Bf⟩
 | cons e j o=>exact match oD e with
  | .y g=>⟨jI (lT c6 cb e).1 o.1,fun C D O=>WR ((lT c6 cb e).2 C O) (o.2 C D O) (g.1 _ _)⟩
  | .n=>⟨wM,fun F F F=>Jt Bl⟩
noncomputable def Ky (Z:cT):zk G w u A bu I Z:=by
 have H:=lT (bu:=bu) (I:=I) c6 cb Z
 induction view Z with
 | tup T k p=>exact⟨p9 (Kw c6 cb T).1,fun C O=>WM ((Kw c6 cb T).2 C _ O)⟩
 | _=>exact H
noncomputable def Kv (Z:cT):Em G w u A bu I Z:=by
 have H:Em G w u A bu I Z:=⟨(cb.b bu I Z).1,fun C O=>WC ((cb.b bu I Z).2 C O)⟩
 cases Z with
 | Compare l ops b p=>induction one ops with
  | no=>exact H
  | yes K=>induction one b with
   | no=>exact H
   | yes j=>exact if h:sz K j=false then ⟨mV K (lT c6 cb l).1 (cb.e bu I j).1,fun C O=>WB c6.T c6.hn ((lT c6 cb l).2 C O) ((cb.e bu I j).2 C O) h⟩ else H
 | _=>exact H
noncomputable def Ko (M:lA G w u A bu I uF):gN G w u A bu I uF:=⟨M.1,fun C O=>xa (M.2 C O)⟩
noncomputable def aag (V M:cT) (D:e5):gN G w u A bu I (.Assign [V] M D):=by
 have H:=Ko (Kt (bu:=bu) (I:=I) c6 cb V M D)
 induction view V with
 | name S p=>exact match rS bu I S,tn M with
  | some i,.y g=>⟨rK i.1 (lT c6 cb M).1,fun C O=>WS ((lT c6 cb M).2 C O) (i.2 C O).1 (i.2 C O).2 (g.2.2.1 _ _ _)⟩
  | _,_=>H
 | attr o a p=>exact⟨tS cf a (lT c6 cb M).1 (cb.e bu I o).1,fun C O=>WX c6.X ((lT c6 cb M).2 C O) ((cb.e bu I o).2 C O) J5⟩
 | sub S i p=>induction view i with
  | slice a b d=>cases a with
   | none=>exact H
   | some lo=>cases b with
    | none=>exact H
    | some hi=>exact⟨tU (cb.e bu I M).1 (cb.e bu I S).1 (cb.e bu I lo).1 (cb.e bu I hi).1,fun C O=>WY ((cb.e bu I M).2 C O) ((cb.e bu I S).2 C O) ((cb.e bu I lo).2 C O) ((cb.e bu I hi).2 C O) J6⟩
  | _=>exact H
 | _=>exact H
noncomputable def Kx (U:iN):gN G w u A bu I U:=by
 have H:=Ko (Cb (bu:=bu) (I:=I) c6 cb U)
 cases U with
 | Assign B v pos=>induction one B with
  | no=>exact tI
  | yes V=>exact aag c6 cb V v pos
 | If V b o pos=>exact⟨rM (Kv c6 cb V).1 (cb.sg bu I b).1 (cb.sg bu I o).1,fun C O=>WV ((Kv c6 cb V).2 C O) ((cb.sg bu I b).2 C O) ((cb.sg bu I o).2 C O)⟩
 | For V k b o pos=>cases o with
  | cons=>exact tI
  | nil=>exact match KD (bu:=bu) (I:=I) (G:=G) (w:=w) (u:=u) c6.hn V,oD k with
   | some g,.y d=>⟨tR g.1 (ug c6 cb k).1 (cb.sg bu I b).1,fun C O=>WU c6.hn (g.2 C O) ((ug c6 cb k).2 C O) ((cb.sg bu I b).2 C O) (d.2 _)⟩
   | _,_=>tI
 | Return v=>cases v with
  | none=>exact tI
  | some e=>exact⟨lO (Ky c6 cb e).1,fun C O=>WW ((Ky c6 cb e).2 C O)⟩
 | Expr e pos=>exact match tn e with
  | .y g=>⟨rL (lT c6 cb e).1,fun C O=>WT ((lT c6 cb e).2 C O) (Hy O) (g.2.2.1 _ _ _)⟩
  | .n=>tI
 | _=>exact H
noncomputable def aah (S:List iN):mQ G w u A bu I S:=by
 cases S with
 | nil=>exact⟨k3,fun F F=>xa xb⟩
 | cons s j=>exact⟨jZ (Kx c6 cb s).1 (cb.sg bu I j).1,fun C O=>WZ ((Kx c6 cb s).2 C O) ((cb.sg bu I j).2 C O)⟩
end
noncomputable def q9 {prog:d7} (p:Top prog w u cf A) (k:Nat):N prog w u A:=by
 induction k with
 | zero=>exact mW
 | succ k c=>exact⟨fun F F=>aae p c,fun F F=>Kz c,fun F F=>Z9 p c,fun F F=>aaa c,fun F F=>aal p c,fun F F=>aah p c⟩
end
end
section
def zg:Nat→(List b7→Prop)→Prop
 | 0,P=>P []
 | k+1,P=> ∀R,zg k fun Q=>P (R::Q)
theorem vH {k:Nat} {P:List b7→Prop}(X:zg k P)(Q:List b7)(Z:Q.length=k):P Q:=by
 induction k generalizing P Q with
 | zero=>exact Ls Z▸X
 | succ k o=>
  induction Q with
  | nil=>exact absurd Z (Nat.succ_ne_zero k).symm
  | cons a j F=>exact o (X a) j (qp Z)
noncomputable def eR (x:ey) (R:a0):uZ:=match x.lookup R with
 | some o=>match o.data with
  | .func D=>D
  | _=>default
 | none=>default
noncomputable def pF (D:uZ):List iN:=match D.body with
 | .stmts b=>b
 | _=> []
noncomputable def v7 (x:ey) (D:uZ):Bool:=match D.code with
 | .ref c=>match x.lookup c with
  | some o=>match o.data with
   | .fields Q=>match (Q[1]? :Option b7) with
    | some (.str P _)=>decide (P=D.qualname)
    | _=>false
   | _=>false
  | none=>false
 | _=>false
noncomputable def vO (D:uZ):Bool:=match D.body with
 | .stmts _=>true
 | _=>false
noncomputable def tp (x:ey) (R:a0):Bool:=match x.lookup R with
 | some o=>match o.data with
  | .func _=>true
  | _=>false
 | none=>false
noncomputable def wL (A:iQ):Bool:=A.all fun S=>decide (S.2≠ .free)
noncomputable def rk (x:ey) (R:a0) (k:Nat) (A:List PySem.Str):Bool:=
 tp x R && v7 x (eR x R) && vO (eR x R) && (eR x R).closure.isEmpty && decide ((eR x R).globals=hB) && decide ((eR x R).builtins=kH) && decide (A.length=k) && decide A.Nodup &&
  A.all (fun S=>decide ((eR x R).scope.names.lookup S=ab .local∨(eR x R).scope.names.lookup S=ab .cell)) && !(eR x R).scope.isCoroutine && !(eR x R).scope.isGenerator && decide ((eR x R).scope.kind= .function) && wL (eR x R).scope.names
section
theorem HD(x:cf.In u)(X:tp cf z=true): ∃o,u.get? z=ab o∧o.data= .func (eR cf z):=by
 unfold tp at X
 unfold eR
 induction P:cf.lookup z with
 | none=>rw [P] at X;contradiction
 | some o=>
  rw [P] at X
  refine⟨o,x z _ P,?_⟩
  dsimp only at X ⊢
  induction d:o.data with
  | func D=>rfl
  | _=>rw [d] at X;contradiction
theorem PY(x:cf.In u)(X:v7 cf d6=true):u.CodeRec d6.code d6.qualname:=by
 unfold v7 at X
 induction P:d6.code with
 | ref c=>
  rw [P] at X
  dsimp only at X
  induction d:cf.lookup c with
  | none=>rw [d] at X;contradiction
  | some o=>
   rw [d] at X
   dsimp only at X
   induction y:o.data with
   | fields Q=>
    rw [y] at X
    dsimp only at X
    induction S:Q[1]? with
    | none=>rw [S] at X;contradiction
    | some v=>
     rw [S] at X
     induction v with
     | str s V=>exact⟨c,o,Q,V,rfl,x c _ d,y,by rw [S,of_decide_eq_true X]⟩
     | _=>contradiction
   | _=>rw [y] at X;contradiction
 | _=>rw [P] at X;contradiction
theorem OL(X:vO d6=true):d6.body= .stmts (pF d6):=by
 unfold vO at X
 unfold pF
 induction P:d6.body with
 | stmts=>rfl
 | _=>rw [P] at X;contradiction
inductive NQ (cf:ey) (a:a0) (k:Nat) (names:List PySem.Str):Prop
 | mk (h1:tp cf a=true) (h2:v7 cf (eR cf a)=true) (h3:vO (eR cf a)=true) (h4:(eR cf a).closure.isEmpty=true) (h5:(eR cf a).globals=hB) (h6:(eR cf a).builtins=kH) (h7:names.length=k) (h8:names.Nodup)
  (h9: ∀x ∈ names,(eR cf a).scope.names.lookup x=ab .local∨(eR cf a).scope.names.lookup x=ab .cell) (h10:(eR cf a).scope.isCoroutine=false) (h11:(eR cf a).scope.isGenerator=false) (h12:(eR cf a).scope.kind= .function) (h13:wL (eR cf a).scope.names=true)
theorem Aj {k:Nat}(X:rk cf z k I=true):NQ cf z k I:=by
 simp only [rk,oS,decide_eq_true_eq,sa,K1] at X
 obtain⟨⟨⟨⟨⟨⟨⟨⟨⟨⟨⟨⟨W,K⟩,C⟩,n⟩,e⟩,f⟩,V⟩,i⟩,B⟩,L⟩,J⟩,T⟩,E⟩:=X
 exact⟨W,K,C,n,e,f,V,i,B,L,J,T,E⟩
theorem Hf(x:cf.In u) {k:Nat}(X:rk cf z (k+cw.length) I=true)(M: ∀X:cO,c7 X cw n)
 (H: ∀(s:cx) (Q:List b7),(∀b o,u.get? b=ab o→s.heap.get? b=ab o)→Q.length=k→nW s (eR cf z) ⟨Q,[]⟩ (I.zip (Q++cw))): ∃o,vt u z o (eR cf z) (pF (eR cf z)) k I cw n:=by
 refine(Aj X).rec fun W K C A e f V i B L J T E=>?_
 refine dg (HD x W) fun o D F=>?_
 exact⟨o,D,F,PY x K,OL C,LF.mp A,e,f,H,M,V,i,B,L,J,T⟩
theorem G3(X:wL d6.scope.names=true)(W:d6.scope.kind= .function)(K:d6.globals=hB)(C:d6.builtins=kH):eQ (hy d6 z E) d6.scope.names:=
 ⟨rfl,W,K,C,fun s D=>by
  rcases D with D | D
  ·exact tg (.inr (kW D))
  ·exact absurd rfl (of_decide_eq_true (sa.mp X _ (kW D)))⟩
theorem Hi(X:wL bu=true)(S:PySem.Str):bu.lookup S≠ab .free:=fun D=>absurd rfl (of_decide_eq_true (sa.mp X _ (kW D)))
theorem cA.bf(p:cA w u)(v:0 < A):Top G w u (hd.ah w.params) A:=⟨p.k,p.blt,p.top,v⟩
noncomputable def ue (k:Nat) (K:List D) (y:Nat) (N:eV):Spec:=fun b B G H=>b.length=k∧N (start (b++K) y) B (fun F e=>G .none e) G (fun F=>H)
theorem ek {k:Nat}(W:y.length=k)(K:eh (start (y++n) C) q (fun F e=>x .none e) x (fun F=>bx)):ue k n C eh y q x bx:=⟨W,K⟩
section
variable (c6:cA w u) (r3:0 < A) (hS:a0) (k:Nat) (kB lW:List PySem.Str) (k9:List b7) (mD:List D)
include c6 r3 in
theorem ZI(X:rk (hd.ah w.params) hS (k+k9.length) kB=true)(M: ∀X:cO,c7 X k9 mD)(H: ∀(s:cx) (Q:List b7),(∀b o,u.get? b=ab o→s.heap.get? b=ab o)→Q.length=k→nW s (eR (hd.ah w.params) hS) ⟨Q,[]⟩ (kB.zip (Q++k9)))
 (Z:((q9 (prog:=G) (c6.bf r3) 99).ss (eR (hd.ah w.params) hS).scope.names (kB++lW) (pF (eR (hd.ah w.params) hS))).1=eh):
 ie G w u (A+1) (.ref hS) (ue k mD lW.length eh):=by
 refine(Hf c6.k X M H).elim fun o t=>?_
 refine(Aj X).rec fun W K C n e f V i B L J T E=>?_
 rw [←Z]
 exact JW c6.top t (fun S F=>Hi E S) fun g=>((q9 (c6.bf r3) 99).ss _ _ _).2 _ (G3 E T e f)
include c6 r3 in
theorem YR(X:rk (hd.ah w.params) hS (k+k9.length) kB=true)(M: ∀X:cO,c7 X k9 mD)(H: ∀(s:cx) (Q:List b7),(∀b o,u.get? b=ab o→s.heap.get? b=ab o)→Q.length=k→nW s (eR (hd.ah w.params) hS) ⟨Q,[]⟩ (kB.zip (Q++k9)))
 (Z:((q9 (prog:=G) (c6.bf r3) 99).sg (eR (hd.ah w.params) hS).scope.names (kB++lW) (pF (eR (hd.ah w.params) hS))).1=eh):
 ke G w u (A+1) (.ref hS) (ue k mD lW.length eh):=by
 refine(Hf c6.k X M H).elim fun o t=>?_
 refine(Aj X).rec fun W K C n e f V i B L J T E=>?_
 rw [←Z]
 exact Ye c6.top t (fun S F=>Hi E S) fun g=>((q9 (c6.bf r3) 99).sg _ _ _).2 _ (G3 E T e f)
end
theorem dT(k:Nat)(A:List PySem.Str)(X:zg k fun Q=>dQ d6 ⟨Q,[]⟩=pure (A.zip Q)): ∀(U:cx) (Q:List b7),(∀f o,u.get? f=ab o→U.heap.get? f=ab o)→Q.length=k→nW U d6 ⟨Q,[]⟩ (A.zip (Q++ [])):=fun U Q F Z=>by
 rw [fI];exact BindsTo.of_eq (vH X Q Z)
theorem cA.af(p:cA w u)(X:tp (hd.ah w.params) z=true):f6 G w u (.ref z):=by
 refine dg (HD p.k X) fun o W K=>?_
 exact Pz W K
end
end
section
noncomputable section
structure om where
 prog:d7
 w:di
 base:cO
 n:Nat
noncomputable abbrev om.k (i:om):ey:=hd.ah i.w.params
noncomputable abbrev dH:=om→W
noncomputable abbrev me:=om→g9
noncomputable abbrev kh:=om→gC
noncomputable abbrev cB:=om→eV
noncomputable abbrev s7:=om→ow
noncomputable def b (T:D):dH:=fun F=>fQ T
noncomputable def c (J:Nat):dH:=fun F=>g4 J
noncomputable def j:me:=fun F=>nv
noncomputable def a (S:dH) (N:me):me:=fun i=>jI (S i) (N i)
noncomputable def e (K:nY) (S:dH) (s:dH):dH:=fun i=>rQ K (S i) (s i)
noncomputable def h (S:dH) (N:me):dH:=fun i=>rR i.prog i.w i.base i.n (S i) (N i)
noncomputable def iT (S:dH) (N:me):dH:=fun i=>BV i.prog i.w i.base i.n (S i) (N i)
noncomputable def f (S:dH) (s:dH):dH:=fun i=>uc (S i) (s i)
noncomputable def p (N:me):dH:=fun i=>p9 (N i)
noncomputable def dj (N:me):dH:=fun i=>B1 (N i)
noncomputable def ff (k:D→J→KK→KK→Prop) (S:dH):dH:=fun i=>kv k (S i)
noncomputable def dD (E:PySem.Str) (S:dH):dH:=fun i=>kv (gI i.k E) (S i)
noncomputable def eM (E:PySem.Str) (S:dH) (N:me):dH:=fun i=>xw i.prog i.w i.base i.k i.n E (S i) (N i)
noncomputable def rV (E:PySem.Str) (S:dH) (N:me):dH:=fun i=>B2 i.prog i.w i.base i.k i.n E (S i) (N i)
noncomputable def gS (S:dH):s7:=fun i=>B0 (S i)
noncomputable def g6 (S:dH):s7:=fun i=>B4 (S i)
noncomputable def g5 (V:kh) (S:dH) (s:dH):dH:=fun i=>p8 (V i) (S i) (s i)
noncomputable def jL (k:s7) (B:Option kh) (S:dH):dH:=fun i=>BX (k i) (B.map fun V=>V i) (S i)
noncomputable def uo (K:jO) (S:dH) (s:dH):dH:=fun i=>BW K (S i) (s i)
noncomputable def uq (S:dH):dH:=fun i=>B5 (S i)
noncomputable def KR (S:dH) (s:dH):dH:=fun i=>B3 (S i) (s i)
noncomputable def KQ (N:me):dH:=fun i=>BZ i.k (N i)
noncomputable def KP (S:dH) (s:dH) (d:dH):dH:=fun i=>t9 (S i) (s i) (d i)
noncomputable def cC (K:jO) (S:dH) (s:dH):kh:=fun i=>mV K (S i) (s i)
noncomputable def qb (S:dH):kh:=fun i=>zO (S i)
noncomputable def KN (V:kh):kh:=fun i=>zN (V i)
noncomputable def hI (j:List kh):kh:=fun i=>mU (j.map fun V=>V i)
noncomputable def nA (j:List kh):kh:=fun i=>s9 (j.map fun V=>V i)
noncomputable def d (R:cB) (f:cB):cB:=fun i=>jZ (R i) (f i)
noncomputable def l:cB:=fun F=>k3
noncomputable def v (J:Nat) (S:dH):cB:=fun i=>rK J (S i)
noncomputable def cQ (S:dH):cB:=fun i=>lO (S i)
noncomputable def cZ (V:kh) (R:cB) (f:cB):cB:=fun i=>rM (V i) (R i) (f i)
noncomputable def dN (E:PySem.Str) (S:dH) (s:dH):cB:=fun i=>tS i.k E (S i) (s i)
noncomputable def eZ (S:dH):cB:=fun i=>rL (S i)
noncomputable def gk (g:kO) (k:s7) (f:cB):cB:=fun i=>tR g (k i) (f i)
noncomputable def ij (g:kO) (S:dH):cB:=fun i=>tV g (S i)
noncomputable def jt (S:dH):cB:=fun i=>Bb i.k (S i)
noncomputable def hJ (S:dH) (s:dH) (d:dH):cB:=fun i=>tT (S i) (s i) (d i)
noncomputable def um (J:Nat) (S:dH):cB:=fun i=>w7 J (S i)
noncomputable def uk (J:Nat) (k:s7) (B:Option kh) (S:dH):cB:=fun i=>A7 J (k i) (B.map fun V=>V i) (S i)
noncomputable def Cf (H:List Nat) (S:dH):cB:=fun i=>tW H (S i)
noncomputable def KO (S:dH) (s:dH) (d:dH) (M:dH):cB:=fun i=>tU (S i) (s i) (d i) (M i)
noncomputable def gb (j:List (PySem.Str×dH)):dH:=fun i=>ua (j.map fun c=>(c.1,c.2 i))
def xH (j:List (PySem.Str×dH)):om→Loc→J→zm→KK→Prop:=fun i=>xy (j.map fun c=>(c.1,c.2 i))
noncomputable def xG (f:cB) (y:List (a0×Nat×cB)):cB:=fun i=>p4 i.k (f i) (y.map fun X=>(X.1,X.2.1,X.2.2 i))
def d9 (R k:Nat) (K:List D) (y:Nat) (T:cB):Prop:= ∀(C:d7) {u:di} {A:cO},cA u A→ ∀ {I:Nat},0 < I→ie C u A (I+1) (.ref R) (ue k K y (T ⟨C,u,A,I⟩))
def kg (R k:Nat) (K:List D) (y:Nat) (T:cB):Prop:= ∀(C:d7) {u:di} {A:cO},cA u A→ ∀ {I:Nat},0 < I→ke C u A (I+1) (.ref R) (ue k K y (T ⟨C,u,A,I⟩))
section
variable {gU:cB}
variable (hS k:Nat) (kB lW:List PySem.Str) (k9:List b7) (mD:List D) (uH: ∀w:di,rk (hd.ah w.params) hS (k+k9.length) kB=true) (CK: ∀uH:cO,c7 uH k9 mD)
 (CJ: ∀ {w:di} {base:cO},cA w base→ ∀(s:cx) (vs:List b7),(∀b o,base.get? b=ab o→s.heap.get? b=ab o)→vs.length=k→nW s (eR (hd.ah w.params) hS) ⟨vs,[]⟩ (kB.zip (vs++k9)))
include uH CK CJ
theorem ec(Z: ∀(C:d7) {u:di} {base:cO} (p:cA u base) {n:Nat} (v:0 < n),((q9 (prog:=C) (p.bf v) 99).ss (eR (hd.ah u.params) hS).scope.names (kB++lW) (pF (eR (hd.ah u.params) hS))).1=gU ⟨C,u,base,n⟩):d9 hS k mD lW.length gU:=
 fun C u F p F v=>ZI p v hS k kB lW k9 mD (uH u) CK (CJ p) (Z C p v)
theorem k4(Z: ∀(C:d7) {u:di} {base:cO} (p:cA u base) {n:Nat} (v:0 < n),((q9 (prog:=C) (p.bf v) 99).sg (eR (hd.ah u.params) hS).scope.names (kB++lW) (pF (eR (hd.ah u.params) hS))).1=gU ⟨C,u,base,n⟩):kg hS k mD lW.length gU:=
 fun C u F p F v=>YR p v hS k kB lW k9 mD (uH u) CK (CJ p) (Z C p v)
end
end
end
section
@[simp] noncomputable def QL:cB:=
 d (cQ (e .Sub (e .LShift (b (.int 1)) (c 1)) (e .LShift (b (.int 1)) (e .Sub (c 1) (c 0))))) (l)
theorem ZC:d9 28 2 [] 0 QL:=
 ec 28 2 ["length","bits"] [] [] [] (fun F=>by kernel_rfl) (fun F=> .nil) (fun p=>(dT 2 ["length","bits"] (fun E c=>by show dQ _ _=_;kernel_rfl))) (fun F {X M} p {y} v=>by kernel_rfl)
@[simp] noncomputable def QV:cB:=
 d (v 3 (e .BitAnd (c 0) (h (b (.val (.ref 28))) (a (c 1) (a (c 2) (j)))))) (d (cQ (p (a (c 3) (a (e .Sub (e .Add (c 3) (e .LShift (b (.int 1)) (e .Sub (c 2) (c 1)))) (b (.int 1))) (j))))) (l))
theorem ZO:d9 35 3 [] 1 QV:=
 ec 35 3 ["base","length","bits"] ["low"] [] [] (fun F=>by kernel_rfl) (fun F=> .nil) (fun p=>(dT 3 ["base","length","bits"] (fun E c B=>by show dQ _ _=_;kernel_rfl))) (fun F {X M} p {y} v=>by kernel_rfl)
@[simp] noncomputable def Qk:cB:=
 d (eZ (KQ (a (c 0) (a (c 1) (j))))) (d (dN "why" (c 1) (c 0)) (d (dN "at" (ff fY (b (.int 1))) (c 0)) (l)))
theorem Y3:d9 49 2 [] 0 Qk:=
 ec 49 2 ["self","why"] [] [] [] (fun F=>by kernel_rfl) (fun F=> .nil) (fun p=>(dT 2 ["self","why"] (fun E c=>by show dQ _ _=_;kernel_rfl))) (fun F {X M} p {y} v=>by kernel_rfl)
@[simp] noncomputable def QP:cB:=
 d (v 1 (b (.int 0))) (d (gk (e6 2) (gS (c 0)) (d (v 1 (e .BitOr (e .LShift (c 1) (b (.int 8))) (c 2))) (l))) (d (cQ (c 1)) (l)))
theorem ZG:d9 131 1 [] 2 QP:=
 ec 131 1 ["octets"] ["number","octet"] [] [] (fun F=>by kernel_rfl) (fun F=> .nil) (fun p=>(dT 1 ["octets"] (fun E=>by show dQ _ _=_;kernel_rfl))) (fun F {X M} p {y} v=>by kernel_rfl)
@[simp] noncomputable def QQ:cB:=
 d (cZ (nA [cC .Lt (c 0) (b (.int 0)),cC .NotEq (e .RShift (c 0) (e .Mult (b (.int 8)) (c 1))) (b (.int 0))]) (d (jt (h (b (.val (.ref 65))) (a (b (.str "the number does not fit its octets")) (j)))) (l)) (l)) (d (cQ (h (b (.val (.type "bytes"))) (a (jL (g6 (c 1)) ao (e .BitAnd (e .RShift (c 1) (e .Mult (b (.int 8)) (e .Sub (e .Sub (c 2) (b (.int 1))) (c 0)))) (b (.int 255)))) (j)))) (l))
theorem ZH:d9 136 2 [] 0 QQ:=
 ec 136 2 ["number","size"] [] [] [] (fun F=>by kernel_rfl) (fun F=> .nil) (fun p=>(dT 2 ["number","size"] (fun E c=>by show dQ _ _=_;kernel_rfl))) (fun F {X M} p {y} v=>by kernel_rfl)
@[simp] noncomputable def Q4:cB:=
 d (v 1 (e .Sub (h (b (.val (.builtin "len"))) (a (c 0) (j))) (b (.int 1)))) (d (cQ (h (b (.val (.type "bytes"))) (a (jL (g6 (e .Add (c 1) (b (.int 1)))) ao (f (c 1) (e .Sub (c 2) (c 0)))) (j)))) (l))
theorem ZY:d9 141 1 [] 1 Q4:=
 ec 141 1 ["octets"] ["last"] [] [] (fun F=>by kernel_rfl) (fun F=> .nil) (fun p=>(dT 1 ["octets"] (fun E=>by show dQ _ _=_;kernel_rfl))) (fun F {X M} p {y} v=>by kernel_rfl)
@[simp] noncomputable def Qp:cB:=
 d (cZ (cC .Eq (c 2) (b (.str "big"))) (d (cQ (h (b (.val (.ref 136))) (a (c 0) (a (c 1) (j))))) (l)) (l)) (d (cZ (cC .Eq (c 2) (b (.str "little"))) (d (cQ (h (b (.val (.ref 141))) (a (h (b (.val (.ref 136))) (a (c 0) (a (c 1) (j)))) (j)))) (l)) (l)) (d (jt (h (b (.val (.ref 65))) (a (e .Add (b (.str "no such order of octets: ")) (c 2)) (j)))) (l)))
theorem Za:d9 148 3 [] 0 Qp:=
 ec 148 3 ["number","size","order"] [] [] [] (fun F=>by kernel_rfl) (fun F=> .nil) (fun p=>(dT 3 ["number","size","order"] (fun E c B=>by show dQ _ _=_;kernel_rfl))) (fun F {X M} p {y} v=>by kernel_rfl)
@[simp] noncomputable def Qo:cB:=
 d (cZ (cC .Eq (c 1) (b (.str "big"))) (d (cQ (h (b (.val (.ref 131))) (a (c 0) (j)))) (l)) (l)) (d (cZ (cC .Eq (c 1) (b (.str "little"))) (d (cQ (h (b (.val (.ref 131))) (a (h (b (.val (.ref 141))) (a (c 0) (j))) (j)))) (l)) (l)) (d (jt (h (b (.val (.ref 65))) (a (e .Add (b (.str "no such order of octets: ")) (c 1)) (j)))) (l)))
theorem Y9:d9 155 2 [] 0 Qo:=
 ec 155 2 ["octets","order"] [] [] [] (fun F=>by kernel_rfl) (fun F=> .nil) (fun p=>(dT 2 ["octets","order"] (fun E c=>by show dQ _ _=_;kernel_rfl))) (fun F {X M} p {y} v=>by kernel_rfl)
@[simp] noncomputable def Qq:cB:=
 d (cQ (g5 (cC .Eq (c 0) (b (.str "host"))) (c 1) (c 0))) (l)
theorem Zb:d9 162 2 [] 0 Qq:=
 ec 162 2 ["order","host"] [] [] [] (fun F=>by kernel_rfl) (fun F=> .nil) (fun p=>(dT 2 ["order","host"] (fun E c=>by show dQ _ _=_;kernel_rfl))) (fun F {X M} p {y} v=>by kernel_rfl)
end
section
@[simp] noncomputable def QU:cB:=
 d (cQ (e .Add (h (b (.val (.type "bytes"))) (a (c 0) (j))) (e .Mult (b (.bytes (se gs [0]))) (e .Mod (ff fY (h (b (.val (.builtin "len"))) (a (c 0) (j)))) (b (.int 4)))))) (l)
theorem ZN:d9 169 1 [] 0 QU:=
 ec 169 1 ["octets"] [] [] [] (fun F=>by kernel_rfl) (fun F=> .nil) (fun p=>(dT 1 ["octets"] (fun E=>by show dQ _ _=_;kernel_rfl))) (fun F {X M} p {y} v=>by kernel_rfl)
@[simp] noncomputable def Qh:cB:=
 d (dN "fields" (c 1) (c 0)) (d (dN "family" (c 2) (c 0)) (d (dN "order" (c 3) (c 0)) (d (dN "prefix" (c 4) (c 0)) (d (dN "rows" (dj (j)) (c 0)) (d (dN "sets" (gb []) (c 0)) (d (dN "known" (gb []) (c 0)) (d (dN "makers" (gb []) (c 0)) (d (dN "flags" (gb []) (c 0)) (l)))))))))
theorem Y0:d9 183 5 [] 0 Qh:=
 ec 183 5 ["self","fields","family","order","prefix"] [] [] [] (fun F=>by kernel_rfl) (fun F=> .nil) (fun p=>(dT 5 ["self","fields","family","order","prefix"] (fun E c B J C=>by show dQ _ _=_;kernel_rfl))) (fun F {X M} p {y} v=>by kernel_rfl)
@[simp] noncomputable def Q2:cB:=
 d (cQ (e .FloorDiv (e .Add (c 0) (b (.int 3))) (b (.int 4)))) (l)
theorem ZW:d9 197 1 [] 0 Q2:=
 ec 197 1 ["size"] [] [] [] (fun F=>by kernel_rfl) (fun F=> .nil) (fun p=>(dT 1 ["size"] (fun E=>by show dQ _ _=_;kernel_rfl))) (fun F {X M} p {y} v=>by kernel_rfl)
@[simp] noncomputable def Qm:cB:=
 d (cQ (h (b (.val (.ref 148))) (a (c 1) (a (c 2) (a (h (b (.val (.ref 162))) (a (c 3) (a (dD "order" (c 0)) (j)))) (j)))))) (l)
theorem Y5:d9 204 4 [] 0 Qm:=
 ec 204 4 ["rowing","n","size","order"] [] [] [] (fun F=>by kernel_rfl) (fun F=> .nil) (fun p=>(dT 4 ["rowing","n","size","order"] (fun E c B J=>by show dQ _ _=_;kernel_rfl))) (fun F {X M} p {y} v=>by kernel_rfl)
@[simp] noncomputable def QK:cB:=
 d (cZ (cC .NotIn (c 1) (dD "makers" (c 0))) (d (jt (h (b (.val (.ref 65))) (a (e .Add (b (.str "no maker for ")) (c 1)) (j)))) (l)) (l)) (d (cQ (f (dD "makers" (c 0)) (c 1))) (l))
theorem ZA:d9 211 2 [] 0 QK:=
 ec 211 2 ["rowing","kind"] [] [] [] (fun F=>by kernel_rfl) (fun F=> .nil) (fun p=>(dT 2 ["rowing","kind"] (fun E c=>by show dQ _ _=_;kernel_rfl))) (fun F {X M} p {y} v=>by kernel_rfl)
@[simp] noncomputable def QY:cB:=
 d (eZ (eM "append" (dD "rows" (c 0)) (a (p (a (b (.str "immediate")) (a (c 1) (a (h (b (.val (.ref 204))) (a (c 0) (a (c 4) (a (c 3) (a (b (.str "big")) (j)))))) (j))))) (j)))) (d (cZ (cC .Eq (c 5) (c 4)) (d (cQ (c 1)) (l)) (l)) (d (eZ (eM "append" (dD "rows" (c 0)) (a (p (a (b (.str "immediate")) (a (c 2) (a (h (b (.val (.ref 204))) (a (c 0) (a (c 5) (a (c 3) (a (b (.str "big")) (j)))))) (j))))) (j)))) (d (cQ (c 2)) (l))))
theorem ZS:d9 218 6 [] 0 QY:=
 ec 218 6 ["rowing","reg","other","size","low","high"] [] [] [] (fun F=>by kernel_rfl) (fun F=> .nil) (fun p=>(dT 6 ["rowing","reg","other","size","low","high"] (fun E c B J C L=>by show dQ _ _=_;kernel_rfl))) (fun F {X M} p {y} v=>by kernel_rfl)
@[simp] noncomputable def GK:cB:=
 d (cZ (cC .Eq (f (c 1) (b (.int 0))) (b (.str "ref"))) (d (cQ (uo .In (b (.str "ports")) (eM "get" (dD "flags" (c 0)) (a (f (c 1) (b (.int 1))) (a (p (j)) (j)))))) (l)) (l)) (d (v 2 (b (.int 0))) (d (gk (e6 3) (gS (f (c 1) (b (.int 1)))) (d (um 2 (e .Sub (h (b (.val (.builtin "len"))) (a (f (c 3) (b (.int 1))) (j))) (b (.int 1)))) (l))) (d (cZ (hI [cC .Gt (c 2) (b (.int 0)),cC .Lt (c 2) (h (b (.val (.builtin "len"))) (a (f (c 1) (b (.int 1))) (j)))]) (d (jt (h (b (.val (.ref 108))) (a (b (.str "a map of addresses with ports and without")) (j)))) (l)) (l)) (d (cQ (uo .Gt (c 2) (b (.int 0)))) (l)))))
theorem Y8:d9 225 2 [] 2 GK:=
 ec 225 2 ["rowing","where"] ["many","literal"] [] [] (fun F=>by kernel_rfl) (fun F=> .nil) (fun p=>(dT 2 ["rowing","where"] (fun E c=>by show dQ _ _=_;kernel_rfl))) (fun F {X M} p {y} v=>by kernel_rfl)
@[simp] noncomputable def z9:cB:=
 d (cZ (cC .Eq (f (c 1) (b (.int 0))) (b (.str "map"))) (d (v 3 (p (a (p (a (c 2) (a (b (.str "big")) (j)))) (j)))) (d (v 4 (ff fY (b (.int 1)))) (d (cZ (qb (h (b (.val (.ref 225))) (a (c 0) (a (f (c 1) (b (.int 2))) (j))))) (d (v 3 (p (a (p (a (c 2) (a (b (.str "big")) (j)))) (a (p (a (b (.int 2)) (a (b (.str "big")) (j)))) (j))))) (d (v 4 (h (b (.val (.ref 197))) (a (c 2) (j)))) (l))) (l)) (d (v 5 (h (b (.val (.ref 211))) (a (c 0) (a (b (.str "map")) (j))))) (d (eZ (h (c 5) (a (c 0) (a (b (.int 0)) (a (c 1) (a (b (.int 0)) (a (c 3) (j)))))))) (d (cQ (p (a (b (.int 0)) (a (b (.int 0)) (a (c 4) (j)))))) (l))))))) (l)) (d (ij (nt [7,6]) (p (a (f (c 1) (b (.int 1))) (a (f (c 1) (b (.int 2))) (j))))) (d (cZ (cC .Eq (f (c 1) (b (.int 0))) (b (.str "net"))) (d (ij (gR [6,7]) (h (b (.val (.ref 35))) (a (f (c 1) (b (.int 1))) (a (f (c 1) (b (.int 2))) (a (e .Mult (b (.int 8)) (c 2)) (j)))))) (l)) (l)) (d (cQ (p (a (b (.int 0)) (a (h (b (.val (.ref 218))) (a (c 0) (a (b (.int 0)) (a (h (b (.val (.ref 197))) (a (c 2) (j))) (a (c 2) (a (c 6) (a (c 7) (j)))))))) (a (ff fY (b (.int 1))) (j)))))) (l))))
theorem ZP:d9 232 3 [] 5 z9:=
 ec 232 3 ["rowing","addresses","size"] ["layout","port_reg","load_data","low","high"] [] [] (fun F=>by kernel_rfl) (fun F=> .nil) (fun p=>(dT 3 ["rowing","addresses","size"] (fun E c B=>by show dQ _ _=_;kernel_rfl))) (fun F {X M} p {y} v=>by kernel_rfl)
@[simp] noncomputable def QJ:cB:=
 d (ij (gR [3,4,5,6,7,8]) (c 1)) (d (ij (gR [9,10,11,12,13]) (p (a (b (.int 0)) (a (ff fY (b (.int 1))) (a (ff fY (b (.int 1))) (a (ff fY (b (.int 1))) (a (ff fY (b (.int 1))) (j)))))))) (d (cZ (cC .IsNot (c 6) (b .none)) (d (v 9 (g5 (cC .Eq (c 5) (b (.int 2))) (b (.int 4)) (b (.int 16)))) (d (ij (gR [10,11,12]) (h (b (.val (.ref 232))) (a (c 0) (a (c 6) (a (c 9) (j)))))) (d (v 13 (c 12)) (d (cZ (cC .Eq (f (c 6) (b (.int 0))) (b (.str "net"))) (d (v 8 (e .Add (c 8) (p (a (b (.str "netmap")) (j))))) (l)) (l)) (l))))) (l)) (d (cZ (hI [cC .IsNot (c 7) (b .none),cC .Lt (c 12) (b (.int 0))]) (d (v 12 (b (.int 8))) (d (v 13 (h (b (.val (.ref 218))) (a (c 0) (a (b (.int 8)) (a (b (.int 9)) (a (b (.int 2)) (a (f (c 7) (b (.int 0))) (a (f (c 7) (b (.int 1))) (j))))))))) (l))) (l)) (d (eZ (eM "append" (dD "rows" (c 0)) (a (p (a (b (.str "nat")) (a (c 4) (a (c 5) (a (c 10) (a (c 11) (a (c 9) (a (c 12) (a (c 13) (a (c 8) (j))))))))))) (j)))) (l)))))
theorem Zz:d9 239 3 [] 11 QJ:=
 ec 239 3 ["rowing","statement","place"] ["tag","kind","nfproto","addresses","ports","flags","size","low_reg","high_reg","port_low","port_high"] [] [] (fun F=>by kernel_rfl) (fun F=> .nil) (fun p=>(dT 3 ["rowing","statement","place"] (fun E c B=>by show dQ _ _=_;kernel_rfl))) (fun F {X M} p {y} v=>by kernel_rfl)
end
section
@[simp] noncomputable def Ql:cB:=
 d (v 1 (gb [])) (d (gk (e6 2) (g6 (h (b (.val (.builtin "len"))) (a (c 0) (j)))) (d (v 3 (h (b (.val (.ref 325))) (a (f (c 0) (c 2)) (j)))) (d (cZ (cC .IsNot (c 3) (b .none)) (d (hJ (c 3) (c 1) (c 2)) (l)) (d (cZ (cC .Eq (f (f (c 0) (c 2)) (b (.int 0))) (b (.str "dynset"))) (d (gk (e6 4) (gS (f (f (c 0) (c 2)) (b (.int 5)))) (d (eZ (h (b (.val (.ref 325))) (a (c 4) (j)))) (l))) (l)) (l)) (l))) (l)))) (d (cQ (c 1)) (l)))
theorem Y4:d9 332 1 [] 4 Ql:=
 ec 332 1 ["statements"] ["cells","place","cell","inner"] [] [] (fun F=>by kernel_rfl) (fun F=> .nil) (fun p=>(dT 1 ["statements"] (fun E=>by show dQ _ _=_;kernel_rfl))) (fun F {X M} p {y} v=>by kernel_rfl)
@[simp] noncomputable def Qi:cB:=
 d (dN "handle" (c 1) (c 0)) (d (dN "statements" (c 2) (c 0)) (d (dN "comment" (c 3) (c 0)) (d (dN "cells" (h (b (.val (.ref 332))) (a (c 2) (j))) (c 0)) (d (dN "rows" (b .none) (c 0)) (d (dN "sets" (gb []) (c 0)) (l))))))
theorem Y1:d9 347 3 [.str ""] 0 Qi:=
 ec 347 3 ["self","handle","statements","comment"] [] [.str "" 677] [.str ""] (fun F=>by kernel_rfl) (fun F=> .cons (.str _ _) .nil) (fun p=>(fun U Q g h=>by refine vH (P:=fun Q=>nW U (eR (hd.ah _) 347) ⟨Q,[]⟩ ((["self","handle","statements","comment"]:List PySem.Str).zip (Q++ [.str "" 677]))) ?_ Q h;exact fun E c B=>Dm (T:=340) (by kernel_rfl) (g _ _ (p.k 340 _ rfl)) rfl rfl (by kernel_rfl))) (fun F {X M} p {y} v=>by kernel_rfl)
@[simp] noncomputable def QO:cB:=
 d (v 0 (gb [])) (d (gk (e6 1) (gS (p (a (b (.str "mark")) (a (b (.str "priority")) (a (b (.str "iif")) (a (b (.str "oif")) (a (b (.str "iifname")) (a (b (.str "oifname")) (a (b (.str "pkttype")) (j)))))))))) (d (hJ (b (.int 0)) (c 0) (c 1)) (l))) (d (hJ (b (.int 1)) (c 0) (b (.str "iiftype"))) (d (hJ (b (.int 1)) (c 0) (b (.str "oiftype"))) (d (cQ (c 0)) (l)))))
theorem ZF:d9 361 0 [] 2 QO:=
 ec 361 0 [] ["out","name"] [] [] (fun F=>by kernel_rfl) (fun F=> .nil) (fun p=>(dT 0 [] (by show dQ _ _=_;kernel_rfl))) (fun F {X M} p {y} v=>by kernel_rfl)
@[simp] noncomputable def Qj:cB:=
 d (dN "packet" (c 1) (c 0)) (d (dN "now" (c 3) (c 0)) (d (dN "hook" (c 4) (c 0)) (d (dN "talk" (b .none) (c 0)) (d (dN "state" (b (.int 1)) (c 0)) (d (dN "is_reply" (b (.int 0)) (c 0)) (d (dN "talks" (b .none) (c 0)) (d (dN "sets" (gb []) (c 0)) (d (dN "objects" (gb []) (c 0)) (d (dN "fields" (c 2) (c 0)) (d (dN "readers" (gb []) (c 0)) (d (dN "doers" (gb []) (c 0)) (d (dN "ops" (gb []) (c 0)) (d (dN "tools" (gb []) (c 0)) (d (dN "order" (b (.str "little")) (c 0)) (d (dN "log" (dj (j)) (c 0)) (d (dN "replies" (dj (j)) (c 0)) (d (dN "steps" (b .none) (c 0)) (d (dN "homes" (gb []) (c 0)) (l)))))))))))))))))))
theorem Y2:d9 404 3 [.int 0,.str "input"] 0 Qj:=
 ec 404 3 ["self","packet","fields","now","hook"] [] [.int 0 770,.str "input" 771] [.int 0,.str "input"] (fun F=>by kernel_rfl) (fun F=> .cons (.int _ _) (.cons (.str _ _) .nil)) (fun p=>(fun U Q g h=>by refine vH (P:=fun Q=>nW U (eR (hd.ah _) 404) ⟨Q,[]⟩ ((["self","packet","fields","now","hook"]:List PySem.Str).zip (Q++ [.int 0 770,.str "input" 771]))) ?_ Q h;exact fun E c B=>Dm (T:=397) (by kernel_rfl) (g _ _ (p.k 397 _ rfl)) rfl rfl (by kernel_rfl))) (fun F {X M} p {y} v=>by kernel_rfl)
@[simp] noncomputable def QN:cB:=
 d (v 2 (eM "get" (dD "sets" (c 0)) (a (c 1) (j)))) (d (cZ (cC .Is (c 2) (b .none)) (d (jt (h (b (.val (.ref 65))) (a (e .Add (b (.str "no set ")) (c 1)) (j)))) (l)) (l)) (d (cQ (c 2)) (l)))
theorem ZE:d9 418 2 [] 1 QN:=
 ec 418 2 ["scene","name"] ["body"] [] [] (fun F=>by kernel_rfl) (fun F=> .nil) (fun p=>(dT 2 ["scene","name"] (fun E c=>by show dQ _ _=_;kernel_rfl))) (fun F {X M} p {y} v=>by kernel_rfl)
@[simp] noncomputable def QM:cB:=
 d (v 2 (dD "packet" (c 0))) (d (cZ (cC .Eq (c 1) (b (.str "l4proto"))) (d (cQ (g5 (cC .Lt (dD "l4" (c 2)) (b (.int 0))) (b .none) (dD "l4" (c 2)))) (l)) (l)) (d (cZ (cC .Eq (c 1) (b (.str "nfproto"))) (d (cQ (h (b (.val (.ref 389))) (a (c 2) (j)))) (l)) (l)) (d (cZ (cC .In (c 1) (p (a (b (.str "length")) (a (b (.str "protocol")) (j))))) (d (cQ (g5 (cC .Eq (c 1) (b (.str "length"))) (h (b (.val (.builtin "len"))) (a (dD "data" (c 2)) (j))) (dD "kind" (c 2)))) (l)) (l)) (d (cQ (eM "get" (dD "meta" (c 2)) (a (c 1) (j)))) (l)))))
theorem ZD:d9 425 2 [] 1 QM:=
 ec 425 2 ["scene","key"] ["packet"] [] [] (fun F=>by kernel_rfl) (fun F=> .nil) (fun p=>(dT 2 ["scene","key"] (fun E c=>by show dQ _ _=_;kernel_rfl))) (fun F {X M} p {y} v=>by kernel_rfl)
@[simp] noncomputable def Qe:cB:=
 d (cZ (nA [cC .Lt (c 1) (b (.int 0)),cC .Gt (e .Add (e .Mult (b (.int 4)) (c 1)) (c 2)) (b (.int 64))]) (d (jt (h (b (.val (.ref 65))) (a (b (.str "octets past the registers")) (j)))) (l)) (l)) (d (cQ (h (b (.val (.type "bytes"))) (a (KP (dD "octets" (c 0)) (e .Mult (b (.int 4)) (c 1)) (e .Add (e .Mult (b (.int 4)) (c 1)) (c 2))) (j)))) (l))
theorem YX:d9 446 3 [] 0 Qe:=
 ec 446 3 ["self","reg","many"] [] [] [] (fun F=>by kernel_rfl) (fun F=> .nil) (fun p=>(dT 3 ["self","reg","many"] (fun E c B=>by show dQ _ _=_;kernel_rfl))) (fun F {X M} p {y} v=>by kernel_rfl)
@[simp] noncomputable def Qs:cB:=
 d (v 4 (dj (j))) (d (gk (gR [5,6]) (gS (c 3)) (d (eZ (eM "append" (c 4) (a (h (b (.val (.ref 155))) (a (eM "get" (c 1) (a (c 2) (a (c 5) (j)))) (a (h (b (.val (.ref 162))) (a (c 6) (a (dD "order" (c 0)) (j)))) (j)))) (j)))) (d (um 2 (h (b (.val (.ref 197))) (a (c 5) (j)))) (l)))) (d (cQ (h (b (.val (.type "tuple"))) (a (c 4) (j)))) (l)))
theorem Zd:d9 474 4 [] 3 Qs:=
 ec 474 4 ["scene","regs","reg","layout"] ["numbers","size","order"] [] [] (fun F=>by kernel_rfl) (fun F=> .nil) (fun p=>(dT 4 ["scene","regs","reg","layout"] (fun E c B J=>by show dQ _ _=_;kernel_rfl))) (fun F {X M} p {y} v=>by kernel_rfl)
@[simp] noncomputable def Qn:cB:=
 d (v 6 (eM "get" (dD "sets" (c 2)) (a (c 5) (j)))) (d (cZ (cC .Is (c 6) (b .none)) (d (v 6 (h (b (.val (.ref 418))) (a (c 0) (a (c 5) (j))))) (l)) (l)) (d (cQ (eM "find" (c 6) (a (h (b (.val (.ref 474))) (a (c 0) (a (c 1) (a (c 3) (a (c 4) (j)))))) (a (dD "now" (c 0)) (j))))) (l)))
theorem Y7:d9 509 6 [] 1 Qn:=
 ec 509 6 ["scene","regs","rule","reg","layout","name"] ["body"] [] [] (fun F=>by kernel_rfl) (fun F=> .nil) (fun p=>(dT 6 ["scene","regs","rule","reg","layout","name"] (fun E c B J C L=>by show dQ _ _=_;kernel_rfl))) (fun F {X M} p {y} v=>by kernel_rfl)
end
section
@[simp] noncomputable def Q3:cB:=
 d (v 2 (eM "get" (dD "tools" (c 0)) (a (c 1) (j)))) (d (cZ (cC .Is (c 2) (b .none)) (d (jt (h (b (.val (.ref 65))) (a (e .Add (b (.str "no tool for ")) (c 1)) (j)))) (l)) (l)) (d (cQ (c 2)) (l)))
theorem ZX:d9 523 2 [] 1 Q3:=
 ec 523 2 ["scene","name"] ["tool"] [] [] (fun F=>by kernel_rfl) (fun F=> .nil) (fun p=>(dT 2 ["scene","name"] (fun E c=>by show dQ _ _=_;kernel_rfl))) (fun F {X M} p {y} v=>by kernel_rfl)
@[simp] noncomputable def QZ:cB:=
 d (cZ (cC .Lt (c 1) (b (.int 0))) (d (cQ (b .none)) (l)) (l)) (d (v 4 (h (b (.val (.ref 131))) (a (eM "get" (c 0) (a (c 1) (a (c 3) (j)))) (j)))) (d (cZ (cC .Lt (c 2) (b (.int 0))) (d (cQ (p (a (c 4) (a (c 4) (j))))) (l)) (l)) (d (cQ (p (a (c 4) (a (h (b (.val (.ref 131))) (a (eM "get" (c 0) (a (c 2) (a (c 3) (j)))) (j))) (j))))) (l))))
theorem ZT:d9 530 4 [] 1 QZ:=
 ec 530 4 ["regs","low","high","many"] ["first"] [] [] (fun F=>by kernel_rfl) (fun F=> .nil) (fun p=>(dT 4 ["regs","low","high","many"] (fun E c B J=>by show dQ _ _=_;kernel_rfl))) (fun F {X M} p {y} v=>by kernel_rfl)
@[simp] noncomputable def QT:cB:=
 d (v 4 (b .none)) (d (v 5 (b .none)) (d (v 6 (h (b (.val (.ref 530))) (a (c 1) (a (f (c 2) (b (.int 3))) (a (f (c 2) (b (.int 4))) (a (f (c 2) (b (.int 5))) (j))))))) (d (cZ (cC .IsNot (c 6) (b .none)) (d (ij (gR [4,5]) (c 6)) (l)) (l)) (d (v 7 (h (b (.val (.ref 530))) (a (c 1) (a (f (c 2) (b (.int 6))) (a (f (c 2) (b (.int 7))) (a (b (.int 2)) (j))))))) (d (v 8 (h (b (.val (.ref 523))) (a (c 0) (a (b (.str "nat")) (j))))) (d (cQ (h (c 8) (a (c 0) (a (p (a (f (c 2) (b (.int 1))) (a (f (c 2) (b (.int 2))) (a (c 4) (a (c 5) (a (c 7) (a (f (c 2) (b (.int 8))) (j)))))))) (j))))) (l)))))))
theorem ZM:d9 537 4 [] 5 QT:=
 ec 537 4 ["scene","regs","row","rule"] ["low","high","span","ports","tool"] [] [] (fun F=>by kernel_rfl) (fun F=> .nil) (fun p=>(dT 4 ["scene","regs","row","rule"] (fun E c B J=>by show dQ _ _=_;kernel_rfl))) (fun F {X M} p {y} v=>by kernel_rfl)
@[simp] noncomputable def Q1:cB:=
 d (v 1 (p (j))) (d (gk (gR [2,3]) (gS (c 0)) (d (cZ (cC .NotEq (c 2) (c 3)) (d (cQ (b .none)) (l)) (l)) (d (v 1 (e .Add (c 1) (p (a (c 2) (j))))) (l)))) (d (cQ (c 1)) (l)))
theorem ZV:d9 544 1 [] 3 Q1:=
 ec 544 1 ["box"] ["key","low","high"] [] [] (fun F=>by kernel_rfl) (fun F=> .nil) (fun p=>(dT 1 ["box"] (fun E=>by show dQ _ _=_;kernel_rfl))) (fun F {X M} p {y} v=>by kernel_rfl)
@[simp] noncomputable def P9:cB:=
 d (dN "box" (c 1) (c 0)) (d (dN "data" (c 2) (c 0)) (d (dN "until" (c 3) (c 0)) (d (dN "timeout" (b (.int 0)) (c 0)) (d (dN "comment" (b (.str "")) (c 0)) (d (dN "cells" (gb []) (c 0)) (l))))))
theorem YS:d9 559 3 [.int 0] 0 P9:=
 ec 559 3 ["self","box","data","until"] [] [.int 0 1035] [.int 0] (fun F=>by kernel_rfl) (fun F=> .cons (.int _ _) .nil) (fun p=>(fun U Q g h=>by refine vH (P:=fun Q=>nW U (eR (hd.ah _) 559) ⟨Q,[]⟩ ((["self","box","data","until"]:List PySem.Str).zip (Q++ [.int 0 1035]))) ?_ Q h;exact fun E c B=>Dm (T:=552) (by kernel_rfl) (g _ _ (p.k 552 _ rfl)) rfl rfl (by kernel_rfl))) (fun F {X M} p {y} v=>by kernel_rfl)
@[simp] noncomputable def Qr:cB:=
 d (cQ (KR (uo .Eq (dD "until" (c 0)) (b (.int 0))) (uo .Lt (c 1) (dD "until" (c 0))))) (l)
theorem Zc:d9 573 2 [] 0 Qr:=
 ec 573 2 ["element","now"] [] [] [] (fun F=>by kernel_rfl) (fun F=> .nil) (fun p=>(dT 2 ["element","now"] (fun E c=>by show dQ _ _=_;kernel_rfl))) (fun F {X M} p {y} v=>by kernel_rfl)
@[simp] noncomputable def Qc:cB:=
 d (dN "table" (gb []) (c 0)) (l)
theorem YV:d9 587 1 [] 0 Qc:=
 ec 587 1 ["self"] [] [] [] (fun F=>by kernel_rfl) (fun F=> .nil) (fun p=>(dT 1 ["self"] (fun E=>by show dQ _ _=_;kernel_rfl))) (fun F {X M} p {y} v=>by kernel_rfl)
@[simp] noncomputable def Qd:cB:=
 d (v 3 (h (b (.val (.ref 544))) (a (dD "box" (c 1)) (j)))) (d (cZ (cC .Is (c 3) (b .none)) (d (jt (h (b (.val (.ref 124))) (a (b (.str "EINVAL")) (j)))) (l)) (l)) (d (cZ (cC .IsNot (eM "find" (c 0) (a (c 3) (a (c 2) (j)))) (b .none)) (d (jt (h (b (.val (.ref 124))) (a (b (.str "EEXIST")) (j)))) (l)) (l)) (d (hJ (c 1) (dD "table" (c 0)) (c 3)) (l))))
theorem YW:d9 594 3 [] 1 Qd:=
 ec 594 3 ["self","element","now"] ["key"] [] [] (fun F=>by kernel_rfl) (fun F=> .nil) (fun p=>(dT 3 ["self","element","now"] (fun E c B=>by show dQ _ _=_;kernel_rfl))) (fun F {X M} p {y} v=>by kernel_rfl)
@[simp] noncomputable def Qb:cB:=
 d (v 3 (eM "get" (dD "table" (c 0)) (a (c 1) (j)))) (d (cZ (nA [cC .Is (c 3) (b .none),KN (qb (h (b (.val (.ref 573))) (a (c 3) (a (c 2) (j)))))]) (d (cQ (b .none)) (l)) (l)) (d (cQ (c 3)) (l)))
theorem YU:d9 608 3 [] 1 Qb:=
 ec 608 3 ["self","key","now"] ["element"] [] [] (fun F=>by kernel_rfl) (fun F=> .nil) (fun p=>(dT 3 ["self","key","now"] (fun E c B=>by show dQ _ _=_;kernel_rfl))) (fun F {X M} p {y} v=>by kernel_rfl)
end
section
@[simp] noncomputable def QA:cB:=
 d (cQ (e .Mod (e .Add (e .Mult (c 0) (b (.int 210306068529402873165736369884012333109))) (c 1)) (e .Pow (b (.int 2)) (c 2)))) (l)
theorem Zo:d9 657 3 [] 0 QA:=
 ec 657 3 ["digit","usual","bits"] [] [] [] (fun F=>by kernel_rfl) (fun F=> .nil) (fun p=>(dT 3 ["digit","usual","bits"] (fun E c B=>by show dQ _ _=_;kernel_rfl))) (fun F {X M} p {y} v=>by kernel_rfl)
@[simp] noncomputable def QB:cB:=
 d (cQ (h (b (.val (.type "bytes"))) (a (jL (g6 (c 1)) ao (e .Mod (e .FloorDiv (c 1) (e .Pow (b (.int 256)) (e .Sub (e .Sub (c 2) (b (.int 1))) (c 0)))) (b (.int 256)))) (j)))) (l)
theorem Zp:d9 662 2 [] 0 QB:=
 ec 662 2 ["number","many"] [] [] [] (fun F=>by kernel_rfl) (fun F=> .nil) (fun p=>(dT 2 ["number","many"] (fun E c=>by show dQ _ _=_;kernel_rfl))) (fun F {X M} p {y} v=>by kernel_rfl)
@[simp] noncomputable def Qw:cB:=
 d (v 5 (dj (j))) (d (gk (e6 6) (g6 (c 0)) (d (v 7 (p (a (e .Mod (e .Add (c 3) (e .Mult (b (.int 257)) (c 6))) (e .Pow (b (.int 2)) (c 2))) (j)))) (d (cZ (cC .Eq (e .Mod (e .FloorDiv (c 1) (e .Pow (b (.int 2)) (c 6))) (b (.int 2))) (b (.int 1))) (d (v 7 (e .Add (c 7) (p (a (e .Mod (e .Add (c 4) (e .Mult (b (.int 77)) (c 6))) (b (.int 65536))) (j))))) (l)) (l)) (d (eZ (eM "append" (c 5) (a (p (a (p (a (p (a (e .Add (b (.int 5)) (c 6)) (a (e .Add (b (.int 5)) (c 6)) (j)))) (j))) (a (c 7) (a (b (.int 0)) (a (b (.str "")) (j)))))) (j)))) (l))))) (d (cQ (h (b (.val (.type "tuple"))) (a (c 5) (j)))) (l)))
theorem Zj:d9 669 5 [] 3 Qw:=
 ec 669 5 ["many","ported","bits","low","port"] ["literals","k","data"] [] [] (fun F=>by kernel_rfl) (fun F=> .nil) (fun p=>(dT 5 ["many","ported","bits","low","port"] (fun E c B J C=>by show dQ _ _=_;kernel_rfl))) (fun F {X M} p {y} v=>by kernel_rfl)
@[simp] noncomputable def Qu:cB:=
 d (cZ (cC .Eq (c 0) (b (.int 0))) (d (cQ (b .none)) (l)) (l)) (d (cZ (cC .Eq (c 0) (b (.int 1))) (d (cQ (p (a (b (.str "span")) (a (c 2) (a (c 2) (j)))))) (l)) (l)) (d (cZ (cC .Eq (c 0) (b (.int 2))) (d (cQ (p (a (b (.str "span")) (a (c 2) (a (e .Add (c 2) (e .Mod (c 3) (e .Pow (b (.int 2)) (c 1)))) (j)))))) (l)) (l)) (d (cZ (cC .Eq (c 0) (b (.int 3))) (d (cQ (p (a (b (.str "net")) (a (c 2) (a (e .Mod (c 3) (e .Add (c 1) (b (.int 1)))) (j)))))) (l)) (l)) (d (cZ (cC .Eq (c 0) (b (.int 4))) (d (cQ (p (a (b (.str "map")) (a (p (a (b (.str "field")) (a (b (.str "meta mark")) (j)))) (a (p (a (b (.str "map")) (a (h (b (.val (.ref 669))) (a (e .Mod (c 3) (b (.int 4))) (a (e .FloorDiv (c 3) (b (.int 4))) (a (c 1) (a (c 2) (a (c 4) (j))))))) (j)))) (j)))))) (l)) (l)) (d (cQ (p (a (b (.str "map")) (a (p (a (b (.str "field")) (a (b (.str "meta priority")) (j)))) (a (p (a (b (.str "ref")) (a (e .Add (f (dj (a (b (.str "m")) (a (b (.str "p")) (j)))) (e .Mod (c 3) (b (.int 2)))) (f (dj (a (b (.str "4")) (a (b (.str "6")) (j)))) (e .FloorDiv (c 1) (b (.int 128))))) (j)))) (j)))))) (l))))))
theorem Zf:d9 676 5 [] 0 Qu:=
 ec 676 5 ["form","bits","low","m","q"] [] [] [] (fun F=>by kernel_rfl) (fun F=> .nil) (fun p=>(dT 5 ["form","bits","low","m","q"] (fun E c B J C=>by show dQ _ _=_;kernel_rfl))) (fun F {X M} p {y} v=>by kernel_rfl)
@[simp] noncomputable def QF:cB:=
 d (v 3 (e .Add (f (c 0) (b (.int 0))) (h (b (.val (.ref 650))) (a (c 1) (a (c 2) (j)))))) (d (v 4 (e .Add (f (c 0) (b (.int 2))) (h (b (.val (.ref 650))) (a (c 1) (a (e .Add (c 2) (b (.int 2))) (j)))))) (d (v 5 (e .Add (f (c 0) (b (.int 3))) (h (b (.val (.ref 650))) (a (c 1) (a (e .Add (c 2) (b (.int 3))) (j)))))) (d (v 6 (e .Add (f (c 0) (b (.int 4))) (h (b (.val (.ref 650))) (a (c 1) (a (e .Add (c 2) (b (.int 4))) (j)))))) (d (v 7 (f (dj (a (b (.int 32)) (a (b (.int 128)) (j)))) (e .Mod (e .FloorDiv (c 3) (b (.int 96))) (b (.int 2))))) (d (v 8 (f (dj (a (p (j)) (a (p (a (b (.str "random")) (j))) (a (p (a (b (.str "persistent")) (j))) (a (p (a (b (.str "random")) (a (b (.str "persistent")) (j)))) (j)))))) (e .Mod (e .FloorDiv (c 3) (b (.int 4))) (b (.int 4))))) (d (v 9 (b .none)) (d (cZ (cC .Gt (e .Mod (c 5) (b (.int 3))) (b (.int 0))) (d (v 10 (e .Mod (e .FloorDiv (c 5) (b (.int 3))) (b (.int 65536)))) (d (v 9 (p (a (c 10) (a (e .Add (c 10) (g5 (cC .Eq (e .Mod (c 5) (b (.int 3))) (b (.int 2))) (e .Mod (c 6) (b (.int 65537))) (b (.int 0)))) (j))))) (l))) (l)) (d (cZ (cC .Gt (e .Mod (c 3) (b (.int 4))) (b (.int 1))) (d (cQ (p (a (b (.str "nat")) (a (f (dj (a (b (.str "masquerade")) (a (b (.str "redirect")) (j)))) (e .Sub (e .Mod (c 3) (b (.int 4))) (b (.int 2)))) (a (b (.int 0)) (a (b .none) (a (c 9) (a (c 8) (j))))))))) (l)) (l)) (d (v 11 (h (b (.val (.ref 657))) (a (h (b (.val (.ref 650))) (a (c 1) (a (e .Add (c 2) (b (.int 1))) (j)))) (a (f (c 0) (b (.int 1))) (a (c 7) (j)))))) (d (v 12 (h (b (.val (.ref 676))) (a (e .Mod (e .FloorDiv (c 3) (b (.int 16))) (b (.int 6))) (a (c 7) (a (c 11) (a (c 4) (a (c 6) (j)))))))) (d (cQ (p (a (b (.str "nat")) (a (f (dj (a (b (.str "snat")) (a (b (.str "dnat")) (j)))) (e .Mod (c 3) (b (.int 4)))) (a (f (dj (a (b (.int 2)) (a (b (.int 10)) (j)))) (e .FloorDiv (c 7) (b (.int 128)))) (a (c 12) (a (c 9) (a (c 8) (j))))))))) (l))))))))))))
theorem Zv:d9 683 3 [] 10 QF:=
 ec 683 3 ["base","script","at"] ["c","m","p","q","bits","flags","ports","first","low","addresses"] [] [] (fun F=>by kernel_rfl) (fun F=> .nil) (fun p=>(dT 3 ["base","script","at"] (fun E c B=>by show dQ _ _=_;kernel_rfl))) (fun F {X M} p {y} v=>by kernel_rfl)
@[simp] noncomputable def Qz:cB:=
 d (v 2 (h (b (.val (.ref 657))) (a (h (b (.val (.ref 650))) (a (c 0) (a (c 1) (j)))) (a (b (.int 336294682933583715844663186294045278408)) (a (b (.int 128)) (j)))))) (d (v 3 (gb [])) (d (gk (e6 4) (gS (dj (a (b (.str "m4")) (a (b (.str "p4")) (a (b (.str "m6")) (a (b (.str "p6")) (j))))))) (d (v 5 (g5 (cC .Eq (f (c 4) (b (.int 1))) (b (.str "4"))) (b (.int 32)) (b (.int 128)))) (d (v 6 (dj (j))) (d (gk (e6 7) (g6 (b (.int 2))) (d (v 8 (p (a (e .Mod (e .Add (c 2) (e .Mult (b (.int 257)) (c 7))) (e .Pow (b (.int 2)) (c 5))) (j)))) (d (cZ (cC .Eq (f (c 4) (b (.int 0))) (b (.str "p"))) (d (v 8 (e .Add (c 8) (p (a (e .Mod (e .Add (e .Add (h (b (.val (.ref 650))) (a (c 0) (a (e .Add (c 1) (b (.int 1))) (j)))) (b (.int 8000))) (c 7)) (b (.int 65536))) (j))))) (l)) (l)) (d (eZ (eM "append" (c 6) (a (p (a (p (a (p (a (e .Add (b (.int 3)) (c 7)) (a (e .Add (b (.int 3)) (c 7)) (j)))) (j))) (a (c 8) (a (b (.int 0)) (a (b (.str "")) (j)))))) (j)))) (l))))) (d (hJ (c 6) (c 3) (c 4)) (l)))))) (d (cQ (c 3)) (l))))
theorem Zn:d9 690 2 [] 7 Qz:=
 ec 690 2 ["script","at"] ["low","named","name","bits","literals","k","data"] [] [] (fun F=>by kernel_rfl) (fun F=> .nil) (fun p=>(dT 2 ["script","at"] (fun E c=>by show dQ _ _=_;kernel_rfl))) (fun F {X M} p {y} v=>by kernel_rfl)
@[simp] noncomputable def GN:cB:=
 d (cZ (cC .Eq (f (c 0) (b (.int 0))) (b (.str "span"))) (d (cQ (p (a (f (c 0) (b (.int 1))) (a (f (c 0) (b (.int 2))) (j))))) (l)) (l)) (d (v 2 (e .Pow (b (.int 2)) (e .Sub (c 1) (f (c 0) (b (.int 2)))))) (d (v 3 (e .Mult (e .FloorDiv (f (c 0) (b (.int 1))) (c 2)) (c 2))) (d (cQ (p (a (c 3) (a (e .Sub (e .Add (c 3) (c 2)) (b (.int 1))) (j))))) (l))))
theorem Zi:d9 697 2 [] 2 GN:=
 ec 697 2 ["addresses","bits"] ["wide","low"] [] [] (fun F=>by kernel_rfl) (fun F=> .nil) (fun p=>(dT 2 ["addresses","bits"] (fun E c=>by show dQ _ _=_;kernel_rfl))) (fun F {X M} p {y} v=>by kernel_rfl)
@[simp] noncomputable def GO:cB:=
 d (v 3 (f (c 0) (b (.int 2)))) (d (cZ (cC .Eq (f (c 3) (b (.int 0))) (b (.str "map"))) (d (v 4 (e .Add (b (.str "t")) (h (b (.val (.type "str"))) (a (h (b (.val (.builtin "len"))) (a (jL (gS (c 2)) (ab (hI [cC .Eq (f (c 0) (b (.int 0))) (b (.str "map")),cC .Eq (f (f (c 0) (b (.int 3))) (b (.int 0))) (b (.str "t"))])) (c 0)) (j))) (j))))) (d (uk 5 (gS (f (c 3) (b (.int 1)))) ao (h (b (.val (.builtin "len"))) (a (f (c 0) (b (.int 1))) (j)))) (l))) (d (v 4 (f (c 3) (b (.int 1)))) (d (v 5 (dj (a (g5 (cC .Eq (f (c 4) (b (.int 0))) (b (.str "p"))) (b (.int 2)) (b (.int 1))) (j)))) (l)))) (d (cZ (hI [cC .In (b (.int 1)) (c 5),cC .In (b (.int 2)) (c 5)]) (d (cQ (p (a (dj (j)) (a (dj (j)) (a (b (.str "left out: a map of addresses with ports and without")) (j)))))) (l)) (l)) (d (v 6 (g5 (cC .In (b (.int 2)) (c 5)) (p (a (p (a (c 1) (a (b (.str "big")) (j)))) (a (p (a (b (.int 2)) (a (b (.str "big")) (j)))) (j)))) (p (a (p (a (c 1) (a (b (.str "big")) (j)))) (j))))) (d (v 7 (g5 (cC .In (b (.int 2)) (c 5)) (dj (a (b (.int 0)) (a (b (.int 0)) (a (e .FloorDiv (c 1) (b (.int 4))) (a (e .FloorDiv (c 1) (b (.int 4))) (j)))))) (dj (a (b (.int 0)) (a (b (.int 0)) (a (ff fY (b (.int 1))) (a (ff fY (b (.int 1))) (j)))))))) (d (v 8 (dj (a (p (a (b (.str "meta")) (a (b (.int 0)) (a (ff (m4 5) (f (f (c 0) (b (.int 1))) (b (.int 1)))) (a (b (.int 4)) (a (b (.str "host")) (j))))))) (a (p (a (b (.str "map")) (a (b (.int 0)) (a (p (a (p (a (b (.int 4)) (a (b (.str "host")) (j)))) (j))) (a (c 4) (a (b (.int 0)) (a (c 6) (j)))))))) (j))))) (d (cQ (p (a (c 8) (a (c 7) (a (b (.str "")) (j)))))) (l)))))))
theorem Zm:d9 702 3 [] 6 GO:=
 ec 702 3 ["addresses","size","ahead"] ["where","name","widths","layout","places","rows"] [] [] (fun F=>by kernel_rfl) (fun F=> .nil) (fun p=>(dT 3 ["addresses","size","ahead"] (fun E c B=>by show dQ _ _=_;kernel_rfl))) (fun F {X M} p {y} v=>by kernel_rfl)
@[simp] noncomputable def GQ:cB:=
 d (ij (gR [2,3,4,5,6]) (ff (tv 1) (c 0))) (d (v 7 (g5 (cC .Is (c 4) (b .none)) (b (.int 0)) (f (dj (a (b (.int 4)) (a (b (.int 16)) (j)))) (e .FloorDiv (c 3) (b (.int 10)))))) (d (ij (nt [10,9,8]) (p (a (dj (j)) (a (dj (a (ff fY (b (.int 1))) (a (ff fY (b (.int 1))) (a (ff fY (b (.int 1))) (a (ff fY (b (.int 1))) (j)))))) (a (b (.str "")) (j)))))) (d (v 11 (dj (j))) (d (cZ (hI [cC .Gt (c 7) (b (.int 0)),cC .Eq (f (c 4) (b (.int 0))) (b (.str "map"))]) (d (ij (gR [8,9,10]) (h (b (.val (.ref 702))) (a (c 4) (a (c 7) (a (c 1) (j)))))) (l)) (d (cZ (cC .Gt (c 7) (b (.int 0))) (d (v 12 (uq (h (b (.val (.ref 697))) (a (c 4) (a (e .Mult (b (.int 8)) (c 7)) (j)))))) (d (uk 11 (g6 (h (b (.val (.builtin "len"))) (a (c 12) (j)))) ao (p (a (e .FloorDiv (e .Mult (c 0) (c 8)) (b (.int 4))) (a (f (c 13) (c 0)) (a (c 8) (j)))))) (d (v 9 (dj (a (b (.int 0)) (a (e .FloorDiv (e .Mult (e .Sub (h (b (.val (.builtin "len"))) (a (c 12) (j))) (b (.int 1))) (c 7)) (b (.int 4))) (a (ff fY (b (.int 1))) (a (ff fY (b (.int 1))) (j))))))) (l)))) (l)) (l))) (d (cZ (cC .NotEq (c 10) (b (.str ""))) (d (cQ (p (a (dj (j)) (a (c 10) (j))))) (l)) (l)) (d (cZ (hI [cC .IsNot (c 5) (b .none),cC .Lt (f (c 9) (b (.int 2))) (b (.int 0))]) (d (v 12 (uq (c 5))) (d (v 11 (e .Add (c 11) (jL (g6 (h (b (.val (.builtin "len"))) (a (c 12) (j)))) ao (p (a (e .Add (b (.int 8)) (c 0)) (a (f (c 13) (c 0)) (a (b (.int 2)) (j)))))))) (d (v 9 (e .Add (ff (tx 2) (c 9)) (dj (a (b (.int 8)) (a (e .Add (b (.int 7)) (h (b (.val (.builtin "len"))) (a (c 12) (j)))) (j)))))) (l)))) (l)) (d (gk (gR [13,14,15]) (gS (c 11)) (d (cZ (cC .GtE (c 14) (e .Pow (b (.int 256)) (c 15))) (d (cQ (p (a (c 8) (a (b (.str "the number does not fit its octets")) (j))))) (l)) (l)) (d (eZ (eM "append" (c 8) (a (p (a (b (.str "immediate")) (a (c 13) (a (h (b (.val (.ref 662))) (a (c 14) (a (c 15) (j)))) (j))))) (j)))) (l)))) (d (cZ (hI [cC .Gt (c 7) (b (.int 0)),cC .Eq (f (c 4) (b (.int 0))) (b (.str "net"))]) (d (v 6 (e .Add (c 6) (p (a (b (.str "netmap")) (j))))) (l)) (l)) (d (eZ (eM "append" (c 8) (a (p (a (b (.str "nat")) (a (c 2) (a (c 3) (a (f (c 9) (b (.int 0))) (a (f (c 9) (b (.int 1))) (a (c 7) (a (f (c 9) (b (.int 2))) (a (f (c 9) (b (.int 3))) (a (c 6) (j))))))))))) (j)))) (d (cQ (p (a (c 8) (a (b (.str "")) (j))))) (l)))))))))))
theorem Zs:d9 707 2 [] 14 GQ:=
 ec 707 2 ["statement","ahead"] ["kind","nfproto","addresses","ports","flags","size","rows","places","why","puts","ends","reg","end","many"] [] [] (fun F=>by kernel_rfl) (fun F=> .nil) (fun p=>(dT 2 ["statement","ahead"] (fun E c=>by show dQ _ _=_;kernel_rfl))) (fun F {X M} p {y} v=>by kernel_rfl)
end
section
@[simp] noncomputable def GP:cB:=
 d (ij (gR [3,4,5,6,7]) (ff (tv 1) (c 0))) (d (cZ (cC .Is (c 5) (b .none)) (d (cQ (p (a (c 3) (a (c 4) (a (b .none) (a (b .none) (a (c 6) (a (c 7) (j))))))))) (l)) (l)) (d (cZ (cC .NotEq (f (c 5) (b (.int 0))) (b (.str "map"))) (d (ij (gR [8,9]) (h (b (.val (.ref 697))) (a (c 5) (a (f (dj (a (b (.int 32)) (a (b (.int 128)) (j)))) (e .FloorDiv (c 4) (b (.int 10)))) (j))))) (d (cQ (p (a (c 3) (a (c 4) (a (c 8) (a (c 9) (a (c 6) (a (e .Add (c 7) (g5 (cC .Eq (f (c 5) (b (.int 0))) (b (.str "net"))) (p (a (b (.str "netmap")) (j))) (p (j)))) (j))))))))) (l))) (l)) (d (v 10 (f (c 5) (b (.int 2)))) (d (v 11 (g5 (cC .Eq (f (c 10) (b (.int 0))) (b (.str "ref"))) (f (c 1) (f (c 10) (b (.int 1)))) (f (c 10) (b (.int 1))))) (d (gk (e6 12) (gS (c 11)) (d (cZ (cC .Eq (f (f (f (c 12) (b (.int 0))) (b (.int 0))) (b (.int 0))) (f (c 2) (ff (m4 5) (f (f (c 5) (b (.int 1))) (b (.int 1)))))) (d (v 13 (f (c 12) (b (.int 1)))) (d (cQ (p (a (c 3) (a (c 4) (a (f (c 13) (b (.int 0))) (a (f (c 13) (b (.int 0))) (a (g5 (cC .Eq (h (b (.val (.builtin "len"))) (a (c 13) (j))) (b (.int 1))) (c 6) (p (a (f (c 13) (b (.int 1))) (a (f (c 13) (b (.int 1))) (j))))) (a (c 7) (j))))))))) (l))) (l)) (l))) (d (cQ (b .none)) (l)))))))
theorem Zr:d9 714 3 [] 11 GP:=
 ec 714 3 ["statement","named","marks"] ["kind","nfproto","addresses","ports","flags","low","high","where","literals","literal","data"] [] [] (fun F=>by kernel_rfl) (fun F=> .nil) (fun p=>(dT 3 ["statement","named","marks"] (fun E c B=>by show dQ _ _=_;kernel_rfl))) (fun F {X M} p {y} v=>by kernel_rfl)
@[simp] noncomputable def Qv:cB:=
 d (v 4 (dj (j))) (d (v 5 (dj (j))) (d (v 6 (dj (j))) (d (v 7 (b .none)) (d (gk (e6 8) (gS (c 0)) (d (ij (gR [9,10]) (h (b (.val (.ref 707))) (a (c 8) (a (c 5) (j))))) (d (v 5 (e .Add (c 5) (c 9))) (d (eZ (eM "append" (c 4) (a (c 10) (j)))) (d (cZ (hI [cC .Is (c 7) (b .none),cC .NotEq (c 9) (dj (j))]) (d (v 11 (h (b (.val (.ref 714))) (a (c 8) (a (c 1) (a (c 2) (j)))))) (d (cZ (cC .Is (c 11) (b .none)) (d (v 7 (p (a (b (.str "break")) (a (b (.str "")) (j))))) (l)) (d (cZ (cC .Eq (c 10) (b (.str ""))) (d (v 12 (f (c 3) (h (b (.val (.builtin "len"))) (a (c 6) (j))))) (d (eZ (eM "append" (c 6) (a (c 11) (j)))) (d (cZ (hI [cC .IsNot (c 12) (b .none),cC .NotEq (f (c 12) (b (.int 0))) (b (.str "continue"))]) (d (v 7 (c 12)) (l)) (l)) (l)))) (l)) (l))) (l))) (l)) (l)))))) (d (cQ (p (a (c 4) (a (c 5) (a (c 7) (a (c 6) (j))))))) (l))))))
theorem Zh:d9 721 4 [] 9 Qv:=
 ec 721 4 ["statements","named","marks","verdicts"] ["whys","rows","requests","verdict","statement","more","why","request","said"] [] [] (fun F=>by kernel_rfl) (fun F=> .nil) (fun p=>(dT 4 ["statements","named","marks","verdicts"] (fun E c B J=>by show dQ _ _=_;kernel_rfl))) (fun F {X M} p {y} v=>by kernel_rfl)
@[simp] noncomputable def QG:cB:=
 d (v 1 (h (b (.val (.ref 639))) (j))) (d (gk (e6 2) (gS (c 0)) (d (eZ (eM "put" (c 1) (a (h (b (.val (.ref 562))) (a (f (c 2) (b (.int 0))) (a (f (c 2) (b (.int 1))) (j)))) (a (b (.int 0)) (j))))) (l))) (d (cQ (c 1)) (l)))
theorem Zw:d9 728 1 [] 2 QG:=
 ec 728 1 ["literals"] ["store","literal"] [] [] (fun F=>by kernel_rfl) (fun F=> .nil) (fun p=>(dT 1 ["literals"] (fun E=>by show dQ _ _=_;kernel_rfl))) (fun F {X M} p {y} v=>by kernel_rfl)
@[simp] noncomputable def Qx:cB:=
 d (v 5 (f (f (c 2) (b (.int 2))) (b (.int 1)))) (d (cZ (cC .Eq (f (f (c 2) (b (.int 2))) (b (.int 0))) (b (.str "map"))) (d (v 5 (e .Add (b (.str "t")) (h (b (.val (.type "str"))) (a (h (b (.val (.builtin "len"))) (a (dD "sets" (c 0)) (j))) (j))))) (d (hJ (h (b (.val (.ref 728))) (a (f (f (c 2) (b (.int 2))) (b (.int 1))) (j))) (dD "sets" (c 0)) (c 5)) (l))) (l)) (d (eZ (eM "append" (dD "rows" (c 0)) (a (p (a (b (.str "meta")) (a (c 1) (a (ff (m4 5) (f (f (c 2) (b (.int 1))) (b (.int 1)))) (a (b (.int 4)) (a (b (.str "host")) (j))))))) (j)))) (d (eZ (eM "append" (dD "rows" (c 0)) (a (p (a (b (.str "map")) (a (c 1) (a (p (a (p (a (b (.int 4)) (a (b (.str "host")) (j)))) (j))) (a (c 5) (a (c 3) (a (c 4) (j)))))))) (j)))) (l))))
theorem Zk:d9 735 5 [] 1 Qx:=
 ec 735 5 ["rowing","reg","e","to","layout"] ["name"] [] [] (fun F=>by kernel_rfl) (fun F=> .nil) (fun p=>(dT 5 ["rowing","reg","e","to","layout"] (fun E c B J C=>by show dQ _ _=_;kernel_rfl))) (fun F {X M} p {y} v=>by kernel_rfl)
@[simp] noncomputable def QI:cB:=
 d (eZ (eM "append" (dD "log" (c 0)) (a (c 1) (j)))) (d (cQ (f (dD "replies" (c 0)) (e .Sub (h (b (.val (.builtin "len"))) (a (dD "log" (c 0)) (j))) (b (.int 1))))) (l))
theorem Zy:d9 742 2 [] 0 QI:=
 ec 742 2 ["scene","request"] [] [] [] (fun F=>by kernel_rfl) (fun F=> .nil) (fun p=>(dT 2 ["scene","request"] (fun E c=>by show dQ _ _=_;kernel_rfl))) (fun F {X M} p {y} v=>by kernel_rfl)
@[simp] noncomputable def Qy:cB:=
 d (xG (d (eZ (h (b (.val (.ref 239))) (a (c 0) (a (c 1) (a (b (.int 0)) (j)))))) (l)) [(108,2,d (cQ (e .Add (b (.str "left out: ")) (dD "why" (c 2)))) (l)),(65,2,d (cQ (dD "why" (c 2))) (l))]) (d (cQ (b (.str ""))) (l))
theorem Zl:d9 749 2 [] 1 Qy:=
 ec 749 2 ["rowing","statement"] ["fault"] [] [] (fun F=>by kernel_rfl) (fun F=> .nil) (fun p=>(dT 2 ["rowing","statement"] (fun E c=>by show dQ _ _=_;kernel_rfl))) (fun F {X M} p {y} v=>by kernel_rfl)
@[simp] noncomputable def QD:cB:=
 d (cZ (cC .Lt (c 1) (b (.int 0))) (d (cQ (b .none)) (l)) (l)) (d (v 4 (g5 (cC .Lt (c 2) (b (.int 0))) (c 1) (c 2))) (d (cZ (cC .Gt (e .Add (e .Mult (b (.int 4)) (h (b (.val (.builtin "max"))) (a (c 1) (a (c 4) (j))))) (c 3)) (b (.int 64))) (d (cQ (b (.str "octets past the registers"))) (l)) (l)) (d (cQ (h (b (.val (.type "tuple"))) (a (jL (gS (dj (a (c 1) (a (c 4) (j))))) ao (h (b (.val (.builtin "sum"))) (a (jL (g6 (c 4)) ao (e .Mult (f (c 2) (e .Add (e .Mult (b (.int 4)) (c 1)) (c 0))) (e .Pow (b (.int 256)) (e .Sub (e .Sub (c 5) (b (.int 1))) (c 0))))) (j)))) (j)))) (l))))
theorem Zt:d9 761 4 [] 1 QD:=
 ec 761 4 ["octets","low","high","many"] ["last"] [] [] (fun F=>by kernel_rfl) (fun F=> .nil) (fun p=>(dT 4 ["octets","low","high","many"] (fun E c B J=>by show dQ _ _=_;kernel_rfl))) (fun F {X M} p {y} v=>by kernel_rfl)
@[simp] noncomputable def QE:cB:=
 d (xG (d (cQ (h (b (.val (.ref 530))) (a (c 0) (a (c 1) (a (c 2) (a (c 3) (j))))))) (l)) [(65,4,d (cQ (dD "why" (c 4))) (l))]) (l)
theorem Zu:d9 768 4 [] 1 QE:=
 ec 768 4 ["regs","low","high","many"] ["fault"] [] [] (fun F=>by kernel_rfl) (fun F=> .nil) (fun p=>(dT 4 ["regs","low","high","many"] (fun E c B J=>by show dQ _ _=_;kernel_rfl))) (fun F {X M} p {y} v=>by kernel_rfl)
@[simp] noncomputable def GL:cB:=
 d (xG (d (cQ (p (a (h (b (.val (.ref 537))) (a (c 0) (a (c 1) (a (c 2) (a (b .none) (j)))))) (a (dD "log" (c 0)) (j))))) (l)) [(65,3,d (cQ (p (a (dD "why" (c 3)) (a (dD "log" (c 0)) (j))))) (l))]) (l)
theorem Zg:d9 775 3 [] 1 GL:=
 ec 775 3 ["scene","regs","row"] ["fault"] [] [] (fun F=>by kernel_rfl) (fun F=> .nil) (fun p=>(dT 3 ["scene","regs","row"] (fun E c B=>by show dQ _ _=_;kernel_rfl))) (fun F {X M} p {y} v=>by kernel_rfl)
end
section
@[simp] noncomputable def Qa:cB:=
 d (dN "data" (iT (b (.val (.type "bytearray"))) (a (c 1) (j))) (c 0)) (d (dN "link" (iT (b (.val (.type "bytearray"))) (a (c 3) (j))) (c 0)) (d (dN "kind" (c 2) (c 0)) (d (dN "l4" (ff fY (b (.int 1))) (c 0)) (d (dN "off" (ff fY (b (.int 1))) (c 0)) (d (dN "place" (b (.int 0)) (c 0)) (d (dN "meta" (h (b (.val (.ref 361))) (j)) (c 0)) (l)))))))
theorem YT:kg 375 4 [] 0 Qa:=
 k4 375 4 ["self","data","kind","link"] [] [] [] (fun F=>by kernel_rfl) (fun F=> .nil) (fun p=>(dT 4 ["self","data","kind","link"] (fun E c B J=>by show dQ _ _=_;kernel_rfl))) (fun F {X M} p {y} v=>by kernel_rfl)
@[simp] noncomputable def Qf:cB:=
 d (dN "octets" (iT (b (.val (.type "bytearray"))) (a (b (.int 64)) (j))) (c 0)) (l)
theorem YY:kg 439 1 [] 0 Qf:=
 k4 439 1 ["self"] [] [] [] (fun F=>by kernel_rfl) (fun F=> .nil) (fun p=>(dT 1 ["self"] (fun E=>by show dQ _ _=_;kernel_rfl))) (fun F {X M} p {y} v=>by kernel_rfl)
@[simp] noncomputable def Qg:cB:=
 d (v 3 (h (b (.val (.ref 169))) (a (c 2) (j)))) (d (cZ (nA [cC .Lt (c 1) (b (.int 0)),cC .Gt (e .Add (e .Mult (b (.int 4)) (c 1)) (h (b (.val (.builtin "len"))) (a (c 3) (j)))) (b (.int 64))]) (d (jt (h (b (.val (.ref 65))) (a (b (.str "octets past the registers")) (j)))) (l)) (l)) (d (KO (c 3) (dD "octets" (c 0)) (e .Mult (b (.int 4)) (c 1)) (e .Add (e .Mult (b (.int 4)) (c 1)) (h (b (.val (.builtin "len"))) (a (c 3) (j))))) (l)))
theorem YZ:kg 453 3 [] 1 Qg:=
 k4 453 3 ["self","reg","octets"] ["filled"] [] [] (fun F=>by kernel_rfl) (fun F=> .nil) (fun p=>(dT 3 ["self","reg","octets"] (fun E c B=>by show dQ _ _=_;kernel_rfl))) (fun F {X M} p {y} v=>by kernel_rfl)
@[simp] noncomputable def Q0:cB:=
 d (cZ (cC .Is (dD "rows" (c 1)) (b .none)) (d (jt (h (b (.val (.ref 65))) (a (b (.str "a rule without rows")) (j)))) (l)) (l)) (d (v 2 (iT (b (.val (.ref 456))) (j))) (d (gk (e6 3) (gS (dD "rows" (c 1))) (d (v 4 (eM "get" (dD "ops" (c 0)) (a (f (c 3) (b (.int 0))) (j)))) (d (cZ (cC .Is (c 4) (b .none)) (d (jt (h (b (.val (.ref 65))) (a (e .Add (b (.str "no op for a row ")) (f (c 3) (b (.int 0)))) (j)))) (l)) (l)) (d (v 5 (iT (c 4) (a (c 0) (a (c 2) (a (c 3) (a (c 1) (j))))))) (d (cZ (hI [cC .IsNot (c 5) (b .none),cC .NotEq (f (c 5) (b (.int 0))) (b (.str "continue"))]) (d (cQ (c 5)) (l)) (l)) (l)))))) (d (cQ (b .none)) (l))))
theorem ZU:kg 467 2 [] 4 Q0:=
 k4 467 2 ["scene","rule"] ["regs","row","op","verdict"] [] [] (fun F=>by kernel_rfl) (fun F=> .nil) (fun p=>(dT 2 ["scene","rule"] (fun E c=>by show dQ _ _=_;kernel_rfl))) (fun F {X M} p {y} v=>by kernel_rfl)
@[simp] noncomputable def QW:cB:=
 d (cZ (cC .Lt (h (b (.val (.builtin "len"))) (a (c 4) (j))) (h (b (.val (.builtin "len"))) (a (c 3) (j)))) (d (jt (h (b (.val (.ref 65))) (a (b (.str "a key of fewer components than its layout")) (j)))) (l)) (l)) (d (gk (e6 5) (g6 (h (b (.val (.builtin "len"))) (a (c 3) (j)))) (d (ij (gR [6,7]) (f (c 3) (c 5))) (d (eZ (rV "put" (c 1) (a (c 2) (a (h (b (.val (.ref 148))) (a (f (c 4) (c 5)) (a (c 6) (a (h (b (.val (.ref 162))) (a (c 7) (a (dD "order" (c 0)) (j)))) (j))))) (j))))) (d (um 2 (h (b (.val (.ref 197))) (a (c 6) (j)))) (l))))) (l))
theorem ZQ:kg 481 5 [] 3 QW:=
 k4 481 5 ["scene","regs","reg","layout","key"] ["at","size","order"] [] [] (fun F=>by kernel_rfl) (fun F=> .nil) (fun p=>(dT 5 ["scene","regs","reg","layout","key"] (fun E c B J C=>by show dQ _ _=_;kernel_rfl))) (fun F {X M} p {y} v=>by kernel_rfl)
@[simp] noncomputable def QR:cB:=
 d (eZ (rV "put" (c 1) (a (f (c 2) (b (.int 1))) (a (f (c 2) (b (.int 2))) (j))))) (d (cQ (b .none)) (l))
theorem ZJ:kg 488 4 [] 0 QR:=
 k4 488 4 ["scene","regs","row","rule"] [] [] [] (fun F=>by kernel_rfl) (fun F=> .nil) (fun p=>(dT 4 ["scene","regs","row","rule"] (fun E c B J=>by show dQ _ _=_;kernel_rfl))) (fun F {X M} p {y} v=>by kernel_rfl)
@[simp] noncomputable def QX:cB:=
 d (cZ (cC .Is (c 3) (b .none)) (d (cQ (p (a (b (.str "break")) (a (b (.str "")) (j))))) (l)) (l)) (d (eZ (rV "put" (c 1) (a (c 2) (a (h (b (.val (.ref 148))) (a (c 3) (a (c 4) (a (h (b (.val (.ref 162))) (a (c 5) (a (dD "order" (c 0)) (j)))) (j))))) (j))))) (d (cQ (b .none)) (l)))
theorem ZR:kg 495 6 [] 0 QX:=
 k4 495 6 ["scene","regs","reg","n","size","order"] [] [] [] (fun F=>by kernel_rfl) (fun F=> .nil) (fun p=>(dT 6 ["scene","regs","reg","n","size","order"] (fun E c B J C L=>by show dQ _ _=_;kernel_rfl))) (fun F {X M} p {y} v=>by kernel_rfl)
@[simp] noncomputable def QS:cB:=
 d (cQ (iT (b (.val (.ref 495))) (a (c 0) (a (c 1) (a (f (c 2) (b (.int 1))) (a (h (b (.val (.ref 425))) (a (c 0) (a (f (c 2) (b (.int 2))) (j)))) (a (f (c 2) (b (.int 3))) (a (f (c 2) (b (.int 4))) (j))))))))) (l)
theorem ZL:kg 502 4 [] 0 QS:=
 k4 502 4 ["scene","regs","row","rule"] [] [] [] (fun F=>by kernel_rfl) (fun F=> .nil) (fun p=>(dT 4 ["scene","regs","row","rule"] (fun E c B J=>by show dQ _ _=_;kernel_rfl))) (fun F {X M} p {y} v=>by kernel_rfl)
@[simp] noncomputable def GR:cB:=
 d (v 4 (h (b (.val (.ref 509))) (a (c 0) (a (c 1) (a (c 3) (a (f (c 2) (b (.int 1))) (a (f (c 2) (b (.int 2))) (a (f (c 2) (b (.int 3))) (j))))))))) (d (cZ (cC .Is (c 4) (b .none)) (d (cQ (p (a (b (.str "break")) (a (b (.str "")) (j))))) (l)) (l)) (d (eZ (iT (b (.val (.ref 481))) (a (c 0) (a (c 1) (a (f (c 2) (b (.int 4))) (a (f (c 2) (b (.int 5))) (a (dD "data" (c 4)) (j)))))))) (d (cQ (b .none)) (l))))
theorem ZK:kg 516 4 [] 1 GR:=
 k4 516 4 ["scene","regs","row","rule"] ["element"] [] [] (fun F=>by kernel_rfl) (fun F=> .nil) (fun p=>(dT 4 ["scene","regs","row","rule"] (fun E c B J=>by show dQ _ _=_;kernel_rfl))) (fun F {X M} p {y} v=>by kernel_rfl)
@[simp] noncomputable def QH:cB:=
 d (v 5 (h (b (.val (.ref 186))) (a (gb []) (a (b (.str "inet")) (a (c 4) (a (b (.str "__set")) (j))))))) (d (dN "makers" (gb [("map",b (.val (.ref 735)))]) (c 5)) (d (dN "flags" (gb [("p4",p (a (b (.str "ports")) (j))),("m6",p (a (b (.str "constant")) (j))),("p6",p (a (b (.str "interval")) (a (b (.str "ports")) (j))))]) (c 5)) (d (v 6 (dj (j))) (d (gk (e6 7) (gS (c 0)) (d (eZ (eM "append" (c 6) (a (h (b (.val (.ref 749))) (a (c 5) (a (c 7) (j)))) (j)))) (l))) (d (v 8 (iT (b (.val (.ref 378))) (a (b (.bytes (se gs []))) (a (b (.int 2048)) (a (b (.bytes (se gs []))) (j)))))) (d (hJ (f (c 2) (b (.str "mark"))) (dD "meta" (c 8)) (b (.str "mark"))) (d (hJ (f (c 2) (b (.str "priority"))) (dD "meta" (c 8)) (b (.str "priority"))) (d (v 9 (h (b (.val (.ref 407))) (a (c 8) (a (gb []) (j))))) (d (dN "order" (c 4) (c 9)) (d (dN "ops" (gb [("immediate",b (.val (.ref 488))),("meta",b (.val (.ref 502))),("map",b (.val (.ref 516))),("nat",b (.val (.ref 537)))]) (c 9)) (d (hJ (b (.val (.ref 742))) (dD "tools" (c 9)) (b (.str "nat"))) (d (dN "replies" (c 3) (c 9)) (d (gk (e6 10) (gS (dj (a (b (.str "m4")) (a (b (.str "p4")) (a (b (.str "m6")) (a (b (.str "p6")) (j))))))) (d (hJ (h (b (.val (.ref 728))) (a (f (c 1) (c 10)) (j))) (dD "sets" (c 9)) (c 10)) (l))) (d (v 11 (h (b (.val (.ref 350))) (a (b (.int 1)) (a (p (j)) (j))))) (d (dN "rows" (dD "rows" (c 5)) (c 11)) (d (dN "sets" (dD "sets" (c 5)) (c 11)) (d (cQ (p (a (c 6) (a (dD "rows" (c 5)) (a (iT (b (.val (.ref 467))) (a (c 9) (a (c 11) (j)))) (a (dD "log" (c 9)) (j))))))) (l))))))))))))))))))
theorem Zx:kg 756 5 [] 7 QH:=
 k4 756 5 ["statements","named","marks","verdicts","order"] ["rowing","whys","statement","packet","scene","name","rule"] [] [] (fun F=>by kernel_rfl) (fun F=> .nil) (fun p=>(dT 5 ["statements","named","marks","verdicts","order"] (fun E c B J C=>by show dQ _ _=_;kernel_rfl))) (fun F {X M} p {y} v=>by kernel_rfl)
@[simp] noncomputable def QC:cB:=
 d (uk 2 (g6 (b (.int 64))) ao (e .Mod (e .Add (e .Add (b (.int 37)) (e .Mult (b (.int 89)) (c 0))) (e .Mult (h (b (.val (.ref 650))) (a (c 1) (a (c 2) (j)))) (e .Add (e .Mult (c 0) (c 0)) (b (.int 1))))) (b (.int 256)))) (d (v 3 (iT (b (.val (.ref 456))) (j))) (d (eZ (rV "put" (c 3) (a (b (.int 0)) (a (h (b (.val (.type "bytes"))) (a (c 2) (j))) (j))))) (d (v 4 (dj (a (p (a (b (.int 3)) (a (b (.int 6)) (a (b (.int 10)) (a (b (.int 0)) (a (b (.int 42)) (j))))))) (a (p (a (b (.int 12)) (a (b (.int 0)) (a (b (.int 0)) (a (b (.int 5)) (a (b (.int 3)) (j))))))) (a (p (a (b (.int 0)) (a (b (.int 8)) (a (b (.int 16)) (a (b (.int 16)) (a (b (.int 120)) (j))))))) (a (p (a (b (.int 2)) (a (b (.int 14)) (a (b (.int 1)) (a (b (.int 1)) (a (b (.int 5)) (j))))))) (j))))))) (d (gk (e6 5) (g6 (b (.int 4))) (d (v 6 (jL (g6 (b (.int 5))) ao (e .Add (f (f (c 5) (c 6)) (c 0)) (h (b (.val (.ref 650))) (a (c 1) (a (e .Add (e .Add (e .Add (c 2) (b (.int 1))) (e .Mult (b (.int 5)) (c 6))) (c 0)) (j))))))) (d (Cf [7,8,9,10] (jL (g6 (b (.int 4))) ao (e .Sub (e .Mod (f (c 7) (c 0)) (b (.int 17))) (b (.int 1))))) (d (v 11 (f (c 6) (b (.int 4)))) (d (cZ (cC .NotEq (h (b (.val (.ref 768))) (a (c 3) (a (c 7) (a (c 8) (a (e .Add (e .Mod (e .FloorDiv (c 11) (b (.int 8))) (b (.int 16))) (b (.int 1))) (j)))))) (h (b (.val (.ref 761))) (a (c 2) (a (c 7) (a (c 8) (a (e .Add (e .Mod (e .FloorDiv (c 11) (b (.int 8))) (b (.int 16))) (b (.int 1))) (j))))))) (d (cQ (b (.bool false))) (l)) (l)) (d (ij (nt [14,13,12]) (p (a (f (dj (a (b (.str "snat")) (a (b (.str "dnat")) (j)))) (e .Mod (e .FloorDiv (c 11) (b (.int 128))) (b (.int 2)))) (a (f (dj (a (b (.int 2)) (a (b (.int 10)) (j)))) (e .Mod (c 11) (b (.int 2)))) (a (f (dj (a (b (.int 4)) (a (b (.int 16)) (j)))) (e .Mod (c 11) (b (.int 2)))) (j)))))) (d (v 15 (f (dj (a (p (j)) (a (p (a (b (.str "random")) (j))) (j)))) (e .Mod (e .FloorDiv (c 11) (b (.int 256))) (b (.int 2))))) (d (v 16 (h (b (.val (.ref 407))) (a (b .none) (a (gb []) (j))))) (d (dN "replies" (dj (a (p (a (b (.str "accept")) (a (b (.str "")) (j)))) (j))) (c 16)) (d (cZ (cC .Gt (e .Mod (e .FloorDiv (c 11) (b (.int 2))) (b (.int 4))) (b (.int 0))) (d (hJ (b (.val (.ref 742))) (dD "tools" (c 16)) (b (.str "nat"))) (l)) (l)) (d (v 17 (h (b (.val (.ref 761))) (a (c 2) (a (c 7) (a (c 8) (a (c 14) (j))))))) (d (v 18 (h (b (.val (.ref 761))) (a (c 2) (a (c 9) (a (c 10) (a (b (.int 2)) (j))))))) (d (cZ (nA [qb (h (b (.val (.builtin "isinstance"))) (a (c 17) (a (b (.val (.type "str"))) (j)))),qb (h (b (.val (.builtin "isinstance"))) (a (c 18) (a (b (.val (.type "str"))) (j))))]) (d (v 19 (p (a (b (.str "octets past the registers")) (a (dj (j)) (j))))) (l)) (d (cZ (cC .Eq (e .Mod (e .FloorDiv (c 11) (b (.int 2))) (b (.int 4))) (b (.int 0))) (d (v 19 (p (a (b (.str "no tool for nat")) (a (dj (j)) (j))))) (l)) (d (v 17 (g5 (cC .Is (c 17) (b .none)) (p (a (b .none) (a (b .none) (j)))) (c 17))) (d (v 19 (p (a (p (a (b (.str "accept")) (a (b (.str "")) (j)))) (a (dj (a (p (a (c 12) (a (c 13) (a (f (c 17) (b (.int 0))) (a (f (c 17) (b (.int 1))) (a (c 18) (a (c 15) (j)))))))) (j))) (j))))) (l)))) (l))) (d (v 20 (p (a (b (.str "nat")) (a (c 12) (a (c 13) (a (c 7) (a (c 8) (a (c 14) (a (c 9) (a (c 10) (a (c 15) (j)))))))))))) (d (cZ (cC .NotEq (h (b (.val (.ref 775))) (a (c 16) (a (c 3) (a (c 20) (j))))) (c 19)) (d (cQ (b (.bool false))) (l)) (l)) (l)))))))))))))))) (d (cQ (b (.bool true))) (l))))))
theorem Zq:kg 780 2 [] 19 QC:=
 k4 780 2 ["script","at"] ["octets","regs","base","k","drawn","low","high","port_low","port_high","c","kind","nfproto","size","flags","scene","ends","ports","due","row"] [] [] (fun F=>by kernel_rfl) (fun F=> .nil) (fun p=>(dT 2 ["script","at"] (fun E c=>by show dQ _ _=_;kernel_rfl))) (fun F {X M} p {y} v=>by kernel_rfl)
@[simp] noncomputable def Qt:cB:=
 d (v 1 (dj (a (p (a (b (.int 37)) (a (b (.int 3325256725)) (a (b (.int 20)) (a (b (.int 12002)) (a (b (.int 99)) (j))))))) (a (p (a (b (.int 144)) (a (b (.int 42540766464122081094298350666160367223)) (a (b (.int 56)) (a (b (.int 0)) (a (b (.int 0)) (j))))))) (j))))) (d (v 1 (e .Add (c 1) (dj (a (p (a (b (.int 73)) (a (b (.int 167772260)) (a (b (.int 2)) (a (b (.int 24241)) (a (b (.int 443)) (j))))))) (a (p (a (b (.int 15)) (a (b (.int 0)) (a (b (.int 0)) (a (b (.int 9385)) (a (b (.int 0)) (j))))))) (a (p (a (b (.int 176)) (a (b (.int 0)) (a (b (.int 1)) (a (b (.int 3074)) (a (b (.int 64511)) (j))))))) (j))))))) (d (v 1 (e .Add (c 1) (dj (a (p (a (b (.int 20)) (a (b (.int 2130706433)) (a (b (.int 0)) (a (b (.int 0)) (a (b (.int 0)) (j))))))) (a (p (a (b (.int 57)) (a (b (.int 2886795262)) (a (b (.int 12)) (a (b (.int 1330)) (a (b (.int 0)) (j))))))) (j)))))) (d (v 2 (dj (j))) (d (gk (e6 3) (g6 (b (.int 7))) (d (eZ (eM "append" (c 2) (a (h (b (.val (.ref 683))) (a (f (c 1) (c 3)) (a (c 0) (a (e .Mult (b (.int 5)) (c 3)) (j))))) (j)))) (l))) (d (v 4 (dj (a (b .none) (a (p (a (b (.str "continue")) (a (b (.str "")) (j)))) (a (b .none) (a (p (a (b (.str "continue")) (a (b (.str "")) (j)))) (a (b .none) (a (p (a (b (.str "continue")) (a (b (.str "")) (j)))) (a (b .none) (a (b .none) (j))))))))))) (d (v 5 (h (b (.val (.ref 650))) (a (c 0) (a (b (.int 35)) (j))))) (d (hJ (f (dj (a (p (a (b (.str "accept")) (a (b (.str "")) (j)))) (a (p (a (b (.str "drop")) (a (b (.str "")) (j)))) (a (p (a (b (.str "break")) (a (b (.str "")) (j)))) (j))))) (e .Mod (e .FloorDiv (c 5) (b (.int 8))) (b (.int 3)))) (c 4) (e .Mod (e .Add (c 5) (b (.int 6))) (b (.int 8)))) (d (v 6 (gb [("mark",e .Add (b (.int 5)) (e .Mod (e .Add (h (b (.val (.ref 650))) (a (c 0) (a (b (.int 36)) (j)))) (b (.int 1))) (b (.int 4)))),("priority",e .Add (b (.int 3)) (e .Mod (h (b (.val (.ref 650))) (a (c 0) (a (b (.int 37)) (j)))) (b (.int 3))))])) (d (v 7 (h (b (.val (.ref 690))) (a (c 0) (a (b (.int 38)) (j))))) (d (v 8 (h (b (.val (.ref 721))) (a (c 2) (a (c 7) (a (c 6) (a (c 4) (j))))))) (d (gk (e6 9) (gS (dj (a (b (.str "little")) (a (b (.str "big")) (j))))) (d (cZ (cC .NotEq (iT (b (.val (.ref 756))) (a (c 2) (a (c 7) (a (c 6) (a (c 4) (a (c 9) (j))))))) (c 8)) (d (cQ (b (.bool false))) (l)) (l)) (l))) (d (cQ (iT (b (.val (.ref 780))) (a (c 0) (a (b (.int 40)) (j))))) (l)))))))))))))
theorem Ze:kg 787 1 [] 9 Qt:=
 k4 787 1 ["script"] ["base","statements","k","verdicts","stop","marks","named","due","order"] [] [] (fun F=>by kernel_rfl) (fun F=> .nil) (fun p=>(dT 1 ["script"] (fun E=>by show dQ _ _=_;kernel_rfl))) (fun F {X M} p {y} v=>by kernel_rfl)
end
section
section
@[simp] theorem tA:ig .Add (.int B) (.int bk) q x bx=x (.int (B+bk)) q:=rfl
@[simp] theorem HV:ig .Sub (.int B) (.int bk) q x bx=x (.int (B - bk)) q:=rfl
@[simp] theorem SF:ig .Mult (.int B) (.int bk) q x bx=((ib B∨ib bk)∧x (.int (B * bk)) q):=rfl
@[simp] theorem SE:ig .FloorDiv (.int B) (.int bk) q x bx=((bk≠0∧i4 bk)∧x (.int (B.fdiv bk)) q):=rfl
@[simp] theorem abz:ig .Mod (.int B) (.int bk) q x bx=(bk≠0∧x (.int (B.fmod bk)) q):=rfl
@[simp] theorem abA:ig .Pow (.int B) (.int bk) q x bx=((0≤bk∧bk≤1000000∧ib B)∧x (.int (B ^ bk.toNat)) q):=rfl
@[simp] theorem abx:ig .Add (.str t) (.str e8) q x bx=(t.length+e8.length≤1000000∧x (.str (t++e8)) q):=rfl
@[simp] theorem aby:ig .Add (.tup n) (.tup y) q x bx=(n.length+y.length≤1000000∧x (.tup (n++y)) q):=rfl
@[simp] theorem AE:f7 .Eq (.int B) (.int bk) q c0 bx=c0 (B == bk) q:=rfl
@[simp] theorem wz:f7 .Eq (.str t) (.str e8) q c0 bx=c0 (t == e8) q:=rfl
@[simp] theorem abE:f7 .NotEq (.int B) (.int bk) q c0 bx=c0 (B != bk) q:=rfl
@[simp] theorem SK:f7 .NotEq (.str t) (.str e8) q c0 bx=c0 (t != e8) q:=rfl
@[simp] theorem wA:f7 .Lt (.int B) (.int bk) q c0 bx=c0 (decide (B < bk)) q:=rfl
@[simp] theorem abD:f7 .LtE (.int B) (.int bk) q c0 bx=c0 (decide (B≤bk)) q:=rfl
@[simp] theorem abC:f7 .Gt (.int B) (.int bk) q c0 bx=c0 (decide (bk < B)) q:=rfl
@[simp] theorem abB:f7 .GtE (.int B) (.int bk) q c0 bx=c0 (decide (bk≤B)) q:=rfl
@[simp] theorem SG:f7 .Is .none .none q c0 bx=c0 true q:=rfl
@[simp] theorem SI:f7 .Is (.tup n) .none q c0 bx=c0 false q:=rfl
@[simp] theorem SJ:f7 .Is (.val b8) .none q c0 bx=c0 (b8 == .none) q:=rfl
@[simp] theorem abF:f7 .IsNot .none .none q c0 bx=c0 false q:=rfl
@[simp] theorem abG:f7 .IsNot (.tup n) .none q c0 bx=c0 true q:=rfl
end
end
section
section
theorem eK:ih iK cR x d3 V q=iK V q cR x d3:=rfl
theorem bb(X:iK V q cR x d3):ih iK cR x d3 V q:=X
@[simp] theorem ab9:jZ eh iK V q cR x d3=eh V q (ih iK cR x d3) x d3:=rfl
@[simp] theorem aca:k3 V q cR x d3=cR V q:=rfl
@[simp] theorem acb:lO cI V q cR x d3=cI V q x (d3 V):=rfl
@[simp] theorem ach:e6 A V T=ab (V.put A (ab T)):=rfl
@[simp] theorem acj:gR b5 V (.tup n)=puts b5 n V:=rfl
@[simp] theorem aci:nt b5 V (.tup n)=puts b5 n.reverse V:=rfl
@[simp] theorem acd:tT cI gK qh V q cR x d3=cI V q (fun T n=>gK V n (fun o v=>qh V v (fun k b=>m5 o k T b (fun F l=>cR V l) (d3 V)) (d3 V)) (d3 V)) (d3 V):=rfl
@[simp] theorem acp:g4 A V q bx cF=match V.at A with
 | some T=>bx T q
 | none=>False:=rfl
@[simp] theorem acn:fQ T V q bx cF=bx T q:=rfl
@[simp] theorem acr {k:D→D→J→KK→KK→Prop}:xx k cI gK V q bx cF=cI V q (fun eh n=>gK V n (fun iK v=>k eh iK v bx cF) cF) cF:=rfl
@[simp] theorem aco:p8 gL cI gK V q bx cF=gL V q (fun i n=>if i=true then cI V n bx cF else gK V n bx cF) cF:=rfl
@[simp] theorem abq:mU [] V q c0 cF=c0 true q:=rfl
@[simp] theorem abr:mU (gL::nE) V q c0 cF=gL V q (fun i n=>if i=true then mU nE V n c0 cF else c0 false n) cF:=rfl
@[simp] theorem abt:mV fZ cI gK V q c0 cF=cI V q (fun eh n=>gK V n (fun iK v=>f7 fZ eh iK v c0 cF) cF) cF:=rfl
@[simp] theorem acq:nv V q iH cF=iH [] q:=rfl
@[simp] theorem acm:jI cI dh V q iH cF=cI V q (fun T n=>dh V n (fun b v=>iH (T::b) v) cF) cF:=rfl
@[simp] theorem ack:rR G w u C cI dh V q bx cF=cI V q (tf G w u C dh V bx cF) cF:=rfl
@[simp] theorem abo {dh:List D}:(T::dh)++n=T::(dh++n):=rfl
@[simp] theorem abp {dh:List D}:([]:List D)++dh=dh:=rfl
@[simp] theorem acf {dh:List D}:start (T::dh) C=ab T::start dh C:=rfl
@[simp] theorem acg:start [] (C+1)=ao::start [] C:=rfl
@[simp] theorem ace:start [] 0= []:=rfl
@[simp] theorem abv:tf G w u C dh V bx cF (.val b8) q=(f6 G w u b8∧dh V q (mv G w u C b8 bx cF) cF):=rfl
@[simp] theorem abu:v3 G w u C dh V bx cF (.val b8) q=(f6 G w u b8∧dh V q (xj G w u C b8 bx cF) cF):=rfl
@[simp] theorem abw {k:Int}:fY (.int k) q bx cF=bx (.int (-k)) q:=rfl
@[simp] theorem SP:jE (.tup (fg::n)) (.int 0) q bx cF=bx fg q:=rfl
@[simp] theorem abH:jE (.tup (fg::kx::n)) (.int 1) q bx cF=bx kx q:=rfl
@[simp] theorem abI:jE (.tup (fg::kx::xM::n)) (.int 2) q bx cF=bx xM q:=rfl
@[simp] theorem abJ:jE (.tup (fg::kx::xM::Cj::n)) (.int 3) q bx cF=bx Cj q:=rfl
@[simp] theorem abK:jE (.tup (fg::kx::xM::Cj::Ck::n)) (.int 4) q bx cF=bx Ck q:=rfl
theorem wq {dh:List D} {A:Int} {T:D}(X:0≤A∧A < 1000000)(Z:dh[A.toNat]? =ab T)(k:bx T q):jE (.tup dh) (.int A) q bx cF:=IK X.1 X.2 Z k
theorem wt {cI:a0} {dh:List D} {A:Int}(i:fL (q cI)=ab dh)(X:0≤A∧A < 1000000)(Z:dh[A.toNat]? =ab T)(k:bx T q):jE (.val (.ref cI)) (.int A) q bx cF:=by
 show eY q (.ref cI) _
 unfold eY
 dsimp only
 induction P:q cI with
 | none=>rw [P] at i;contradiction
 | some o=>rw [P] at i;show ry o _;unfold ry;rw [i];exact IK X.1 X.2 Z k
theorem rn {cI:a0} {A:PySem.Str}(i:q cI=ab (.dict s))(Z:cL s A=ab T)(k:bx T q):jE (.val (.ref cI)) (.str A) q bx cF:=by
 show eY q (.ref cI) _
 unfold eY
 dsimp only
 rw [i]
 show q8 s A _
 unfold q8
 rw [Z]
 exact k
theorem pN {cI:a0} {dh:List D}(i:q cI=ab (.list dh))(X:dh.length≤1000000)(k:bx (.int (dh.length:Int)) q):tw [.val (.ref cI)] q bx:=by
 show eY q (.ref cI) _
 unfold eY
 dsimp only
 rw [i]
 exact⟨X,k⟩
theorem vR {cI:a0} {dh:List D}(i:q cI=ab (.list dh))(Z:jn dh=ab de)(X:dh.length≤1000000∧ ∀k ∈ de,0≤k∧k < 256)(k:bx (.bytes (de.map r9)) q):Aw [.val (.ref cI)] q bx:=by
 show eY q (.ref cI) _
 unfold eY
 dsimp only
 rw [i]
 show pS dh _
 unfold pS
 rw [Z]
 exact⟨X,k⟩
theorem BR {cI:a0} {dh:List D}(i:q cI=ab (.list dh))(X:dh.length≤1000000)(k:bx (.tup dh) q):AD [.val (.ref cI)] q bx:=by
 show eY q (.ref cI) _
 unfold eY
 dsimp only
 rw [i]
 exact⟨X,k⟩
theorem iE {c0:Prop}(X:dJ=true→c0)(L:dJ=false→dp):if dJ=true then c0 else dp:=by
 cases dJ
 ·exact L rfl
 ·exact X rfl
theorem dq {c0:Prop}(Z:dJ=true)(X:c0):if dJ=true then c0 else dp:=by rw [if_pos Z];exact X
theorem cW {c0:Prop}(Z:dJ=false)(X:dp):if dJ=true then c0 else dp:=by rw [if_neg (by rw [Z];decide)];exact X
theorem YQ:p8 gL (fQ aaw) (fQ aax)=fun V q bx cF=>gL V q (fun i n=>bx (if i=true then aaw else aax) n) cF:=by
 funext V q bx cF
 show gL V q _ cF=gL V q _ cF
 congr 1
 funext i n
 cases i<;>rfl
end
@[simp] theorem abL:Loc.at (c3::rY) 0=c3:=rfl
@[simp] theorem abM:Loc.at (c3::rY) (A+1)=Loc.at rY A:=rfl
@[simp] theorem abN:Loc.put (c3::rY) 0 dW=dW::rY:=rfl
@[simp] theorem abO:Loc.put (c3::rY) (A+1) dW=c3::Loc.put rY A dW:=rfl
@[simp] theorem abP:puts [] [] V=ab V:=rfl
@[simp] theorem abQ:puts (A::b5) (T::n) V=puts b5 n (V.put A (ab T)):=rfl
end
section
noncomputable def gy (r:List Nat):Int:=r.foldl (fun(R:Int) (k:Nat)=>R * 256+(k:Int)) 0
noncomputable def ed (S:Int) (I:Nat):List Nat:=(f5 I).map fun c=>(S / 256 ^ (I - 1 - c) % 256).toNat
def fO (r:List Nat):Prop:= ∀k ∈ r,k < 256
theorem UM(T:0≤B) {k:Nat}(g:k < 256):Dp (B * 256) (k:Int)=B * 256+k:=by
 rw [bitOr_and]
 obtain⟨I,rfl⟩:=jN T
 have:qv ((I:Int) * 256) (k:Int)=0:=by
  unfold qv
  rw [decide_eq_true (show(0:Int)≤(I:Int) * 256 by(exact fy _)),decide_eq_true (show(0:Int)≤(k:Int) by(exact fy _))]
  show(((((I:Int) * 256).toNat &&& (k:Int).toNat):Nat):Int)=0
  have Z:((I:Int) * 256).toNat=2 ^ 8 * I:=by lia
  rw [Z,ir]
  have:(2 ^ 8 * I) &&& k=0:=by
   apply LW
   intro J
   rw [L3,Nat.zero_testBit,Dj]
   by_cases X:8≤J
   ·rw [L4 (lY g (oZ (by decide) X:2 ^ 8≤2 ^ J))]
    simp
   ·simp [X]
  rw [this];rfl
 rw [this];(exact Eq.symm ((fun {B f}=>Int.neg_inj.mp) rfl))
theorem Iv(R f:List Nat):gy (R++f)=f.foldl (fun(R:Int) (k:Nat)=>R * 256+(k:Int)) (gy R):=List.foldl_append ..
theorem IS(I:Nat):(0:Int) < 256 ^ I:=x8 (by decide)
theorem lB(S:Int)(I:Nat):(ed S I).length=I:=by unfold ed;simp
theorem mf(S:Int)(I:Nat):fO (ed S I):=by
 intro k g
 unfold ed at g
 refine dg (ql.mp g) fun c F A=>?_;subst A
 have:=uI (S / 256 ^ (I - 1 - c)) (show(0:Int) < 256 by decide)
 exact(uL (r7 _ (by decide))).mpr this
theorem OI(S:Int)(I:Nat):ed S (I+1)=ed (S / 256) I++ [(S % 256).toNat]:=by
 unfold ed
 rw [C4,fh]
 congr 1
 ·apply uP
  intro c l
  rw [qm] at l
  have Z:I+1 - 1 - c=(I - 1 - c)+1:=J4 l
  rw [Z,x9,Int.mul_comm,Int.ediv_ediv_of_nonneg (by decide)]
 ·simp
theorem wN: ∀(n:Nat) (S:Int),0≤S→S < 256 ^ n→gy (ed S n)=S
 | 0,S,J,h=>by
  have:S=0:=T8 J h
  subst this;rfl
 | n+1,S,J,h=>by
  rw [OI,Iv,wN n (S / 256) (x4 J (by decide)) (T9 h)]
  simp only [List.foldl_cons,List.foldl_nil]
  have:=r7 S (show(256:Int)≠0 by decide)
  rw [uM this]
  (exact Int.ediv_mul_add_emod S 256)
theorem Ha(S:Int)(I:Nat):S.fdiv (2 ^ I)=S / 2 ^ I:=uJ S (nL (x8 (by decide)))
theorem T6(h:dc≤C)(i:A < 2 ^ C):A &&& (2 ^ C - 2 ^ (C - dc))=A / 2 ^ (C - dc) * 2 ^ (C - dc):=by
 have Z:2 ^ C - 2 ^ (C - dc)=2 ^ (C - dc) * (2 ^ dc - 1):=by
  rw [Nat.mul_sub,←Nat.pow_add,qo h,Nat.mul_one]
 rw [Z,LZ _ (2 ^ (C - dc))]
 apply LW
 intro J
 rw [L3,Dj,Dj,Nat.testBit_two_pow_sub_one,Nat.testBit_div_two_pow]
 by_cases X:C - dc≤J
 ·have B:J - (C - dc)+(C - dc)=J:=by(exact qo (by assumption))
  rw [decide_eq_true X,x2,x2,B]
  by_cases K:J - (C - dc) < dc
  ·rw [decide_eq_true K,K9]
  ·have:A.testBit J=false:=L4 (lY i (oZ (by decide) (nm h X K)))
   rw [this,r5]
 ·rw [decide_eq_false X,r5,r5,r4]
theorem Sl(J:0≤B)(h:C≤A)(D:B < 2 ^ A):qv B (2 ^ A - 2 ^ (A - C))=B / 2 ^ (A - C) * 2 ^ (A - C):=by
 obtain⟨I,rfl⟩:=jN J
 have i:((2:Int) ^ A - 2 ^ (A - C))=((2 ^ A - 2 ^ (A - C):Nat):Int):=by
  rw [x7 (oZ (by decide) (by(exact nT ..)))];simp
 have v:I < 2 ^ A:=by exact_mod_cast D
 rw [i]
 unfold qv
 rw [decide_eq_true (show(0:Int)≤(I:Int) by omega),decide_eq_true (show(0:Int)≤((2 ^ A - 2 ^ (A - C):Nat):Int) by(exact fy _))]
 show(((((I:Int)).toNat &&& (((2 ^ A - 2 ^ (A - C):Nat):Int)).toNat):Nat):Int)=_
 rw [ir,ir,T6 h v]
 simp
theorem Ol(S:Int):qv S 255=S % 256:=bitAnd_m8 S
end
section
structure ck where
 k:Int
 v:Int
 p:Option Int
noncomputable def ck.data (N:ck):List Int:=N.v::(match N.p with
 | some P=> [P]
 | none=> [])
noncomputable def ck.d (N:ck):D:= .tup [.tup [.tup [.int N.k,.int N.k]],.tup (N.data.map .int),.int 0,.str ""]
inductive fK where
 | none
 | span (a b:Int)
 | aR (a:Int) (l:Nat)
 | lits (ls:List ck)
 | named (x:PySem.Str)
noncomputable def Hb (X:PySem.Str):D:= .tup [.str "field",.str X]
noncomputable def fK.d:fK→D
 | .none=> .none
 | .span a b=> .tup [.str "span",.int a,.int b]
 | .aR a l=> .tup [.str "net",.int a,.int (l:Int)]
 | .lits L=> .tup [.str "map",Hb "meta mark",.tup [.str "map",.tup (L.map ck.d)]]
 | .named S=> .tup [.str "map",Hb "meta priority",.tup [.str "ref",.str S]]
structure cj where
 kind:PySem.Str
 nf:Int
 adr:fK
 ai:Option (Int×Int)
 flags:List PySem.Str
noncomputable def hG:Option (Int×Int)→D
 | none=> .none
 | some (a,b)=> .tup [.int a,.int b]
noncomputable def gZ (N:List PySem.Str):D:= .tup (N.map .str)
noncomputable def cj.d (U:cj):D:= .tup [.str "nat",.str U.kind,.int U.nf,U.adr.d,hG U.ai,gZ U.flags]
noncomputable def wide (E:Int):Nat:=if E=2 then 4 else 16
noncomputable def cj.size (U:cj):Nat:=match U.adr with
 | .none=>0
 | _=>wide U.nf
inductive cH where
 | aS (r:Int) (os:List Nat)
 | field (key:PySem.Str)
 | map (name:PySem.Str) (ls:List Nat)
 | nat (kind:PySem.Str) (nf p0 p1 size p2 p3:Int) (flags:List PySem.Str)
noncomputable def kn (L:List Nat):D:= .tup (L.map fun(I:Nat)=> .tup [.int (I:Int),.str "big"])
noncomputable def cH.d:cH→D
 | .aS j os=> .tup [.str "immediate",.int j,.bytes os]
 | .field key=> .tup [.str "meta",.int 0,.str key,.int 4,.str "host"]
 | .map name L=> .tup [.str "map",.int 0,.tup [.tup [.int 4,.str "host"]],.str name,.int 0,kn L]
 | .nat kind nf p0 z size U C flags=> .tup [.str "nat",.str kind,.int nf,.int p0,.int z,.int size,.int U,.int C,gZ flags]
noncomputable abbrev jh:=Int×Int×Nat
noncomputable def eL (j o:Int) (y:Nat) (s K:Int):List jh:=(j,s,y)::if K=s then [] else [(o,K,y)]
noncomputable def emit:List jh→List cH×Bool
 | []=>([],true)
 | (j,e,m)::B=>if e < 256 ^ m then (.aS j (ed e m)::(emit B).1,(emit B).2) else ([],false)
theorem rj(R f:List jh):emit (R++f)=if (emit R).2 then ((emit R).1++(emit f).1,(emit f).2) else emit R:=by
 induction R with
 | nil=>exact rfl
 | cons p B o=>
  obtain⟨j,Z,y⟩:=p
  simp only [List.cons_append,emit]
  by_cases X:Z < 256 ^ y
  ·simp only [if_pos X]
   rw [o]
   cases P:(emit B).2
   ·rw [if_neg fv,P];rfl
   ·exact rfl
  ·simp only [if_neg X];exact rfl
noncomputable def gh (L:List ck):Nat:=(L.filter fun N=>N.p.isSome).length
noncomputable def iD (S:PySem.Str):Bool:=S == "p4" || S == "p6"
noncomputable def lI (R:Int) (N A:Nat):Int×Int:=(R / 2 ^ (A - N) * 2 ^ (A - N),R / 2 ^ (A - N) * 2 ^ (A - N)+2 ^ (A - N) - 1)
noncomputable def cj.ends (U:cj):Option (Int×Int):=match U.adr with
 | .span a b=>ab (a,b)
 | .aR a l=>ab (lI a l (8 * wide U.nf))
 | _=>ao
noncomputable def cj.puts (U:cj):List jh:=match U.ends with
 | some (lo,hi)=>eL 0 ((U.size / 4:Nat):Int) U.size lo hi
 | none=> []
noncomputable def cj.ak (U:cj):Bool:=match U.adr with
 | .lits _=>true
 | .named _=>true
 | _=>false
noncomputable def cj.aw (U:cj):Bool:=match U.adr with
 | .lits L=>decide (0 < gh L)
 | .named S=>iD S
 | _=>false
noncomputable def cj.mixed (U:cj):Bool:=match U.adr with
 | .lits L=>decide (0 < gh L∧gh L < L.length)
 | _=>false
noncomputable def cj.low (U:cj):Int:=match U.adr with
 | .none=> -1
 | _=>0
noncomputable def cj.high (U:cj):Int:=match U.ends with
 | some (lo,hi)=>if hi=lo then 0 else ((U.size / 4:Nat):Int)
 | none=>U.low
noncomputable def cj.aj (U:cj):List jh:=if U.aw then [] else match U.ai with
 | some (a,b)=>eL 8 9 2 a b
 | none=> []
noncomputable def cj.aM (U:cj):Int:=if U.aw then ((U.size / 4:Nat):Int) else match U.ai with
 | some _=>8
 | none=> -1
noncomputable def cj.aB (U:cj):Int:=if U.aw then ((U.size / 4:Nat):Int) else match U.ai with
 | some (a,b)=>if b=a then 8 else 9
 | none=> -1
noncomputable def cj.au (U:cj):List PySem.Str:=match U.adr with
 | .aR _ _=>U.flags++ [("netmap" :PySem.Str)]
 | _=>U.flags
noncomputable def hc (V:Nat):PySem.Str:= "t" ++PySem.Str.ofString (toString (V:Int))
noncomputable def cj.lay (U:cj):List Nat:=if U.aw then [U.size,2] else [U.size]
noncomputable def cj.pre (U:cj) (V:Nat):List cH:=match U.adr with
 | .lits _=> [.field "mark",.map (hc V) U.lay]
 | .named S=> [.field "priority",.map S U.lay]
 | _=> []
noncomputable def cj.last (U:cj):cH:= .nat U.kind U.nf U.low U.high U.size U.aM U.aB U.au
noncomputable abbrev m9:PySem.Str:= "the number does not fit its octets"
noncomputable abbrev oy:PySem.Str:= "a map of addresses with ports and without"
noncomputable def cj.rows (U:cj) (V:Nat):List cH×PySem.Str:=
 if U.mixed then ([],"left out: " ++oy) else
 if (emit (U.puts++U.aj)).2 then (U.pre V++(emit (U.puts++U.aj)).1++ [U.last],"") else (U.pre V++(emit (U.puts++U.aj)).1,m9)
structure cj.Ok (s:cj):Prop where
 nf:s.adr= .none∨s.nf=2∨s.nf=10
 span: ∀a b,s.adr= .span a b→0≤a∧a≤b∧a < 256 ^ wide s.nf
 aR: ∀a l,s.adr= .aR a l→0≤a∧a < 256 ^ wide s.nf∧l≤8 * wide s.nf
 lits: ∀ls,s.adr= .lits ls→ls.length≤3∧(ls.map ck.k).Nodup∧ ∀l ∈ ls,0≤l.v∧l.v < 256 ^ wide s.nf∧ ∀q,l.p=ab q→0≤q∧q < 65536
 named: ∀x,s.adr= .named x→(x= "m4" ∨x= "p4")∧s.nf=2∨(x= "m6" ∨x= "p6")∧s.nf=10
 ai: ∀a b,s.ai=ab (a,b)→0≤a∧a≤b∧a < 65536
 flags:s.flags.length≤2
end
variable {cU:om}{iq:kh}{uG:s7}{jc:me}{gU:cB}{dY:dH}{iL:cB}{iM hQ aaB:dH}
variable {CD:Option kh}
variable {Cw:List kh}
variable {Cs:List (PySem.Str×dH)}
section
section
@[simp] theorem acD:d gU iL cU V q cR x d3=gU cU V q (ih (iL cU) cR x d3) x d3:=rfl
@[simp] theorem aas:l cU V q cR x d3=cR V q:=rfl
@[simp] theorem acB:v C dY cU V q cR x d3=dY cU V q (fun T e=>cR (V.put C (ab T)) e) (d3 V):=rfl
@[simp] theorem acG:cZ iq gU iL cU V q cR x d3=iq cU V q (fun P n=>if P=true then gU cU V n cR x d3 else iL cU V n cR x d3) (d3 V):=rfl
@[simp] theorem acI:cQ dY cU V q cR x d3=dY cU V q x (d3 V):=rfl
@[simp] theorem acE:eZ dY cU V q cR x d3=dY cU V q (fun T e=>match T with
 | .none=>cR V e
 | _=>False) (d3 V):=rfl
@[simp] theorem acM {g:kO}:ij g dY cU V q cR x d3=dY cU V q (fun T e=>match g V T with
 | some E=>cR E e
 | none=>False) (d3 V):=rfl
@[simp] theorem acK:hJ dY iM hQ cU V q cR x d3=dY cU V q (fun T n=>iM cU V n (fun o v=>hQ cU V v (fun k b=>m5 o k T b (fun F l=>cR V l) (d3 V)) (d3 V)) (d3 V)) (d3 V):=rfl
@[simp] theorem acJ:dN t dY iM ⟨G,w,u,A⟩ V q cR x d3=dY ⟨G,w,u,A⟩ V q (fun T n=>iM ⟨G,w,u,A⟩ V n (fun o v=>mj (hd.ah w.params) t o T v (fun F b=>cR V b) (d3 V)) (d3 V)) (d3 V):=rfl
@[simp] theorem acF {g:kO}:gk g uG iL cU V q cR x d3=uG cU V q (fun b X n=>eS g (iL cU) X b cR x b V n) (d3 V):=rfl
@[simp] theorem acA:uk C uG CD dY cU V q cR x d3=uG cU V q (fun b X n=>b.length≤1000000∧iC (dY cU) (CD.map fun iq=>iq cU) X b b [] V n (fun cM v=> ∀hQ,v hQ=ao→cR (V.put C (ab (.val (.ref hQ)))) (v.set hQ (.list cM)))) (d3 V):=rfl
@[simp] theorem acT:jL uG CD dY cU V q bx cF=uG cU V q (fun b X n=>b.length≤1000000∧iC (dY cU) (CD.map fun iq=>iq cU) X b b [] V n (fun cM v=> ∀hQ,v hQ=ao→bx (.val (.ref hQ)) (v.set hQ (.list cM)))) cF:=rfl
@[simp] theorem ac1:gS dY cU V q uB cF=dY cU V q (fun T e=>match T with
 | .tup b=>uB b ao e
 | .bytes jc=>uB (nc jc) ao e
 | .val (.ref gU)=>match fL (e gU) with
  | some b=>uB b (ab gU) e
  | none=>False
 | _=>False) cF:=rfl
@[simp] theorem adb:g6 dY cU V q uB cF=dY cU V q (fun T e=>match T with
 | .int k=>(-1000000≤k∧k≤1000000)∧uB (jH k.toNat) ao e
 | _=>False) cF:=rfl
@[simp] theorem ac3:c C cU V q bx cF=match V.at C with
 | some T=>bx T q
 | none=>False:=rfl
@[simp] theorem acV:b T cU V q bx cF=bx T q:=rfl
@[simp] theorem acP:e jM dY iM cU V q bx cF=dY cU V q (fun gU n=>iM cU V n (fun iL v=>ig jM gU iL v bx cF) cF) cF:=rfl
@[simp] theorem ac7 {k:D→J→KK→KK→Prop}:ff k dY cU V q bx cF=dY cU V q (fun gU n=>k gU n bx cF) cF:=rfl
@[simp] theorem acX:dD t dY ⟨G,w,u,A⟩ V q bx cF=dY ⟨G,w,u,A⟩ V q (fun gU n=>gI (hd.ah w.params) t gU n bx cF) cF:=rfl
@[simp] theorem acY:f dY iM cU V q bx cF=dY cU V q (fun gU n=>iM cU V n (fun iL v=>jE gU iL v bx cF) cF) cF:=rfl
@[simp] theorem acZ:g5 iq dY iM cU V q bx cF=iq cU V q (fun P n=>if P=true then dY cU V n bx cF else iM cU V n bx cF) cF:=rfl
@[simp] theorem acv:cC fZ dY iM cU V q c0 cF=dY cU V q (fun gU n=>iM cU V n (fun iL v=>f7 fZ gU iL v c0 cF) cF) cF:=rfl
@[simp] theorem acz:qb dY cU V q c0 cF=dY cU V q (fun T n=>match T with
 | .bool iL=>c0 iL n
 | _=>False) cF:=rfl
@[simp] theorem acs:hI [] cU V q c0 cF=c0 true q:=rfl
@[simp] theorem acu:hI (iq::Cw) cU V q c0 cF=iq cU V q (fun P n=>if P=true then hI Cw cU V n c0 cF else c0 false n) cF:=rfl
@[simp] theorem acx:nA [] cU V q c0 cF=c0 false q:=rfl
@[simp] theorem acy:nA (iq::Cw) cU V q c0 cF=iq cU V q (fun P n=>if P=true then c0 true n else nA Cw cU V n c0 cF) cF:=rfl
@[simp] theorem ac6:j cU V q iH cF=iH [] q:=rfl
@[simp] theorem acU:a dY jc cU V q iH cF=dY cU V q (fun T n=>jc cU V n (fun b v=>iH (T::b) v) cF) cF:=rfl
@[simp] theorem adg:p jc cU V q bx cF=jc cU V q (fun b n=>b.length≤1000000∧bx (.tup b) n) cF:=rfl
@[simp] theorem ac2:dj jc cU V q bx cF=jc cU V q (fun b n=>b.length≤1000000∧ ∀hQ,n hQ=ao→bx (.val (.ref hQ)) (n.set hQ (.list b))) cF:=rfl
@[simp] theorem adf:uq dY cU V q bx cF=dY cU V q (fun T n=>AA T n bx) cF:=rfl
@[simp] theorem acW:gb Cs cU V q bx cF=xH Cs cU V q (fun s n=> ∀hQ,n hQ=ao→bx (.val (.ref hQ)) (n.set hQ (.dict s))) cF:=rfl
@[simp] theorem ac9:xH [] cU V q Cr cF=Cr [] q:=rfl
@[simp] theorem ada {k:PySem.Str}:xH ((k,dY)::Cs) cU V q Cr cF=dY cU V q (fun T n=>xH Cs cU V n (fun s v=>Cr ((k,T)::s) v) cF) cF:=rfl
@[simp] theorem acR:h dY jc ⟨G,w,u,A⟩ V q bx cF=dY ⟨G,w,u,A⟩ V q (tf G w u A (jc ⟨G,w,u,A⟩) V bx cF) cF:=rfl
@[simp] theorem acQ:iT dY jc ⟨G,w,u,A⟩ V q bx cF=dY ⟨G,w,u,A⟩ V q (v3 G w u A (jc ⟨G,w,u,A⟩) V bx cF) cF:=rfl
@[simp] theorem ac5:eM t dY jc ⟨G,w,u,A⟩ V q bx cF=dY ⟨G,w,u,A⟩ V q (ko G w u (hd.ah w.params) A t (jc ⟨G,w,u,A⟩) V bx cF) cF:=rfl
@[simp] theorem ac4:rV t dY jc ⟨G,w,u,A⟩ V q bx cF=dY ⟨G,w,u,A⟩ V q (rA G w u (hd.ah w.params) A t (jc ⟨G,w,u,A⟩) V bx cF) cF:=rfl
@[simp] theorem acC:um C dY cU V q cR x d3=match V.at C with
 | some (.int gU)=>dY cU V q (fun T e=>match T with
  | .int iL=>cR (V.put C (ab (.int (gU+iL)))) e
  | _=>False) (d3 V)
 | _=>False:=rfl
@[simp] theorem acS:uo fZ dY iM cU V q bx cF=dY cU V q (fun gU n=>iM cU V n (fun iL v=>f7 fZ gU iL v (fun P=>bx (.bool P)) cF) cF) cF:=rfl
@[simp] theorem ac8:KR dY iM cU V q bx cF=dY cU V q (fun T n=>match T with
 | .bool true=>bx (.bool true) n
 | .bool false=>iM cU V n bx cF
 | _=>False) cF:=rfl
@[simp] theorem acw:KN iq cU V q c0 cF=iq cU V q (fun P n=>c0 (!P) n) cF:=rfl
@[simp] theorem acH:jt dY ⟨G,w,u,A⟩ V q cR x d3=dY ⟨G,w,u,A⟩ V q (A0 (hd.ah w.params) (d3 V)) (d3 V):=rfl
@[simp] theorem ac0:KQ jc ⟨G,w,u,A⟩ V q bx cF=jc ⟨G,w,u,A⟩ V q (fun b v=>Ay (hd.ah w.params) b v bx) cF:=rfl
@[simp] theorem acO:KP dY iM hQ cU=t9 (dY cU) (iM cU) (hQ cU):=rfl
@[simp] theorem acN {y:List (a0×Nat×cB)}:xG iL y ⟨G,w,u,A⟩=p4 (hd.ah w.params) (iL ⟨G,w,u,A⟩) (y.map fun X=>(X.1,X.2.1,X.2.2 ⟨G,w,u,A⟩)):=rfl
noncomputable def KS (iq:kh) (j K:D):dH:=fun cU V q bx cF=>iq cU V q (fun P n=>bx (if P=true then j else K) n) cF
theorem aau:g5 iq (b fg) (b kx)=KS iq fg kx:=funext fun cU=>YQ (gL:=iq cU)
@[simp] theorem ade:KS iq fg kx cU V q bx cF=iq cU V q (fun P n=>bx (if P=true then fg else kx) n) cF:=rfl
@[simp] theorem acL:KO dY iM hQ aaB cU=tU (dY cU) (iM cU) (hQ cU) (aaB cU):=rfl
@[simp] theorem aat:Cf b5 dY cU=tW b5 (dY cU):=rfl
end
end
section
set_option simprocs false
section
noncomputable abbrev KF (w:di):ey:=hd.ah w.params
def NP (B:J) (S M:a0) (m:PySem.Str):Prop:= ∃h s,B S=ab (.aD M (ab h))∧B h=ab (.dict s)∧cL s "why" =ab (.str m)∧h≠S
def hF (B:J) (S M:a0) (m:PySem.Str):Prop:= ∃h s,B S=ab (.exc M h)∧B h=ab (.dict s)∧cL s "why" =ab (.str m)∧h≠S
theorem V6(p:cA w u)(M:a0)(W:excIn (KF w) M=true)(K:kM (KF w) M "why")(C:kM (KF w) M "at") {n:Nat}(v:0 < n):ie G w u (n+1) (.ref 49) (fun b B x O=> ∃S m,b= [.val (.ref S),.str m]∧B S=ab (.aD M ao)∧
 ∀d,B d=ao→d≠S→x .none (((B.set d (.dict [("why",.str m)])).set S (.aD M (ab d))).set d (.dict (ep [("why",.str m)] "at" (.int (-1)))))):=
 (Y3 G p (by omega)).mono fun b B x O X=>by
  obtain⟨S,m,rfl,i,X⟩:=X
  refine ek rfl ?_
  dsimp [eK]
  refine lL (P:=fun o=>G6 o _) i ⟨rfl,⟨W,b9 rfl⟩,?_⟩
  refine lL (P:=w8 _ _ _ _ _ S) i (And.intro K fun d U A=>?_)
  exact lL (P:=w8 _ _ _ _ _ S) (J.aa ..) (v9 ((J.ag _ _ A).trans (J.aa ..)) ⟨⟨C,b9 rfl⟩,X d U A⟩)
theorem RC(w:di):vp (KF w) 65 49:=⟨rfl,rfl,rfl⟩
theorem RB(w:di):vp (KF w) 108 49:=⟨rfl,rfl,rfl⟩
noncomputable abbrev xi (M:a0):Spec:=fun b B x O=> ∃m,b= [.str m]∧ ∀S e,B S=ao→Q [] B e→NP e S M m→x (.val (.ref S)) e
theorem Gh(p:cA w u)(c:vp (KF w) z 49)(K:kM (KF w) z "why")(C:kM (KF w) z "at"):cK G w u 3 (.ref z) (xi z):=
 cK.of (Py (w:=w) p.k c.makes) fun I v=>by
  obtain⟨y,rfl⟩: ∃y,I=y+1:=⟨I - 1,by lia⟩
  refine(Yg p.k c (V6 (G:=G) p z c.makes K C (n:=y) (by(exact Nat.le_sub_of_add_le (by assumption))))).mono fun b B x O X=>?_
  obtain⟨m,rfl,X⟩:=X
  refine⟨(b9 rfl),fun S i=>⟨S,m,rfl,J.aa ..,fun d U A=>⟨rfl,?_⟩⟩⟩
  rw [J.ag _ _ A] at U
  refine X S _ i (((((Q.refl B).set i).set U).set i).set U) ⟨d,_,?_,J.aa ..,?_,A⟩
  ·rw [J.ag _ _ A.symm,J.aa]
  ·rfl
theorem tc(p:cA w u):cK G w u 3 (.ref 65) (xi 65):=Gh p (RC w) ⟨rfl,rfl,rfl,rfl,rfl,rfl,rfl,rfl⟩ ⟨rfl,rfl,rfl,rfl,rfl,rfl,rfl,rfl⟩
theorem OZ(p:cA w u):cK G w u 3 (.ref 108) (xi 108):=Gh p (RB w) ⟨rfl,rfl,rfl,rfl,rfl,rfl,rfl,rfl⟩ ⟨rfl,rfl,rfl,rfl,rfl,rfl,rfl,rfl⟩
theorem tO(l:cK G w u A (.ref z) (xi z))(v:A≤C)(j:vq (KF w) z)(k: ∀S e,Q [] q e→hF e S z t→x (.val (.ref S)) e):
 f6 G w u (.ref z)∧ ∃o,gu G w u C (.ref z) o∧o [.str t] q (A0 (KF w) x) x:=by
 refine et l v ⟨_,rfl,fun S e i g D=>?_⟩
 refine D.elim fun h E=>?_
 refine rT E fun s W K B n=>?_
 exact Vn W ⟨j,k S _ (g.set i) ⟨h,s,J.aa ..,by rw [J.ag _ _ n];exact K,B,n⟩⟩
theorem wc(w:di):vq (KF w) 65:=⟨rfl,rfl⟩
theorem RD(w:di):vq (KF w) 108:=⟨rfl,rfl⟩
end
end
section
set_option simprocs false
section
theorem UR(k:Nat):(2:Int) ^ (8 * k)=256 ^ k:=by rw [Lk];rfl
theorem oA {k:Nat}(X:A≤k)(T:nP k 1000000=true):(A:Int)≤1000000:=hh.mpr (cg X (b9 T))
theorem pH(y:Nat): -1000000≤(y:Int):=j2 (by decide) (fy y)
theorem Rq(y:Nat):(8:Int) * y=((8 * y:Nat):Int):=rfl
section
theorem Jo(H:A≤1000)(k:x (.int (2 ^ A)) q):ig .LShift (.int 1) (.int A) q x bx:=⟨⟨fy _,oA H rfl,lo1⟩,by rw [ir,CU];exact k⟩
theorem Jp(X:A≤C)(H:C≤1000)(k:x (.int (2 ^ (C - A))) q):ig .LShift (.int 1) (.int ((C:Int) - A)) q x bx:=by
 rw [←x7 X];exact Jo (cg (nT ..) H) k
theorem FT(k:x (.int (qv B bk)) q):ig .BitAnd (.int B) (.int bk) q x bx:=k
theorem Jq(k:x (.int (B / 256 ^ A)) q):ig .RShift (.int B) (.int (8 * (A:Int))) q x bx:=by
 rw [Rq]
 refine⟨fy _,?_⟩
 rw [ir,Ha,UR]
 exact k
theorem wC:ib 8:=jo (by decide) (by decide)
end
inductive Fd:List D→J→KK→KK→Prop
 | mk (μ:J) (K E:KK) (l b:Nat) (h1:l≤b) (h2:b≤1000) (h3:K (.int (2 ^ b - 2 ^ (b - l))) μ):Fd [.int l,.int b] μ K E
theorem Pg(p:cA w u):cK G w u 2 (.ref 28) Fd:=
 cK.of (p.af (by kernel_rfl)) fun I v=>(ZC G p v).mono fun b B x O X=>by
  refine X.rec fun B x O N f X H k=>?_
  refine ek rfl ?_
  dsimp [eK]
  exact Jo H (Jp X H k)
inductive Fm:List D→J→KK→KK→Prop
 | mk (μ:J) (K E:KK) (a:Int) (l b:Nat) (h1:l≤b) (h2:b≤1000) (h3:0≤a) (h4:a < 2 ^ b) (h5:K (.tup [.int (a / 2 ^ (b - l) * 2 ^ (b - l)),.int (a / 2 ^ (b - l) * 2 ^ (b - l)+2 ^ (b - l) - 1)]) μ):Fm [.int a,.int l,.int b] μ K E
theorem Gv(p:cA w u):cK G w u 3 (.ref 35) Fm:=
 cK.of (p.af (by kernel_rfl)) fun I v=>(ZO G p (cp v rfl)).mono fun b B x O X=>by
  refine X.rec fun B x O R N f W K C n k=>?_
  refine ek rfl ?_
  dsimp [eK]
  refine et (Pg p) v ⟨_,_,_,N,f,W,K,FT (Jp W K ⟨by decide,?_⟩)⟩
  rw [Sl C W n]
  exact k
theorem UQ:(256:Nat) ^ 100≤2 ^ 4096:=by rw [show(256:Nat)=2 ^ 8 from rfl,←L0];exact oZ (by decide) (by decide)
theorem UN {k:Nat}(J:0≤B)(V:B < 256 ^ A)(C:A≤100)(g:k < 256)(S:x (.int (B * 256+k)) q):ig .LShift (.int B) (.int 8) q (fun T e=>ig .BitOr T (.int k) e x bx) bx:=by
 refine⟨⟨by decide,by decide,?_⟩,?_⟩
 ·unfold i4
  have K:(B.natAbs:Int) < ((256 ^ 100:Nat):Int):=by
   rw [Int.natAbs_of_nonneg J]
   refine jd V ?_
   have:=hh.mpr (oZ (n:=256) (by decide) C)
   rwa [Int.natCast_pow] at this
  exact lY (gp.mp K) UQ
 ·show x (.int (Dp (B * 2 ^ (8:Int).toNat) k)) q
  rw [show B * 2 ^ (8:Int).toNat=B * 256 from rfl,UM J g]
  exact S
theorem Yi {k:Nat}(V:B < 256 ^ A)(g:k < 256):B * 256+k < 256 ^ (A+1):=by
 rw [x9]
 exact jd (CO (gp.mpr g) (B * 256)) (j2 (Int.le_of_eq (Lb B 1 256).symm) (Int.mul_le_mul_of_nonneg_right V (by decide)))
theorem UD(X: []=nc b5):b5= []:=by induction b5 with
 | nil=>rfl
 | cons=>contradiction
theorem UC(X:T::n=nc b5): ∃k A,b5=k::A∧T= .int (k:Nat)∧n=nc A:=by
 cases b5 with
 | nil=>contradiction
 | cons k b5=>cases X;exact⟨k,b5,rfl,rfl,rfl⟩
inductive N2 (μ:J) (ks:List Nat) (r:List D) (ρ:Loc) (μ':J):Prop
 | mk (a:Int) (x:D) (o:Option D) (rs:List Nat) (m:Nat) (h1:μ'=μ) (h2:ρ= [ab x,ab (.int a),o]) (h3:r=nc rs) (ho:fO rs) (h0:0≤a) (hm:a < 256 ^ m) (hl:m+rs.length≤100) (hf:rs.foldl (fun(a:Int) (k:Nat)=>a * 256+(k:Int)) a=gy ks)
inductive Fi:List D→J→KK→KK→Prop
 | mk (μ:J) (K E:KK) (ks:List Nat) (h1:fO ks) (h2:ks.length≤100) (h3:K (.int (gy ks)) μ):Fi [.bytes ks] μ K E
theorem rb(p:cA w u):cK G w u 2 (.ref 131) Fi:=
 cK.of (p.af (by kernel_rfl)) fun I v=>(ZG G p v).mono fun b B x O X=>by
  refine X.rec fun B x O r l h k=>?_
  refine ek rfl ?_
  dsimp [eK]
  refine jq (N2 B r) ?_ ?_ _ _ _ (.mk 0 _ _ r 0 rfl rfl rfl l (by decide) (by decide) (by rw [qr];exact h) rfl)
  ·intro Y e X
   obtain⟨R,S,o,C,y,rfl,rfl,t,D,J,V,h,Q⟩:=X
   cases UD t
   cases Q
   exact k
  ·intro T j Y e n X d
   obtain⟨R,S,o,C,y,rfl,rfl,t,D,J,V,h,Q⟩:=X
   refine j0 (UC t) fun k C A F M=>?_;subst A;subst F;subst M
   have g:=D k er
   dsimp [eK]
   exact UN J V (cg (j6 ..) h) g (d _ _ (.mk (R * 256+k) _ _ C (y+1) rfl rfl rfl (fun s E=>D s (fJ _ E)) (CP (CT J (by decide)) (fy _)) (Yi V g) (by rw [si];exact h) Q) trivial)
theorem F2(S:Int)(y:Nat):((f5 y).map (fun(E:Nat)=>S / 256 ^ (y - 1 - E) % 256)).map r9=ed S y:=by
 unfold ed;rw [qk];rfl
theorem Rf(l:0≤B):(B / 256 ^ A != 0)= !decide (B < 256 ^ A):=by
 by_cases X:B < 256 ^ A
 ·rw [decide_eq_true X,Int.ediv_eq_zero_of_lt l X];rfl
 ·rw [decide_eq_false X]
  refine bne_iff_ne.mpr fun P=>X ?_
  have:=Int.lt_ediv_add_one_mul_self B (IS A)
  rw [P] at this;rwa [Int.zero_add,CU] at this
theorem F1(S:Int)(y:Nat): ∀k ∈ (f5 y).map (fun(E:Nat)=>S / 256 ^ (y - 1 - E) % 256),0≤k∧k < 256:=fun k g=>by
 refine dg (ql.mp g) fun E F A=>?_;subst A
 exact⟨r7 _ (by decide),uI _ (by decide)⟩
theorem vM(X:C < A):(A:Int) - 1 - C=((A - 1 - C:Nat):Int):=by
 rw [x7 (Nat.le_sub_one_of_lt X),x7 (Nat.one_le_of_lt X)];rfl
theorem A1(y:Nat) {k:Nat}(X:y≤k)(T:nP k 1000000=true):(jH (y:Int).toNat).length≤1000000:=by
 unfold jH
 rw [dP,uO,ir]
 exact cg X (b9 T)
theorem wH(t:Nat→c2)(y:Nat):((f5 y).map t).length=y:=by rw [dP,uO]
inductive Fj:List D→J→KK→KK→Prop
 | mk (μ:J) (K E:KK) (x:Int) (n:Nat) (h1:0≤x) (h2:n≤64) (h3:x < 256 ^ n→ ∀μ',Q [] μ μ'→K (.bytes (ed x n)) μ') (h4: ¬x < 256 ^ n→ ∀e μ',Q [] μ μ'→hF μ' e 65 "the number does not fit its octets" →E (.val (.ref e)) μ'):Fj [.int x,.int n] μ K E
theorem Gs(p:cA w u):cK G w u 4 (.ref 136) Fj:=
 cK.of (p.af (by kernel_rfl)) fun I v=>(ZH G p (cp v rfl)).mono fun b B x O X=>by
  refine X.rec fun B x O S y l V X A=>?_
  refine ek rfl ?_
  dsimp [eK]
  refine cW (decide_eq_false (je.mpr l)) ⟨.inl wC,Jq ?_⟩
  show(if (S / 256 ^ y != 0)=true then _ else _)
  rw [Rf l]
  by_cases P:S < 256 ^ y
  ·refine cW (by rw [decide_eq_true P];rfl) ⟨kj _,⟨pH y,oA V rfl⟩,A1 y V rfl,?_⟩
   refine th (fun(E:Nat)=>D.int E) (fun(E:Nat)=>D.int (S / 256 ^ (y - 1 - E) % 256)) (by trivial) (f5 y) [] (fun E N L H=>?_) fun d U=>?_
   ·dsimp [eK]
    rw [vM (qm.mp N)]
    refine⟨.inl wC,Jq (FT ?_)⟩
    rw [Ol]
    exact H
   ·refine dA wg (cp v rfl) (vR (J.aa ..) (by rw [kC,ints_map]) ⟨by rw [kC,wH];exact cg V (by decide),F1 S y⟩ ?_)
    rw [F2]
    exact X P _ (Q.new U)
  ·exact dq (by rw [decide_eq_false P];rfl) (tO (tc p) v (wc w) (A P))
theorem VB(r:List Nat):((f5 r.length).map (fun(E:Nat)=>((r.getD (r.length - 1 - E) 0:Nat):Int))).map r9=r.reverse:=by
 apply List.ext_getElem
 ·simp
 ·intro J W K
  simp at W K ⊢
  rw [gV (by(exact Df W))];rfl
theorem VA(l:fO b5): ∀k ∈ (f5 b5.length).map (fun(E:Nat)=>((b5.getD (b5.length - 1 - E) 0:Nat):Int)),0≤k∧k < 256:=fun k g=>by
 refine dg (ql.mp g) fun E N A=>?_;subst A
 rw [qm] at N
 rw [j3,gV (by(exact Df N)),Option.getD_some]
 exact⟨fy _,gp.mpr (l _ (ye ..))⟩
inductive Fz:List D→J→KK→KK→Prop
 | mk (μ:J) (K E:KK) (ks:List Nat) (h1:fO ks) (h2:ks.length≤100) (h3: ∀μ',Q [] μ μ'→K (.bytes ks.reverse) μ'):Fz [.bytes ks] μ K E
theorem zX(p:cA w u):cK G w u 2 (.ref 141) Fz:=
 cK.of (p.af (by kernel_rfl)) fun I v=>(ZY G p v).mono fun b B x O X=>by
  refine X.rec fun B x O r l h X=>?_
  refine ek rfl ?_
  dsimp [eK]
  refine et (gQ p.top) v ⟨cg h (by decide),?_⟩
  dsimp [eK]
  rw [show((r.length:Int) - 1+1)=(r.length:Int) from Ll ..]
  refine⟨kj _,⟨pH _,oA h rfl⟩,A1 _ h rfl,?_⟩
  refine th (fun(E:Nat)=>D.int E) (fun(E:Nat)=>D.int ((r.getD (r.length - 1 - E) 0:Nat):Int)) (by trivial) (f5 r.length) [] (fun E N L H=>?_) fun d U=>?_
  ·have N:=qm.mp N
   dsimp [eK]
   rw [vM N]
   exact⟨⟨fy _,gp.mpr (by(exact Df N)),cg h (by decide)⟩,H⟩
  ·refine dA wg v (vR (J.aa ..) (by rw [kC,ints_map]) ⟨by rw [kC,wH];exact cg h (by decide),VA l⟩ ?_)
   rw [VB]
   exact X _ (Q.new U)
theorem H0:(("little" :PySem.Str) == "big")=false:=by decide
inductive EM:List D→J→KK→KK→Prop
 | mk (μ:J) (K E:KK) (x:Int) (n:Nat) (o:PySem.Str) (h1:0≤x) (h2:n≤64) (h3:(o= "big" ∨o= "little")) (h4:x < 256 ^ n→ ∀μ',Q [] μ μ'→K (.bytes (if o= "big" then ed x n else (ed x n).reverse)) μ') (h5: ¬x < 256 ^ n→ ∀e μ',Q [] μ μ'→hF μ' e 65 "the number does not fit its octets" →E (.val (.ref e)) μ'):EM [.int x,.int n,.str o] μ K E
theorem ra(p:cA w u):cK G w u 5 (.ref 148) EM:=
 cK.of (p.af (by kernel_rfl)) fun I v=>(Za G p (cp v rfl)).mono fun b B x O X=>by
  refine X.rec fun B x O S y o l V D X L=>?_
  refine ek rfl ?_
  dsimp [eK]
  rcases D with rfl | rfl
  ·exact dq rfl (et (Gs p) v ⟨_,_,_,S,y,l,V,X,L⟩)
  ·refine cW H0 (dq rfl ⟨(zX (G:=G) p).ok,et (Gs p) v ⟨_,_,_,S,y,l,V,fun P e k=>?_,L⟩⟩)
   exact dA (zX p) (cp v rfl) ⟨_,_,_,_,mf S y,by rw [lB];exact cg V (by decide),fun A r=>X P A (k.trans r)⟩
inductive EL:List D→J→KK→KK→Prop
 | mk (μ:J) (K E:KK) (ks:List Nat) (o:PySem.Str) (h1:fO ks) (h2:ks.length≤100) (h3:(o= "big" ∨o= "little")) (h4: ∀μ',Q [] μ μ'→K (.int (gy (if o= "big" then ks else ks.reverse))) μ'):EL [.bytes ks,.str o] μ K E
theorem Gi(p:cA w u):cK G w u 3 (.ref 155) EL:=
 cK.of (p.af (by kernel_rfl)) fun I v=>(Y9 G p (cp v rfl)).mono fun b B x O X=>by
  refine X.rec fun B x O r o l V D X=>?_
  refine ek rfl ?_
  dsimp [eK]
  rcases D with rfl | rfl
  ·exact dq rfl (et (rb p) v ⟨_,_,_,r,l,V,X B (Q.refl _)⟩)
  ·refine cW H0 (dq rfl ⟨(rb (G:=G) p).ok,et (zX p) v ⟨_,_,_,r,l,V,fun e k=>?_⟩⟩)
   exact dA (rb p) v ⟨_,_,_,_,fun S i=>l S (LN.mp i),by rw [C2];exact V,X e k⟩
inductive EN:List D→J→KK→KK→Prop
 | mk (μ:J) (K E:KK) (a b:PySem.Str) (h1:K (.str (if a= "host" then b else a)) μ):EN [.str a,.str b] μ K E
theorem oz(p:cA w u):cK G w u 2 (.ref 162) EN:=
 cK.of (p.af (by kernel_rfl)) fun I v=>(Zb G p v).mono fun b B x O X=>by
  refine X.rec fun B x O R f X=>?_
  refine ek rfl ?_
  dsimp [eK]
  by_cases P:R= "host"
  ·rw [if_pos P] at X;exact dq (beq_iff_eq.mpr P) X
  ·rw [if_neg P] at X;exact cW (beq_eq_false_iff_ne.mpr P) X
noncomputable def eB (r:List Nat):List Nat:=r++iu ((-(r.length:Int)) % 4).toNat 0
theorem US(y:Int):0≤y % 4∧y % 4 < 4:=⟨r7 _ (by decide),uI _ (by decide)⟩
inductive Fl:List D→J→KK→KK→Prop
 | mk (μ:J) (K E:KK) (ks:List Nat) (h1:ks.length≤100) (h2:K (.bytes (eB ks)) μ):Fl [.bytes ks] μ K E
theorem Po(p:cA w u):cK G w u 2 (.ref 169) Fl:=
 cK.of (p.af (by kernel_rfl)) fun I v=>(ZN G p v).mono fun b B x O X=>by
  refine X.rec fun B x O r h X=>?_
  refine ek rfl ?_
  dsimp [eK]
  refine et Hd v (et (gQ p.top) v ⟨cg h (by decide),by decide,?_⟩)
  rw [Lc _ (by decide)]
  have f:=US (-(r.length:Int))
  exact⟨⟨rfl,j2 (by decide) f.1,j2 (nL f.2) (by decide)⟩,by rw [oW];exact cg (II f.1 f.2) (cg (uS h 3) (by decide)),X⟩
end
end
section
set_option simprocs false
section
theorem gx {d:D}(W:q z=ab (.inst E O))(K:q O=ab (.dict s))(C:cL s t=ab d)(R:mP cf E t)(k:x d q)(o:handOk d):
 gI cf t (.val (.ref z)) q x bx:=lL (P:=Ao cf t q x) W (v9 K ⟨R,d,C,o,k⟩)
theorem jD(X:q z=ab (.list n))(h:n.length≤1000000)(k:x .none (q.set z (.list (n++ [T])))):tq (.val (.ref z)) [T] q x:=by
 show(match q z with | some o=>nd o fun n=>kZ [T] fun T=>n.length≤1000000∧x .none (q.set z (.list (n++ [T]))) | none=>False)
 rw [X];exact⟨h,k⟩
noncomputable def Ah:List (PySem.Str×D):= [("p4",.tup [.str "ports"]),("m6",.tup [.str "constant"]),("p6",.tup [.str "interval",.str "ports"])]
inductive jk (μ:J) (o:PySem.Str) (r L S:a0):Prop
 | mk (dx:a0) (kvs:List (PySem.Str×D)) (M fp:a0) (h1:μ r=ab (.inst 186 dx)) (h2:μ dx=ab (.dict kvs)) (h3:cL kvs "order" =ab (.str o)) (h4:cL kvs "rows" =ab (.val (.ref L))) (h5:cL kvs "sets" =ab (.val (.ref S)))
  (h6:cL kvs "makers" =ab (.val (.ref M))) (h7:cL kvs "flags" =ab (.val (.ref fp))) (h8:μ M=ab (.dict [("map",.val (.ref 735))])) (h9:μ fp=ab (.dict Ah)) (ne: ∀a ∈ [r,dx,M,fp],a ∉ [L,S])
theorem in1:z ∈ [z,E,O,cn]:=er
theorem Sh:E ∈ [z,E,O,cn]:=fJ _ er
theorem Si:O ∈ [z,E,O,cn]:=fJ _ (fJ _ er)
theorem Sj:cn ∈ [z,E,O,cn]:=fJ _ (fJ _ (fJ _ er))
theorem jk.keep {o:PySem.Str}(X:jk q o z E O)(k:Q [E,O] q M):jk M o z E O:=by
 obtain⟨h,s,H,fp,W,K,C,n,e,f,V,i,B,R⟩:=X
 exact⟨h,s,H,fp,k _ _ (R z in1) W,k _ _ (R h Sh) K,C,n,e,f,V,k _ _ (R H Si) i,k _ _ (R fp Sj) B,R⟩
section
variable {o:PySem.Str}
theorem jk.order(X:jk q o z E O)(k:x (.str o) q):gI (KF w) "order" (.val (.ref z)) q x bx:=by
 induction X with
 | mk h s H fp W K C=>exact gx W K C ⟨rfl,rfl,rfl,rfl,rfl⟩ k trivial
theorem jk.rows(X:jk q o z E O)(k:x (.val (.ref E)) q):gI (KF w) "rows" (.val (.ref z)) q x bx:=by
 induction X with
 | mk h s H fp W K C n=>exact gx W K n ⟨rfl,rfl,rfl,rfl,rfl⟩ k rfl
theorem jk.sets(X:jk q o z E O)(k:x (.val (.ref O)) q):gI (KF w) "sets" (.val (.ref z)) q x bx:=by
 induction X with
 | mk h s H fp W K C n e=>exact gx W K e ⟨rfl,rfl,rfl,rfl,rfl⟩ k rfl
end
theorem jT(k:Q [z] q M):Q [z,E] q M:=k.mono fun R X=>by rw [gW.mp X];exact er
theorem keep0(k:Q [] q M):Q U q M:=k.mono fun R X=>nomatch X
theorem jF {L:a0} {T:List a0} {o:dE}(k:Q [] q M):Q (L::T) q (M.set L o):=(keep0 k).wr er
theorem cV {o:dE}(k:Q [] q M)(Z:q z=ab o):M z=ab o:=k z o (fun X=>nomatch X) Z
theorem Rd(y:Nat):((y:Int)+3).fdiv 4=(((y+3) / 4:Nat):Int):=by rw [uJ _ (by decide)];rfl
theorem pO:i4 4:=by unfold i4;decide
inductive Fx:List D→J→KK→KK→Prop
 | mk (μ:J) (K E:KK) (m:Nat) (h1:K (.int (((m+3) / 4:Nat):Int)) μ):Fx [.int (m:Int)] μ K E
theorem rd(p:cA w u):cK G w u 2 (.ref 197) Fx:=
 cK.of (p.af (by kernel_rfl)) fun I v=>(ZW G p v).mono fun b B x O X=>by
  refine X.rec fun B x O y X=>?_
  refine ek rfl ?_
  dsimp [eK]
  rw [Rd]
  exact⟨⟨by decide,pO⟩,X⟩
inductive EF:List D→J→KK→KK→Prop
 | mk (μ:J) (K E:KK) (r:a0) (x:Int) (n:Nat) (o:PySem.Str) (L S:a0) (h1:jk μ o r L S) (h2:0≤x) (h3:n≤64) (h4:x < 256 ^ n→ ∀μ',Q [] μ μ'→K (.bytes (ed x n)) μ') (h5: ¬x < 256 ^ n→ ∀e μ',Q [] μ μ'→hF μ' e 65 m9→E (.val (.ref e)) μ'):EF [.val (.ref r),.int x,.int n,.str "big"] μ K E
theorem Gf(p:cA w u):cK G w u 6 (.ref 204) EF:=
 cK.of (p.af (by kernel_rfl)) fun I v=>(Y5 G p (cp v rfl)).mono fun b B x O X=>by
  refine X.rec fun B x O j S y o g m t i V X L=>?_
  refine ek rfl ?_
  dsimp [eK]
  refine⟨(ra (G:=G) p).ok,(oz (G:=G) p).ok,t.order (dA (oz p) (cp v rfl) ⟨_,_,_,_,_,?_⟩)⟩
  exact dA (ra p) v ⟨_,_,_,_,_,_,i,V,.inl rfl,X,L⟩
theorem mZ(j Z:Int)(y:Nat)(B:List jh):emit ((j,Z,y)::B)=if Z < 256 ^ y then (.aS j (ed Z y)::(emit B).1,(emit B).2) else ([],false):=rfl
section
theorem UX(P: ¬ew < 256 ^ A):emit (eL B bk A ew jv)=([],false):=by unfold eL;rw [mZ,if_neg P]
theorem UY(P:ew < 256 ^ A)(Z:jv=ew):emit (eL B bk A ew jv)=([.aS B (ed ew A)],true):=by unfold eL;rw [if_pos Z,mZ,if_pos P];rfl
theorem UZ(P:ew < 256 ^ A)(Z: ¬jv=ew)(j:jv < 256 ^ A):emit (eL B bk A ew jv)=([.aS B (ed ew A),.aS bk (ed jv A)],true):=by unfold eL;rw [if_neg Z,mZ,if_pos P,mZ,if_pos j];rfl
theorem U0(P:ew < 256 ^ A)(Z: ¬jv=ew)(j: ¬jv < 256 ^ A):emit (eL B bk A ew jv)=([.aS B (ed ew A)],false):=by unfold eL;rw [if_neg Z,mZ,if_pos P,mZ,if_neg j]
end
theorem H3(X:n.length≤900000):(n++ [T]).length≤1000000:=by rw [dR];exact cg (kE X) (by decide)
inductive Fs:List D→J→KK→KK→Prop
 | mk (μ:J) (K E:KK) (r:a0) (a b:Int) (m:Nat) (lo hi:Int) (o:PySem.Str) (L S:a0) (l:List D) (h1:jk μ o r L S) (h2:0≤lo) (h3:0≤hi) (h4:m≤64) (h5:μ L=ab (.list l)) (h6:l.length≤900000) (h7:(emit (eL a b m lo hi)).2=true→ ∀μ',Q [L] μ μ'→μ' L=ab (.list (l++(emit (eL a b m lo hi)).1.map cH.d))→K (.int (if hi=lo then a else b)) μ') (h8:(emit (eL a b m lo hi)).2=false→ ∀e μ',Q [L] μ μ'→μ' L=ab (.list (l++(emit (eL a b m lo hi)).1.map cH.d))→hF μ' e 65 m9→E (.val (.ref e)) μ'):Fs [.val (.ref r),.int a,.int b,.int m,.int lo,.int hi] μ K E
theorem vZ(p:cA w u):cK G w u 7 (.ref 218) Fs:=
 cK.of (p.af (by kernel_rfl)) fun I v=>(ZS G p (cp v rfl)).mono fun b B x O X=>by
  refine X.rec fun B x O j R f y s K o g m N H U E V c h X L=>?_
  refine ek rfl ?_
  dsimp [eK]
  refine H.rows (jG c ?_)
  dsimp [eK]
  refine et (Gf p) v ⟨_,_,_,j,s,y,o,g,m,H,U,V,fun P e k=>⟨by decide,jD (cV k c) (cg h (by decide)) ?_⟩,fun P Z e k t=>?_⟩
  ·have Y:Q [g] B (e.set g (.list (N++ [D.tup [.str "immediate",.int R,.bytes (ed s y)]]))):=jF k
   have A:(e.set g (.list (N++ [D.tup [.str "immediate",.int R,.bytes (ed s y)]]))) g=ab (.list (N++ [D.tup [.str "immediate",.int R,.bytes (ed s y)]])):=J.aa ..
   by_cases Z:K=s
   ·rw [if_pos Z,UY P Z] at X
    exact dq (beq_iff_eq.mpr Z) (X rfl _ Y A)
   ·refine cW (beq_eq_false_iff_ne.mpr Z) ?_
    rw [if_neg Z] at X
    have F:=H.keep (jT Y)
    revert Y A F
    generalize e.set g (.list (N++ [D.tup [.str "immediate",.int R,.bytes (ed s y)]]))=C
    intro Y A F
    refine F.rows (jG A ?_)
    dsimp [eK]
    refine et (Gf p) v ⟨_,_,_,j,K,y,o,g,m,F,E,V,fun M W l=>⟨by decide,jD (cV l A) (H3 h) ?_⟩,fun M S W l T=>?_⟩
    ·rw [UZ P Z M] at X
     exact X rfl _ (Y.trans (jF l)) (by rw [J.aa,fH];rfl)
    ·rw [U0 P Z M] at L
     exact L rfl S _ (Y.trans (keep0 l)) (cV l A) T
  ·rw [UX P] at L
   exact L rfl Z e (keep0 k) (by rw [cV k c,yh,fI]) t
end
end
section
set_option simprocs false
section
theorem J.set_set {o:dE}:(q.set z o).set z my=q.set z my:=by
 funext b;unfold J.set;split<;>rfl
theorem Wx(W:q z=ab (.inst E O))(K:q O=ab (.dict s))(h:s.length≤900)(R:mP cf E t)(k:x .none (q.set O (.dict (ep s t T)))):
 mj cf t (.val (.ref z)) T q x bx:=lL (P:=w8 cf t T q x z) W (v9 K ⟨⟨R,h⟩,k⟩)
theorem eb(X:z≠E):z ∉ [E]:=fun P=>X (gW.mp P)
structure fc (μ μi:J) (x N dx:a0) (kvs:List (PySem.Str×D)):Prop where
 k:Q [dx] μ μi
 hx:μi x=ab (.inst N dx)
 hd:μi dx=ab (.dict kvs)
 ne:x≠dx
theorem fc.attr(N:fc q M z E O s)(h:s.length≤900)(R:mP cf E t)
 (X: ∀C,fc q C z E O (ep s t T)→Q [O] M C→x .none C):mj cf t (.val (.ref z)) T M x bx:=
 Wx N.hx N.hd h R (X _ ⟨N.k.wr er,by rw [J.ag _ _ N.ne];exact N.hx,J.aa ..,N.ne⟩ ((Q.refl M).wr er))
theorem fc.new {o:dE}(N:fc q M z E O s)(U:M cn=ao):fc q (M.set cn o) z E O s:=
 ⟨fun R a I Z=>by
  have b:=N.k R a I Z
  rw [J.ag _ _ (J.ne b U)];exact b,
  by rw [J.ag _ _ (J.ne N.hx U)];exact N.hx,by rw [J.ag _ _ (J.ne N.hd U)];exact N.hd,N.ne⟩
theorem fc.aE {o:dE}(N:fc q M z E O s)(U:M cn=ao)(h:s.length≤900)(R:mP cf E t)
 (X: ∀C,fc q C z E O (ep s t T)→Q [O] M C→C cn=ab o→cn≠O→q cn=ao→x .none C):mj cf t (.val (.ref z)) T (M.set cn o) x bx:=by
 have A:cn≠O:=fun P=>J.ne N.hd U P.symm
 refine(N.new U).attr h R fun C H k=>X C H (fun R a I Z=>k R a I (by rw [J.ag _ _ (J.ne Z U)];exact Z)) (k cn o (eb A) (J.aa ..)) A ?_
 exact N.k.none U (eb A)
theorem fc.start(W:q z=ab (.inst E O))(K:q O=ab (.dict []))(R:z≠O):fc q q z E O []:=⟨Q.refl _,W,K,R⟩
theorem pL(i:q z=ao)(h:q O=ao)(k:Q [O] ((q.set O (.dict [])).set z (.inst E O)) M):Q [] q M:=fun R o F Z=>by
 have A:R≠z:=J.ne Z i
 have j:R≠O:=J.ne Z h
 exact k R o (eb j) (by rw [J.ag _ _ A,J.ag _ _ j];exact Z)
theorem pR(R:z≠O):fc ((q.set O (.dict [])).set z (.inst E O)) ((q.set O (.dict [])).set z (.inst E O)) z E O []:=
 fc.start (J.aa ..) (by rw [J.ag _ _ R.symm,J.aa]) R
def InstAt (B:J) (S M h:a0) (s:List (PySem.Str×D)):Prop:=B S=ab (.inst M h)∧B h=ab (.dict s)∧S≠h
theorem fc.at(N:fc q M z E O s):InstAt M z E O s:=⟨N.hx,N.hd,N.ne⟩
theorem InstAt.bN(N:InstAt q z E O s):fc q q z E O s:=⟨Q.refl _,N.1,N.2.1,N.2.2⟩
theorem InstAt.keep(N:InstAt q z E O s)(k:i3 q M):InstAt M z E O s:=⟨k _ _ rfl N.1,k _ _ rfl N.2.1,N.2.2⟩
inductive iP (μ:J) (el:a0) (data:D):Prop
 | mk (dx:a0) (kvs:List (PySem.Str×D)) (h1:μ el=ab (.inst 562 dx)) (h2:μ dx=ab (.dict kvs)) (h3:cL kvs "data" =ab data) (h4:cL kvs "until" =ab (.int 0))
inductive Eh (μ:J) (el:a0) (box:D):Prop
 | mk (dx:a0) (kvs:List (PySem.Str×D)) (h1:μ el=ab (.inst 562 dx)) (h2:μ dx=ab (.dict kvs)) (h3:cL kvs "box" =ab box)
theorem iP.keep(X:iP q z T)(k:i3 q M):iP M z T:=by
 obtain⟨h,s,W,K,C,n⟩:=X;exact⟨h,s,k _ _ rfl W,k _ _ rfl K,C,n⟩
inductive FD:List D→J→KK→KK→Prop
 | mk (μ:J) (K E:KK) (x dx:a0) (box data:D) (h1:fc μ μ x 562 dx []) (h2: ∀z μ',fc μ μ' x 562 dx [("box",box),("data",data),("until",.int 0),("timeout",.int 0),("comment",.str ""),("cells",.val (.ref z))]→K .none μ'):FD [.val (.ref x),box,data] μ K E
theorem VZ(p:cA w u) {n:Nat}(v:0 < n):ie G w u (n+1) (.ref 559) FD:=
 (YS G p v).mono fun b B x O X=>by
  refine X.rec fun B x O S h A M N X=>?_
  refine ek rfl ?_
  dsimp
  refine N.attr (b9 rfl) ⟨rfl,rfl,rfl,rfl,rfl⟩ fun C E F=>?_
  (refine bb ?_;dsimp)
  refine E.attr (b9 rfl) ⟨rfl,rfl,rfl,rfl,rfl⟩ fun L Q F=>?_
  (refine bb ?_;dsimp)
  refine Q.attr (b9 rfl) ⟨rfl,rfl,rfl,rfl,rfl⟩ fun t s F=>?_
  (refine bb ?_;dsimp)
  refine s.attr (b9 rfl) ⟨rfl,rfl,rfl,rfl,rfl⟩ fun D q F=>?_
  (refine bb ?_;dsimp)
  refine q.attr (b9 rfl) ⟨rfl,rfl,rfl,rfl,rfl⟩ fun H J F=>?_
  (refine bb ?_;dsimp)
  exact fun d U=>J.aE U (b9 rfl) ⟨rfl,rfl,rfl,rfl,rfl⟩ fun f K F F F F=>X d f K
inductive Ew:List D→J→KK→KK→Prop
 | mk (μ:J) (K E:KK) (box data:D) (h1: ∀el μ',μ el=ao→Q [] μ μ'→iP (μ'.minus μ) el data→Eh μ' el box→K (.val (.ref el)) μ'):Ew [box,data] μ K E
theorem pT(v:A+1≤C): ∃y,C=y+1∧A≤y:=by
 induction C with
 | zero=>cases v
 | succ y=>exact⟨y,rfl,C6 v⟩
theorem Ga(p:cA w u):cK G w u 4 (.ref 562) Ew:=
 cK.of (pG (w:=w) p.k (C:=562) rfl) fun I v=>by
  refine dg (pT v) fun y Q V=>?_;subst Q
  refine(t5 p.k (f:=559) ⟨rfl,rfl,rfl⟩ (VZ (G:=G) p (n:=y) (cp V rfl))).mono fun b B x O X=>?_
  refine X.rec fun B x O A M X=>?_
  exact fun S h i E R=>⟨_,_,_,S,h,A,M,pR R,fun d e N=>⟨rfl,X S _ i (pL i E N.k) ⟨h,_,pP N.hx i,pP N.hd E,rfl,rfl⟩ ⟨h,_,N.hx,N.hd,rfl⟩⟩⟩
inductive Fw:List D→J→KK→KK→Prop
 | mk (μ:J) (K E:KK) (k:Int) (h1:K (.tup [.int k]) μ):Fw [.tup [.tup [.int k,.int k]]] μ K E
theorem Gz(p:cA w u):cK G w u 2 (.ref 544) Fw:=
 cK.of (p.af (by kernel_rfl)) fun I v=>(ZV G p v).mono fun b B x O X=>by
  refine X.rec fun B x O k X=>?_
  refine ek rfl ?_
  dsimp [eK]
  refine⟨by decide,?_⟩
  rw [AI rfl]
  dsimp [eK]
  exact cW (bne_self_eq_false k) ⟨by decide,by decide,trivial,X⟩
inductive EO:List D→J→KK→KK→Prop
 | mk (μ:J) (K E:KK) (el:a0) (data:D) (h1:iP μ el data) (h2:K (.bool true) μ):EO [.val (.ref el),.int 0] μ K E
theorem O3(p:cA w u):cK G w u 2 (.ref 573) EO:=
 cK.of (p.af (by kernel_rfl)) fun I v=>(Zc G p v).mono fun b B x O X=>by
  refine X.rec fun B x O i M E X=>?_
  obtain⟨h,s,W,K,C,n⟩:=E
  refine ek rfl ?_
  dsimp [eK]
  exact gx W K n ⟨rfl,rfl,rfl,rfl,rfl⟩ X trivial
end
end
variable {dm:List ck}
variable {gm:ck}
variable {aaA:List ck}
section
set_option simprocs false
section
inductive iy (μ:J):List (List Int×D)→List ck→Prop
 | nil:iy μ [] []
 | cons {l:ck} {el:a0} {r:List (List Int×D)} {ls:List ck} (h:iP μ el (.tup (l.data.map .int))) (t:iy μ r ls):iy μ (([l.k],.val (.ref el))::r) (l::ls)
theorem iy.map(t: ∀i d,iP q i d→iP M i d)(X:iy q ft dm):iy M ft dm:=by
 induction X with
 | nil=>exact .nil
 | cons X _ o=>exact .cons (t _ _ X) o
theorem iy.keep(k:i3 q M)(X:iy q ft dm):iy M ft dm:=X.map fun F F X=>X.keep k
theorem iy.snoc(K:iP q z (.tup (gm.data.map .int)))(X:iy q ft dm):iy q (ft++ [([gm.k],.val (.ref z))]) (dm++ [gm]):=by
 induction X with
 | nil=>exact .cons K .nil
 | cons X _ o=>exact .cons X o
theorem iy.len(X:iy q ft dm):ft.length=dm.length:=by
 induction X with
 | nil=>rfl
 | cons _ _ o=>exact congrArg (· +1) o
inductive Found (μ:J) (tab:List (List Int×D)) (k:Int):Option ck→Prop
 | some (l:ck) (el:a0) (e:js tab [k]=ab (.val (.ref el))) (h:iP μ el (.tup (l.data.map .int))):Found μ tab k (ab l)
 | none (e:js tab [k]=ao):Found μ tab k ao
theorem HX(R f:Int):(([R]:List Int) == [f])=(R == f):=by
 induction e:R == f with
 | true=>refine(beq_iff_eq.mp e)▸?_;exact beq_self_eq_true _
 | false=>exact beq_eq_false_iff_ne.mpr fun P=>beq_eq_false_iff_ne.mp e (sb P).1
theorem iy.find(k:Int)(X:iy q ft dm):Found q ft k (dm.find? fun N=>N.k == k):=by
 induction X with
 | nil=>exact .none rfl
 | @cons N i j dm X _ o=>
  have J:js (([N.k],D.val (.ref i))::j) [k]=if (N.k == k)=true then ab (.val (.ref i)) else js j [k]:=by
   unfold js
   rw [mE,HX]
   cases N.k == k<;>rfl
  rw [mE]
  induction e:N.k == k with
  | true=>exact .some N i (by rw [J,e];rfl) X
  | false=>
   rw [e] at J
   have J:js (([N.k],D.val (.ref i))::j) [k]=js j [k]:=J
   dsimp only
   generalize (dm.find? fun N=>N.k == k)=f at o ⊢
   induction o with
   | some N i b X=>exact .some N i (J.trans b) X
   | none b=>exact .none (J.trans b)
theorem iy.fresh {k:Int}(X:iy q ft dm)(I:k ∉ dm.map ck.k):lR ft [k] T=ft++ [([k],T)]:=by
 have Z:ft.any (fun c=>c.1 == [k])=false:=by
  induction X with
  | nil=>rfl
  | @cons l i j dm _ _ o=>
   rw [oV,o fun P=>I (fJ _ P),CN]
   rw [HX]
   exact beq_eq_false_iff_ne.mpr fun P=>I (P▸er)
 unfold lR
 refine Z▸?_;rfl
inductive gX (μ:J) (a T:a0) (ls:List ck):Prop
 | mk (dx:a0) (tab:List (List Int×D)) (h1:μ a=ab (.inst 639 dx)) (h2:μ dx=ab (.dict [("table",.val (.ref T))])) (h3:iS (μ T)=ab tab) (h4:iy μ tab ls) (h5:T≠dx)
theorem YC(k:i3 q M)(X:iS (q z)=ab ft):iS (M z)=ab ft:=by
 induction P:q z with
 | none=>rw [P] at X;contradiction
 | some o=>
  rw [P] at X
  induction o with
  | aA=>rw [k _ _ rfl P];exact X
  | dict=>rw [k _ _ rfl P];exact X
  | _=>contradiction
theorem gX.keep(X:gX q z E dm)(k:i3 q M):gX M z E dm:=by
 obtain⟨h,F,W,K,C,n,e⟩:=X
 exact⟨h,F,k _ _ rfl W,k _ _ rfl K,YC k C,n.keep k,e⟩
inductive FF:List D→J→KK→KK→Prop
 | mk (μ:J) (K E:KK) (x dx:a0) (h1:fc μ μ x 639 dx []) (h2: ∀z μ',fc μ μ' x 639 dx [("table",.val (.ref z))]→μ' z=ab (.dict [])→z≠dx→μ z=ao→K .none μ'):FF [.val (.ref x)] μ K E
theorem V1(p:cA w u) {n:Nat}(v:0 < n):ie G w u (n+1) (.ref 587) FF:=
 (YV G p v).mono fun b B x O X=>by
  refine X.rec fun B x O S h N X=>?_
  refine ek rfl ?_
  dsimp [eK]
  exact fun d U=>N.aE U (b9 rfl) ⟨rfl,rfl,rfl,rfl,rfl⟩ fun C E F=>X d C E
theorem mm {o:dE}(X:((q.set E o).set z my) O=ao):q O=ao:=by
 have A:O≠z:=fun P=>by subst P;rw [J.aa] at X;contradiction
 rw [J.ag _ _ A] at X
 have j:O≠E:=fun P=>by subst P;rw [J.aa] at X;contradiction
 rwa [J.ag _ _ j] at X
inductive Ey:List D→J→KK→KK→Prop
 | mk (μ:J) (K E:KK) (h1: ∀a T μ',μ a=ao→μ T=ao→Q [] μ μ'→gX (μ'.minus μ) a T []→K (.val (.ref a)) μ'):Ey [] μ K E
theorem O1(p:cA w u):cK G w u 4 (.ref 639) Ey:=
 cK.of (pG (w:=w) p.k (C:=639) rfl) fun I v=>by
  refine(pT v).elim fun y D=>?_
  obtain⟨rfl,V⟩:=D
  refine(t5 p.k (f:=587) ⟨rfl,rfl,rfl⟩ (V1 (G:=G) p (n:=y) (cp V rfl))).mono fun b B x O X=>?_
  refine X.rec fun B x O X=>?_
  exact fun S h i E R=>⟨_,_,_,S,h,pR R,fun d e N Z A U=>⟨rfl,X S d _ i (mm U) (pL i E N.k) ⟨h,[],pP N.hx i,pP N.hd E,by refine(pP Z (mm U))▸?_;rfl,.nil,A⟩⟩⟩
theorem Q9 {k:List Int}(X:iS (q z)=ab ft)(Z:kU n=ab k)(S:ng (js ft k) fun d=>x d q):mi (.val (.ref z)) [.tup n] q x:=by
 show eY q (.ref z) _
 unfold eY
 dsimp only
 induction P:q z with
 | none=>rw [P] at X;contradiction
 | some o=>
  rw [P] at X
  show tj o n [] _
  unfold tj
  dsimp only
  rw [X,Z]
  exact S
inductive EI:List D→J→KK→KK→Prop
 | mk (μ:J) (K E:KK) (a T:a0) (k:Int) (ls:List ck) (h1:gX μ a T ls) (h2:match ls.find? (fun l=>l.k == k) with | some l=> ∀el,iP μ el (.tup (l.data.map .int))→K (.val (.ref el)) μ | none=>K .none μ):EI [.val (.ref a),.tup [.int k],.int 0] μ K E
theorem vT(p:cA w u):cK G w u 3 (.ref 608) EI:=
 cK.of (p.af (by kernel_rfl)) fun I v=>(YU G p (cp v rfl)).mono fun b B x O X=>by
  refine X.rec fun B x O R y k L E X=>?_
  obtain⟨h,F,W,K,C,n,A⟩:=E
  refine ek rfl ?_
  dsimp [eK]
  refine gx W K (d:= .val (.ref y)) rfl ⟨rfl,rfl,rfl,rfl,rfl⟩ (TQ C ?_) rfl
  dsimp [eK]
  refine Q9 C rfl ?_
  have D:=n.find k
  generalize (L.find? fun N=>N.k == k)=f at D X
  induction D with
  | some N i e r=>
   rw [e]
   dsimp only [ng]
   dsimp [eK]
   exact cW rfl (et (O3 p) v ⟨_,_,_,i,_,r,X i r⟩)
  | none e=>refine e▸?_;exact X
theorem iP.bH(X:iP q z T)(k:Q [E] q M)(V:iS (q E)=ab ft):iP M z T:=by
 obtain⟨h,s,W,K,C,n⟩:=X
 have A:z≠E:=fun P=>by subst P;rw [W] at V;contradiction
 have j:h≠E:=fun P=>by
  subst P;rw [K] at V
  induction s with
  | nil=>contradiction
  | cons=>contradiction
 exact⟨h,s,k _ _ (eb A) W,k _ _ (eb j) K,C,n⟩
theorem gX.put(U:gX q z E dm)(C:iS (q E)=ab ft)(r:iP q O (.tup (gm.data.map .int)))(g:gm.k ∉ dm.map ck.k):
 gX (q.set E (.aA (lR ft [gm.k] (.val (.ref O))))) z E (dm++ [gm]):=by
 obtain⟨h,B,W,K,A,n,e⟩:=U
 cases c4 (C.symm.trans A)
 have Y:Q [E] q (q.set E (.aA (lR ft [gm.k] (.val (.ref O))))):=(Q.refl q).wr er
 refine⟨h,lR ft [gm.k] (.val (.ref O)),Y _ _ (eb fun P=>?_) W,Y _ _ (eb e.symm) K,by rw [J.aa];rfl,?_,e⟩
 ·rw [P] at W;rw [W] at C;contradiction
 ·rw [n.fresh g]
  rw [n.fresh g] at Y
  exact(n.map fun F F X=>X.bH Y C).snoc (r.bH Y C)
theorem Wn {k:List Int}(X:iS (q z)=ab ft)(Z:kU n=ab k)(h:ft.length≤900)(S:x .none (q.set z (.aA (lR ft k T)))):m5 (.val (.ref z)) (.tup n) T q x bx:=by
 show(match q z with | some o=>wy z o (.tup n) T q x | none=>False)
 induction P:q z with
 | none=>rw [P] at X;contradiction
 | some o=>
  rw [P] at X
  show t7 o n _
  unfold t7
  rw [X,Z]
  exact⟨h,S⟩
theorem RK {k:Int}(g:k ∉ dm.map ck.k):(dm.find? fun y=>y.k == k)=ao:=by
 rw [Ly]
 exact fun y V Z=>g (ql.mpr ⟨y,V,beq_iff_eq.mp Z⟩)
inductive Fn:List D→J→KK→KK→Prop
 | mk (μ:J) (K E:KK) (a T el:a0) (ls:List ck) (k:Int) (h1:gX μ a T ls) (h2:Eh μ el (.tup [.tup [.int k,.int k]])) (h3:k ∉ ls.map ck.k) (h4:ls.length≤100) (h5: ∀tab,iS (μ T)=ab tab→K .none (μ.set T (.aA (lR tab [k] (.val (.ref el)))))):Fn [.val (.ref a),.val (.ref el),.int 0] μ K E
theorem Gw(p:cA w u):cK G w u 4 (.ref 594) Fn:=
 cK.of (p.af (by kernel_rfl)) fun I v=>(YW G p (cp v rfl)).mono fun b B x O X=>by
  refine X.rec fun B x O R y i L k U E g h X=>?_
  obtain⟨D,A,j,Z,q⟩:=E
  refine ek rfl ?_
  dsimp
  refine⟨(Gz (G:=G) p).ok,gx j Z q ⟨rfl,rfl,rfl,rfl,rfl⟩ (dA (Gz p) (cp v rfl) ⟨_,_,_,_,?_⟩) trivial⟩
  (refine bb ?_;dsimp)
  refine cW rfl ?_
  (refine bb ?_;dsimp)
  obtain⟨H,F,W,K,C,n,e⟩:=id U
  refine wI W K rfl (f:=608) ⟨rfl,rfl,rfl,rfl⟩ (vT (G:=G) p).ok ?_
  dsimp [eK]
  refine⟨_,(vT p).sp I v,_,_,_,R,y,k,L,U,?_⟩
  refine(RK g)▸?_
  dsimp [eK]
  refine cW rfl (gx W K (d:= .val (.ref y)) rfl ⟨rfl,rfl,rfl,rfl,rfl⟩ (Wn C rfl (by refine n.len▸?_;exact cg h (by decide)) (X _ C)) rfl)
def NY (B:J) (T:D) (L:List ck):Prop:=T= .tup (L.map ck.d)∨ ∃r,T= .val (.ref r)∧B r=ab (.list (L.map ck.d))
inductive vD (μ:J) (a T:a0) (ls:List ck) (d:D) (r:List D) (ρ:Loc) (μ':J):Prop
 | mk (done rest:List ck) (o:Option D) (h1:r=rest.map ck.d) (h2:ls=done++rest) (h3:ρ= [ab d,ab (.val (.ref a)),o]) (h4:Q [] μ μ') (h5:gX (μ'.minus μ) a T done)
theorem Ia {t:c2→D} {N:List c2}(X:T::n=N.map t): ∃S V,N=S::V∧T=t S∧n=V.map t:=by
 cases N with
 | nil=>contradiction
 | cons S V=>cases X;exact⟨S,V,rfl,rfl,rfl⟩
theorem Ic {t:c2→D} {N:List c2}(X: []=N.map t):N= []:=by
 induction N with
 | nil=>rfl
 | cons=>contradiction
theorem Us(X:((dm++gm::aaA).map ck.k).Nodup):gm.k ∉ dm.map ck.k:=fun P=>by
 rw [fh,gq] at X
 exact(uR.mp X).2.2 _ P _ er rfl
theorem Tc {k:Nat}(X:(dm++gm::aaA).length≤k):dm.length≤k:=by rw [dR] at X;exact cg (j6 ..) X
inductive E7:List D→J→KK→KK→Prop
 | mk (μ:J) (K E:KK) (d:D) (ls:List ck) (h1:NY μ d ls) (h2:ls.length≤50) (h3:(ls.map ck.k).Nodup) (h4: ∀a T μ',μ a=ao→Q [] μ μ'→gX (μ'.minus μ) a T ls→K (.val (.ref a)) μ'):E7 [d] μ K E
theorem vX(p:cA w u):cK G w u 5 (.ref 728) E7:=
 cK.of (p.af (by kernel_rfl)) fun I v=>(Zw G p (cp v rfl)).mono fun b B x O X=>by
  refine X.rec fun B x O T L hd h g X=>?_
  refine⟨rfl,?_⟩
  dsimp
  refine et (O1 p) v ⟨_,_,_,fun R ac b5 bv am an U=>?_⟩
  (refine bb ?_;dsimp)
  have D: ∀ap:Option a0,gj ap (L.map ck.d) B→ ∀V al i P Y e,vD B R ac L T (L.map ck.d) Y e→(∀E e,vD B R ac L T [] E e→i E e)→V=e6 2→
   al=(jZ (rL (xw G w u (KF w) I "put" (g4 1) (jI (rR G w u I (fQ (.val (.ref 562))) (jI (uc (g4 2) (fQ (.int 0))) (jI (uc (g4 2) (fQ (.int 1))) (nv)))) (jI (fQ (.int 0)) (nv))))) (k3))→
   eS V al ap (L.map ck.d) i P (L.map ck.d) Y e:=by
   intro ap y V al i P Y e bk bu bi z
   subst bi z
   refine jq (vD B R ac L T) bu ?_ _ _ _ bk
   intro ca j Y e b8 ⟨done,H,o,t,a,Z,k,U⟩ d
   subst Z
   refine j0 (Ia t) fun N H A F M=>?_;subst A;subst F;subst M
   subst a
   dsimp [eK]
   obtain⟨cb,cf,W,K,C,n,ce⟩:=U.keep Ii.h
   refine wI W K rfl (f:=594) ⟨rfl,rfl,rfl,rfl⟩ (Gw (G:=G) p).ok ?_
   dsimp [eK]
   refine⟨(Ga (G:=G) p).ok,dA (Ga p) (cp v rfl) ⟨_,_,_,_,_,fun bd b6 S l bn bm=>?_⟩⟩
   have q:=Us g
   refine⟨_,(Gw p).sp I (cp v rfl),_,_,_,R,ac,bd,done,N.k,(U.keep Ii.h).keep l.h,bm,q,cg (Tc h) (by decide),fun bx s=>?_⟩
   have be:Q [] B (b6.set ac (.aA (lR bx [N.k] (.val (.ref bd))))):=(k.trans l).set am
   refine d _ _ ⟨done++ [N],H,_,rfl,by rw [fH];rfl,rfl,be,?_⟩ (y.keep be (by simp))
   rw [TV am]
   exact gX.put (U.keep (TS l).h) (by unfold J.minus;rw [if_pos am];exact s) (bn.keep (TU k).h) q
  have m: ∀E e,vD B R ac L T [] E e→(match E.at 1 with | some T=>x T e | none=>False):=fun E e ⟨done,H,o,t,a,Z,k,U⟩=>by
   cases Ic t
   rw [fI] at a
   subst Z a
   exact X R ac e bv k U
  rcases hd with rfl | ⟨r,rfl,c⟩
  ·exact D ao trivial _ _ _ _ _ _ ⟨[],L,ao,rfl,rfl,rfl,an,U⟩ m rfl rfl
  ·have:fL (b5 r)=ab (L.map ck.d):=by rw [cV an c];rfl
   simp only [this]
   exact D (ab r) (lQ c) _ _ _ _ _ _ ⟨[],L,ao,rfl,rfl,rfl,an,U⟩ m rfl rfl
end
end
section
set_option simprocs false
section
theorem R1 {o:PySem.Str}(X:jk q o z E O)(k: ∀fp,q fp=ab (.dict Ah)→x (.val (.ref fp)) q):gI (KF w) "flags" (.val (.ref z)) q x bx:=by
 induction X with
 | mk h s H fp W K C n e f V i B=>exact gx W K V ⟨rfl,rfl,rfl,rfl,rfl⟩ (k _ B) rfl
theorem Hq {o:PySem.Str}(X:jk q o z E O)(k: ∀H,q H=ab (.dict [("map",.val (.ref 735))])→x (.val (.ref H)) q):gI (KF w) "makers" (.val (.ref z)) q x bx:=by
 induction X with
 | mk h s H fp W K C n e f V i B=>exact gx W K f ⟨rfl,rfl,rfl,rfl,rfl⟩ (k _ i) rfl
theorem Uw {k:PySem.Str}(X:q z=ab (.dict s))(S:c0 (!s.any fun p=>p.1 == k) q):f7 .NotIn (.str k) (.val (.ref z)) q c0 x:=by
 show tr .NotIn k z q _
 unfold tr
 refine X▸?_;exact S
theorem Q7 {k:PySem.Str}(X:q z=ab (.dict s))(S:x ((cL s k).getD T) q):mi (.val (.ref z)) [.str k,T] q x:=by
 show eY q (.ref z) _
 unfold eY
 dsimp only
 refine X▸?_;exact S
theorem Aa {k:PySem.Str}(X:q z=ab (.dict s))(S:ng (cL s k) fun d=>x d q):mi (.val (.ref z)) [.str k] q x:=by
 show eY q (.ref z) _
 unfold eY
 dsimp only
 refine X▸?_;exact S
inductive Fc:List D→J→KK→KK→Prop
 | mk (μ:J) (K E:KK) (r:a0) (o:PySem.Str) (L S:a0) (h1:jk μ o r L S) (h2:K (.val (.ref 735)) μ):Fc [.val (.ref r),.str "map"] μ K E
theorem Pf(p:cA w u):cK G w u 2 (.ref 211) Fc:=
 cK.of (p.af (by kernel_rfl)) fun I v=>(ZA G p v).mono fun b B x O X=>by
  refine X.rec fun B x O j o g m t X=>?_
  refine ek rfl ?_
  dsimp [eK]
  exact Hq t fun H y=>Uw y (cW rfl (Hq t fun H y=>rn y rfl X))
theorem Vf(N:ck)(done:List ck):(gh done:Int)+(((N.data.map D.int).length:Int) - 1)=(gh (done++ [N]):Int):=by
 unfold gh
 rw [Lv,dR,dP]
 unfold ck.data
 cases P:N.p<;>simp [P]
theorem Vd(N:ck):(N.data.map D.int).length≤1000000:=by
 rw [dP];unfold ck.data
 split<;>exact b9 rfl
inductive N4 (μ:J) (r:a0) (ls:List ck) (rs:List D) (ρ:Loc) (μ':J):Prop
 | mk (done rest:List ck) (o:Option D) (h0:μ'=μ) (h1:rs=rest.map ck.d) (h2:ls=done++rest) (h3:ρ= [ab (.val (.ref r)),ab (.tup [.str "map",.tup (ls.map ck.d)]),ab (.int (gh done)),o])
theorem AX(k:Nat):decide ((0:Int) < (k:Int))=decide (0 < k):=by
 induction k with
 | zero=>rfl
 | succ k=>refine(decide_eq_true (qq k))▸?_;exact decide_eq_true (Lj.mpr (qq k))
inductive EK:List D→J→KK→KK→Prop
 | mk (μ:J) (K E:KK) (r:a0) (d:D) (o:PySem.Str) (L S:a0) (h1:jk μ o r L S) (h2:(∃x:PySem.Str,d= .tup [.str "ref",.str x]∧(x= "m4" ∨x= "p4" ∨x= "m6" ∨x= "p6")∧K (.bool (iD x)) μ)∨(∃ls:List ck,d= .tup [.str "map",.tup (ls.map ck.d)]∧ls.length≤100∧(¬(0 < gh ls∧gh ls < ls.length)→K (.bool (decide (0 < gh ls))) μ)∧((0 < gh ls∧gh ls < ls.length)→ ∀e μ',Q [] μ μ'→hF μ' e 108 oy→E (.val (.ref e)) μ'))):EK [.val (.ref r),d] μ K E
theorem vU(p:cA w u):cK G w u 4 (.ref 225) EK:=
 cK.of (p.af (by kernel_rfl)) fun I v=>(Y8 G p (cp v rfl)).mono fun b B x O X=>by
  refine X.rec fun B x O j T o g m t X=>?_
  refine ek rfl ?_
  unfold GK
  rcases X with ⟨S,rfl,i,X⟩ | ⟨C,rfl,h,X,L⟩
  ·dsimp
   refine dq rfl (R1 t fun fp r=>rB r ?_)
   dsimp [eK]
   refine⟨by decide,Q7 r ?_⟩
   rcases i with rfl | rfl | rfl | rfl<;>exact X
  ·dsimp
   refine cW rfl ?_
   (refine bb ?_;dsimp)
   (refine bb ?_;dsimp)
   refine jq (N4 B j C) (fun Y e X=>?_) (fun E J Y e n X d=>?_) _ _ _ ⟨[],C,_,rfl,rfl,rfl,rfl⟩
   ·obtain⟨done,H,o,rfl,V,a,rfl⟩:=X
    cases Ic V
    rw [fI] at a
    subst a
    (refine bb ?_;dsimp)
    rw [AX]
    by_cases l:0 < gh C
    ·refine dq (decide_eq_true l) (et (gQ p.top) (cp v rfl) ⟨by rw [dP];exact cg h (by decide),?_⟩)
     dsimp [eK]
     rw [AX,dP]
     by_cases D:gh C < C.length
     ·exact dq (decide_eq_true (gp.mpr D)) (tO (OZ p) (cp v rfl) (RD w) (L ⟨l,D⟩))
     ·exact cW (decide_eq_false fun P=>D (gp.mp P)) (X fun P=>D P.2)
    ·refine cW (decide_eq_false l) ?_
     dsimp [eK]
     rw [AX]
     exact cW rfl (X fun P=>l P.1)
   ·obtain⟨done,H,o,rfl,V,a,rfl⟩:=X
    refine j0 (Ia V) fun N H A F M=>?_;subst A;subst F;subst M
    dsimp [eK]
    refine et (gQ p.top) (cp v rfl) ⟨Vd N,?_⟩
    dsimp [eK]
    rw [Vf]
    exact d _ _ ⟨done++ [N],H,ab N.d,rfl,rfl,by rw [a,fH];rfl,rfl⟩ trivial
end
end
variable {eO:List (List ck)}
section
set_option simprocs false
section
theorem YI: ∀J < 8,∀V < 8,hc J=hc V→J=V:=by decide+kernel
structure md (μ:J) (L S:a0) (sets:List (PySem.Str×D)) (lss:List (List ck)):Prop where
 len:sets.length=lss.length
 keys: ∀i p,sets[i]? =ab p→p.1=hc i
 at': ∀i ls,lss[i]? =ab ls→ ∃a T,cL sets (hc i)=ab (.val (.ref a))∧gX (μ.del [L,S]) a T ls
theorem md.keep(X:md q z E s eO)(k:Q [z,E] q M):md M z E s eO:=
 ⟨X.len,X.keys,fun J L Z=>by
  refine nz (X.at' J L Z) fun R y W K=>?_
  exact⟨R,y,W,K.keep (z8 k).h⟩⟩
theorem zL {k:PySem.Str}:cL (s++ [(t,T)]) k=match cL s k with
 | some S=>ab S
 | none=>if t=k then ab T else ao:=by
 unfold cL
 refine List.find?_append▸?_
 induction P:s.find? fun c=>c.1 == k with
 | some c=>simp
 | none=>
  by_cases Z:t=k
  ·refine Z▸?_;simp
  ·simp [Z]
theorem md.none(X:md q z E s eO)(h:eO.length < 8):s.any (fun c=>c.1 == hc eO.length)=false:=by
 rw [uN]
 intro c l P
 refine(LC l).elim fun J A=>?_
 obtain⟨K,rfl⟩:=A
 have D:J < eO.length:=X.len▸K
 rw [beq_iff_eq,X.keys J _ (gV K)] at P
 exact hU D (YI J (uU D h) _ h P)
theorem Hr {N:List c2} {R f:c2}(P:(N++ [R])[A]? =ab f):N[A]? =ab f∨(A=N.length∧f=R):=by
 rcases Nat.lt_trichotomy A N.length with c | c | c
 ·rw [CZ c] at P;exact .inl P
 ·subst c;rw [List.getElem?_concat_length] at P;exact .inr ⟨rfl,(c4 P).symm⟩
 ·rw [nN (by refine dR▸?_;exact c)] at P;contradiction
theorem md.add(X:md q z E s eO)(h:eO.length < 8)(U:gX (q.del [z,E]) O cn dm):
 md q z E (ep s (hc eO.length) (.val (.ref O))) (eO++ [dm]):=by
 have Z:ep s (hc eO.length) (.val (.ref O))=s++ [(hc eO.length,.val (.ref O))]:=by
  unfold ep;refine(X.none h)▸?_;rfl
 have v:cL s (hc eO.length)=ao:=by
  unfold cL
  refine(Ly.mpr fun c l=>uN.mp (X.none h) c l)▸?_;rfl
 refine Z▸?_
 refine⟨by rw [dR,dR,X.len];rfl,fun J c P=>?_,fun J A P=>?_⟩
 ·rcases Hr P with P | ⟨rfl,rfl⟩
  ·exact X.keys J c P
  ·rw [X.len]
 ·refine zL▸?_
  rcases Hr P with P | ⟨rfl,rfl⟩
  ·refine nz (X.at' J A P) fun I y W K=>?_
   exact⟨I,y,by rw [W],K⟩
  ·exact⟨O,cn,by rw [v];exact if_pos rfl,U⟩
theorem Kn: ∀V < 8,("t" :PySem.Str).length+(PySem.Str.ofString (toString ((V:Nat):Int))).length≤1000000:=by decide+kernel
structure eD (μ:J) (o:PySem.Str) (r L S:a0) (l:List D) (lss:List (List ck)):Prop where
 row:jk μ o r L S
 list:μ L=ab (.list l)
 sets: ∃sets,μ S=ab (.dict sets)∧md μ L S sets lss
theorem eD.ne {o:PySem.Str}(X:eD q o z E O n eO):O≠E:=fun P=>by
 refine dg X.sets fun i W F=>?_
 subst P;rw [X.list] at W;exact nomatch W
theorem eD.keep {o:PySem.Str}(X:eD q o z E O n eO)(k:Q [E] q M)(Z:M E=ab (.list y)):eD M o z E O y eO:=by
 have R:=X.ne
 refine X.sets.elim fun i h=>?_
 refine h.elim fun W K=>?_
 exact⟨X.row.keep (jT k),Z,i,k _ _ (eb R) W,K.keep (jT k)⟩
theorem eD.keep0 {o:PySem.Str}(X:eD q o z E O n eO)(k:Q [] q M):eD M o z E O n eO:=X.keep (Mine.keep0 k) (cV k X.list)
noncomputable def fK.ax:fK→List (List ck)
 | .lits L=> [L]
 | _=> []
noncomputable def fK.aO (V:Nat) (U:List Nat):fK→List cH
 | .lits _=> [.field "mark",.map (hc V) U]
 | .named S=> [.field "priority",.map S U]
 | _=> []
def fK.bG:fK→Prop
 | .lits L=>L.length≤3∧(L.map ck.k).Nodup
 | .named _=>True
 | _=>False
theorem Am:(qu (ab ((5:Nat):Int)) ao 1 (("meta mark" :PySem.Str)).length).length≠(("meta mark" :PySem.Str)).length∧(i9 "meta mark" ((5:Nat):Int)).length≤1000000:=by decide+kernel
theorem An:(qu (ab ((5:Nat):Int)) ao 1 (("meta priority" :PySem.Str)).length).length≠(("meta priority" :PySem.Str)).length∧(i9 "meta priority" ((5:Nat):Int)).length≤1000000:=by decide+kernel
theorem ze:i9 "meta mark" ((5:Nat):Int)=("mark" :PySem.Str):=by decide+kernel
theorem zf:i9 "meta priority" ((5:Nat):Int)=("priority" :PySem.Str):=by decide+kernel
noncomputable def Kc:cB:=d (eZ (eM "append" (dD "rows" (c 0)) (a (p (a (b (.str "meta")) (a (c 1) (a (ff (m4 5) (f (f (c 2) (b (.int 1))) (b (.int 1)))) (a (b (.int 4)) (a (b (.str "host")) (j))))))) (j)))) (d (eZ (eM "append" (dD "rows" (c 0)) (a (p (a (b (.str "map")) (a (c 1) (a (p (a (p (a (b (.int 4)) (a (b (.str "host")) (j)))) (j))) (a (c 5) (a (c 3) (a (c 4) (j)))))))) (j)))) (l))
theorem H6 {o:PySem.Str} {D:PySem.Str}(Y:Q [E,O] q M)(a:eD M o z E O n eO)(h:n.length≤900000)
 (f: ∀e,Q [E,O] q e→eD e o z E O (n++ [(cH.field t).d,(cH.map e8 b5).d]) eO→x .none e)
 (C:(qu (ab ((5:Nat):Int)) ao 1 D.length).length≠D.length∧(i9 D ((5:Nat):Int)).length≤1000000)(B:i9 D ((5:Nat):Int)=t):
 Kc ⟨G,w,u,A⟩ [ab (.val (.ref z)),ab (.int 0),ab (.tup [.str "map",.tup [.str "field",.str D],T]),ab (.int 0),ab (kn b5),ab (.str e8)] M (fun F e=>x .none e) x (fun F=>bx):=by
 subst B
 unfold Kc
 dsimp
 refine a.row.rows (jG a.list ?_)
 dsimp
 refine⟨C,by decide,jD a.list (cg h (by decide)) ?_⟩
 have R:=a.keep ((Q.refl M).wr (o:= .list (n++ [(cH.field (i9 D ((5:Nat):Int))).d])) (List.mem_cons_self:E ∈ [E])) (J.aa ..)
 have l:Q [E,O] q (M.set E (.list (n++ [(cH.field (i9 D ((5:Nat):Int))).d]))):=Y.wr er
 show ih _ _ _ _ _ (M.set E (.list (n++ [(cH.field (i9 D ((5:Nat):Int))).d])))
 revert R l
 generalize M.set E (.list (n++ [(cH.field (i9 D ((5:Nat):Int))).d]))=L
 intro R l
 (refine bb ?_;dsimp)
 refine R.row.rows (jG R.list ?_)
 dsimp [eK]
 refine⟨by decide,by decide,by decide,jD R.list (H3 h) ?_⟩
 refine f _ (l.wr er) (R.keep ((Q.refl L).wr er) ?_)
 rw [J.aa,fH];rfl
theorem Ys {N L:_}(X:gX (M.minus q) O cn L)(c:q z=ab (.list N))(U:q E=ab (.dict s)):gX (M.del [z,E]) O cn L:=
 X.keep (Ih (fun f H=>by
  rcases gr.mp H with rfl | H
  ·rw [c];exact fun P=>nomatch P
  ·rw [gW.mp H,U];exact fun P=>nomatch P)).h
theorem Tb(i:q z=ab (.dict s))(X:s.length≤1000000)(k:x (.int (s.length:Int)) q):tw [.val (.ref z)] q x:=by
 show eY q (.ref z) _
 unfold eY
 dsimp only
 refine i▸?_
 exact⟨X,k⟩
theorem Jh {k:PySem.Str}(X:q z=ab (.dict s))(h:s.length≤900)(S:x .none (q.set z (.dict (ep s k T)))):m5 (.val (.ref z)) (.str k) T q x bx:=by
 show(match q z with | some o=>wy z o (.str k) T q x | none=>False)
 refine X▸?_
 exact⟨h,S⟩
inductive EX:List D→J→KK→KK→Prop
 | mk (μ:J) (K E:KK) (r:a0) (o:PySem.Str) (L S:a0) (l:List D) (lss:List (List ck)) (a:fK) (lay:List Nat) (h1:eD μ o r L S l lss) (h2:l.length≤900000) (h3:lss.length < 8) (h4:a.bG) (h5: ∀μ',Q [L,S] μ μ'→eD μ' o r L S (l++(a.aO lss.length lay).map cH.d) (lss++a.ax)→K .none μ'):EX [.val (.ref r),.int 0,a.d,.int 0,kn lay] μ K E
theorem O8(p:cA w u):cK G w u 6 (.ref 735) EX:=
 cK.of (p.af (by kernel_rfl)) fun I v=>(Zk G p (cp v rfl)).mono fun b B x O X=>by
  refine X.rec fun B x O j o g m N W R K M h z T X=>?_
  refine⟨rfl,?_⟩
  induction R with
  | none=>exact T.elim
  | span=>exact T.elim
  | aR=>exact T.elim
  | named S=>
   dsimp only [fK.d]
   dsimp
   (refine bb ?_;dsimp)
   refine cW rfl (bb (H6 (Q.refl _) M h (fun e k st=>X e k ?_) An zf))
   rw [show fK.ax (.named S)= [] from rfl,fI]
   exact st
  | lits L=>
   dsimp only [fK.d]
   dsimp
   (refine bb ?_;dsimp)
   refine dq rfl ?_
   refine dg M.sets fun i U d=>?_
   have V:=d.len
   refine⟨kj _,gD _,M.row.sets (dA (gQ p.top) (cp v rfl) (Tb U (V▸(cg (nQ z)) (by decide)) ?_))⟩
   refine V▸?_
   refine dA Hg (cp v rfl) ⟨⟨fy _,jd (gp.mpr z) (by decide)⟩,Kn _ z,?_⟩
   (refine bb ?_;dsimp)
   refine⟨(vX (G:=G) p).ok,dA (vX p) v ⟨_,_,_,_,L,.inl rfl,cg T.1 (by decide),T.2,fun R y C A Y E=>?_⟩⟩
   have a:=M.keep0 Y
   refine a.row.sets (Jh (cV Y U) (by refine V▸?_;exact cg (nQ z) (by decide)) ?_)
   have l:Q [g,m] C (C.set m (.dict (ep i (hc W.length) (.val (.ref R))))):=(Q.refl C).wr (fJ _ er)
   refine bb (bb (H6 ((Mine.keep0 Y).trans l) ⟨a.row.keep l,?_,_,J.aa ..,?_⟩ h X Am ze))
   ·refine(J.ag _ _ M.ne.symm)▸?_;exact a.list
   ·refine dg a.sets fun D F H=>?_
    cases (cV Y U).symm.trans F
    exact(H.add z (Ys E M.list U)).keep l
end
end
variable {i:cj}
section
set_option simprocs false
section
theorem lS(E:Int):wide E=4∨wide E=16:=by
 by_cases X:E=2
 ·exact .inl (if_pos X)
 ·exact .inr (if_neg X)
theorem xB(E:Int):(wide E+3) / 4=wide E / 4:=by rcases lS E with h | h<;>rw [h]
theorem B7(E:Int):wide E≤64:=by rcases lS E with h | h<;>rw [h]<;>decide
theorem ZZ(E:Int):(256:Int) ^ wide E=2 ^ (8 * wide E):=by rw [Lk];rfl
theorem Yq(V:Nat)(P:i.adr= .span B bk):i.size=wide i.nf∧i.mixed=false∧i.ends=ab (B,bk)∧i.aw=false∧i.pre V= []:=by cases i;cases P;exact⟨rfl,rfl,rfl,rfl,rfl⟩
theorem Yo(V:Nat)(P:i.adr= .aR B A):i.size=wide i.nf∧i.mixed=false∧i.ends=ab (lI B A (8 * wide i.nf))∧i.aw=false∧i.pre V= []:=by cases i;cases P;exact⟨rfl,rfl,rfl,rfl,rfl⟩
theorem Yn(V:Nat)(P:i.adr= .named t):i.size=wide i.nf∧i.mixed=false∧i.puts= []∧i.aw=iD t∧i.high=0∧i.pre V=(fK.named t).aO V i.lay:=by cases i;cases P;exact⟨rfl,rfl,rfl,rfl,rfl,rfl⟩
theorem Ym(V:Nat)(P:i.adr= .lits dm):i.size=wide i.nf∧i.mixed=decide (0 < gh dm∧gh dm < dm.length)∧i.puts= []∧i.aw=decide (0 < gh dm)∧i.high=0∧i.pre V=(fK.lits dm).aO V i.lay:=by cases i;cases P;exact⟨rfl,rfl,rfl,rfl,rfl,rfl⟩
theorem JZ(P:i.ends=ab (B,bk)):i.puts=eL 0 ((i.size / 4:Nat):Int) i.size B bk∧i.high=if bk=B then 0 else ((i.size / 4:Nat):Int):=by
 delta cj.puts cj.high;refine P▸?_;exact⟨rfl,rfl⟩
theorem IW(p:cA w u)(v:7≤A) {o:PySem.Str}(D:(C+3) / 4=C / 4)(V:C≤64)(M:eD q o z E O n eO)(h:n.length≤900000)(J:0≤B)(W:B≤bk)
 (f:(emit (eL 0 ((C / 4:Nat):Int) C B bk)).2=true→ ∀e,Q [E,O] q e→eD e o z E O (n++(emit (eL 0 ((C / 4:Nat):Int) C B bk)).1.map cH.d) eO→x (.tup [.int 0,.int (if bk=B then 0 else ((C / 4:Nat):Int)),.int (-1)]) e)
 (r:(emit (eL 0 ((C / 4:Nat):Int) C B bk)).2=false→ ∀Z e,Q [E,O] q e→eD e o z E O (n++(emit (eL 0 ((C / 4:Nat):Int) C B bk)).1.map cH.d) eO→hF e Z 65 m9→bx (.val (.ref Z)) e):
 f6 G w u (.ref 218)∧f6 G w u (.ref 197)∧mv G w u A (.ref 197) (fun T F=>mv G w u A (.ref 218) (fun T H=>0+1+1+1≤1000000∧x (.tup [.int 0,T,.int (-1)]) H) bx [.val (.ref z),.int 0,T,.int (C:Int),.int B,.int bk] F) bx [.int (C:Int)] q:=by
 refine⟨(vZ (G:=G) p).ok,(rd (G:=G) p).ok,dA (rd p) (cp v rfl) ⟨_,_,_,C,?_⟩⟩
 refine D▸?_
 exact dA (vZ p) v ⟨_,_,_,z,0,_,C,B,bk,o,E,O,n,M.row,J,j2 J W,V,M.list,h,fun P e k Z=>⟨by decide,f P e (jT k) (M.keep k Z)⟩,fun P Z e k b t=>r P Z e (jT k) (M.keep k b) t⟩
noncomputable def Kf:cB:=d (v 5 (h (b (.val (.ref 211))) (a (c 0) (a (b (.str "map")) (j))))) (d (eZ (h (c 5) (a (c 0) (a (b (.int 0)) (a (c 1) (a (b (.int 0)) (a (c 3) (j)))))))) (d (cQ (p (a (b (.int 0)) (a (b (.int 0)) (a (c 4) (j)))))) (l)))
theorem w4(p:cA w u)(v:6≤A) {o:PySem.Str} {a:fK} {lay:List Nat}(T:a.bG)(M:eD q o z E O n eO)(h:n.length≤900000)(C:eO.length < 8)
 (f: ∀e,Q [E,O] q e→eD e o z E O (n++(a.aO eO.length lay).map cH.d) (eO++a.ax)→x (.tup [.int 0,.int 0,.int bk]) e):
 Kf ⟨G,w,u,A⟩ [ab (.val (.ref z)),ab a.d,ab (.int B),ab (kn lay),ab (.int bk),c3,dW,dk] q cR x (fun F=>bx):=by
 unfold Kf
 dsimp [eK]
 exact et (Pf p) (cp v rfl) ⟨_,_,_,z,o,E,O,M.row,et (O8 p) v ⟨_,_,_,z,o,E,O,n,eO,a,lay,M,h,C,T,fun e k st=>⟨by decide,f e k st⟩⟩⟩
theorem Ue {k b:Nat}(J:0≤B):0≤(lI B k b).1∧(lI B k b).1≤(lI B k b).2:=by
 have i:(0:Int) < 2 ^ (b - k):=x8 (by decide)
 have S:0≤B / 2 ^ (b - k) * 2 ^ (b - k):=CT (x4 J (nL i)) (nL i)
 unfold lI
 exact⟨S,by show _≤_+_ - 1;lia⟩
inductive Fo:List D→J→KK→KK→Prop
 | mk (μ:J) (K E:KK) (r:a0) (o:PySem.Str) (L S:a0) (l:List D) (lss:List (List ck)) (s:cj) (h1:eD μ o r L S l lss) (h2:l.length≤800000) (h3:lss.length < 8) (h4:s.Ok) (h5:s.adr≠ .none) (h6:s.mixed=false→(emit s.puts).2=true→ ∀μ',Q [L,S] μ μ'→eD μ' o r L S (l++(s.pre lss.length++(emit s.puts).1).map cH.d) (lss++s.adr.ax)→K (.tup [.int 0,.int s.high,.int (if s.aw=true then ((s.size / 4:Nat):Int) else -1)]) μ') (h7:s.mixed=false→(emit s.puts).2=false→ ∀e μ',Q [L,S] μ μ'→eD μ' o r L S (l++(s.pre lss.length++(emit s.puts).1).map cH.d) (lss++s.adr.ax)→hF μ' e 65 m9→E (.val (.ref e)) μ') (h8:s.mixed=true→ ∀e μ',Q [] μ μ'→hF μ' e 108 oy→E (.val (.ref e)) μ'):Fo [.val (.ref r),s.adr.d,.int (s.size:Int)] μ K E
theorem Pp(p:cA w u):cK G w u 8 (.ref 232) Fo:=
 cK.of (p.af (by kernel_rfl)) fun I v=>(ZP G p (cp v rfl)).mono fun ap B x O h=>by
  refine h.rec fun B x O j o g s N n U M t z c T f r y=>?_
  refine⟨rfl,?_⟩
  induction P:U.adr with
  | none=>exact absurd P T
  | span a b=>
   obtain⟨A,V,ac,l,q⟩:=Yq n.length P
   obtain⟨H,E⟩:=JZ ac
   obtain⟨J,W,K⟩:=c.span a b P
   rw [H,q,P] at f r
   rw [E,l] at f
   rw [A] at f r ⊢
   dsimp only [fK.d]
   dsimp
   refine cW rfl ?_
   (refine bb ?_;dsimp)
   refine⟨by decide,?_⟩
   (refine bb ?_;dsimp)
   refine cW rfl ?_
   dsimp [eK]
   exact IW p (cp v rfl) (xB _) (B7 _) M (cg t (by decide)) J W (fun Z e k st=>f V Z e k (by show eD e o j g s _ (n++ []);rw [fI];exact st)) fun Z S e k st=>r V Z S e k (by show eD e o j g s _ (n++ []);rw [fI];exact st)
  | aR a m=>
   refine xE (Yo n.length P) fun A V ac l q=>?_
   obtain⟨H,E⟩:=JZ ac
   obtain⟨J,W,K⟩:=c.aR a m P
   rw [H,q,P] at f r
   rw [E,l] at f
   rw [A] at f r ⊢
   dsimp only [fK.d]
   dsimp
   refine cW rfl ?_
   (refine bb ?_;dsimp)
   refine⟨by decide,?_⟩
   (refine bb ?_;dsimp)
   refine dq rfl ⟨(Gv (G:=G) p).ok,.inl wC,dA (Gv p) (cp v rfl) ⟨_,_,_,a,m,8 * wide U.nf,K,by have:=B7 U.nf;lia,J,by rw [←ZZ];exact W,?_⟩⟩
   dsimp [eK]
   refine(Ue (k:=m) (b:=8 * wide U.nf) J).elim fun am X=>?_
   exact IW p (cp v rfl) (xB _) (B7 _) M (cg t (by decide)) am X (fun Z e k st=>f V Z e k (by show eD e o j g s _ (n++ []);rw [fI];exact st)) fun Z S e k st=>r V Z S e k (by show eD e o j g s _ (n++ []);rw [fI];exact st)
  | named S=>
   obtain⟨A,d,D,Y,al,q⟩:=Yn n.length P
   have i:S= "m4" ∨S= "p4" ∨S= "m6" ∨S= "p6" :=by
    rcases c.named S P with ⟨h | h,_⟩ | ⟨h | h,_⟩
    ·exact .inl h
    ·exact .inr (.inl h)
    ·exact .inr (.inr (.inl h))
    ·exact .inr (.inr (.inr h))
   rw [D,q,al,P,show(emit []).1= [] from rfl,fI] at f
   have f:=f d rfl
   unfold z9
   dsimp only [fK.d]
   dsimp
   refine dq rfl ⟨by decide,by decide,?_⟩
   (refine bb ?_;dsimp)
   (refine bb ?_;dsimp)
   refine⟨(vU (G:=G) p).ok,dA (vU p) (cp v rfl) ⟨_,_,_,j,_,o,g,s,M.row,.inl ⟨S,rfl,i,?_⟩⟩⟩
   by_cases C:iD S=true
   ·rw [Y,if_pos C] at f
    refine dq C ⟨by decide,by decide,by decide,?_⟩
    (refine bb ?_;dsimp)
    refine et (rd p) (cp v rfl) ⟨_,_,_,U.size,?_⟩
    rw [A,xB,←A]
    exact bb (bb (w4 p (cp v rfl) (a:= .named S) (lay:= [U.size,2]) trivial M (cg t (by decide)) z fun e k st=>f e k (by unfold cj.lay;rw [Y,if_pos C];exact st)))
   ·rw [Y,if_neg C] at f
    exact cW (oU.mpr C) (bb (w4 p (cp v rfl) (a:= .named S) (lay:= [U.size]) trivial M (cg t (by decide)) z fun e k st=>f e k (by unfold cj.lay;rw [Y,if_neg C];exact st)))
  | lits L=>
   refine aao (Ym n.length P) fun A d D Y al q=>?_
   refine(c.lits L P).elim fun Q an=>?_
   refine an.elim fun R F=>?_
   rw [D,q,al,P,show(emit []).1= [] from rfl,fI] at f
   unfold z9
   dsimp only [fK.d]
   dsimp
   refine dq rfl ⟨by decide,by decide,?_⟩
   (refine bb ?_;dsimp)
   (refine bb ?_;dsimp)
   refine⟨(vU (G:=G) p).ok,dA (vU p) (cp v rfl) ⟨_,_,_,j,_,o,g,s,M.row,.inr ⟨L,rfl,cg Q (by decide),fun nm=>?_,fun V=>y (by rw [d];exact decide_eq_true V)⟩⟩⟩
   have f:=f (by rw [d];exact decide_eq_false nm) rfl
   by_cases C:0 < gh L
   ·rw [Y,if_pos (decide_eq_true C)] at f
    refine dq (decide_eq_true C) ⟨by decide,by decide,by decide,?_⟩
    (refine bb ?_;dsimp)
    refine et (rd p) (cp v rfl) ⟨_,_,_,U.size,?_⟩
    rw [A,xB,←A]
    exact bb (bb (w4 p (cp v rfl) (a:= .lits L) (lay:= [U.size,2]) ⟨Q,R⟩ M (cg t (by decide)) z fun e k st=>f e k (by unfold cj.lay;rw [Y,if_pos (decide_eq_true C)];exact st)))
   ·rw [Y,if_neg (oU.mp (decide_eq_false C))] at f
    exact cW (decide_eq_false C) (bb (w4 p (cp v rfl) (a:= .lits L) (lay:= [U.size]) ⟨Q,R⟩ M (cg t (by decide)) z fun e k st=>f e k (by unfold cj.lay;rw [Y,if_neg (oU.mp (decide_eq_false C))];exact st)))
end
end
section
set_option simprocs false
section
theorem wb(B:List jh):(emit B).1.length≤B.length:=by
 induction B with
 | nil=>exact d5 _
 | cons p B o=>
  obtain⟨S,s,d⟩:=p
  rw [mZ]
  by_cases X:s < 256 ^ d
  ·rw [if_pos X];exact kE o
  ·rw [if_neg X];exact eA _
theorem AV(R f:Int)(y:Nat)(S s:Int):(eL R f y S s).length≤2:=by
 unfold eL
 by_cases X:s=S
 ·rw [if_pos X];exact b9 rfl
 ·rw [if_neg X];exact b9 rfl
noncomputable def cj.p0 (U:cj):Int:=if U.aw=true then ((U.size / 4:Nat):Int) else -1
theorem pQ(P:i.aw=true∨i.ai=ao):i.aj= []∧i.aM=i.p0∧i.aB=i.p0:=by
 delta cj.aj cj.aM cj.aB cj.p0
 by_cases V:i.aw=true
 ·rw [if_pos V,if_pos V,if_pos V,if_pos V];exact⟨rfl,rfl,rfl⟩
 ·rw [if_neg V,if_neg V,if_neg V,if_neg V,P.resolve_left V];exact⟨rfl,rfl,rfl⟩
theorem tF(V: ¬i.aw=true)(l:i.ai=ab (B,bk)):i.aj=eL 8 9 2 B bk∧i.aM=8∧i.aB=if bk=B then 8 else 9:=by
 delta cj.aj cj.aM cj.aB
 rw [if_neg V,if_neg V,if_neg V,l];exact⟨rfl,rfl,rfl⟩
theorem oF(V:Nat)(P:i.adr= .none):i.size=0∧i.mixed=false∧i.puts= []∧i.pre V= []∧i.p0= -1∧i.low= -1∧i.high= -1∧i.au=i.flags:=by cases i;cases P;exact⟨rfl,rfl,rfl,rfl,rfl,rfl,rfl,rfl⟩
theorem rC(V:Nat)(T:i.adr≠ .none): ∃(S:PySem.Str) (H:List D),i.adr.d= .tup (.str S::H)∧i.au=(if S= "net" then i.flags++ [("netmap" :PySem.Str)] else i.flags)∧i.size=wide i.nf∧i.low=0∧(i.pre V).length≤2:=by
 induction i with
 | mk kind nf adr ai flags=>induction adr with
  | none=>exact absurd rfl T
  | span a b=>exact⟨"span",_,rfl,rfl,rfl,rfl,eA _⟩
  | aR a l=>exact⟨"net",_,rfl,rfl,rfl,rfl,eA _⟩
  | lits L=>exact⟨"map",_,rfl,rfl,rfl,rfl,d5 _⟩
  | named y=>exact⟨"map",_,rfl,rfl,rfl,rfl,d5 _⟩
theorem AY(U:cj):U.puts.length≤2:=by
 unfold cj.puts
 induction U.ends with
 | none=>exact eA _
 | some P=>exact AV ..
noncomputable def xm:cB:=d (eZ (eM "append" (dD "rows" (c 0)) (a (p (a (b (.str "nat")) (a (c 4) (a (c 5) (a (c 10) (a (c 11) (a (c 9) (a (c 12) (a (c 13) (a (c 8) (j))))))))))) (j)))) (l)
noncomputable def BE:cB:=d (cZ (hI [cC .IsNot (c 7) (b .none),cC .Lt (c 12) (b (.int 0))]) (d (v 12 (b (.int 8))) (d (v 13 (h (b (.val (.ref 218))) (a (c 0) (a (b (.int 8)) (a (b (.int 9)) (a (b (.int 2)) (a (f (c 7) (b (.int 0))) (a (f (c 7) (b (.int 1))) (j))))))))) (l))) (l)) (xm)
noncomputable def kX (j:a0) (U:cj) (A C:Int):Loc:= [ab (.val (.ref j)),ab U.d,ab (.int 0),ab (.str "nat"),ab (.str U.kind),ab (.int U.nf),ab U.adr.d,ab (hG U.ai),ab (gZ U.au),ab (.int (U.size:Int)),ab (.int U.low),ab (.int U.high),ab (.int A),ab (.int C)]
section
variable {o:PySem.Str}
theorem Io {N:Loc→J→Prop} {R:KK} {E':Loc→KK}(X:eD M o z E O n eO)(h:n.length≤900000)(g: ∀e,Q [E] M e→eD e o z E O (n++ [i.last.d]) eO→N (kX z i i.aM i.aB) e):xm ⟨G,w,u,A⟩ (kX z i i.aM i.aB) M N R E':=by
 delta xm kX
 dsimp [eK]
 refine X.row.rows (jG X.list ?_)
 dsimp [eK]
 have k:Q [E] M (M.set E (.list (n++ [i.last.d]))):=(Q.refl M).wr er
 exact⟨by decide,jD X.list (cg h (by decide)) (g _ k (X.keep k (J.aa ..)))⟩
theorem Ip(p:cA w u)(v:7≤A)(c:i.Ok) {N:Loc→J→Prop}(X:eD q o z E O n eO)(h:n.length≤800050)(g:(emit i.aj).2=true→ ∀e,Q [E,O] q e→eD e o z E O (n++((emit i.aj).1++ [i.last]).map cH.d) eO→N (kX z i i.aM i.aB) e)
 (r:(emit i.aj).2=false→ ∀Z e,Q [E,O] q e→eD e o z E O (n++((emit i.aj).1).map cH.d) eO→hF e Z 65 m9→bx (.val (.ref Z)) e):BE ⟨G,w,u,A⟩ (kX z i i.p0 i.p0) q N x (fun F=>bx):=by
 have H:i.aw=true∨i.ai=ao→xm ⟨G,w,u,A⟩ (kX z i i.p0 i.p0) q N x (fun F=>bx):=fun P=>by
  refine(pQ P).elim fun W m=>?_
  refine m.elim fun K C=>?_
  rw [W] at g
  have:=Io (G:=G) (w:=w) (u:=u) (A:=A) (i:=i) (N:=N) (R:=x) (E':=fun F=>bx) X (cg h (by decide)) fun e k X=>g rfl e (jT k) X
  rwa [K,C] at this
 unfold BE
 induction l:i.ai with
 | none=>
  have T:=H (.inr l)
  unfold kX at T ⊢
  rw [l] at T ⊢
  dsimp only [hG] at T ⊢
  dsimp
  exact cW rfl (bb T)
 | some f=>
  obtain⟨ac,B⟩:=f
  by_cases V:i.aw=true
  ·have T:=H (.inl V)
   have j: ¬i.p0 < 0:=by unfold cj.p0;rw [if_pos V];exact je.mpr (fy _)
   unfold kX at T ⊢
   rw [l] at T ⊢
   dsimp only [hG] at T ⊢
   dsimp
   exact dq rfl (cW (decide_eq_false j) (cW rfl (bb T)))
  ·refine gz (tF V l) fun Y y M=>?_
   refine(c.ai ac B l).elim fun d m=>?_
   refine m.elim fun I am=>?_
   have j:i.p0= -1:=if_neg V
   rw [Y] at g r
   have S:=fun L D (al:eD L o z E O D eO) a=>Io (G:=G) (w:=w) (u:=u) (A:=A) (i:=i) (N:=N) (R:=x) (E':=fun F=>bx) al a
   unfold kX at S g ⊢
   rw [l,y,M] at S
   rw [y,M] at g
   rw [l,j]
   dsimp only [hG] at S ⊢
   dsimp
   refine dq rfl (dq rfl (dq rfl ?_))
   (refine bb ?_;dsimp)
   refine⟨(vZ (G:=G) p).ok,dA (vZ p) v ⟨_,_,_,z,8,9,2,ac,B,o,E,O,n,X.row,d,j2 d I,by decide,X.list,cg h (by decide),fun P L U Z=>?_,fun P Z L U b t=>r P Z L (jT U) (X.keep U b) t⟩⟩
   refine bb (S L _ (X.keep U Z) ?_ fun e k X=>?_)
   ·rw [dR,dP]
    exact cg (iV h (cg (wb _) (AV ..))) (by decide)
   ·have:=g P e (jT (U.trans k))
    rw [l] at this
    refine this ?_
    rw [fh,←fH];exact X
end
theorem Ai(X:I.length≤2):(I.map D.str).length+ [D.str "netmap"].length≤1000000:=by rw [dP];exact cg (kE X) (by decide)
theorem XQ(E:Int):(if (E == 2)=true then D.int 4 else D.int 16)= .int ((wide E:Nat):Int):=by
 unfold wide
 by_cases i:E=2
 ·rw [if_pos (beq_iff_eq.mpr i),if_pos i];rfl
 ·rw [if_neg (fun P=>i (beq_iff_eq.mp P)),if_neg i];rfl
inductive Fb:List D→J→KK→KK→Prop
 | mk (μ:J) (K E:KK) (r:a0) (o:PySem.Str) (L S:a0) (l:List D) (lss:List (List ck)) (s:cj) (h1:eD μ o r L S l lss) (h2:l.length≤700000) (h3:lss.length < 8) (h4:s.Ok) (h5:s.mixed=false→(emit (s.puts++s.aj)).2=true→ ∀μ',Q [L,S] μ μ'→eD μ' o r L S (l++(s.pre lss.length++(emit (s.puts++s.aj)).1++ [s.last]).map cH.d) (lss++s.adr.ax)→K .none μ') (h6:s.mixed=false→(emit (s.puts++s.aj)).2=false→ ∀e μ',Q [L,S] μ μ'→eD μ' o r L S (l++(s.pre lss.length++(emit (s.puts++s.aj)).1).map cH.d) (lss++s.adr.ax)→hF μ' e 65 m9→E (.val (.ref e)) μ') (h7:s.mixed=true→ ∀e μ',Q [] μ μ'→hF μ' e 108 oy→E (.val (.ref e)) μ'):Fb [.val (.ref r),s.d,.int 0] μ K E
theorem Pe(p:cA w u):cK G w u 9 (.ref 239) Fb:=
 cK.of (p.af (by kernel_rfl)) fun I v=>(Zz G p (cp v rfl)).mono fun b B x O X=>by
  refine X.rec fun B x O j o g m am W U M h z c f r y=>?_
  refine ek rfl ?_
  dsimp
  rw [show U.d= .tup [.str "nat",.str U.kind,.int U.nf,U.adr.d,hG U.ai,gZ U.flags] from rfl]
  dsimp
  (refine bb ?_;dsimp)
  refine⟨by decide,?_⟩
  rw [aau]
  (refine bb ?_;dsimp)
  by_cases T:U.adr= .none
  ·refine Cc (oF W.length T) fun R d ap q D J an E=>?_
   rw [ap,q,T,kC,show fK.ax .none= [] from rfl,fI] at f r
   have V:=Ip (G:=G) (A:=I) (x:=x) (i:=U) (N:=fun F e=>x .none e) p (cp v rfl) c M (cg h (by decide)) (f d) (r d)
   unfold kX cj.d at V
   rw [D,R,J,an,E,T] at V
   refine T▸?_
   dsimp only [fK.d] at V ⊢
   dsimp
   exact cW rfl (bb V)
  ·refine qa (rC W.length T) fun S H hd i A L bd=>?_
   have al: ∀C,(emit U.puts).2=true→U.mixed=false→Q [g,m] B C→eD C o j g m (am++(U.pre W.length++(emit U.puts).1).map cH.d) (W++U.adr.ax)→BE ⟨G,w,u,I⟩ (kX j U U.p0 U.p0) C (fun F e=>x .none e) x (fun F=>O):=fun C P d Y a=>by
    refine Ip p (cp v rfl) c a ?_ (fun ac e k st=>f d (by rw [rj,if_pos P];exact ac) e (Y.trans k) ?_) (fun ac Z e k st t=>r d (by rw [rj,if_pos P];exact ac) Z e (Y.trans k) ?_ t)
    ·rw [dR,dP,dR]
     exact cg (iV h (iV bd (cg (wb _) (AY U)))) (by decide)
    ·rw [rj,if_pos P]
     rw [fH,←fh] at st
     simpa only [fH] using st
    ·rw [rj,if_pos P]
     rw [fH,←fh] at st
     simpa only [fH] using st
   unfold kX cj.d at al
   rw [hd] at al ⊢
   dsimp
   refine dq rfl ?_
   rw [XQ,←A]
   (refine bb ?_;dsimp)
   refine et (Pp p) v (rq ⟨_,_,_,j,o,g,m,am,W,U,M,cg h (by decide),z,c,T,fun d P C Y a=>?_,fun d P Z C Y a t=>?_,y⟩ (hd▸rfl))
   ·have V:=al C P d Y a
    rw [i,L] at V
    (refine bb ?_;dsimp)
    (refine bb ?_;dsimp)
    by_cases l:S= "net"
    ·rw [if_pos l] at V
     unfold gZ at V
     rw [fh] at V
     exact dq (beq_iff_eq.mpr l) ⟨by decide,Ai c.flags,bb V⟩
    ·rw [if_neg l] at V
     exact cW (beq_eq_false_iff_ne.mpr l) (bb V)
   ·have ac:emit (U.puts++U.aj)=emit U.puts:=by rw [rj,if_neg (by refine P▸?_;decide)]
    rw [ac] at r
    exact r d P Z C Y a t
end
end
section
set_option simprocs false
section
noncomputable def cj.sets (U:cj):List (List ck):=if U.mixed=true then [] else U.adr.ax
theorem xA(W:q z=ab (.exc E O))(K:q O=ab (.dict s))(C:cL s "why" =ab T)(R:kM cf E "why")(k:x T q)(o:handOk T:=by first | exact trivial | rfl):
 gI cf "why" (.val (.ref z)) q x bx:=lL (P:=Ao cf "why" q x) W (v9 K ⟨R,T,C,o,k⟩)
theorem wo(X:q O=ab (.exc E cn))(U:iv cf (.ref E) (.ref z)=ab true)(k:eh (V.put A (ab (.val (.ref O)))) q (fun F F=>False) x fM):mr cf ((z,A,eh)::mz) oN x V (.val (.ref O)) q:=by
 rw [A9 X,U]
 exact k
theorem R6(X:q O=ab (.exc E cn))(U:iv cf (.ref E) (.ref z)=ab false)(k:mr cf mz oN x V (.val (.ref O)) q):mr cf ((z,A,eh)::mz) oN x V (.val (.ref O)) q:=by
 rw [A9 X,U]
 exact k
theorem Yw(w:di):iv (KF w) (.ref 65) (.ref 108)=ab false:=rfl
theorem Bq(w:di):iv (KF w) (.ref 65) (.ref 65)=ab true:=rfl
theorem Yv(w:di):iv (KF w) (.ref 108) (.ref 108)=ab true:=rfl
inductive EY:List D→J→KK→KK→Prop
 | mk (μ:J) (K E:KK) (r:a0) (o:PySem.Str) (L S:a0) (l:List D) (lss:List (List ck)) (s:cj) (h1:eD μ o r L S l lss) (h2:l.length≤700000) (h3:lss.length < 8) (h4:s.Ok) (h5: ∀μ',Q [L,S] μ μ'→eD μ' o r L S (l++(s.rows lss.length).1.map cH.d) (lss++s.sets)→K (.str (s.rows lss.length).2) μ'):EY [.val (.ref r),s.d] μ K E
theorem pZ {t:Nat}(d:i.mixed=false)(P:(emit (i.puts++i.aj)).2=true):i.rows t=(i.pre t++(emit (i.puts++i.aj)).1++ [i.last],("" :PySem.Str))∧i.sets=i.adr.ax:=by
 unfold cj.rows cj.sets;rw [d,P];exact⟨rfl,rfl⟩
theorem pY {t:Nat}(d:i.mixed=false)(P:(emit (i.puts++i.aj)).2=false):i.rows t=(i.pre t++(emit (i.puts++i.aj)).1,m9)∧i.sets=i.adr.ax:=by
 unfold cj.rows cj.sets;rw [d,P];exact⟨rfl,rfl⟩
theorem tP {t:Nat}(d:i.mixed=true):i.rows t=([],("left out: " :PySem.Str)++oy)∧i.sets= []:=by
 unfold cj.rows cj.sets;rw [d];exact⟨rfl,rfl⟩
theorem O9(p:cA w u):cK G w u 10 (.ref 749) EY:=
 cK.of (p.af (by kernel_rfl)) fun I v=>(Zl G p (cp v rfl)).mono fun b B x O X=>by
  refine X.rec fun B x O j o g m N W U M h z c f=>?_
  refine ek rfl ?_
  dsimp
  rw [p4]
  dsimp
  refine et (Pe p) v ⟨_,_,_,j,o,g,m,N,W,U,M,h,z,c,fun d P e k st=>?_,fun d P Z e k st A=>?_,fun d Z e k A=>?_⟩
  ·rw [(pZ d P).1,(pZ (t:=W.length) d P).2] at f
   exact f e k st
  ·rw [(pY d P).1,(pY (t:=W.length) d P).2] at f
   refine jK A fun C s K D i E=>?_
   refine R6 K (Yw w) (wo K (Bq w) ?_)
   dsimp
   exact xA K D i ⟨rfl,rfl,rfl,rfl,rfl,rfl,rfl,rfl⟩ (f e k st)
  ·rw [(tP d).1,(tP (t:=W.length) d).2] at f
   obtain⟨C,s,K,D,i,E⟩:=A
   refine wo K (Yv w) ?_
   dsimp
   refine xA K D i ⟨rfl,rfl,rfl,rfl,rfl,rfl,rfl,rfl⟩ ⟨by decide,f e (k.mono nofun) ?_⟩
   rw [yh,fI,fI]
   exact M.keep0 k
end
end
section
set_option simprocs false
section
inductive ez (μ:J) (g G:a0) (ks:List Nat):Prop
 | mk (gd:a0) (h1:μ g=ab (.inst 456 gd)) (h2:μ gd=ab (.dict [("octets",.val (.ref G))])) (oct:μ G=ab (.ay ks)) (len:ks.length=64) (fit:fO ks)
theorem ez.oct {g:a0}(X:ez q g z b5):q z=ab (.ay b5):=by cases X;assumption
theorem ez.len {g:a0}(X:ez q g z b5):b5.length=64:=by cases X;assumption
theorem ez.fit {g:a0}(X:ez q g z b5):fO b5:=by cases X;assumption
theorem ez.get {g:a0}(X:ez q g z b5)(k:x (.val (.ref z)) q):gI (KF w) "octets" (.val (.ref g)) q x bx:=by
 obtain⟨B,W,K,_,_,_⟩:=X
 exact gx W K (d:= .val (.ref z)) rfl ⟨rfl,rfl,rfl,rfl,rfl⟩ k rfl
theorem ez.keep {g G:a0}(X:ez q g G b5)(k:Q [] q M):ez M g G b5:=by
 obtain⟨B,W,K,C,n,e⟩:=X
 exact⟨B,cV k W,cV k K,cV k C,n,e⟩
theorem ez.aY {g:a0}(X:ez q g z b5)(k:i3 q M)(Z:M z=ab (.ay fu))(N:fu.length=64)(o:fO fu):ez M g z fu:=by
 obtain⟨B,W,K,_,_,_⟩:=X
 exact⟨B,k _ _ rfl W,k _ _ rfl K,Z,N,o⟩
noncomputable abbrev mq:PySem.Str:= "octets past the registers"
noncomputable def slice (r:List Nat) (A y:Nat):List Nat:=(r.drop (4 * A)).take y
noncomputable def wr (r:List Nat) (A:Nat) (M:List Nat):List Nat:=r.take (4 * A)++M++r.drop (4 * A+M.length)
theorem JM(X:fO b5)(A y:Nat):fO (slice b5 A y):=fun k g=>X k (LL (LM g))
theorem XS(A y:Nat):(slice b5 A y).length≤y:=LH ..
theorem Kr(X:4 * A+fu.length≤b5.length):(wr b5 A fu).length=b5.length:=by
 unfold wr;rw [dR,dR,yf,C1];exact Z6 X
theorem Ks(X:fO b5)(L:fO fu):fO (wr b5 A fu):=fun k g=>by
 unfold wr at g
 rcases j5.mp g with g | g
 ·rcases j5.mp g with g | g
  ·exact X k (LM g)
  ·exact L k g
 ·exact X k (LL g)
theorem rG(X:fO b5):fO (eB b5):=fun k g=>by
 unfold eB at g
 rcases j5.mp g with g | g
 ·exact X k g
 ·have:=CX g;omega
inductive EJ:List D→J→KK→KK→Prop
 | mk (μ:J) (K E:KK) (g G:a0) (reg:Int) (m:Nat) (ks:List Nat) (h1:ez μ g G ks) (h2:m≤64) (h3:0≤reg→4 * reg+m≤64→ ∀μ',Q [] μ μ'→K (.bytes (slice ks reg.toNat m)) μ') (h4: ¬(0≤reg∧4 * reg+m≤64)→ ∀e μ',Q [] μ μ'→hF μ' e 65 mq→E (.val (.ref e)) μ'):EJ [.val (.ref g),.int reg,.int (m:Int)] μ K E
theorem OQ(i:q z=ab (.ay b5))(X:A+C≤b5.length∧b5.length≤1000000)(k: ∀d,q d=ao→x (.val (.ref d)) (q.set d (.ay ((b5.drop A).take C)))):HK (.val (.ref z)) (.int A) (.int ((A:Int)+C)) q x:=by
 refine FX i ⟨⟨fy _,by(exact Int.le.intro C rfl),by omega,X.2⟩,?_⟩
 rw [show((A:Int)+C).toNat - (A:Int).toNat=C by(exact Eq.symm (Nat.eq_sub_of_add_eq' rfl))]
 exact k
theorem OY(h:b5.length≤1000000)(k:x (.bytes b5) (q.set z (.ay b5))):Ax [.val (.ref z)] (q.set z (.ay b5)) x:=
 lL (P:=fun o=>wV o fun b5=>b5.length≤1000000∧x (.bytes b5) _) (J.aa ..) ⟨h,k⟩
theorem jU:ib 4:=jo (by decide) (by decide)
theorem YB(X:C≤1000000):((b5.drop A).take C).length≤1000000:=cg (LH ..) X
theorem zV(p:cA w u):cK G w u 4 (.ref 446) EJ:=
 cK.of (p.af (by kernel_rfl)) fun I v=>(YX G p (cp v rfl)).mono fun b B x O X=>by
  refine X.rec fun B x O g N A y r a V f D=>?_
  refine ek rfl ?_
  dsimp
  by_cases J:A < 0
  ·refine dq (decide_eq_true J) (dq rfl ?_)
   exact tO (tc p) (cp v rfl) (wc w) (D fun P=>absurd P.1 (x6.mpr J))
  ·refine cW (decide_eq_false J) ⟨.inl jU,?_⟩
   by_cases W:64 < 4 * A+(y:Int)
   ·refine dq (decide_eq_true W) (dq rfl ?_)
    exact tO (tc p) (cp v rfl) (wc w) (D fun P=>absurd P.2 (x6.mpr W))
   ·refine cW (decide_eq_false W) (cW rfl ?_)
    have K:=je.mp W
    obtain⟨j,rfl⟩:=jN (je.mp J)
    have C:4 * j+y≤r.length:=by rw [a.len];exact hh.mp K
    (refine bb ?_;dsimp)
    unfold t9
    dsimp
    exact⟨kj _,a.get ⟨.inl jU,.inl jU,OQ a.oct ⟨C,by rw [a.len];decide⟩ fun d U=>dA Hd (cp v rfl) (OY (YB (cg V (by decide))) (f (fy _) K _ (Q.new U)))⟩⟩
inductive EB:List D→J→KK→KK→Prop
 | mk (μ:J) (K E:KK) (g G:a0) (reg:Nat) (os ks:List Nat) (h1:ez μ g G ks) (h2:fO os) (h3:os.length≤64) (h4:4 * reg+(eB os).length≤64) (h5: ∀μ',Q [G] μ μ'→ez μ' g G (wr ks reg (eB os))→K .none μ'):EB [.val (.ref g),.int (reg:Int),.bytes os] μ K E
theorem Wz {L:J→Prop}(B:q z=ab (.ay b5))(X:A+fu.length≤b5.length∧b5.length≤1000000)(k:L (q.set z (.ay (b5.take A++fu++b5.drop (A+fu.length))))):HT (.val (.ref z)) (.int A) (.int ((A:Int)+fu.length)) (.bytes fu) q L:=by
 exact FX B ⟨⟨fy _,by(exact Int.le.intro fu.length rfl),by omega,X.2,by(exact Eq.symm ((fun {f A i}=>Int.sub_eq_iff_eq_add'.mpr) rfl))⟩,k⟩
theorem Q.bh(k:Q [z] q M)(Z:q z=ab (.ay b5)):i3 q M:=k.hs fun R T o P=>by
 rw [gW.mp T,Z] at P
 obtain rfl:=c4 P;rfl
theorem td(p:cA w u):fq G w u 3 (.ref 453) EB:=
 fq.of (p.af (by kernel_rfl)) fun I v=>(YZ G p (cp v rfl)).mono fun b B x O X=>by
  refine X.rec fun B x O g N A W r a D h E f=>?_
  have C:4 * A+(eB W).length≤r.length:=by rw [a.len];exact E
  have l:(eB W).length≤1000000:=cg (cg (yo ..) E) (by decide)
  refine ek rfl ?_
  dsimp
  refine et (Po p) v ⟨_,_,_,W,cg h (by decide),?_⟩
  (refine bb ?_;dsimp)
  refine cW (decide_eq_false (je.mpr (fy _))) ⟨.inl jU,et (gQ p.top) (cp v rfl) ⟨l,?_⟩⟩
  refine cW (decide_eq_false (je.mpr (hh.mpr E))) (cW rfl ?_)
  (refine bb ?_;dsimp)
  unfold tU
  dsimp
  have k:Q [N] B (B.set N (.ay (wr r A (eB W)))):=(Q.refl B).wr er
  exact a.get ⟨.inl jU,.inl jU,et (gQ p.top) (cp v rfl) ⟨l,Wz a.oct ⟨C,by rw [a.len];decide⟩ (bb (f _ k (a.aY (k.bh a.oct) (J.aa ..) ((Kr C).trans a.len) (Ks a.fit (rG D)))))⟩⟩
inductive FG:List D→J→KK→KK→Prop
 | mk (μ:J) (K E:KK) (x dx:_) (h1:InstAt μ x 456 dx []) (h2: ∀z μ',μ z=ao→z≠dx→fc μ μ' x 456 dx [("octets",.val (.ref z))]→μ' z=ab (.ay (iu 64 0))→K .none μ'):FG [.val (.ref x)] μ K E
theorem V2(p:cA w u)(v:0 < A):ke G w u (A+1) (.ref 439) FG:=
 (YY G p v).mono fun b B x O X=>by
  refine X.rec fun B x O S h N X=>?_
  refine ek rfl ?_
  dsimp
  exact mg Ak (cp v rfl) ⟨⟨by decide,by decide⟩,fun d U=>N.bN.aE U (by decide) ⟨rfl,rfl,rfl,rfl,rfl⟩ fun C H k Z R F=>X d C U R H Z⟩
theorem aav(y:Nat):fO (iu y 0):=fun k g=>by rw [CX g];decide
inductive Ez:List D→J→KK→KK→Prop
 | mk (μ:J) (K E:KK) (h1: ∀g G μ',μ g=ao→μ G=ao→Q [] μ μ'→ez μ' g G (iu 64 0)→K (.val (.ref g)) μ'):Ez [] μ K E
theorem Gb(p:cA w u):fq G w u 4 (.ref 456) Ez:=
 fq.of (pG (w:=w) p.k (C:=456) rfl) fun I v=>by
  refine dg (pT v) fun y Q V=>?_;subst Q
  refine(JV p.k (f:=439) ⟨rfl,rfl,rfl⟩ (V2 (G:=G) p (cp V rfl))).mono fun b B x O X=>?_
  refine X.rec fun B x O X=>?_
  intro S h i E R
  exact⟨_,_,_,S,h,(pR R).at,fun d e U A H Z=>⟨rfl,X S d e i (mm U) (pL i E H.k) ⟨h,H.hx,H.hd,Z,oW,aav _⟩⟩⟩
end
end
section
set_option simprocs false
section
noncomputable def fe (r:List Nat) (s K:Int) (y:Nat):Option (Option (Int×Int)):=
 if s < 0 then ab ao else if 64 < 4 * s+y then ao else
  if K < 0 then ab (ab (gy (slice r s.toNat y),gy (slice r s.toNat y))) else if 64 < 4 * K+y then ao else ab (ab (gy (slice r s.toNat y),gy (slice r K.toNat y)))
inductive Ft:List D→J→KK→KK→Prop
 | mk (μ:J) (K E:KK) (g G:a0) (lo hi:Int) (m:Nat) (ks:List Nat) (h1:ez μ g G ks) (h2:m≤64) (h3:match fe ks lo hi m with | some r=> ∀μ',Q [] μ μ'→K (hG r) μ' | none=> ∀e μ',Q [] μ μ'→hF μ' e 65 mq→E (.val (.ref e)) μ'):Ft [.val (.ref g),.int lo,.int hi,.int (m:Int)] μ K E
theorem ez.bM(p:cA w u) {g:a0}(X:ez q g z b5)(k:dh V q (fun b v=> ∃sp,gu G w u A (.ref 446) sp∧sp (.val (.ref g)::b) v x bx) bx):ko G w u (KF w) A "get" dh V x bx (.val (.ref g)) q:=by
 obtain⟨B,W,K,_,_,_⟩:=X
 exact wI W K rfl (f:=446) ⟨rfl,rfl,rfl,rfl⟩ (zV (G:=G) p).ok k
theorem JL(X:C≤64):(slice b5 A C).length≤100:=cg (XS ..) (cg X (by decide))
theorem I1(p:cA w u)(v:4≤A) {g:a0}(a:ez q g z b5)(V:C≤64)(J: ¬B < 0)
 (r:64 < 4 * B+(C:Int)→ ∀e D,Q [] q D→hF D e 65 mq→bx (.val (.ref e)) D)
 (f: ¬64 < 4 * B+(C:Int)→ ∀D,Q [] q D→x (.int (gy (slice b5 B.toNat C))) D):
 ∃o,gu G w u A (.ref 446) o∧o [.val (.ref g),.int B,.int (C:Int)] q (fun T n=>mv G w u A (.ref 131) x bx [T] n) bx:=
 dA (zV p) v ⟨_,_,_,g,z,B,C,b5,a,V,fun F P E Y=>dA (rb p) (cp v rfl) ⟨_,_,_,_,JM a.fit _ _,JL V,f (je.mpr P) E Y⟩,fun P=>r (x6.mp fun i=>P ⟨je.mp J,i⟩)⟩
theorem te(p:cA w u):cK G w u 5 (.ref 530) Ft:=
 cK.of (p.af (by kernel_rfl)) fun I v=>(ZT G p (cp v rfl)).mono fun b B x O X=>by
  refine X.rec fun B x O g N s K y r a V f=>?_
  refine⟨rfl,?_⟩
  dsimp
  unfold fe at f
  by_cases J:s < 0
  ·rw [if_pos J] at f
   exact dq (decide_eq_true J) (f B (Q.refl _))
  ·rw [if_neg J] at f
   refine cW (decide_eq_false J) ?_
   (refine bb ?_;dsimp)
   refine⟨(rb (G:=G) p).ok,a.bM p (I1 p v a V J (fun W=>?_) fun W C Y=>?_)⟩
   ·rw [if_pos W] at f
    exact f
   rw [if_neg W] at f
   (refine bb ?_;dsimp)
   by_cases e:K < 0
   ·rw [if_pos e] at f
    exact dq (decide_eq_true e) ⟨by decide,f _ Y⟩
   ·rw [if_neg e] at f
    refine cW (decide_eq_false e) ?_
    (refine bb ?_;dsimp)
    have A:=a.keep Y
    refine⟨(rb (G:=G) p).ok,A.bM p (I1 p v A V e (fun D=>?_) fun D L l=>?_)⟩
    ·rw [if_pos D] at f
     exact fun Z L l=>f Z L (Y.trans l)
    ·rw [if_neg D] at f
     exact⟨by decide,f _ (Y.trans l)⟩
inductive fj (μ:J) (sc:a0) (o:PySem.Str) (Lg cE Tl Op St:a0) (pk:D):Prop
 | mk (dx:a0) (kvs:List (PySem.Str×D)) (h1:μ sc=ab (.inst 407 dx)) (h2:μ dx=ab (.dict kvs)) (h3:cL kvs "order" =ab (.str o)) (h4:cL kvs "log" =ab (.val (.ref Lg))) (h5:cL kvs "replies" =ab (.val (.ref cE))) (h6:cL kvs "tools" =ab (.val (.ref Tl))) (h7:cL kvs "ops" =ab (.val (.ref Op))) (h8:cL kvs "sets" =ab (.val (.ref St))) (h9:cL kvs "packet" =ab pk) (h10:cL kvs "now" =ab (.int 0))
theorem fj.keep {o:PySem.Str}(X:fj q z o E O cn cS c9 T)(k:i3 q M):fj M z o E O cn cS c9 T:=by
 obtain⟨h,s,W,K,C,n,e,f,V,i,B,L⟩:=X
 exact⟨h,s,k _ _ rfl W,k _ _ rfl K,C,n,e,f,V,i,B,L⟩
section
variable {o:PySem.Str}
theorem fj.order(X:fj q z o E O cn cS c9 T)(k:x (.str o) q):gI (KF w) "order" (.val (.ref z)) q x bx:=by
 obtain⟨h,s,W,K,X,_,_,_,_,_,_,_⟩:=X;exact gx W K X ⟨rfl,rfl,rfl,rfl,rfl⟩ k trivial
theorem fj.log(X:fj q z o E O cn cS c9 T)(k:x (.val (.ref E)) q):gI (KF w) "log" (.val (.ref z)) q x bx:=by
 obtain⟨h,s,W,K,_,X,_,_,_,_,_,_⟩:=X;exact gx W K X ⟨rfl,rfl,rfl,rfl,rfl⟩ k rfl
theorem fj.br(X:fj q z o E O cn cS c9 T)(k:x (.val (.ref O)) q):gI (KF w) "replies" (.val (.ref z)) q x bx:=by
 obtain⟨h,s,W,K,_,_,X,_,_,_,_,_⟩:=X;exact gx W K X ⟨rfl,rfl,rfl,rfl,rfl⟩ k rfl
theorem fj.ba(X:fj q z o E O cn cS c9 T)(k:x (.val (.ref cn)) q):gI (KF w) "tools" (.val (.ref z)) q x bx:=by
 obtain⟨h,s,W,K,_,_,_,X,_,_,_,_⟩:=X;exact gx W K X ⟨rfl,rfl,rfl,rfl,rfl⟩ k rfl
theorem fj.ops(X:fj q z o E O cn cS c9 T)(k:x (.val (.ref cS)) q):gI (KF w) "ops" (.val (.ref z)) q x bx:=by
 obtain⟨h,s,W,K,_,_,_,_,X,_,_,_⟩:=X;exact gx W K X ⟨rfl,rfl,rfl,rfl,rfl⟩ k rfl
theorem fj.sets(X:fj q z o E O cn cS c9 T)(k:x (.val (.ref c9)) q):gI (KF w) "sets" (.val (.ref z)) q x bx:=by
 obtain⟨h,s,W,K,_,_,_,_,_,X,_,_⟩:=X;exact gx W K X ⟨rfl,rfl,rfl,rfl,rfl⟩ k rfl
theorem fj.bJ(X:fj q z o E O cn cS c9 T)(I:handOk T)(k:x (T) q):gI (KF w) "packet" (.val (.ref z)) q x bx:=by
 obtain⟨h,s,W,K,_,_,_,_,_,_,X,_⟩:=X;exact gx W K X ⟨rfl,rfl,rfl,rfl,rfl⟩ k I
theorem fj.now(X:fj q z o E O cn cS c9 T)(k:x (.int 0) q):gI (KF w) "now" (.val (.ref z)) q x bx:=by
 obtain⟨h,s,W,K,_,_,_,_,_,_,_,X⟩:=X;exact gx W K X ⟨rfl,rfl,rfl,rfl,rfl⟩ k trivial
end
inductive E9:List D→J→KK→KK→Prop
 | mk (μ:J) (K E:KK) (sc Lg cE Tl Op St:a0) (o:PySem.Str) (pk req v:D) (log rp:List D) (h1:fj μ sc o Lg cE Tl Op St pk) (h2:μ Lg=ab (.list log)) (h3:fL (μ cE)=ab rp) (h4:cE≠Lg) (h5:rp[log.length]? =ab v) (h6:log.length≤1000) (h7:K v (μ.set Lg (.list (log++ [req])))):E9 [.val (.ref sc),req] μ K E
theorem Q.lh(k:Q [z] q M)(Z:q z=ab (.list n)):i3 q M:=k.hs fun R T o P=>by
 rw [gW.mp T,Z] at P
 obtain rfl:=c4 P;rfl
theorem RZ {N:List c2} {M:c2} {k:Nat}(Z:B=k)(X:N[k]? =ab M):N[B.toNat]? =ab M:=by refine Z▸?_;exact X
theorem HZ(N:List c2)(S:c2):(((N++ [S]).length:Nat):Int) - 1=(N.length:Nat):=by rw [dR,C3,Int.natCast_add];exact Int.add_sub_cancel ..
theorem Gq(p:cA w u):cK G w u 2 (.ref 742) E9:=
 cK.of (p.af (by kernel_rfl)) fun I v=>(Zy G p v).mono fun b B x O X=>by
  refine X.rec fun B x O q T cE W K St o d C M A P n c S R V h f=>?_
  have D:=n.keep (((Q.refl B).wr List.mem_cons_self:Q [T] B (B.set T (.list (A++ [C])))).lh c)
  have a:(A++ [C]).length≤1000000:=by rw [dR];exact cg (kE h) (by decide)
  refine ek rfl ?_
  dsimp
  refine n.log (jG c ?_)
  dsimp
  refine jD c (cg h (by decide)) ?_
  (refine bb ?_;dsimp)
  refine D.br ⟨gD _,D.log (dA (gQ p.top) (cp v rfl) (pN (J.aa ..) a ?_))⟩
  dsimp only [HV]
  refine wt (dh:=P) (by refine(J.ag _ _ R)▸?_;exact S) ?_ (RZ (HZ A C) V) f
  rw [HZ]
  exact⟨fy _,gp.mpr (kD h (by decide))⟩
inductive Fy:List D→J→KK→KK→Prop
 | mk (μ:J) (K E:KK) (sc Lg cE Tl Op St:a0) (o:PySem.Str) (pk:D) (tl:List (PySem.Str×D)) (h1:fj μ sc o Lg cE Tl Op St pk) (h2:μ Tl=ab (.dict tl)) (h3:(cL tl "nat" =ab (.val (.ref 742))∧K (.val (.ref 742)) μ)∨(cL tl "nat" =ao∧ ∀e μ',Q [] μ μ'→hF μ' e 65 "no tool for nat" →E (.val (.ref e)) μ')):Fy [.val (.ref sc),.str "nat"] μ K E
theorem Pw(p:cA w u):cK G w u 4 (.ref 523) Fy:=
 cK.of (p.af (by kernel_rfl)) fun I v=>(ZX G p (cp v rfl)).mono fun b B x O X=>by
  refine X.rec fun B x O q T cE W K St o d V n e X=>?_
  refine ek rfl ?_
  dsimp
  refine n.ba (rB e ?_)
  dsimp
  refine Aa e ?_
  rcases X with ⟨P,X⟩ | ⟨P,X⟩
  ·rw [P]
   dsimp only [ng]
   (refine bb ?_;dsimp)
   refine cW rfl (bb ?_)
   exact X
  ·rw [P]
   dsimp only [ng]
   (refine bb ?_;dsimp)
   refine dq rfl ⟨(tc (G:=G) p).ok,by decide,?_⟩
   exact(tO (tc p) (cp v rfl) (wc w) X).2
noncomputable def AH:Option (Int×Int)→D
 | none=> .none
 | some (a,_)=> .int a
noncomputable def Aq:Option (Int×Int)→D
 | none=> .none
 | some (_,b)=> .int b
noncomputable def jX (L:PySem.Str) (E:Int) (o b:Option (Int×Int)) (H:List PySem.Str):D:= .tup [.str L,.int E,AH o,Aq o,hG b,gZ H]
inductive zz:List D→J→KK→KK→Prop
 | mk (μ:J) (K E:KK) (sc Lg cE Tl Op St g G:a0) (o kind:PySem.Str) (pk rl:D) (log rp:List D) (tl:List (PySem.Str×D)) (ks:List Nat) (nf p0 p1 p2 p3:Int) (m:Nat) (flags:List PySem.Str) (h1:fj μ sc o Lg cE Tl Op St pk) (h2:ez μ g G ks) (h3:μ Lg=ab (.list log)) (h4:fL (μ cE)=ab rp) (h5:cE≠Lg) (h6:μ Tl=ab (.dict tl)) (h7:log.length≤1000) (h8:m≤64) (h9:match fe ks p0 p1 m,fe ks p2 p3 2 with | some sp,ab pt=>(cL tl "nat" =ab (.val (.ref 742))∧ ∃v,rp[log.length]? =ab v∧ ∀μ',Q [Lg] μ μ'→μ' Lg=ab (.list (log++ [jX kind nf sp pt flags]))→K v μ')∨(cL tl "nat" =ao∧ ∀e μ',Q [] μ μ'→hF μ' e 65 "no tool for nat" →E (.val (.ref e)) μ') | _,_=> ∀e μ',Q [] μ μ'→hF μ' e 65 mq→E (.val (.ref e)) μ'):zz [.val (.ref sc),.val (.ref g),(cH.nat kind nf p0 p1 (m:Int) p2 p3 flags).d,rl] μ K E
noncomputable def Kk:cB:=(d (v 7 (h (b (.val (.ref 530))) (a (c 1) (a (f (c 2) (b (.int 6))) (a (f (c 2) (b (.int 7))) (a (b (.int 2)) (j))))))) (d (v 8 (h (b (.val (.ref 523))) (a (c 0) (a (b (.str "nat")) (j))))) (d (cQ (h (c 8) (a (c 0) (a (p (a (f (c 2) (b (.int 1))) (a (f (c 2) (b (.int 2))) (a (c 4) (a (c 5) (a (c 7) (a (f (c 2) (b (.int 8))) (j)))))))) (j))))) (l))))
theorem SQ:jE (.tup (T::fg::kx::xM::Cj::Ck::n)) (.int 5) q x bx=x Ck q:=rfl
theorem m7(X:fL (q z)=ab y)(k:Q U q M)(I:z ∉ U):fL (M z)=ab y:=(show gj (ab z) y q from X).keep k fun r Z=>by obtain rfl:=c4 Z;exact I
theorem Iq(p:cA w u)(v:5≤A) {g:a0} {o:PySem.Str} {d rl:D} {p0 p1:Int} {m:Nat} {sp:Option (Int×Int)}
 (n:fj q z o E O cn cS c9 d)(a:ez q g dz b5)(c:q E=ab (.list y))(S:fL (q O)=ab g7)(R:O≠E)(H:q cn=ab (.dict s))(h:y.length≤1000)(Y:Q [] q M)
 (X:match ab sp,fe b5 bk ew 2 with | some sp,ab b=>(cL s "nat" =ab (.val (.ref 742))∧ ∃C,g7[y.length]? =ab C∧ ∀e,Q [E] q e→e E=ab (.list (y++ [jX t B sp b I]))→x C e)∨(cL s "nat" =ao∧ ∀Z e,Q [] q e→hF e Z 65 "no tool for nat" →bx (.val (.ref Z)) e) | _,_=> ∀Z e,Q [] q e→hF e Z 65 mq→bx (.val (.ref Z)) e):
 Kk ⟨G,w,u,A⟩ [ab (.val (.ref z)),ab (.val (.ref g)),ab (cH.nat t B p0 p1 (m:Int) bk ew I).d,ab rl,ab (AH sp),ab (Aq sp),c3,ao,ao] M cR x (fun F=>bx):=by
 unfold Kk
 dsimp
 unfold cH.d
 refine⟨(te (G:=G) p).ok,dA (te p) v ⟨_,_,_,g,dz,bk,ew,2,b5,a.keep Y,by decide,?_⟩⟩
 induction j:fe b5 bk ew 2 with
 | none=>rw [j] at X;exact fun Z L l=>X Z L (Y.trans l)
 | some b=>
  rw [j] at X
  intro L l
  have l:=Y.trans l
  (refine bb ?_;dsimp)
  refine et (Pw p) (cp v rfl) ⟨_,_,_,z,E,O,cn,cS,c9,o,d,s,n.keep l.h,cV l H,?_⟩
  rcases X with ⟨fg,C,kx,X⟩ | ⟨fg,X⟩
  ·refine .inl ⟨fg,?_⟩
   (refine bb ?_;dsimp)
   refine⟨(Gq (G:=G) p).ok,by decide,dA (Gq p) (cp v rfl) ⟨_,_,_,z,E,O,cn,cS,c9,o,d,_,C,y,g7,n.keep l.h,cV l c,m7 S l nofun,R,kx,h,X _ (jF l) (J.aa ..)⟩⟩
  ·exact .inr ⟨fg,fun Z N K=>X Z N (l.trans K)⟩
theorem zW(p:cA w u):cK G w u 6 (.ref 537) zz:=
 cK.of (p.af (by kernel_rfl)) fun I v=>(ZM G p (cp v rfl)).mono fun b q x bx X=>by
  refine X.rec fun q x bx F T cE W K St g N o L d J A P O r E M z U D y H n a c S B e h V X=>?_
  refine ek rfl ?_
  dsimp
  (refine bb ?_;dsimp)
  (refine bb ?_;dsimp)
  refine⟨(te (G:=G) p).ok,dA (te p) v ⟨_,_,_,g,N,M,z,y,r,a,V,?_⟩⟩
  induction k:fe r M z y with
  | none=>rw [k] at X;exact X
  | some sp=>
   rw [k] at X
   intro C Y
   (refine bb ?_;dsimp)
   induction sp with
   | none=>
    dsimp only [hG]
    dsimp
    exact cW rfl (bb (Iq p v (rl:=J) (p0:=M) (p1:=z) (m:=y) (sp:=ao) n a c S B e h Y X))
   | some Z=>
    obtain⟨R,f⟩:=Z
    dsimp only [hG]
    dsimp
    exact dq rfl (bb (Iq p v (rl:=J) (p0:=M) (p1:=z) (m:=y) (sp:=ab (R,f)) n a c S B e h Y X))
end
end
section
set_option simprocs false
section
noncomputable def i6 (o:PySem.Str) (S:Int) (y:Nat):List Nat:=if o= "big" then ed S y else (ed S y).reverse
noncomputable def kS (o:PySem.Str) (r:List Nat):Int:=gy (if o= "big" then r else r.reverse)
theorem Hu(o:PySem.Str)(S:Int)(y:Nat):fO (i6 o S y):=fun k g=>by
 unfold i6 at g
 split at g
 ·exact mf S y k g
 ·exact mf S y k (LN.mp g)
theorem rm(o:PySem.Str)(S:Int)(y:Nat):(i6 o S y).length=y:=by
 unfold i6
 by_cases X:o= "big"
 ·rw [if_pos X,lB]
 ·rw [if_neg X,C2,lB]
theorem IE(X:b5.length % 4=0):eB b5=b5:=by
 unfold eB
 refine(show(-(b5.length:Int)) % 4=0 by lia)▸?_;exact fI _
inductive Fe:List D→J→KK→KK→Prop
 | mk (μ:J) (K E:KK) (sc Lg cE Tl Op St pk pdx M:a0) (o key:PySem.Str) (kvs mt:List (PySem.Str×D)) (v:D) (h1:fj μ sc o Lg cE Tl Op St (.val (.ref pk))) (h2:μ pk=ab (.inst 378 pdx)) (h3:μ pdx=ab (.dict kvs)) (h4:cL kvs "meta" =ab (.val (.ref M))) (h5:μ M=ab (.dict mt)) (h6:cL mt key=ab v) (h7:(key= "mark" ∨key= "priority")) (h8:K v μ):Fe [.val (.ref sc),.str key] μ K E
theorem SN(X:t= "mark" ∨t= "priority"):(t == ("l4proto" :PySem.Str))=false∧(t == ("nfproto" :PySem.Str))=false∧([("length" :PySem.Str),"protocol"].any fun s=>s == t)=false:=by
 rcases X with rfl | rfl<;>exact⟨rfl,rfl,rfl⟩
theorem v8 {k:PySem.Str}(X:q z=ab (.dict s))(Z:cL s k=ab T)(S:x T q):mi (.val (.ref z)) [.str k] q x:=
 Aa X (by refine Z▸?_;exact S)
theorem Q8 {k:PySem.Str}(X:q z=ab (.dict s))(Z:cL s k=ao)(S:x .none q):mi (.val (.ref z)) [.str k] q x:=
 Aa X (by refine Z▸?_;exact S)
theorem Gr(p:cA w u):cK G w u 2 (.ref 425) Fe:=
 cK.of (p.af (by kernel_rfl)) fun I v=>(ZD G p v).mono fun b B x O X=>by
  refine X.rec fun B x O q T cE W K St d R H o D s E M n z U C a A g X=>?_
  refine(SN g).elim fun Y h=>?_
  refine h.elim fun l Z=>?_
  refine ek rfl ?_
  dsimp
  refine n.bJ rfl ?_
  (refine bb ?_;dsimp)
  refine cW Y ?_
  (refine bb ?_;dsimp)
  refine cW l ?_
  (refine bb ?_;dsimp)
  refine⟨by decide,?_⟩
  refine cW Z ?_
  (refine bb ?_;dsimp)
  refine gx z U C ⟨rfl,rfl,rfl,rfl,rfl⟩ (rB a ?_) rfl
  dsimp
  exact v8 a A X
inductive Ff:List D→J→KK→KK→Prop
 | mk (μ:J) (K E:KK) (sc Lg cE Tl Op St a:a0) (o x:PySem.Str) (pk:D) (st:List (PySem.Str×D)) (h1:fj μ sc o Lg cE Tl Op St pk) (h2:μ St=ab (.dict st)) (h3:cL st x=ab (.val (.ref a))) (h4:K (.val (.ref a)) μ):Ff [.val (.ref sc),.str x] μ K E
theorem Ph(p:cA w u):cK G w u 2 (.ref 418) Ff:=
 cK.of (p.af (by kernel_rfl)) fun I v=>(ZE G p v).mono fun b B x O X=>by
  refine X.rec fun B x O q T cE W K St R o S d st n z U X=>?_
  refine ek rfl ?_
  dsimp
  refine n.sets (rB z ?_)
  dsimp
  refine v8 z U ?_
  (refine bb ?_;dsimp)
  exact cW rfl (bb X)
inductive EP:List D→J→KK→KK→Prop
 | mk (μ:J) (K E:KK) (sc Lg cE Tl Op St g G:a0) (o:PySem.Str) (pk:D) (ks:List Nat) (h1:fj μ sc o Lg cE Tl Op St pk) (h2:ez μ g G ks) (h3:(o= "big" ∨o= "little")) (h4: ∀μ',Q [] μ μ'→K (.tup [.int (kS o (slice ks 0 4))]) μ'):EP [.val (.ref sc),.val (.ref g),.int 0,.tup [.tup [.int 4,.str "host"]]] μ K E
theorem O4(p:cA w u):cK G w u 5 (.ref 474) EP:=
 cK.of (p.af (by kernel_rfl)) fun I v=>(Zd G p (cp v rfl)).mono fun b B x O X=>by
  refine X.rec fun B x O q T cE W K St g N o E r n a D f=>?_
  refine⟨rfl,?_⟩
  dsimp
  refine⟨by decide,fun d U=>?_⟩
  have Y:Q [] B (B.set d (.list [])):=Q.new U
  have c:(B.set d (.list [])) d=ab (.list []):=J.aa ..
  generalize (B.set d (.list []))=C at *
  (refine bb ?_;dsimp)
  rw [eS]
  dsimp
  refine jG c ?_
  dsimp
  have A:=a.keep Y
  refine⟨(Gi (G:=G) p).ok,A.bM p (dA (zV p) v ⟨_,_,_,g,N,0,4,r,A,by decide,fun F F L l=>?_,fun P=>absurd (by decide) P⟩)⟩
  have e:=Y.trans l
  refine⟨(oz (G:=G) p).ok,(n.keep e.h).order (dA (oz p) (cp v rfl) ⟨_,_,_,_,_,?_⟩)⟩
  refine(if_pos rfl)▸?_
  refine dA (Gi p) (cp v rfl) ⟨_,_,_,_,_,JM a.fit _ _,JL (by decide),D,fun t Z=>?_⟩
  refine jD (cV Z (cV l c)) (by decide) ?_
  (refine bb ?_;dsimp)
  refine et (rd p) (cp v rfl) ⟨_,_,_,4,⟨trivial,?_⟩⟩
  rw [eS]
  (refine bb ?_;dsimp)
  refine et Al (cp v rfl) (BR (J.aa ..) (b9 rfl) (f _ ((e.trans Z).set U)))
def pz (B:J) (i X:List (PySem.Str×D)) (S:PySem.Str) (L:List ck):Prop:=
 (∃R y,cL i S=ab (.val (.ref R))∧gX B R y L)∨(∃R y,cL i S=ao∧cL X S=ab (.val (.ref R))∧gX B R y L)
theorem pz.keep(X:pz q s oO t dm)(k:i3 q M):pz M s oO t dm:=by
 rcases X with ⟨R,y,W,K⟩ | ⟨R,y,J,W,K⟩
 ·exact .inl ⟨R,y,W,K.keep k⟩
 ·exact .inr ⟨R,y,J,W,K.keep k⟩
inductive lz (μ:J) (r L S:a0):Prop
 | mk (dx:a0) (kvs:List (PySem.Str×D)) (h1:μ r=ab (.inst 350 dx)) (h2:μ dx=ab (.dict kvs)) (h3:cL kvs "rows" =ab (.val (.ref L))) (h4:cL kvs "sets" =ab (.val (.ref S)))
theorem lz.keep(X:lz q z E O)(k:i3 q M):lz M z E O:=by
 obtain⟨h,s,W,K,C,n⟩:=X
 exact⟨h,s,k _ _ rfl W,k _ _ rfl K,C,n⟩
theorem lz.sets(X:lz q z E O)(k:x (.val (.ref O)) q):gI (KF w) "sets" (.val (.ref z)) q x bx:=by
 obtain⟨h,s,W,K,C,n⟩:=X;exact gx W K n ⟨rfl,rfl,rfl,rfl,rfl⟩ k rfl
theorem lz.rows(X:lz q z E O)(k:x (.val (.ref E)) q):gI (KF w) "rows" (.val (.ref z)) q x bx:=by
 obtain⟨h,s,W,K,C,n⟩:=X;exact gx W K C ⟨rfl,rfl,rfl,rfl,rfl⟩ k rfl
theorem gX.bP(p:cA w u)(X:gX q z E dm)(k:dh V q (fun b v=> ∃sp,gu G w u A (.ref 608) sp∧sp (.val (.ref z)::b) v x bx) bx):ko G w u (KF w) A "find" dh V x bx (.val (.ref z)) q:=by
 obtain⟨h,F,W,K,_,_,_⟩:=X
 exact wI W K rfl (f:=608) ⟨rfl,rfl,rfl,rfl⟩ (vT (G:=G) p).ok k
inductive EH:List D→J→KK→KK→Prop
 | mk (μ:J) (K E:KK) (sc Lg cE Tl Op St g G r L S:a0) (o x:PySem.Str) (pk:D) (ks:List Nat) (sets st:List (PySem.Str×D)) (ls:List ck) (h1:fj μ sc o Lg cE Tl Op St pk) (h2:ez μ g G ks) (h3:(o= "big" ∨o= "little")) (h4:lz μ r L S) (h5:μ S=ab (.dict sets)) (h6:μ St=ab (.dict st)) (h7:pz μ sets st x ls) (h8:match ls.find? (fun l=>l.k == kS o (slice ks 0 4)) with | some l=> ∀el μ',Q [] μ μ'→iP μ' el (.tup (l.data.map .int))→K (.val (.ref el)) μ' | none=> ∀μ',Q [] μ μ'→K .none μ'):EH [.val (.ref sc),.val (.ref g),.val (.ref r),.int 0,.tup [.tup [.int 4,.str "host"]],.str x] μ K E
noncomputable def J9:cB:=(d (cQ (eM "find" (c 6) (a (h (b (.val (.ref 474))) (a (c 0) (a (c 1) (a (c 3) (a (c 4) (j)))))) (a (dD "now" (c 0)) (j))))) (l))
theorem Hc(p:cA w u)(v:5≤A) {g:a0} {o:PySem.Str}(n:fj q z o E O cn cS c9 T)(a:ez q g dz b5)(D:o= "big" ∨o= "little")(M:gX q fC j1 dm)
 (f:match dm.find? (fun N=>N.k == kS o (slice b5 0 4)) with | some N=> ∀i e,Q [] q e→iP e i (.tup (N.data.map .int))→x (.val (.ref i)) e | none=> ∀e,Q [] q e→x .none e):
 J9 ⟨G,w,u,A⟩ [ab (.val (.ref z)),ab (.val (.ref g)),ab (.val (.ref eX)),ab (.int 0),ab (.tup [.tup [.int 4,.str "host"]]),ab (.str t),ab (.val (.ref fC))] q cR x (fun F=>bx):=by
 unfold J9
 dsimp
 refine M.bP p ?_
 dsimp
 refine et (O4 p) v ⟨_,_,_,z,E,O,cn,cS,c9,g,dz,o,T,b5,n,a,D,fun C Y=>?_⟩
 refine(n.keep Y.h).now (dA (vT p) (cp v rfl) ⟨_,_,_,fC,j1,_,dm,M.keep Y.h,?_⟩)
 induction P:dm.find? (fun N=>N.k == kS o (slice b5 0 4)) with
 | some N=>rw [P] at f;exact fun i S=>f i C Y S
 | none=>rw [P] at f;exact f C Y
theorem Gg(p:cA w u):cK G w u 6 (.ref 509) EH:=
 cK.of (p.af (by kernel_rfl)) fun I v=>(Y7 G p (cp v rfl)).mono fun b B x O X=>by
  refine X.rec fun B x O q T cE W K St g N j H m o S d r i st L n a D t U E C f=>?_
  refine ek rfl ?_
  dsimp
  refine t.sets (rB U ?_)
  dsimp
  rcases C with ⟨R,y,k,A⟩ | ⟨R,y,F,k,A⟩
  ·refine v8 U k ?_
   (refine bb ?_;dsimp)
   exact cW rfl (bb (Hc p v n a D A f))
  ·refine Q8 U F ?_
   (refine bb ?_;dsimp)
   exact dq rfl (et (Ph p) (cp v rfl) ⟨_,_,_,q,T,cE,W,K,St,R,o,S,d,st,n,E,k,bb (bb (Hc p v n a D A f))⟩)
inductive zy:List D→J→KK→KK→Prop
 | mk (μ:J) (K E:KK) (sc rl:D) (g G:a0) (reg:Nat) (os ks:List Nat) (h1:ez μ g G ks) (h2:fO os) (h3:os.length≤64) (h4:4 * reg+(eB os).length≤64) (h5: ∀μ',Q [G] μ μ'→ez μ' g G (wr ks reg (eB os))→K .none μ'):zy [sc,.val (.ref g),(cH.aS (reg:Int) os).d,rl] μ K E
theorem ez.bA(p:cA w u) {g:a0}(X:ez q g z b5)(k:dh V q (fun b v=> ∃sp,l7 G w u A (.ref 453) sp∧sp (.val (.ref g)::b) v x bx) bx):rA G w u (KF w) A "put" dh V x bx (.val (.ref g)) q:=by
 obtain⟨B,W,K,_,_,_⟩:=X
 exact TP W K rfl (f:=453) ⟨rfl,rfl,rfl,rfl⟩ (td (G:=G) p).ok k
theorem Gu(p:cA w u):fq G w u 4 (.ref 488) zy:=
 fq.of (p.af (by kernel_rfl)) fun I v=>(ZJ G p (cp v rfl)).mono fun b B x O X=>by
  refine X.rec fun B x O q J g N A W r a D h Q f=>?_
  refine⟨rfl,?_⟩
  dsimp
  refine a.bA p ?_
  dsimp
  exact t4 (td p) v ⟨_,_,_,g,N,A,W,r,a,D,h,Q,fun e k Z=>bb (f e k Z)⟩
inductive Fq:List D→J→KK→KK→Prop
 | mk (μ:J) (K E:KK) (sc Lg cE Tl Op St g G:a0) (o:PySem.Str) (pk:D) (ks:List Nat) (x:Int) (h1:fj μ sc o Lg cE Tl Op St pk) (h2:ez μ g G ks) (h3:(o= "big" ∨o= "little")) (h4:0≤x) (h5:x < 256 ^ 4) (h6: ∀μ',Q [G] μ μ'→ez μ' g G (wr ks 0 (i6 o x 4))→K .none μ'):Fq [.val (.ref sc),.val (.ref g),.int 0,.int x,.int 4,.str "host"] μ K E
theorem SH:f7 .Is (.int B) .none q c0 x=c0 false q:=rfl
theorem ID {o:PySem.Str}:eB (i6 o B 4)=i6 o B 4:=IE (by rw [rm])
theorem Gy(p:cA w u):fq G w u 6 (.ref 495) Fq:=
 fq.of (p.af (by kernel_rfl)) fun I v=>(ZR G p (cp v rfl)).mono fun b B x O X=>by
  refine X.rec fun B x O q T cE W K St g N o d r S n a D i t f=>?_
  refine ek rfl ?_
  dsimp
  rw [SH]
  refine cW rfl ?_
  (refine bb ?_;dsimp)
  refine a.bA p ?_
  dsimp
  refine⟨(ra (G:=G) p).ok,(oz (G:=G) p).ok,n.order (dA (oz p) (cp v rfl) ⟨_,_,_,_,_,?_⟩)⟩
  refine(if_pos rfl)▸?_
  refine dA (ra p) v ⟨_,_,_,S,4,o,i,by decide,D,fun F C Y=>?_,fun P=>absurd t P⟩
  refine t4 (td p) (cp v rfl) ⟨_,_,_,g,N,0,i6 o S 4,r,a.keep Y,Hu o S 4,by rw [rm];decide,by rw [ID,rm];decide,fun e k Z=>?_⟩
  rw [ID] at Z
  exact bb (f e ((keep0 Y).trans k) Z)
end
end
section
set_option simprocs false
section
noncomputable def pU (r:List Nat):Nat→List Nat→List Int→List Nat
 | A,m::B,S::Y=>pU (wr r A (eB (ed S m))) (A+(m+3) / 4) B Y
 | _,_,_=>r
theorem UT(M:List Nat):(eB M).length≤M.length+3:=by
 unfold eB
 rw [dR,oW]
 have:=uI (-(M.length:Int)) (show(0:Int) < 4 by decide)
 exact II (r7 _ (by decide)) this
inductive Fp:List D→J→KK→KK→Prop
 | mk (μ:J) (K E:KK) (sc Lg cE Tl Op St g G:a0) (o:PySem.Str) (pk:D) (ks lay:List Nat) (data:List Int) (h1:fj μ sc o Lg cE Tl Op St pk) (h2:ez μ g G ks) (h3:(∃(m:Nat) (x:Int),m≤16∧0≤x∧x < 256 ^ m∧((lay= [m]∧ ∃more,data=x::more∧more.length≤5)∨(lay= [m,2]∧ ∃y:Int,data= [x,y]∧0≤y∧y < 65536)))) (h4: ∀μ',Q [G] μ μ'→ez μ' g G (pU ks 0 lay data)→K .none μ'):Fp [.val (.ref sc),.val (.ref g),.int 0,kn lay,.tup (data.map .int)] μ K E
noncomputable def Ka:cB:=(d (ij (gR [6,7]) (f (c 3) (c 5))) (d (eZ (rV "put" (c 1) (a (c 2) (a (h (b (.val (.ref 148))) (a (f (c 4) (c 5)) (a (c 6) (a (h (b (.val (.ref 162))) (a (c 7) (a (dD "order" (c 0)) (j)))) (j))))) (j))))) (d (um 2 (h (b (.val (.ref 197))) (a (c 6) (j)))) (l))))
theorem FW {N:List c2} {t:c2→D} {S:c2}(X:N[A]? =ab S):(N.map t)[(A:Int).toNat]? =ab (t S):=by rw [ir,lX,X];rfl
theorem S7 {x:Int}(V:C≤16)(t:A≤8):(ed x C).length≤64∧4 * A+(eB (ed x C)).length≤64:=by
 exact S5 (lB x C) (UT (ed x C)) V t
theorem AF(p:cA w u)(v:5≤A) {g:a0} {o:PySem.Str} {reg j m:Nat}(h:b5[j]? =ab m)(I:de[j]? =ab B)(V:m≤16)(i:0≤B)(J:B < 256 ^ m)(C:reg≤8)(N:j < 100)(n:fj q z o E O cn cS c9 T)(a:ez q g dz fu)
 (d: ∀e,Q [dz] q e→ez e g dz (wr fu reg (eB (ed B m)))→cR [ab (.val (.ref z)),ab (.val (.ref g)),ab (.int ((reg+(m+3) / 4:Nat):Int)),ab (kn b5),ab (.tup (de.map .int)),ab (.int (j:Int)),ab (.int (m:Int)),ab (.str "big")] e):
 Ka ⟨G,w,u,A⟩ [ab (.val (.ref z)),ab (.val (.ref g)),ab (.int (reg:Int)),ab (kn b5),ab (.tup (de.map .int)),ab (.int (j:Int)),c3,dW] q cR x fM:=by
 have H:0≤(j:Int)∧(j:Int) < 1000000:=⟨fy _,gp.mpr (uU N (by decide))⟩
 obtain⟨K,D⟩:=S7 (x:=B) V C
 unfold Ka
 dsimp
 refine wq H (FW h) ?_
 dsimp
 (refine bb ?_;dsimp)
 refine a.bA p ?_
 dsimp
 refine⟨(ra (G:=G) p).ok,wq H (FW I) ?_⟩
 refine⟨(oz (G:=G) p).ok,n.order (dA (oz p) (cp v rfl) ⟨_,_,_,_,_,?_⟩)⟩
 rw [if_neg (by decide)]
 refine dA (ra p) v ⟨_,_,_,B,m,"big",i,cg V (by decide),.inl rfl,fun F L l=>?_,fun P=>absurd J P⟩
 rw [if_pos rfl]
 refine t4 (td p) (cp v rfl) ⟨_,_,_,g,dz,reg,ed B m,fu,a.keep l,mf B m,K,D,fun t Z M=>?_⟩
 (refine bb ?_;dsimp)
 refine et (rd p) (cp v rfl) ⟨_,_,_,m,?_⟩
 exact d t ((keep0 l).trans Z) M
theorem Gx(p:cA w u):fq G w u 6 (.ref 481) Fp:=
 fq.of (p.af (by kernel_rfl)) fun I v=>(ZQ G p (cp v rfl)).mono fun b B x O X=>by
  refine X.rec fun B x O q T cE W K St g N o d r U M n a E f=>?_
  refine jK E fun y S V i t hd=>?_
  refine⟨rfl,?_⟩
  dsimp
  rcases hd with ⟨rfl,P,rfl,A⟩ | ⟨rfl,s,rfl,H,F⟩
  ·have h:((S::P).map D.int).length≤1000000:=by rw [dP];exact cg (kE A) (by decide)
   refine et (gQ p.top) (cp v rfl) ⟨h,gD _,dA (gQ p.top) (cp v rfl) ⟨b9 rfl,?_⟩⟩
   dsimp only [wA]
   refine cW (decide_eq_false (je.mpr (hh.mpr ?_))) ?_
   ·exact kE (eA _)
   (refine bb ?_;dsimp)
   refine et (gQ p.top) (cp v rfl) ⟨b9 rfl,⟨pH _,oA (k:=2) (b9 rfl) rfl⟩,?_⟩
   show eS _ _ _ _ _ _ [.int (0:Nat)] _ _
   rw [eS]
   refine AF p v (j:=0) (reg:=0) (m:=y) rfl rfl V i t (by decide) (by decide) n a fun e k Z=>⟨trivial,?_⟩
   rw [eS]
   exact bb (f e k Z)
  ·refine et (gQ p.top) (cp v rfl) ⟨b9 rfl,gD _,dA (gQ p.top) (cp v rfl) ⟨b9 rfl,?_⟩⟩
   dsimp only [wA]
   refine cW rfl ?_
   (refine bb ?_;dsimp)
   refine et (gQ p.top) (cp v rfl) ⟨b9 rfl,⟨pH _,oA (k:=2) (b9 rfl) rfl⟩,?_⟩
   show eS _ _ _ _ _ _ [.int (0:Nat),.int (1:Nat)] _ _
   rw [eS]
   refine AF p v (j:=0) (reg:=0) (m:=y) rfl rfl V i t (by decide) (by decide) n a fun C Y R=>⟨trivial,?_⟩
   rw [eS]
   refine AF p v (j:=1) (reg:=0+(y+3) / 4) (m:=2) rfl rfl (by decide) H F (by lia) (by decide) (n.keep (Y.bh a.oct)) R fun e k Z=>⟨trivial,?_⟩
   rw [eS]
   exact bb (f e (Y.trans k) Z)
end
end
variable {eU:PySem.Str→List ck→Prop}
variable {fE:List cH}
section
set_option tactic.hygienic true
set_option simprocs false
section
def zq (U:List Nat) (M:List Int):Prop:= ∃(y:Nat) (S:Int),y≤16∧0≤S∧S < 256 ^ y∧((U= [y]∧ ∃P,M=S::P∧P.length≤5)∨(U= [y,2]∧ ∃s:Int,M= [S,s]∧0≤s∧s < 65536))
inductive vv (os ks:List Nat) (log:List D):Int→List Nat→List D→D→Prop
 | mk (r:Nat) (h1:fO os) (h2:os.length≤64) (h3:4 * r+(eB os).length≤64):vv os ks log (r:Int) (wr ks r (eB os)) log .none
inductive vr (o:PySem.Str) (mk:PySem.Str→Int→Prop) (key:PySem.Str) (ks:List Nat) (log:List D):List Nat→List D→D→Prop
 | mk (x:Int) (h1:key= "mark" ∨key= "priority") (h2:mk key x) (h3:0≤x) (h4:x < 256 ^ 4):vr o mk key ks log (wr ks 0 (i6 o x 4)) log .none
inductive q4 (o:PySem.Str) (look:PySem.Str→List ck→Prop) (name:PySem.Str) (lay ks:List Nat) (log:List D):List Nat→List D→D→Prop
 | miss (ls:List ck) (h1:look name ls) (h2:ls.find? (fun l=>l.k == kS o (slice ks 0 4))=ao):q4 o look name lay ks log ks log (.tup [.str "break",.str ""])
 | hit (ls:List ck) (l:ck) (h1:look name ls) (h2:ls.find? (fun l=>l.k == kS o (slice ks 0 4))=ab l) (h3:zq lay l.data):q4 o look name lay ks log (pU ks 0 lay l.data) log .none
inductive vz (rp:List D) (kind:PySem.Str) (nf p0 p1 p2 p3:Int) (flags:List PySem.Str) (ks:List Nat) (log:List D):Int→List Nat→List D→D→Prop
 | mk (m:Nat) (sp pt:Option (Int×Int)) (v:D) (h1:fe ks p0 p1 m=ab sp) (h2:fe ks p2 p3 2=ab pt) (h3:rp[log.length]? =ab v) (h4:m≤64) (h5:log.length≤1000):vz rp kind nf p0 p1 p2 p3 flags ks log (m:Int) ks (log++ [jX kind nf sp pt flags]) v
def jj (o:PySem.Str) (F:PySem.Str→List ck→Prop) (mk:PySem.Str→Int→Prop) (P:List D) (g:cH) (r:List Nat) (A:List D) (E:List Nat) (l:List D) (M:D):Prop:=match g with
 | .aS j os=>vv os r A j E l M
 | .field key=>vr o mk key r A E l M
 | .map name lay=>q4 o F name lay r A E l M
 | .nat kind nf p0 z m U C flags=>vz P kind nf p0 z U C flags r A m E l M
section
variable {o:PySem.Str}
theorem jj.aS(W:fO fu)(K:fu.length≤64)(C:4 * A+(eB fu).length≤64):jj o eU e7 n (.aS (A:Int) fu) b5 y (wr b5 A (eB fu)) y .none:=vv.mk A W K C
theorem jj.field(W:t= "mark" ∨t= "priority")(K:e7 t B)(C:0≤B)(A:B < 256 ^ 4):jj o eU e7 n (.field t) b5 y (wr b5 0 (i6 o B 4)) y .none:=vr.mk B W K C A
theorem jj.miss(W:eU t dm)(K:dm.find? (fun l=>l.k == kS o (slice b5 0 4))=ao):jj o eU e7 n (.map t fu) b5 y b5 y (.tup [.str "break",.str ""]):=q4.miss dm W K
theorem jj.hit(W:eU t dm)(K:dm.find? (fun gm=>gm.k == kS o (slice b5 0 4))=ab gm)(C:zq fu gm.data):jj o eU e7 n (.map t fu) b5 y (pU b5 0 fu gm.data) y .none:=q4.hit dm gm W K C
theorem jj.nat {kind:PySem.Str} {nf:Int} {flags:List PySem.Str} {b:Option (Int×Int)}(W:fe b5 B bk A=ab xS)(K:fe b5 ew jv 2=ab b)(C:n[y.length]? =ab T)(D:A≤64)(e:y.length≤1000):
 jj o eU e7 n (.nat kind nf B bk (A:Int) ew jv flags) b5 y b5 (y++ [jX kind nf xS b flags]) T:=vz.mk A xS b T W K C D e
end
def zl (M:D):Prop:=M= .none∨ ∃U,M= .tup [.str "continue",.str U]
def zI (M:D):Prop:= ∃R U,M= .tup [.str R,.str U]∧R≠ "continue"
inductive Run (o:PySem.Str) (look:PySem.Str→List ck→Prop) (mk:PySem.Str→Int→Prop) (rp:List D):List cH→List Nat→List D→List D→D→Prop
 | nil {ks:List Nat} {log:List D}:Run o look mk rp [] ks log log .none
 | stop {row:cH} {rows:List cH} {ks ks':List Nat} {log log':List D} {v:D}:jj o look mk rp row ks log ks' log' v→zI v→Run o look mk rp (row::rows) ks log log' v
 | go {row:cH} {rows:List cH} {ks ks':List Nat} {log log' log'':List D} {v v':D}:jj o look mk rp row ks log ks' log' v→zl v→Run o look mk rp rows ks' log' log'' v'→Run o look mk rp (row::rows) ks log log'' v'
inductive vC (o:PySem.Str) (look:PySem.Str→List ck→Prop) (mk:PySem.Str→Int→Prop) (rp:List D) (row:cH) (rows:List cH) (ks:List Nat) (log log':List D):D→Prop
 | stop (ks':List Nat) (v:D) (h:jj o look mk rp row ks log ks' log' v) (s:zI v):vC o look mk rp row rows ks log log' v
 | go (ks':List Nat) (log1:List D) (v v':D) (h:jj o look mk rp row ks log ks' log1 v) (g:zl v) (r:Run o look mk rp rows ks' log1 log' v'):vC o look mk rp row rows ks log log' v'
def FO (o:PySem.Str) (F:PySem.Str→List ck→Prop) (mk:PySem.Str→Int→Prop) (P:List D) (b:List cH) (r:List Nat) (A l:List D) (M:D):Prop:=match b with
 | []=>l=A∧M= .none
 | row::rows=>vC o F mk P row rows r A l M
theorem Run.inv {o:PySem.Str}(X:Run o eU e7 n fE b5 y g7 T):FO o eU e7 n fE b5 y g7 T:=
 X.casesOn (motive:=fun fE b5 y g7 T F=>FO o eU e7 n fE b5 y g7 T) ⟨rfl,rfl⟩ (fun X U=> .stop _ _ X U) fun X g j=> .go _ _ _ _ X g j
noncomputable def wY:List (PySem.Str×D):= [("immediate",.val (.ref 488)),("meta",.val (.ref 502)),("map",.val (.ref 516)),("nat",.val (.ref 537))]
inductive jB (μ:J) (sc r Lg L:a0) (o:PySem.Str) (look:PySem.Str→List ck→Prop) (mk:PySem.Str→Int→Prop) (rp rows log:List D):Prop
 | mk (cE Tl Op St S pk pdx M:a0) (sets st kvs mt tl:List (PySem.Str×D)) (ord:o= "big" ∨o= "little") (a1:fj μ sc o Lg cE Tl Op St (.val (.ref pk))) (a2:μ pk=ab (.inst 378 pdx)) (a3:μ pdx=ab (.dict kvs)) (a4:cL kvs "meta" =ab (.val (.ref M))) (a5:μ M=ab (.dict mt)) (a6: ∀key x,mk key x→cL mt key=ab (.int x))
  (a7:μ Tl=ab (.dict tl)) (a8:cL tl "nat" =ab (.val (.ref 742))) (a9:μ Op=ab (.dict wY)) (a10:μ St=ab (.dict st)) (a11:lz μ r L S) (a12:μ S=ab (.dict sets)) (a13: ∀x ls,look x ls→pz μ sets st x ls) (a14:fL (μ cE)=ab rp) (a15:cE≠Lg) (hr:μ L=ab (.list rows)) (hl:μ Lg=ab (.list log)) (ne:L≠Lg)
theorem jB.log {o:PySem.Str}(X:jB q z E O cn o eU e7 n y g7):q O=ab (.list g7):=by cases X;assumption
theorem jB.rows {o:PySem.Str}(X:jB q z E O cn o eU e7 n y g7):q cn=ab (.list y):=by cases X;assumption
theorem lJ(W:z≠E)(K:z≠O):z ∉ [E,O]:=fun P=>by
 cases P with
 | head=>exact W rfl
 | tail _ P=>exact eb K P
theorem jB.keep {G:a0} {o:PySem.Str} {l:List D}(X:jB q z E O cn o eU e7 n y g7)(k:Q [G,O] q M)(N: ∀a,q G=ab a→ ∃r,a= .ay r)
 (Z:M O=ab (.list l)):jB M z E O cn o eU e7 n y l:=by
 obtain⟨cE,W,K,St,m,ap,an,H,i,st,s,U,V,Y,c,B,J,C,al,am,u,v,I,F,ac,e,f,p,w,t,h,x⟩:=X
 have A:i3 q M:=k.hs fun R T a g=>by
  cases T with
  | head=>obtain⟨r,rfl⟩:=N a g;rfl
  | tail _ T=>
   rw [gW.mp T,h] at g
   obtain rfl:=c4 g;rfl
 have j:cn≠G:=fun P=>by subst P;obtain⟨r,P⟩:=N _ t;contradiction
 have b:cE≠G:=fun P=>by
  subst P
  induction d:q cE with
  | none=>rw [d] at p;contradiction
  | some a=>obtain⟨r,rfl⟩:=N _ d;rw [d] at p;contradiction
 exact⟨cE,W,K,St,m,ap,an,H,i,st,s,U,V,Y,c.keep A,A _ _ rfl B,A _ _ rfl J,C,A _ _ rfl al,am,A _ _ rfl u,v,A _ _ rfl I,A _ _ rfl F,ac.keep A,A _ _ rfl e,fun S L P=>(f S L P).keep A,m7 p k (lJ b w),w,k _ _ (lJ j x) t,Z,x⟩
inductive oJ (row:cH) (look:PySem.Str→List ck→Prop) (mk:PySem.Str→Int→Prop) (rp:List D):List D→J→KK→KK→Prop
 | mk (μ:J) (K E:KK) (sc g G r Lg L:a0) (o:PySem.Str) (rows log log':List D) (ks ks':List Nat) (v:D) (h1:jB μ sc r Lg L o look mk rp rows log) (h2:ez μ g G ks) (h3:jj o look mk rp row ks log ks' log' v) (h4: ∀μ',Q [G,Lg] μ μ'→ez μ' g G ks'→μ' Lg=ab (.list log')→K v μ'):oJ row look mk rp [.val (.ref sc),.val (.ref g),row.d,.val (.ref r)] μ K E
theorem ez.ne {g:a0}(X:ez q g z b5)(Z:q E=ab (.list n)):E≠z:=fun P=>by subst P;rw [X.oct] at Z;cases Z
theorem HW(k:Q [E] q M):Q [z,E] q M:=k.mono fun R X=>fJ _ X
theorem Pm(p:cA w u)(z:PySem.Str)(F:PySem.Str→List ck→Prop)(mk:PySem.Str→Int→Prop)(P:List D):fq G w u 7 (.ref 502) (oJ (.field z) F mk P):=
 fq.of (p.af (by kernel_rfl)) fun I v=>(ZL G p (cp v rfl)).mono fun b B x O X=>by
  refine X.rec fun B x O q g N j T am o an A l r E M y a n f=>?_
  refine⟨rfl,?_⟩
  have n:vr o mk z r A E l M:=n
  induction n with
  | mk S al V hx t=>
   obtain⟨cE,W,K,St,m,d,R,H,i,st,s,U,ap,Y,c,ac,J,C,L,Q,_,_,_,_,_,_,_,_,_,_,h,_⟩:=y
   dsimp
   refine⟨(Gy (G:=G) p).ok,(Gr (G:=G) p).ok,dA (Gr p) (cp v rfl) ⟨_,_,_,q,T,cE,W,K,St,d,R,H,o,z,s,U,.int S,c,ac,J,C,L,Q _ _ V,al,?_⟩⟩
   exact t4 (Gy p) v ⟨_,_,_,q,T,cE,W,K,St,g,N,o,_,r,S,c,a,Y,hx,t,fun e k Z=>f e (jT k) Z (k _ _ (eb (a.ne h)) h)⟩
theorem Sg(X:oJ (.aS B b5) eU e7 n y q x bx):zy y q x bx:=by
 refine X.rec fun q x bx I g N j T F o H A l r E M D a S f=>?_
 have S:vv b5 r A B E l M:=S
 induction S with
 | mk G W K C=>exact⟨_,_,_,_,_,g,N,_,b5,r,a,W,K,C,fun e k Z=>f e (jT k) Z (k _ _ (eb (a.ne D.log)) D.log)⟩
theorem Pk(p:cA w u)(K:Int)(W:List Nat)(F:PySem.Str→List ck→Prop)(mk:PySem.Str→Int→Prop)(P:List D):fq G w u 4 (.ref 488) (oJ (.aS K W) F mk P):=
 ⟨(Gu (G:=G) p).ok,fun I v r q U B x O Q b f m t X=>(Gu p).sp I v r q U B x O Q b f m t (Sg X)⟩
theorem T7(X:oJ (.nat t B bk ew jv Cq xN I) eU e7 n y q x bx):zz y q x bx:=by
 refine X.rec fun q x bx O g N j T P o z A l r E M L a S f=>?_
 have S:vz n t B bk ew Cq xN I r A jv E l M:=S
 induction S with
 | mk m sp b M W K C G J=>
  obtain⟨cE,F,D,St,Q,d,R,H,i,st,s,U,V,Y,c,_,_,_,_,_,u,v,_,_,_,_,_,p,w,_,h,_⟩:=L
  refine⟨_,_,_,O,T,cE,F,D,St,g,N,o,t,_,_,A,n,V,r,B,bk,ew,Cq,xN,_,I,c,a,h,p,w,u,J,G,?_⟩
  rw [W,K]
  exact .inl ⟨v,_,C,fun e k Z=>f e (HW k) (a.aY (k.lh h) (k _ _ (eb (a.ne h).symm) a.oct) a.len a.fit) Z⟩
theorem Pn(p:cA w u)(L:PySem.Str)(E M z A J C:Int)(H:List PySem.Str)(F:PySem.Str→List ck→Prop)(mk:PySem.Str→Int→Prop)(P:List D):fq G w u 6 (.ref 537) (oJ (.nat L E M z A J C H) F mk P):=
 ⟨(zW (G:=G) p).ok,fun I v r q U B x O Q b f m t X=>PA ((zW p).sp I v) r q U B x O Q b f m t (T7 X)⟩
theorem Pl(p:cA w u)(E:PySem.Str)(U:List Nat)(F:PySem.Str→List ck→Prop)(mk:PySem.Str→Int→Prop)(P:List D):fq G w u 8 (.ref 516) (oJ (.map E U) F mk P):=
 fq.of (p.af (by kernel_rfl)) fun I v=>(ZK G p (cp v rfl)).mono fun b B x O X=>by
  refine X.rec fun B x O q g am j T bd o ch A bx r bv M y a S f=>?_
  refine⟨rfl,?_⟩
  obtain⟨cE,W,K,St,m,d,cf,ca,b6,st,s,ce,V,b5,c,_,_,_,_,_,_,_,_,be,k,bi,bk,_,_,_,h,_⟩:=y
  have an: ∀ac,F E ac→ ∀L:KK,(match ac.find? (fun N=>N.k == kS o (slice r 0 4)) with
   | some N=> ∀i e,Q [] B e→iP e i (.tup (N.data.map .int))→L (.val (.ref i)) e
   | none=> ∀e,Q [] B e→L .none e)→ ∃ap,gu G w u I (.ref 509) ap∧ap [.val (.ref q),.val (.ref g),.val (.ref j),.int 0,.tup [.tup [.int 4,.str "host"]],.str E] B L O:=fun ac z L H=>
   dA (Gg p) (cp v rfl) ⟨_,_,_,q,T,cE,W,K,St,g,am,j,bd,m,o,E,_,r,b6,st,ac,c,a,b5,k,bi,be,bk _ _ z,H⟩
  delta GR cH.d
  dsimp
  refine⟨(Gg (G:=G) p).ok,?_⟩
  have S:q4 o F E U r A bv bx M:=S
  induction S with
  | miss ac z al=>
   refine an _ z _ ?_
   refine al▸?_
   intro C Y
   (refine bb ?_;dsimp)
   exact dq rfl ⟨by decide,f C (keep0 Y) (a.keep Y) (cV Y h)⟩
  | hit ac N z al bu=>
   refine an _ z _ ?_
   rw [al]
   intro i C Y bn
   (refine bb ?_;dsimp)
   refine cW rfl ?_
   (refine bb ?_;dsimp)
   dsimp only [SQ]
   obtain⟨n,t,R,J,bm,cb⟩:=bn
   refine⟨(Gx (G:=G) p).ok,gx R J bm ⟨rfl,rfl,rfl,rfl,rfl⟩ ?_ trivial⟩
   exact t4 (Gx p) (cp v rfl) ⟨_,_,_,q,T,cE,W,K,St,g,am,o,_,r,U,_,c.keep Y.h,a.keep Y,bu,fun b8 l Z=>bb (f b8 ((keep0 Y).trans (jT l)) Z (l _ _ (eb (a.ne h)) (cV Y h)))⟩
end
end
section
set_option simprocs false
section
theorem Q.drop(k:Q U q M)(l:Q (z::U) M eo)(t:q z=ao):Q U q eo:=fun R o I Z=>by
 refine l R o (fun P=>?_) (k R o I Z)
 cases P with
 | head=>exact J.ne Z t rfl
 | tail _ P=>exact I P
theorem fq.le(l:fq G w u A b8 e4)(N:A≤C):fq G w u C b8 e4:=⟨l.ok,fun I v=>l.sp I (cg N v)⟩
theorem UJ(p:cA w u)(F:PySem.Str→List ck→Prop)(mk:PySem.Str→Int→Prop)(P:List D)(g:cH): ∃(m:PySem.Str) (H:List D) (R:a0),g.d= .tup (.str m::H)∧cL wY m=ab (.val (.ref R))∧fq G w u 8 (.ref R) (oJ g F mk P):=by
 induction g with
 | aS j os=>exact⟨"immediate",_,488,rfl,rfl,(Pk p j os F mk P).le (by decide)⟩
 | field key=>exact⟨"meta",_,502,rfl,rfl,(Pm p key F mk P).le (by decide)⟩
 | map name lay=>exact⟨"map",_,516,rfl,rfl,Pl p name lay F mk P⟩
 | nat kind nf p0 z E U C flags=>exact⟨"nat",_,537,rfl,rfl,(Pn p kind nf p0 z E U C flags F mk P).le (by decide)⟩
inductive Fv (look:PySem.Str→List ck→Prop) (mk:PySem.Str→Int→Prop) (rp:List D):List D→J→KK→KK→Prop
 | mk (μ:J) (K E:KK) (sc r Lg L:a0) (o:PySem.Str) (rows:List cH) (log log':List D) (v:D) (h1:jB μ sc r Lg L o look mk rp (rows.map cH.d) log) (h2:Run o look mk rp rows (iu 64 0) log log' v) (h3: ∀μ',Q [Lg] μ μ'→μ' Lg=ab (.list log')→K v μ'):Fv look mk rp [.val (.ref sc),.val (.ref r)] μ K E
noncomputable def Kh:cB:=(d (v 4 (eM "get" (dD "ops" (c 0)) (a (f (c 3) (b (.int 0))) (j)))) (d (cZ (cC .Is (c 4) (b .none)) (d (jt (h (b (.val (.ref 65))) (a (e .Add (b (.str "no op for a row ")) (f (c 3) (b (.int 0)))) (j)))) (l)) (l)) (d (v 5 (iT (c 4) (a (c 0) (a (c 2) (a (c 3) (a (c 1) (j))))))) (d (cZ (hI [cC .IsNot (c 5) (b .none),cC .NotEq (f (c 5) (b (.int 0))) (b (.str "continue"))]) (d (cQ (c 5)) (l)) (l)) (l)))))
inductive N7 (μ:J) (sc r Lg L g G:a0) (o:PySem.Str) (look:PySem.Str→List ck→Prop) (mk:PySem.Str→Int→Prop) (rp rows log':List D) (v:D) (rs:List D) (ρ:Loc) (μ1:J):Prop
 | mk (rest:List cH) (ks:List Nat) (lg:List D) (o3 o4 o5:Option D) (h1:rs=rest.map cH.d) (h2:ρ= [ab (.val (.ref sc)),ab (.val (.ref r)),ab (.val (.ref g)),o3,o4,o5]) (h3:Q [Lg] μ μ1) (h4:jB μ1 sc r Lg L o look mk rp rows lg) (h5:ez μ1 g G ks) (h6:Run o look mk rp rest ks lg log' v)
theorem jB.ops {o:PySem.Str}(X:jB q z E O cn o eU e7 n y g7)(k: ∀K,q K=ab (.dict wY)→x (.val (.ref K)) q):gI (KF w) "ops" (.val (.ref z)) q x bx:=by
 obtain⟨cE,W,K,St,m,d,R,H,i,st,s,U,V,Y,c,_,_,_,_,_,_,_,I,_,_,_,_,_,_,_,_,_⟩:=X
 exact c.ops (k K I)
theorem jB.rule {o:PySem.Str}(X:jB q z E O cn o eU e7 n y g7): ∃m,lz q E cn m:=by
 obtain⟨cE,W,K,St,m,d,R,H,i,st,s,U,V,Y,c,_,_,_,_,_,_,_,I,_,k,_,_,_,_,_,_,_⟩:=X
 exact⟨m,k⟩
theorem VE(p:cA w u)(v:8≤A) {g:a0} {o:PySem.Str}(i:q cS=ao)(f: ∀e,Q [O] q e→e O=ab (.list g7)→x T e)(an:T= .none→ ∀Y e,Q [O] q e→e O=ab (.list g7)→cR Y e):
 ∀b Y C,N7 q z E O cn g cS o eU e7 n y g7 T b Y C→eS (e6 3) (Kh ⟨G,w,u,A⟩) (ab cn) y cR x b Y C:=by
 refine jq _ (fun Y C X=>?_) (fun bk b Y C bi X d=>?_)
 ·obtain⟨H,r,P,t,h,c,a,rfl,k,B,ac,J⟩:=X
  induction H with
  | cons=>contradiction
  | nil=>obtain⟨rfl,rfl⟩:=J.inv;exact an rfl _ C k B.log
 ·obtain⟨H,r,P,t,h,c,a,rfl,k,B,ac,J⟩:=X
  cases H with
  | nil=>contradiction
  | cons row H=>
   cases a
   refine k5 (UJ (G:=G) p eU e7 n row) fun bv bx bn am j V=>?_
   unfold Kh
   dsimp
   refine B.ops fun K I=>rB I ?_
   dsimp
   rw [am]
   dsimp
   refine v8 I j ?_
   (refine bb ?_;dsimp)
   refine cW rfl ?_
   (refine bb ?_;dsimp)
   refine mg V v ?_
   refine am▸?_
   have J:vC o eU e7 n row H r P g7 T:=J.inv
   induction J with
   | stop bd T S M=>
    refine⟨_,_,_,z,g,cS,E,O,cn,o,_,P,_,r,_,_,B,ac,S,fun L l D al=>?_⟩
    refine nz M fun R U be F=>?_;subst be
    (refine bb ?_;dsimp)
    refine dq rfl ?_
    refine dq (bne_iff_ne.mpr F) (dq rfl (f L (k.drop l i) al))
   | go bd bm T N S s ap=>
    refine⟨_,_,_,z,g,cS,E,O,cn,o,_,P,_,r,_,_,B,ac,S,fun L l D al=>?_⟩
    have W:=B.keep l (fun bu Z=>by obtain rfl:=c4 (ac.oct.symm.trans Z);exact⟨_,rfl⟩) al
    have m:=fun h c=>d [ab (.val (.ref z)),ab (.val (.ref E)),ab (.val (.ref g)),ab row.d,h,c] L ⟨H,_,_,_,_,_,rfl,rfl,k.drop l i,W,D,ap⟩ (lQ W.rows)
    rcases s with rfl | ⟨U,rfl⟩
    ·(refine bb ?_;dsimp)
     exact cW rfl (cW rfl (bb (m _ _)))
    ·(refine bb ?_;dsimp)
     exact dq rfl (cW rfl (cW rfl (bb (m _ _))))
theorem Pr(p:cA w u)(F:PySem.Str→List ck→Prop)(mk:PySem.Str→Int→Prop)(H:List D):fq G w u 9 (.ref 467) (Fv F mk H):=
 fq.of (p.af (by kernel_rfl)) fun I v=>(ZU G p (cp v rfl)).mono fun b B x O X=>by
  refine X.rec fun B x O q j T L o K A l M y J f=>?_
  refine⟨rfl,?_⟩
  refine y.rule.elim fun m t=>?_
  dsimp
  refine t.rows ?_
  dsimp only [SJ]
  refine cW rfl ?_
  (refine bb ?_;dsimp)
  refine mg (Gb p) (cp v rfl) ⟨_,_,_,fun g N C c i E a=>?_⟩
  (refine bb ?_;dsimp)
  refine(t.keep E.h).rows ?_
  dsimp only
  refine(cV E y.rows)▸?_
  refine VE p v i f (fun Z Y e k X=>?_) _ _ _ ⟨K,_,A,ao,ao,ao,rfl,rfl,keep0 E,y.keep (G:=N) (keep0 E) (fun Q P=>by have n:=i.symm.trans P;contradiction) (cV E y.log),a,J⟩
  refine Z▸?_
  exact bb (f e k X)
end
end
section
set_option simprocs false
section
theorem wB(v:s.any (fun p=>p.1 == t)=false):ep s t T=s++ [(t,T)]:=by unfold ep;rw [v];rfl
theorem fc.put(N:fc q M z E O s)(v:s.any (fun p=>p.1 == t)=false)(h:s.length≤900)(R:mP cf E t)
 (X: ∀C,fc q C z E O (s++ [(t,T)])→Q [O] M C→x .none C):mj cf t (.val (.ref z)) T M x bx:=
 N.attr h R fun C H k=>X C (wB v▸H) k
theorem fc.av {o:dE}(N:fc q M z E O s)(U:M cn=ao)(v:s.any (fun p=>p.1 == t)=false)(h:s.length≤900)(R:mP cf E t)
 (X: ∀C,fc q C z E O (s++ [(t,T)])→Q [O] M C→C cn=ab o→cn≠O→q cn=ao→x .none C):mj cf t (.val (.ref z)) T (M.set cn o) x bx:=
 N.aE U h R fun C H k=>X C (wB v▸H) k
inductive EE:List D→J→KK→KK→Prop
 | mk (μ:J) (K E:KK) (h1: ∀z,μ z=ao→K (.val (.ref z)) (μ.set z (.dict []))):EE [.tup []] μ K E
theorem O2(p:cA w u):cK G w u 2 (.ref 332) EE:=
 cK.of (p.af (by kernel_rfl)) fun I v=>(Y4 G p (cp v rfl)).mono fun b B x O X=>by
  refine X.rec fun B x O X=>?_
  refine ek rfl ?_
  dsimp
  intro d U
  (refine bb ?_;dsimp)
  refine et (gQ p.top) (cp v rfl) ⟨b9 rfl,⟨by decide,by decide⟩,?_⟩
  show eS _ _ _ _ _ _ [] _ _
  rw [eS]
  (refine bb ?_;dsimp)
  exact X d U
inductive FI:List D→J→KK→KK→Prop
 | mk (μ:J) (K E:KK) (x dx:_) (h1:fc μ μ x 350 dx []) (h2: ∀z1 z2 μ',fc μ μ' x 350 dx [("handle",.int 1),("statements",.tup []),("comment",.str ""),("cells",.val (.ref z1)),("rows",.none),("sets",.val (.ref z2))]→K .none μ'):FI [.val (.ref x),.int 1,.tup []] μ K E
theorem V4(p:cA w u)(v:1 < A):ie G w u (A+1) (.ref 347) FI:=
 (Y1 G p (cp v rfl)).mono fun b B x O X=>by
  refine X.rec fun B x O S h N X=>?_
  refine ek rfl ?_
  dsimp
  refine N.put (by kernel_rfl) (b9 rfl) ⟨rfl,rfl,rfl,rfl,rfl⟩ fun C E F=>?_
  (refine bb ?_;dsimp)
  refine E.put (by kernel_rfl) (b9 rfl) ⟨rfl,rfl,rfl,rfl,rfl⟩ fun L Q F=>?_
  (refine bb ?_;dsimp)
  refine Q.put (by kernel_rfl) (b9 rfl) ⟨rfl,rfl,rfl,rfl,rfl⟩ fun t s F=>?_
  (refine bb ?_;dsimp)
  refine et (O2 p) (cp v rfl) ⟨_,_,_,fun D c=>?_⟩
  refine s.av c (by kernel_rfl) (b9 rfl) ⟨rfl,rfl,rfl,rfl,rfl⟩ fun H q F F F F=>?_
  (refine bb ?_;dsimp)
  refine q.put (by kernel_rfl) (b9 rfl) ⟨rfl,rfl,rfl,rfl,rfl⟩ fun U J F=>?_
  (refine bb ?_;dsimp)
  intro I g
  exact J.av g (by kernel_rfl) (b9 rfl) ⟨rfl,rfl,rfl,rfl,rfl⟩ fun f K F F F F=>bb (X D I f K)
inductive EC:List D→J→KK→KK→Prop
 | mk (μ:J) (K E:KK) (h1: ∀r dx z1 z2 μ',μ r=ao→μ dx=ao→Q [] μ μ'→InstAt μ' r 350 dx [("handle",.int 1),("statements",.tup []),("comment",.str ""),("cells",.val (.ref z1)),("rows",.none),("sets",.val (.ref z2))]→K (.val (.ref r)) μ'):EC [.int 1,.tup []] μ K E
theorem Ge(p:cA w u):cK G w u 5 (.ref 350) EC:=
 cK.of (pG (w:=w) p.k (C:=350) rfl) fun I v=>by
  refine dg (pT v) fun y Q V=>?_;subst Q
  refine(t5 p.k (f:=347) ⟨rfl,rfl,rfl⟩ (V4 (G:=G) p (cp V rfl))).mono fun b B x O X=>?_
  refine X.rec fun B x O X=>?_
  intro S h i E R
  exact⟨_,_,_,S,h,pR R,fun A D e N=>⟨rfl,X S h A D e i E (pL i E N.k) N.at⟩⟩
inductive FH:List D→J→KK→KK→Prop
 | mk (μ:J) (K E:KK) (x dx a b c d:_) (h1:fc μ μ x 186 dx []) (h2: ∀L S z3 z4 z5 μ',fc μ μ' x 186 dx [("fields",a),("family",b),("order",c),("prefix",d),("rows",.val (.ref L)),("sets",.val (.ref S)),("known",.val (.ref z3)),("makers",.val (.ref z4)),("flags",.val (.ref z5))]→μ' L=ab (.list [])→μ' S=ab (.dict [])→μ L=ao→μ S=ao→S≠dx→K .none μ'):FH [.val (.ref x),a,b,c,d] μ K E
theorem V3(p:cA w u)(v:0 < A):ie G w u (A+1) (.ref 183) FH:=
 (Y0 G p (cp v rfl)).mono fun b B x O X=>by
  refine X.rec fun B x O S h R f i T N X=>?_
  refine ek rfl ?_
  dsimp
  refine N.put (by kernel_rfl) (b9 rfl) ⟨rfl,rfl,rfl,rfl,rfl⟩ fun an E F=>?_
  (refine bb ?_;dsimp)
  refine E.put (by kernel_rfl) (b9 rfl) ⟨rfl,rfl,rfl,rfl,rfl⟩ fun L Q F=>?_
  (refine bb ?_;dsimp)
  refine Q.put (by kernel_rfl) (b9 rfl) ⟨rfl,rfl,rfl,rfl,rfl⟩ fun t j F=>?_
  (refine bb ?_;dsimp)
  refine j.put (by kernel_rfl) (b9 rfl) ⟨rfl,rfl,rfl,rfl,rfl⟩ fun ap q F=>?_
  (refine bb ?_;dsimp)
  refine⟨by decide,fun g c=>?_⟩
  refine q.av c (by kernel_rfl) (b9 rfl) ⟨rfl,rfl,rfl,rfl,rfl⟩ fun bd J F z D ac=>?_
  (refine bb ?_;dsimp)
  intro m U
  refine J.av U (by kernel_rfl) (b9 rfl) ⟨rfl,rfl,rfl,rfl,rfl⟩ fun be K y l d al=>?_
  (refine bb ?_;dsimp)
  intro am C
  refine K.av C (by kernel_rfl) (b9 rfl) ⟨rfl,rfl,rfl,rfl,rfl⟩ fun s I Z F F F=>?_
  (refine bb ?_;dsimp)
  intro a n
  refine I.av n (by kernel_rfl) (b9 rfl) ⟨rfl,rfl,rfl,rfl,rfl⟩ fun o M V F F F=>?_
  (refine bb ?_;dsimp)
  intro W e
  refine M.av e (by kernel_rfl) (b9 rfl) ⟨rfl,rfl,rfl,rfl,rfl⟩ fun Y P H F F F=>?_
  have k:=((y.trans Z).trans V).trans H
  have r:=(Z.trans V).trans H
  exact bb (X g m am a W Y P (k _ _ (eb D) z) (r _ _ (eb d) l) ac al d)
inductive EA:List D→J→KK→KK→Prop
 | mk (μ:J) (K E:KK) (a b c d:_) (h1: ∀r dx L S z3 z4 z5 μ',μ r=ao→μ dx=ao→μ L=ao→μ S=ao→Q [] μ μ'→InstAt μ' r 186 dx [("fields",a),("family",b),("order",c),("prefix",d),("rows",.val (.ref L)),("sets",.val (.ref S)),("known",.val (.ref z3)),("makers",.val (.ref z4)),("flags",.val (.ref z5))]→μ' L=ab (.list [])→μ' S=ab (.dict [])→S≠dx→K (.val (.ref r)) μ'):EA [a,b,c,d] μ K E
theorem Gd(p:cA w u):cK G w u 4 (.ref 186) EA:=
 cK.of (pG (w:=w) p.k (C:=186) rfl) fun I v=>by
  refine dg (pT v) fun y Q V=>?_;subst Q
  refine(t5 p.k (f:=183) ⟨rfl,rfl,rfl⟩ (V3 (G:=G) p (cp V rfl))).mono fun b B x O X=>?_
  refine X.rec fun B x O R J i T X=>?_
  intro S h H E K
  exact⟨_,_,_,S,h,R,J,i,T,pR K,fun g m M a W e F N U A D L=>⟨rfl,X S h g m M a W e H E (mm A) (mm D) (pL H E F.k) F.at N U L⟩⟩
end
end
section
set_option simprocs false
section
theorem zM {k:PySem.Str}:cL (nJ::s) k=if (nJ.1 == k)=true then ab nJ.2 else cL s k:=by
 unfold cL
 rw [mE]
 cases nJ.1 == k<;>rfl
theorem Ox {k:PySem.Str}:cL (s.map fun P=>if (P.1 == k)=true then (P.1,T) else P) t=if k=t∧s.any (fun P=>P.1 == k)=true then ab T else cL s t:=by
 induction s with
 | nil=>exact(if_neg fun X=>absurd X.2 fv).symm
 | cons p s o=>
  rw [gq,zM,zM,o,oV]
  by_cases Z:(p.1 == k)=true
  ·rw [if_pos Z,Z,Bool.true_or]
   have b:=beq_iff_eq.mp Z
   by_cases J:k=t
   ·rw [if_pos (beq_iff_eq.mpr (b.trans J)),if_pos ⟨J,rfl⟩]
   ·rw [if_neg fun P=>J (b.symm.trans (beq_iff_eq.mp P)),if_neg fun P=>J P.1,if_neg fun P=>J P.1,if_neg fun P=>J (b.symm.trans (beq_iff_eq.mp P))]
  ·rw [if_neg Z,oU.mpr Z,x1]
   by_cases J:(p.1 == t)=true
   ·rw [if_pos J,if_neg fun P=>Z (beq_iff_eq.mpr ((beq_iff_eq.mp J).trans P.1.symm)),if_pos J]
   ·rw [if_neg J,if_neg J]
theorem vJ {k:PySem.Str}: ∀ {j:List (PySem.Str×D)},j.any (fun P=>P.1 == k)=false→cL j k=ao
 | [],_=>rfl
 | p::j,h=>by
  rw [oV,Bool.or_eq_false_iff] at h
  rw [zM,h.1]
  exact vJ h.2
theorem vI {k:PySem.Str}:cL (ep s k T) t=if k=t then ab T else cL s t:=by
 unfold ep
 by_cases X:s.any (fun c=>c.1 == k)=true
 ·rw [if_pos X,Ox]
  by_cases Z:k=t
  ·rw [if_pos Z,if_pos ⟨Z,X⟩]
  ·rw [if_neg Z,if_neg fun P=>Z P.1]
 ·rw [if_neg X,zL]
  by_cases Z:k=t
  ·rw [if_pos Z,if_pos Z,←Z,vJ (oU.mpr X)]
  ·rw [if_neg Z,if_neg Z];cases cL s t<;>rfl
theorem kP {k:PySem.Str}:cL (ep s k T) k=ab T:=vI.trans (if_pos rfl)
theorem fk {k:PySem.Str} {o:Option D}(X:cL s t=o)(Z:(k == t)=false):cL (ep s k T) t=o:=vI.trans ((if_neg fun P=>by rw [P,beq_self_eq_true] at Z;contradiction).trans X)
theorem pM {k:PySem.Str}:(ep s k T).length≤s.length+1:=by
 unfold ep
 cases s.any (fun c=>c.1 == k)
 ·exact iW dR
 ·exact sj (iW (dP _))
inductive qW (K:ey) (N:a0):Prop
 | mk (get:iY K (.ref N) "__getattribute__" =ab (ab (.builtin "object.__getattribute__"))) (set:iY K (.ref N) "__setattr__" =ab (ab (.builtin "object.__setattr__"))) (over:plainOver K N=true) (has:DH K N=true)
theorem qW.ok(i:qW cf z)(X:iY cf (.ref z) t=ab ao):mP cf z t:=by cases i;constructor<;>assumption
theorem iB(w:di):qW (KF w) 407:=⟨by kernel_rfl,by kernel_rfl,by kernel_rfl,by kernel_rfl⟩
theorem pD(w:di):qW (KF w) 378:=⟨by kernel_rfl,by kernel_rfl,by kernel_rfl,by kernel_rfl⟩
inductive l9 (μ μi:J) (x N dx:a0) (keys:List PySem.Str) (facts:List (PySem.Str×D)):Prop
 | mk (kvs:List (PySem.Str×D)) (i:fc μ μi x N dx kvs) (hk:kvs.map (·.1)=keys) (hf: ∀p ∈ facts,cL kvs p.1=ab p.2)
theorem l9.start(N:fc q M z E O []):l9 q M z E O [] []:=⟨[],N,rfl,fun F=>tH⟩
theorem Hj(g:s.map (·.1)=I)(v:I.any (· == t)=false):s.any (fun c=>c.1 == t)=false:=by
 subst g;rw [yb] at v;exact v
theorem Hm(v:s.any (fun c=>c.1 == t)=false)(Q: ∀c ∈ oO,cL s c.1=ab c.2): ∀c ∈ (t,T)::oO,cL (s++ [(t,T)]) c.1=ab c.2:=fun c l=>by
 rw [zL]
 cases l with
 | head=>rw [vJ v];exact if_pos rfl
 | tail _ l=>rw [Q c l]
theorem Hl(g:s.map (·.1)=I)(h:nP I.length 900=true):s.length≤900:=by
 rw [←g,dP] at h;exact b9 h
theorem l9.put(N:l9 q M z E O I s)(i:qW cf E)(h:nP I.length 900=true)(v:I.any (· == t)=false)(R:iY cf (.ref E) t=ab ao)
 (X: ∀C,l9 q C z E O (I++ [t]) ((t,T)::s)→Q [O] M C→x .none C):mj cf t (.val (.ref z)) T M x bx:=by
 obtain⟨B,N,g,A⟩:=N
 have v:=Hj g v
 exact N.put v (Hl g h) (i.ok R) fun C H k=>X C ⟨_,H,by rw [fh,g];rfl,Hm v A⟩ k
theorem l9.av {o:dE}(N:l9 q M z E O I s)(U:M cn=ao)(i:qW cf E)(h:nP I.length 900=true)(v:I.any (· == t)=false)(R:iY cf (.ref E) t=ab ao)
 (X: ∀C,l9 q C z E O (I++ [t]) ((t,T)::s)→Q [O] M C→C cn=ab o→cn≠O→q cn=ao→x .none C):mj cf t (.val (.ref z)) T (M.set cn o) x bx:=by
 obtain⟨B,N,g,A⟩:=N
 have v:=Hj g v
 exact N.av U v (Hl g h) (i.ok R) fun C H k=>X C ⟨_,H,by rw [fh,g];rfl,Hm v A⟩ k
inductive jP (kvs:List (PySem.Str×D)) (o:PySem.Str) (Lg cE Tl Op St:a0) (pk:D):Prop
 | mk (h1:cL kvs "order" =ab (.str o)) (h2:cL kvs "log" =ab (.val (.ref Lg))) (h3:cL kvs "replies" =ab (.val (.ref cE))) (h4:cL kvs "tools" =ab (.val (.ref Tl))) (h5:cL kvs "ops" =ab (.val (.ref Op))) (h6:cL kvs "sets" =ab (.val (.ref St))) (h7:cL kvs "packet" =ab pk) (h8:cL kvs "now" =ab (.int 0))
inductive Es (μ μ':J) (dx:a0) (kvs:List (PySem.Str×D)) (Lg cE Tl Op St:a0) (pk:D):Prop
 | mk (of:jP kvs "little" Lg cE Tl Op St pk) (len:kvs.length≤30) (lg:μ' Lg=ab (.list [])) (lg0:μ Lg=ao) (rp:μ' cE=ab (.list [])) (rp0:μ cE=ao) (tl:μ' Tl=ab (.dict [])) (tl0:μ Tl=ao) (tl1:Tl≠dx) (st:μ' St=ab (.dict [])) (st0:μ St=ao) (st1:St≠dx) (ne:Tl≠St) (ne1:Lg≠cE)
theorem mT(Q: ∀nJ ∈ oO,cL s nJ.1=ab nJ.2)(J:Nat)(X:oO[J]? =ab nJ):cL s nJ.1=ab nJ.2:=Q _ (uQ X)
inductive FJ:List D→J→KK→KK→Prop
 | mk (μ:J) (K E:KK) (x dx pk f:_) (h1:fc μ μ x 407 dx []) (h2: ∀kvs Lg cE Tl Op St μ',fc μ μ' x 407 dx kvs→Es μ μ' dx kvs Lg cE Tl Op St pk→K .none μ'):FJ [.val (.ref x),pk,f] μ K E
theorem V5(p:cA w u)(v:0 < A):ie G w u (A+1) (.ref 404) FJ:=
 (Y2 G p v).mono fun b B x O X=>by
  refine X.rec fun B x O S h d t N X=>?_
  refine ek rfl ?_
  dsimp
  have N:=l9.start N
  refine N.put (iB w) rfl (by kernel_rfl) (by kernel_rfl) fun C N F=>?_
  (refine bb ?_;dsimp)
  refine N.put (iB w) rfl (by kernel_rfl) (by kernel_rfl) fun C N F=>?_
  (refine bb ?_;dsimp)
  refine N.put (iB w) rfl (by kernel_rfl) (by kernel_rfl) fun C N F=>?_
  (refine bb ?_;dsimp)
  refine N.put (iB w) rfl (by kernel_rfl) (by kernel_rfl) fun C N F=>?_
  (refine bb ?_;dsimp)
  refine N.put (iB w) rfl (by kernel_rfl) (by kernel_rfl) fun C N F=>?_
  (refine bb ?_;dsimp)
  refine N.put (iB w) rfl (by kernel_rfl) (by kernel_rfl) fun C N F=>?_
  (refine bb ?_;dsimp)
  refine N.put (iB w) rfl (by kernel_rfl) (by kernel_rfl) fun C N F=>?_
  (refine bb ?_;dsimp)
  intro St E
  refine N.av E (iB w) rfl (by kernel_rfl) (by kernel_rfl) fun C N F b8 R ca=>?_
  (refine bb ?_;dsimp)
  intro ch c
  refine N.av c (iB w) rfl (by kernel_rfl) (by kernel_rfl) fun L N l F F F=>?_
  (refine bb ?_;dsimp)
  refine N.put (iB w) rfl (by kernel_rfl) (by kernel_rfl) fun ck N Z=>?_
  (refine bb ?_;dsimp)
  intro I ap
  refine N.av ap (iB w) rfl (by kernel_rfl) (by kernel_rfl) fun cm N j F F F=>?_
  (refine bb ?_;dsimp)
  intro ci i
  refine N.av i (iB w) rfl (by kernel_rfl) (by kernel_rfl) fun U N m F F F=>?_
  (refine bb ?_;dsimp)
  intro K an
  refine N.av an (iB w) rfl (by kernel_rfl) (by kernel_rfl) fun f N y F F F=>?_
  (refine bb ?_;dsimp)
  intro W J
  have al:=((((l.trans Z).trans j).trans m).trans y) _ _ (eb R) b8
  have bv:W≠St:=fun P=>by subst P;have n:=al.symm.trans J;contradiction
  refine N.av J (iB w) rfl (by kernel_rfl) (by kernel_rfl) fun cn N bd cb am ce=>?_
  (refine bb ?_;dsimp)
  refine N.put (iB w) rfl (by kernel_rfl) (by kernel_rfl) fun o N be=>?_
  (refine bb ?_;dsimp)
  refine⟨eA _,fun T M=>?_⟩
  refine N.av M (iB w) rfl (by kernel_rfl) (by kernel_rfl) fun Y N H q bm bn=>?_
  (refine bb ?_;dsimp)
  refine⟨eA _,fun cE e=>?_⟩
  have bu:T≠cE:=fun P=>by subst P;have n:=q.symm.trans e;contradiction
  refine N.av e (iB w) rfl (by kernel_rfl) (by kernel_rfl) fun co N ac bx b5 b6=>?_
  (refine bb ?_;dsimp)
  refine N.put (iB w) rfl (by kernel_rfl) (by kernel_rfl) fun cp N k=>?_
  (refine bb ?_;dsimp)
  intro cj D
  refine N.av D (iB w) rfl (by kernel_rfl) (by kernel_rfl) fun cf N a F F F=>?_
  have z:=(((be.trans H).trans ac).trans k).trans a
  have bi:=(ac.trans k).trans a
  have bk:=k.trans a
  have r:=bd.trans z
  obtain⟨s,N,g,Q⟩:=N
  have V:s.length≤30:=by
   have:=congrArg sd g
   rw [dP] at this
   rw [this];exact b9 rfl
  exact bb (X s T cE W K St cf N ⟨⟨mT Q 4 rfl,mT Q 3 rfl,mT Q 2 rfl,mT Q 5 rfl,mT Q 6 rfl,mT Q 11 rfl,mT Q 18 rfl,mT Q 17 rfl⟩,
   V,bi _ _ (eb bm) q,bn,bk _ _ (eb b5) bx,b6,z _ _ (eb am) cb,ce,am,r _ _ (eb R) al,ca,R,bv,bu⟩)
end
end
section
set_option simprocs false
section
inductive ED:List D→J→KK→KK→Prop
 | mk (μ:J) (K E:KK) (pk f:_) (h1: ∀sc dx kvs Lg cE Tl Op St μ',μ sc=ao→μ dx=ao→Q [] μ μ'→InstAt μ' sc 407 dx kvs→Es μ μ' dx kvs Lg cE Tl Op St pk→K (.val (.ref sc)) μ'):ED [pk,f] μ K E
theorem vS(p:cA w u):cK G w u 4 (.ref 407) ED:=
 cK.of (pG (w:=w) p.k (C:=407) rfl) fun I v=>by
  refine dg (pT v) fun y Q V=>?_;subst Q
  refine(t5 p.k (f:=404) ⟨rfl,rfl,rfl⟩ (V5 (G:=G) p (cp V rfl))).mono fun b B x O X=>?_
  refine X.rec fun B x O d t X=>?_
  intro S h i E R
  refine⟨_,_,_,S,h,d,t,pR R,fun s T cE W K St e N J=>⟨rfl,X S h s T cE W K St e i E (pL i E N.k) N.at ?_⟩⟩
  obtain⟨H,g,L,j,P,D,M,r,Y,st,F,a,R,A⟩:=J
  exact⟨H,g,L,mm j,P,mm D,M,mm r,Y,st,mm F,a,R,A⟩
noncomputable def lH:List (PySem.Str×D):= [("mark",.int 0),("priority",.int 0),("iif",.int 0),("oif",.int 0),("iifname",.int 0),("oifname",.int 0),("pkttype",.int 0),("iiftype",.int 1),("oiftype",.int 1)]
theorem p5 {k:PySem.Str}(X:q z=ab (.dict s))(h:s.length≤900)(S:x .none (q.set z (.dict (ep s k T)))):m5 (.val (.ref z)) (.str k) T q x bx:=Jh X h S
theorem w9 {k:PySem.Str}(v:s.any (fun p=>p.1 == k)=false)(h:nP s.length 900=true)(S:x .none (q.set z (.dict (s++ [(k,T)])))):m5 (.val (.ref z)) (.str k) T (q.set z (.dict s)) x bx:=
 p5 (J.aa ..) (b9 h) (by rw [J.set_set,wB v];exact S)
inductive Fg:List D→J→KK→KK→Prop
 | mk (μ:J) (K E:KK) (h1: ∀z,μ z=ao→K (.val (.ref z)) (μ.set z (.dict lH))):Fg [] μ K E
theorem Pj(p:cA w u):cK G w u 2 (.ref 361) Fg:=
 cK.of (p.af (by kernel_rfl)) fun I v=>(ZF G p v).mono fun b B x O X=>by
  refine X.rec fun B x O X=>?_
  refine ek rfl ?_
  dsimp
  intro d U
  (refine bb ?_;dsimp)
  refine⟨b9 rfl,?_⟩
  rw [eS]
  dsimp
  refine w9 rfl rfl ?_
  iterate 6
   refine⟨trivial,?_⟩
   rw [eS]
   dsimp
   refine w9 (by kernel_rfl) rfl ?_
  refine⟨trivial,?_⟩
  rw [eS]
  (refine bb ?_;dsimp)
  refine w9 (by kernel_rfl) rfl ?_
  (refine bb ?_;dsimp)
  refine w9 (by kernel_rfl) rfl ?_
  (refine bb ?_;dsimp)
  exact X d U
inductive FE:List D→J→KK→KK→Prop
 | mk (μ:J) (K E:KK) (x dx:_) (h1:fc μ μ x 378 dx []) (h2: ∀kvs M μ',fc μ μ' x 378 dx kvs→cL kvs "meta" =ab (.val (.ref M))→μ' M=ab (.dict lH)→M≠dx→μ M=ao→K .none μ'):FE [.val (.ref x),.bytes [],.int 2048,.bytes []] μ K E
theorem V0(p:cA w u)(v:1 < A):ke G w u (A+1) (.ref 375) FE:=
 (YT G p (cp v rfl)).mono fun b B x O X=>by
  refine X.rec fun B x O S h N X=>?_
  refine ek rfl ?_
  dsimp
  have N:=l9.start N
  refine mg Ak (cp v rfl) ⟨by decide,fun E W=>?_⟩
  refine N.av W (pD w) rfl (by kernel_rfl) (by kernel_rfl) fun C N F F F F=>?_
  (refine bb ?_;dsimp)
  refine mg Ak (cp v rfl) ⟨by decide,fun I K=>?_⟩
  refine N.av K (pD w) rfl (by kernel_rfl) (by kernel_rfl) fun L N F F F F=>?_
  (refine bb ?_;dsimp)
  refine N.put (pD w) rfl (by kernel_rfl) (by kernel_rfl) fun t N F=>?_
  (refine bb ?_;dsimp)
  refine N.put (pD w) rfl (by kernel_rfl) (by kernel_rfl) fun M N F=>?_
  (refine bb ?_;dsimp)
  refine N.put (pD w) rfl (by kernel_rfl) (by kernel_rfl) fun U N F=>?_
  (refine bb ?_;dsimp)
  refine N.put (pD w) rfl (by kernel_rfl) (by kernel_rfl) fun f N F=>?_
  (refine bb ?_;dsimp)
  refine et (Pj p) (cp v rfl) ⟨_,_,_,fun H y=>?_⟩
  refine N.av y (pD w) rfl (by kernel_rfl) (by kernel_rfl) fun D N F k n J=>?_
  obtain⟨s,N,g,Q⟩:=N
  exact bb (X s H D N (mT Q 0 rfl) k n J)
inductive Ex:List D→J→KK→KK→Prop
 | mk (μ:J) (K E:KK) (h1: ∀pk dx kvs M μ',μ pk=ao→μ dx=ao→Q [] μ μ'→InstAt μ' pk 378 dx kvs→cL kvs "meta" =ab (.val (.ref M))→μ' M=ab (.dict lH)→M≠dx→μ M=ao→K (.val (.ref pk)) μ'):Ex [.bytes [],.int 2048,.bytes []] μ K E
theorem O0(p:cA w u):fq G w u 5 (.ref 378) Ex:=
 fq.of (pG (w:=w) p.k (C:=378) rfl) fun I v=>by
  refine dg (pT v) fun y Q V=>?_;subst Q
  refine(JV p.k (f:=375) ⟨rfl,rfl,rfl⟩ (V0 (G:=G) p (cp V rfl))).mono fun b B x O X=>?_
  refine X.rec fun B x O X=>?_
  intro S h i E R
  exact⟨_,_,_,S,h,pR R,fun s H e N A k n J=>⟨rfl,X S h s H e i E (pL i E N.k) N.at A k n (mm J)⟩⟩
end
end
section
set_option simprocs false
section
noncomputable def BQ:cB:=
 d (v 11 (h (b (.val (.ref 350))) (a (b (.int 1)) (a (p (j)) (j))))) (d (dN "rows" (dD "rows" (c 5)) (c 11)) (d (dN "sets" (dD "sets" (c 5)) (c 11)) (d (cQ (p (a (c 6) (a (dD "rows" (c 5)) (a (iT (b (.val (.ref 467))) (a (c 9) (a (c 11) (j)))) (a (dD "log" (c 9)) (j))))))) (l))))
inductive Oc (μ:J) (r L S W sc pk Lg gf:a0) (o:PySem.Str) (look:PySem.Str→List ck→Prop) (mk:PySem.Str→Int→Prop) (rp whys rows:List D) (lss:List (List ck)):Prop
 | mk (Tl Op St M pdx:a0) (pkv mt tl st:List (PySem.Str×D)) (ord:o= "big" ∨o= "little") (row:eD μ o r L S rows lss) (why:μ W=ab (.list whys)) (a1:fj μ sc o Lg gf Tl Op St (.val (.ref pk))) (a2:μ pk=ab (.inst 378 pdx)) (a3:μ pdx=ab (.dict pkv)) (a4:cL pkv "meta" =ab (.val (.ref M))) (a5:μ M=ab (.dict mt)) (a6: ∀key x,mk key x→cL mt key=ab (.int x))
  (a7:μ Tl=ab (.dict tl)) (a8:cL tl "nat" =ab (.val (.ref 742))) (a9:μ Op=ab (.dict wY)) (a10:μ St=ab (.dict st)) (a11: ∀x ls,look x ls→ ∀sets,μ S=ab (.dict sets)→pz μ sets st x ls) (log:μ Lg=ab (.list [])) (hrp:fL (μ gf)=ab rp) (ne1:gf≠Lg) (ne2:L≠Lg) (ne3:W≠Lg)
theorem Q.old(k:Q [z] M eo)(t:q z=ao)(N:Q U q M):Q U q eo:=fun R a I Z=>k R a (eb (J.ne Z t)) (N R a I Z)
theorem Pu(p:cA w u)(v:9≤A) {o:PySem.Str}
 (N:Q [] q M)(b:Oc M z E O cn cS c9 dz eX o eU e7 n y (fE.map cH.d) eO)(t:q dz=ao)(cb:Run o eU e7 n fE (iu 64 0) [] g7 T)
 (f: ∀e,Q [] q e→e cn=ab (.list y)→e E=ab (.list (fE.map cH.d))→e dz=ab (.list g7)→x (.tup [.val (.ref cn),.val (.ref E),T,.val (.ref dz)]) e):
 BQ ⟨G,w,u,A⟩ [c3,dW,dk,dX,dU,ab (.val (.ref z)),ab (.val (.ref cn)),dO,ab (.val (.ref c9)),ab (.val (.ref cS)),eT,gH] M (fun F e=>x .none e) x (fun F=>bx):=by
 obtain⟨W,K,St,H,R,a,ce,co,st,ci,g,m,c,B,J,bm,bn,bu,bv,b5,b6,bk,k,an,ca,cf,ap,ch⟩:=b
 unfold BQ
 dsimp
 refine⟨(Ge (G:=G) p).ok,eA _,dA (Ge p) (cp v rfl) ⟨_,_,_,fun ac cj cs I C cq al Y be=>?_⟩⟩
 (refine bb ?_;dsimp)
 refine(g.keep0 Y).row.rows ?_
 refine be.bN.attr (b9 rfl) ⟨rfl,rfl,rfl,rfl,rfl⟩ fun cw bi l=>?_
 have am:=l.old al Y
 (refine bb ?_;dsimp)
 refine(g.keep0 am).row.sets ?_
 refine bi.attr (cg pM (b9 rfl)) ⟨rfl,rfl,rfl,rfl,rfl⟩ fun bd s Z=>?_
 have D:=Z.old al am
 have X:=g.keep0 D
 (refine bb ?_;dsimp)
 refine X.row.rows ?_
 refine dg X.sets fun i U d=>?_
 refine dg g.sets fun cr r F=>?_
 have V:=cV D r
 rw [U] at V
 cases V
 have ck:lz bd ac E O:=⟨cj,_,s.hx,s.hd,fk kP (by kernel_rfl),kP⟩
 have cm:jB bd cS ac dz E o eU e7 n (fE.map cH.d) []:=
  ⟨eX,W,K,St,O,c9,R,H,i,st,a,ce,co,ci,c.keep D.h,cV D B,cV D J,bm,cV D bn,bu,cV D bv,b5,cV D b6,cV D bk,ck,U,fun S L P=>(k S L P _ r).keep D.h,m7 ca D nofun,cf,X.list,cV D an,ap⟩
 refine mg (Pr p eU e7 n) v ⟨_,_,_,cS,ac,dz,E,o,fE,[],g7,T,cm,cb,fun h j b8=>?_⟩
 refine((c.keep D.h).keep (j.lh (cV D an))).log ⟨b9 rfl,?_⟩
 exact f h (j.old t (N.trans D)) (j _ _ (eb ch) (cV D m)) (j _ _ (eb ap) X.list) b8
end
end
variable {cJ:PySem.Str→List ck}
section
set_option simprocs false
section
noncomputable def BJ:cB:=(d (hJ (h (b (.val (.ref 728))) (a (f (c 1) (c 10)) (j))) (dD "sets" (c 9)) (c 10)) (l))
noncomputable def Kp:cB:=
 d (v 8 (iT (b (.val (.ref 378))) (a (b (.bytes (se gs []))) (a (b (.int 2048)) (a (b (.bytes (se gs []))) (j)))))) (d (hJ (f (c 2) (b (.str "mark"))) (dD "meta" (c 8)) (b (.str "mark"))) (d (hJ (f (c 2) (b (.str "priority"))) (dD "meta" (c 8)) (b (.str "priority"))) (d (v 9 (h (b (.val (.ref 407))) (a (c 8) (a (gb []) (j))))) (d (dN "order" (c 4) (c 9)) (d (dN "ops" (gb [("immediate",b (.val (.ref 488))),("meta",b (.val (.ref 502))),("map",b (.val (.ref 516))),("nat",b (.val (.ref 537)))]) (c 9)) (d (hJ (b (.val (.ref 742))) (dD "tools" (c 9)) (b (.str "nat"))) (d (dN "replies" (c 3) (c 9)) (d (gk (e6 10) (gS (dj (a (b (.str "m4")) (a (b (.str "p4")) (a (b (.str "m6")) (a (b (.str "p6")) (j))))))) (BJ)) (BQ)))))))))
noncomputable def eW:List PySem.Str:= ["m4","p4","m6","p6"]
structure kb (μ:J) (Nm:a0) (lits:PySem.Str→List ck):Prop where
 at': ∃nm,μ Nm=ab (.dict nm)∧ ∀x ∈ eW,∃a,cL nm x=ab (.val (.ref a))∧μ a=ab (.list ((lits x).map ck.d))
 ok: ∀x ∈ eW,(lits x).length≤50∧((lits x).map ck.k).Nodup
theorem kb.keep(X:kb q z cJ)(k:Q [] q M):kb M z cJ:=by
 obtain⟨⟨nm,W,K⟩,c⟩:=X
 exact⟨⟨nm,cV k W,fun S i=>by refine dg (K S i) fun R A J=>?_;exact⟨R,A,cV k J⟩⟩,c⟩
inductive lr (μ:J) (Mk:a0) (a b:Int):Prop
 | mk (m:List (PySem.Str×D)) (h1:μ Mk=ab (.dict m)) (h2:cL m "mark" =ab (.int a)) (h3:cL m "priority" =ab (.int b))
theorem lr.keep(X:lr q z B bk)(k:Q [] q M):lr M z B bk:=by
 obtain⟨y,W,K,C⟩:=X;exact⟨y,cV k W,K,C⟩
def tE (R f:Int) (X:PySem.Str) (S:Int):Prop:=(X= "mark" ∧S=R)∨(X= "priority" ∧S=f)
def tC (W:List (List ck)) (A:PySem.Str→List ck) (S:PySem.Str) (L:List ck):Prop:=(∃J,S=hc J∧W[J]? =ab L)∨(S ∈ eW∧L=A S)
theorem T5: ∀S ∈ eW,∀J < 8,S≠hc J:=by decide+kernel
theorem Ik:eW.Nodup:=by decide+kernel
inductive zJ (μ:J) (St:a0) (st:List (PySem.Str×D)) (lits:PySem.Str→List ck) (x:PySem.Str):Prop
 | mk (a T:a0) (q1:cL st x=ab (.val (.ref a))) (q2:gX (μ.del [St]) a T (lits x))
noncomputable def A4 (E:Option D) (A N G j B d q:a0) (o:PySem.Str) (y F C:Option D):Loc:= [E,ab (.val (.ref A)),ab (.val (.ref N)),ab (.val (.ref G)),ab (.str o),ab (.val (.ref j)),ab (.val (.ref B)),y,ab (.val (.ref d)),ab (.val (.ref q)),F,C]
inductive Oe (d0:Option D) (Nm Mk gf r W pk sc:a0) (o:PySem.Str) (o7 o11:Option D) (μ μs:J) (St:a0) (lits:PySem.Str→List ck) (rs:List D) (ρ:Loc) (μ1:J):Prop
 | mk (done rest:List PySem.Str) (o10:Option D) (st:List (PySem.Str×D)) (hr:rs=rest.map .str) (he:eW=done++rest) (hρ:ρ=A4 d0 Nm Mk gf r W pk sc o o7 o10 o11) (k1:Q [St] μs μ1) (k2:Q [] μ μ1) (hst:μ1 St=ab (.dict st)) (hl:st.length≤done.length) (hdone: ∀x ∈ done,zJ μ1 St st lits x)
theorem InstAt.aT(N:InstAt q z E O s)(k:Q [cn] q M)(X:q cn=ab (.dict oO))(R:cn≠O):InstAt M z E O s:=
 ⟨k _ _ (eb fun P=>by subst P;have:=N.1;rw [X] at this;cases this) N.1,k _ _ (eb R.symm) N.2.1,N.2.2⟩
theorem GV(a:eW=I++iI):I.length≤4:=by
 have:=congrArg sd a
 rw [dR] at this
 exact cg (j6 ..) (iW this.symm)
theorem Yt(p:cA w u)(v:9≤A) {o:PySem.Str}
 (g:kb q z cJ)(b5:cL s "sets" =ab (.val (.ref fC)))(m:InstAt M dz 407 eX s)(bn:q fC=ao)(V:fC≠eX)(U:M fC=ab (.dict []))(c:M j1=ab (.list (eW.map .str)))
 (bx: ∀st e F,Q [fC] M e→Q [] q e→e fC=ab (.dict st)→(∀S ∈ eW,zJ e fC st cJ S)→cR (A4 c3 z E O cn cS c9 dz o dW F dk) e):
 ∀ap Y C,Oe c3 z E O cn cS c9 dz o dW dk q M fC cJ ap Y C→eS (e6 10) (BJ ⟨G,w,u,A⟩) (ab j1) (eW.map .str) cR x ap Y C:=by
 have b6:j1≠fC:=fun P=>by subst P;rw [U] at c;cases c
 refine jq _ (fun Y C X=>?_) (fun T ap Y C n X d=>?_)
 ·obtain⟨done,al,F,st,t,a,rfl,ac,l,am,h,N⟩:=X
  cases al with
  | cons=>contradiction
  | nil=>rw [fI] at a;subst a;exact bx st C F ac l am N
 ·obtain⟨done,al,F,st,t,a,rfl,ac,l,am,h,N⟩:=X
  cases al with
  | nil=>contradiction
  | cons S al=>
   cases t
   have an:S ∈ eW:=by rw [a];exact yi _ er
   obtain⟨⟨nm,W,K⟩,bd⟩:=g.keep l
   refine dg (K S an) fun R bk bm=>?_
   delta BJ A4
   dsimp
   refine⟨(vX (G:=G) p).ok,rn W bk (dA (vX p) (cp v rfl) ⟨_,_,_,_,cJ S,.inr ⟨R,rfl,bm⟩,(bd S an).1,(bd S an).2,fun f y L H Z bu=>?_⟩)⟩
   have bb:=m.aT (ac.trans (keep0 Z)) U V
   refine gx bb.1 bb.2.1 b5 ⟨rfl,rfl,rfl,rfl,rfl⟩ (p5 (cV Z am) (cg h (cg (GV a) (by decide))) ?_) rfl
   have bv:gX (L.del [fC]) f y (cJ S):=bu.keep (Ih fun i b P=>by rw [gW.mp b,am] at P;contradiction).h
   have be:Q [fC] C (L.set fC (.dict (ep st S (.val (.ref f))))):=jF Z
   have B:Q [] (L.del [fC]) ((L.set fC (.dict (ep st S (.val (.ref f))))).del [fC]):=z8 (jF (Q.refl L))
   have b8:S ∉ done:=fun P=>by
    have:=Ik
    rw [a] at this
    exact(uR.mp this).2.2 _ P _ er rfl
   refine d _ _ ⟨done++ [S],al,_,_,rfl,by rw [a,fH];rfl,rfl,ac.trans be,(l.trans Z).set bn,J.aa ..,?_,fun ca D=>?_⟩ ((lQ c).keep (ac.trans be) (fun r P=>by obtain rfl:=c4 P;exact eb b6))
   ·rw [dR]
    exact cg pM (kE h)
   ·rcases j5.mp D with D | D
    ·obtain⟨I,bi,k,j⟩:=N ca D
     exact⟨I,bi,vI.trans ((if_neg fun P=>b8 (by rw [P];exact D)).trans k),(j.keep (z8 (keep0 Z:Q [fC] C L)).h).keep B.h⟩
    ·rw [gW.mp D]
     exact⟨f,y,kP,bv.keep B.h⟩
theorem jP.put3 {o o':PySem.Str} {Op' Rp':a0}(X:jP s o z E O cn cS T):jP (ep (ep (ep s "order" (.str o')) "ops" (.val (.ref Op'))) "replies" (.val (.ref Rp'))) o' z Rp' O Op' cS T:=by
 obtain⟨W,K,C,n,e,f,V,i⟩:=X
 exact⟨fk (fk kP (by kernel_rfl)) (by kernel_rfl),fk (fk (fk K (by kernel_rfl)) (by kernel_rfl)) (by kernel_rfl),kP,fk (fk (fk n (by kernel_rfl)) (by kernel_rfl)) (by kernel_rfl),fk kP (by kernel_rfl),fk (fk (fk f (by kernel_rfl)) (by kernel_rfl)) (by kernel_rfl),fk (fk (fk V (by kernel_rfl)) (by kernel_rfl)) (by kernel_rfl),fk (fk (fk i (by kernel_rfl)) (by kernel_rfl)) (by kernel_rfl)⟩
theorem jP.at {o:PySem.Str}(X:jP s o O cn cS c9 dz T)(N:InstAt q z 407 E s):fj q z o O cn cS c9 dz T:=by
 obtain⟨W,K,C,n,e,f,V,i⟩:=X
 exact⟨E,s,N.1,N.2.1,W,K,C,n,e,f,V,i⟩
theorem jP.ba {o:PySem.Str}(X:jP s o z E O cn cS T):cL s "tools" =ab (.val (.ref O)):=by cases X;assumption
theorem jP.sets {o:PySem.Str}(X:jP s o z E O cn cS T):cL s "sets" =ab (.val (.ref cS)):=by cases X;assumption
theorem J.diff {s:dE}(X:q z=ab my)(L:q E=ab s)(I:my≠s):z≠E:=fun P=>by subst P;obtain rfl:=c4 (X.symm.trans L);exact I rfl
theorem TL(X:tE B bk t ew):cL (ep (ep lH "mark" (.int B)) "priority" (.int bk)) t=ab (.int ew):=by
 rcases X with ⟨rfl,rfl⟩ | ⟨rfl,rfl⟩
 ·exact fk kP (by kernel_rfl)
 ·exact kP
theorem Tq(d:md q z E oO eO)(A:eO.length≤8)(N: ∀t ∈ eW,zJ q O s cJ t)(X:tC eO cJ t dm):pz q oO s t dm:=by
 rcases X with ⟨J,rfl,K⟩ | ⟨i,rfl⟩
 ·refine nz (d.at' J dm K) fun R y k j=>?_
  exact .inl ⟨R,y,k,j.keep GI.h⟩
 ·obtain⟨R,y,k,j⟩:=N t i
  refine .inr ⟨R,y,vJ (uN.mpr fun c l P=>?_),k,j.keep GI.h⟩
  obtain⟨J,K,rfl⟩:=LC l
  have:=d.keys J _ (gV K)
  rw [beq_iff_eq,this] at P
  have V:=d.len
  exact T5 t i J (by lia) P.symm
theorem Pt(p:cA w u)(v:9≤A) {o:PySem.Str}
 (N:Q [] q M)(D:o= "big" ∨o= "little")(cR:eD M o z E O (fE.map cH.d) eO)(dm:eO.length≤8)(cY:M cn=ab (.list y))(g:kb M cS cJ)(db:lr M c9 B bk)(I:fL (M dz)=ab n)
 (dr:Run o (tC eO cJ) (tE B bk) n fE (iu 64 0) [] g7 T)
 (f: ∀ap e,Q [] q e→e cn=ab (.list y)→e E=ab (.list (fE.map cH.d))→e ap=ab (.list g7)→x (.tup [.val (.ref cn),.val (.ref E),T,.val (.ref ap)]) e):
 Kp ⟨G,w,u,A⟩ [c3,ab (.val (.ref cS)),ab (.val (.ref c9)),ab (.val (.ref dz)),ab (.str o),ab (.val (.ref z)),ab (.val (.ref cn)),dW,dk,dX,dU,dO] M (fun F e=>x .none e) x (fun F=>bx):=by
 unfold Kp
 dsimp
 refine mg (O0 p) (cp v rfl) ⟨_,_,_,fun d9 dJ dK H C dV dT Y an c k cQ ck=>?_⟩
 obtain⟨d4,cF,dp,dq⟩:=db
 (refine bb ?_;dsimp)
 refine rn (cV Y cF) dp (gx an.1 an.2.1 c ⟨rfl,rfl,rfl,rfl,rfl⟩ (p5 k (b9 rfl) ?_) rfl)
 have l:Q [] M (C.set H (.dict (ep lH "mark" (.int B)))):=Y.set ck
 have ch:=an.aT (jF (Q.refl C):Q [H] C (C.set H (.dict (ep lH "mark" (.int B))))) k cQ
 (refine bb ?_;dsimp)
 refine rn (cV l cF) dq (gx ch.1 ch.2.1 c ⟨rfl,rfl,rfl,rfl,rfl⟩ (p5 (J.aa ..) (cg pM (b9 rfl)) ?_) rfl)
 rw [J.set_set]
 have cI:Q [] M (C.set H (.dict (ep (ep lH "mark" (.int B)) "priority" (.int bk)))):=Y.set ck
 have ci:=an.aT (jF (Q.refl C):Q [H] C (C.set H (.dict (ep (ep lH "mark" (.int B)) "priority" (.int bk))))) k cQ
 have dc:(C.set H (.dict (ep (ep lH "mark" (.int B)) "priority" (.int bk)))) H=ab (.dict (ep (ep lH "mark" (.int B)) "priority" (.int bk))):=J.aa ..
 generalize (C.set H (.dict (ep (ep lH "mark" (.int B)) "priority" (.int bk))))=t at *
 (refine bb ?_;dsimp)
 refine⟨(vS (G:=G) p).ok,fun cZ du=>?_⟩
 have j:Q [] t (t.set cZ (.dict [])):=Q.new du
 generalize (t.set cZ (.dict []))=dS at *
 refine dA (vS p) (cp v rfl) ⟨_,_,_,_,_,fun ec cU ce ap cE W K St U dY c8 m cj c7=>?_⟩
 have dw:=j.trans m
 have cN:Q [] M dS:=cI.trans j
 obtain⟨cr,V,bu,da,d1,d2,cD,dg,bi,df,cB,ca,cC,dZ⟩:=c7
 have bd:=cN.none da (by simp)
 (refine bb ?_;dsimp)
 have dC:ce.length≤900:=cg V (by decide)
 refine cj.bN.attr dC ⟨rfl,rfl,rfl,rfl,rfl⟩ fun ef c2 cL=>?_
 (refine bb ?_;dsimp)
 intro bm cG
 have cP:(ep ce "order" (.str o)).length≤31:=cg pM (kE V)
 refine c2.aE cG (cg cP (by decide)) ⟨rfl,rfl,rfl,rfl,rfl⟩ fun s bn cM dG dH d6=>?_
 have dB:(ep (ep ce "order" (.str o)) "ops" (.val (.ref bm))).length≤32:=cg pM (kE cP)
 have cW:=cL _ _ (eb bi) cD
 have cX:=cM _ _ (eb bi) cW
 have dD:bm≠W:=(J.ne cW cG).symm
 have b8:Q [W] s (s.set W (.dict [("nat",.val (.ref 742))])):=jF (Q.refl s)
 (refine bb ?_;dsimp)
 refine gx bn.hx bn.hd (d:= .val (.ref W)) (fk (fk cr.ba (by kernel_rfl)) (by kernel_rfl)) ⟨rfl,rfl,rfl,rfl,rfl⟩ (p5 cX (eA _) ?_) rfl
 rw [wB rfl]
 show ih _ _ _ _ _ (s.set W (.dict [("nat",.val (.ref 742))]))
 have dy:Q [cU,W] U (s.set W (.dict [("nat",.val (.ref 742))])):=((jT cL).trans (jT cM)).trans (HW b8)
 have dI:=b8 _ _ (eb dD) dG
 have dM:(s.set W (.dict [("nat",.val (.ref 742))])) W=ab (.dict [("nat",.val (.ref 742))]):=J.aa ..
 have c5:=bn.at.aT b8 cX bi
 generalize (s.set W (.dict [("nat",.val (.ref 742))]))=eg at *
 (refine bb ?_;dsimp)
 refine c5.bN.attr (cg dB (by decide)) ⟨rfl,rfl,rfl,rfl,rfl⟩ fun ac c6 b6=>?_
 (refine bb ?_;dsimp)
 refine⟨b9 rfl,fun i co=>?_⟩
 have cf:=(c6.new (o:= .list (eW.map .str)) co).at
 have bv:Q [] ac (ac.set i (.list (eW.map .str))):=Q.new co
 have cq:(ac.set i (.list (eW.map .str))) i=ab (.list (eW.map .str)):=J.aa ..
 show(match fL ((ac.set i (.list (eW.map .str))) i) with
  | some b=>eS (e6 10) _ (ab i) b _ _ b _ (ac.set i (.list (eW.map .str)))
  | none=>False)
 generalize (ac.set i (.list (eW.map .str)))=c0 at *
 rw [cq]
 show eS _ _ _ (eW.map .str) _ _ (eW.map .str) _ _
 have b5:Q [cU,W] U c0:=(dy.trans (jT b6)).trans (keep0 bv)
 have cK:Q [] t c0:=fun R a F Z=>b5 R a (lJ (J.ne (cV j Z) c8) (J.ne (cV j Z) dg)) (cV dw Z)
 have r:=cI.trans cK
 have al:=b5 _ _ (lJ ca cC.symm) df
 have cm:=b5 _ _ (lJ (J.diff bu cj.2.1 nofun) (J.diff bu cD nofun)) bu
 have dh:=cV bv (b6 _ _ (eb bi) dM)
 have cw:=cV bv (b6 _ _ (eb dH) dI)
 have cs:=cr.put3 (o':=o) (Op':=bm) (Rp':=dz)
 refine Yt p v g cs.sets cf (cN.none cB (by simp)) ca al cq (fun st e dU am be dt dj=>?_) _ _ _ ⟨[],eW,dU,[],rfl,rfl,rfl,Q.refl _,r,al,d5 _,nofun⟩
 have cb: ∀ {R:a0} {a:dE},t R=ab a→e R=ab a:=fun Z=>am _ _ (eb (J.ne (cV j Z) cB)) (cV cK Z)
 have cz:=cR.keep0 be
 refine cz.sets.elim fun ee dN=>?_
 refine dN.elim fun dL de=>?_
 exact bb (Pu p v (N.trans be) ⟨W,bm,St,H,dJ,dK,_,_,st,D,cz,cV be cY,cs.at (cf.aT am al ca),cb ci.1,cb ci.2.1,c,cb dc,fun d3 S X=>TL X,am _ _ (eb cC) dh,rfl,am _ _ (eb (J.diff cw al nofun)) cw,dt,fun S L h ed Z=>(by rw [dL] at Z;cases Z;exact Tq de dm dj h),am _ _ (eb (J.diff cm al nofun)) cm,m7 I be nofun,fun P=>(by subst P;rw [bd] at I;contradiction),J.ne cR.list bd,J.ne cY bd⟩ (N.none bd (by simp)) dr fun e=>f ap e)
end
end
variable {dt:List cj}
section
set_option simprocs false
section
theorem P8(k:i3 q M):i3 (q.del U) (M.del U):=fun R o X Z=>by
 unfold J.del at Z ⊢
 by_cases P:R ∈ U
 ·rw [if_pos P] at Z;contradiction
 ·rw [if_neg P] at Z ⊢;exact k R o X Z
theorem eD.aY {o:PySem.Str}(X:eD q o z E O n eO)(k:i3 q M)(Z:M E=ab (.list n)):eD M o z E O n eO:=by
 obtain⟨h,s,H,fp,W,K,C,A,e,f,V,i,B,D⟩:=X.row
 refine dg X.sets fun G l m=>?_
 exact⟨⟨h,s,H,fp,k _ _ rfl W,k _ _ rfl K,C,A,e,f,V,k _ _ rfl i,k _ _ rfl B,D⟩,Z,G,k _ _ rfl l,m.len,m.keys,fun J L P=>by
  refine nz (m.at' J L P) fun R y F j=>?_
  exact⟨R,y,F,j.keep (P8 k)⟩⟩
noncomputable def eC:List cj→List (List ck)→List PySem.Str×List cH×List (List ck)
 | [],W=>([],[],W)
 | s::j,W=>((s.rows W.length).2::(eC j (W++s.sets)).1,(s.rows W.length).1++(eC j (W++s.sets)).2.1,(eC j (W++s.sets)).2.2)
theorem w0(U:cj)(V:Nat):(U.pre V).length≤2:=by
 by_cases T:U.adr= .none
 ·refine(oF V T).2.2.2.1▸?_;exact eA _
 ·refine qa (rC V T) fun S H hd i A L J=>?_
  exact J
theorem IU(U:cj):U.aj.length≤2:=by
 by_cases P:U.aw=true∨U.ai=ao
 ·rw [(pQ P).1];exact eA _
 ·induction l:U.ai with
  | none=>exact absurd (.inr l) P
  | some f=>rw [(tF (fun X=>P (.inl X)) l).1];exact AV ..
theorem A5(U:cj)(V:Nat):(U.rows V).1.length≤20:=by
 have W:=w0 U V
 have K:=wb (U.puts++U.aj)
 have C:=AY U
 have n:=IU U
 rw [dR] at K
 induction d:U.mixed with
 | true=>rw [(tP d).1];exact eA _
 | false=>
  induction P:(emit (U.puts++U.aj)).2 with
  | true=>rw [(pZ d P).1];rw [dR,dR,C3];exact I7 W K C n (by decide)
  | false=>rw [(pY d P).1];rw [dR];exact I7 W K C n (eA 10)
theorem Jn(U:cj):U.sets.length≤1:=by
 unfold cj.sets
 cases U.mixed
 ·cases U.adr<;>exact b9 rfl
 ·exact eA _
inductive E8:List D→J→KK→KK→Prop
 | mk (μ:J) (K E:KK) (A Nm Mk gf:a0) (o:PySem.Str) (ss:List cj) (lits:PySem.Str→List ck) (ma mb:Int) (rp log':List D) (v:D) (h1:μ A=ab (.list (ss.map cj.d))) (h2:(∀s ∈ ss,s.Ok)) (h3:ss.length≤7) (h4:(o= "big" ∨o= "little")) (h5:kb μ Nm lits) (h6:lr μ Mk ma mb) (h7:fL (μ gf)=ab rp) (h8:Run o (tC (eC ss []).2.2 lits) (tE ma mb) rp (eC ss []).2.1 (iu 64 0) [] log' v) (h9: ∀W L Lg μ',Q [] μ μ'→μ' W=ab (.list ((eC ss []).1.map .str))→μ' L=ab (.list ((eC ss []).2.1.map cH.d))→μ' Lg=ab (.list log')→K (.tup [.val (.ref W),.val (.ref L),v,.val (.ref Lg)]) μ'):E8 [.val (.ref A),.val (.ref Nm),.val (.ref Mk),.val (.ref gf),.str o] μ K E
noncomputable def YH:cB:=(d (eZ (eM "append" (c 6) (a (h (b (.val (.ref 749))) (a (c 5) (a (c 7) (j)))) (j)))) (l))
noncomputable def I6 (r A N G j B:a0) (o:PySem.Str) (y:Option D):Loc:= [ab (.val (.ref r)),ab (.val (.ref A)),ab (.val (.ref N)),ab (.val (.ref G)),ab (.str o),ab (.val (.ref j)),ab (.val (.ref B)),y,ao,ao,ao,ao]
inductive Og (A Nm Mk gf r L S W:a0) (o:PySem.Str) (ss:List cj) (μ:J) (rs:List D) (ρ:Loc) (μ1:J):Prop
 | mk (done rest:List cj) (o7:Option D) (whys:List PySem.Str) (rows:List cH) (lss:List (List ck)) (hr:rs=rest.map cj.d) (he:ss=done++rest) (hρ:ρ=I6 A Nm Mk gf r W o o7) (k:Q [] μ μ1) (row:eD μ1 o r L S (rows.map cH.d) lss) (why:μ1 W=ab (.list (whys.map .str))) (l1:lss.length≤done.length) (l2:rows.length≤20 * done.length) (l3:whys.length≤done.length)
  (t1:(eC ss []).1=whys++(eC rest lss).1) (t2:(eC ss []).2.1=rows++(eC rest lss).2.1) (t3:(eC ss []).2.2=(eC rest lss).2.2)
theorem YE(p:cA w u)(v:11≤A) {o:PySem.Str}(c:q z=ab (.list (dt.map cj.d)))(ap: ∀s ∈ dt,s.Ok)(V:dt.length≤7)(f:q c9=ao)(h:q dz=ao)(r:q eX=ao)(j:eX≠c9)(bb:eX≠dz)
 (next: ∀y U,Q [] q U→eD U o cS c9 dz ((eC dt []).2.1.map cH.d) (eC dt []).2.2→(eC dt []).2.2.length≤8→U eX=ab (.list ((eC dt []).1.map .str))→cR (I6 z E O cn cS eX o y) U):
 ∀b Y C,Og z E O cn cS c9 dz eX o dt q b Y C→eS (e6 7) (YH ⟨G,w,u,A⟩) (ab z) (dt.map cj.d) cR x b Y C:=by
 refine jq _ (fun Y C X=>?_) (fun T b Y C n X d=>?_)
 ·obtain⟨done,H,y,N,K,W,t,a,rfl,k,g,m,i,D,B,I,S,M⟩:=X
  cases H with
  | cons=>contradiction
  | nil=>
   rw [fI] at a;subst a
   rw [eC,fI] at I S
   rw [eC] at M
   exact next y C k (by rw [S,M];exact g) (by rw [M];exact cg i (sj V)) (by refine I▸?_;exact m)
 ·obtain⟨done,H,y,N,K,W,t,a,rfl,k,g,m,i,D,B,I,S,M⟩:=X
  cases H with
  | nil=>contradiction
  | cons s H=>
   cases t
   have P:done.length≤6:=by rw [a,dR,lb] at V;lia
   have jU:K.length≤120:=cg D (Dd 20 P)
   dsimp
   refine jG m ?_
   dsimp
   refine et (O9 p) (cp v rfl) ⟨_,_,_,cS,o,c9,dz,K.map cH.d,W,s,g,by rw [dP];exact cg jU (by decide),kD (cg i P) (by decide),ap s (by rw [a];exact yi _ er),fun L l am=>?_⟩
   have an:=l _ _ (lJ j bb) m
   refine jD an (by rw [dP];exact cg (cg B P) (by decide)) ?_
   have e:Q [] q L:=fun R bd F Z=>l R bd (lJ (J.ne Z f) (J.ne Z h)) (cV k Z)
   have ac:Q [] q (L.set eX (.list (N.map .str++ [.str (s.rows W.length).2]))):=e.set r
   have al:Q [eX] L (L.set eX (.list (N.map .str++ [.str (s.rows W.length).2]))):=jF (Q.refl L)
   refine d _ _ ⟨done++ [s],H,ab s.d,N++ [(s.rows W.length).2],K++(s.rows W.length).1,W++s.sets,rfl,by rw [a,fH];rfl,rfl,ac,?_,?_,?_,?_,?_,?_,?_,?_⟩ ((lQ c).keep ac nofun)
   ·rw [fh]
    exact am.aY (al.lh an) (al _ _ (eb j.symm) am.list)
   ·rw [J.aa,fh];rfl
   ·rw [dR,dR];exact iV i (Jn s)
   ·rw [dR,dR];exact iV D (A5 s _)
   ·rw [dR,dR];exact iV B (d5 1)
   ·rw [I,eC,fH];rfl
   ·rw [S,eC,fH]
   ·rw [M,eC]
theorem VF {o:PySem.Str}(C:cL s "order" =ab (.str o))(n:cL s "rows" =ab (.val (.ref O)))(e:cL s "sets" =ab (.val (.ref cn)))(f:cL s "makers" =ab (.val (.ref cS)))(V:cL s "flags" =ab (.val (.ref c9)))
 (i:q z=ab (.inst 186 E))(h:q E=ab (.dict s))(N:q O=ab (.list []))(U:q cn=ab (.dict []))(S:cn≠E)(y:q cS=ab (.dict [("map",.val (.ref 735))]))(t:q c9=ab (.dict Ah)):eD q o z O cn [] []:=by
 refine⟨⟨E,_,cS,c9,i,h,C,n,e,f,V,y,t,fun R T=>?_⟩,N,[],U,rfl,fun A c P=>(nomatch P),fun A L P=>(nomatch P)⟩
 cases T with
 | head=>exact lJ (J.diff i N nofun) (J.diff i U nofun)
 | tail _ T=>cases T with
  | head=>exact lJ (J.diff h N nofun) S.symm
  | tail _ T=>cases T with
   | head=>exact lJ (J.diff y N nofun) (J.diff y U nofun)
   | tail _ T=>rw [gW.mp T];exact lJ (J.diff t N nofun) (J.diff t U nofun)
theorem Pd(p:cA w u):fq G w u 12 (.ref 756) E8:=
 fq.of (p.af (by kernel_rfl)) fun I v=>(Zx G p (cp v rfl)).mono fun b B x O X=>by
  refine X.rec fun B x O r A cr gf o z cz q cC P cB M c ca V D b8 b5 cb ce bx=>?_
  refine ek rfl ?_
  dsimp
  refine⟨(Gd (G:=G) p).ok,fun d U=>dA (Gd p) (cp v rfl) ⟨_,_,_,_,_,_,_,fun j bk g m cD cE cF C cw bu bm bn Y E ap co S=>?_⟩⟩
  have N:Q [] B (B.set d (.dict [])):=Q.new U
  have ch:=N.trans Y
  (refine bb ?_;dsimp)
  intro H b6
  refine E.bN.aE b6 (b9 rfl) ⟨rfl,rfl,rfl,rfl,rfl⟩ fun L bi l ci n F=>?_
  (refine bb ?_;dsimp)
  refine⟨b9 rfl,b9 rfl,b9 rfl,fun fp bv=>?_⟩
  refine bi.aE bv (cg pM (b9 rfl)) ⟨rfl,rfl,rfl,rfl,rfl⟩ fun t s Z K cs F=>?_
  (refine bb ?_;dsimp)
  refine⟨eA _,fun W a=>?_⟩
  have ac:Q [bk] C t:=l.trans Z
  have bd:=ac _ _ (eb (J.diff ap E.2.1 nofun)) ap
  have be:=ac _ _ (eb S) co
  have ck:=Z _ _ (eb n) ci
  have cn:=VF (fk (fk rfl (by kernel_rfl)) (by kernel_rfl)) (fk (fk rfl (by kernel_rfl)) (by kernel_rfl)) (fk (fk rfl (by kernel_rfl)) (by kernel_rfl)) (fk kP (by kernel_rfl)) kP s.hx s.hd bd be S ck K
  have al:=ac.old (N.none bu (by simp)) ch
  have an:Q [] t (t.set W (.list [])):=Q.new a
  have am:=al.trans an
  (refine bb ?_;dsimp)
  rw [cV am c]
  show eS _ _ _ (z.map cj.d) _ _ (z.map cj.d) _ _
  refine YE p v c ca V (N.none bm (by simp)) (N.none bn (by simp)) (al.none a (by simp)) (J.ne bd a).symm (J.ne be a).symm (fun y cG k cm h cq=>?_) _ _ _ ⟨[],z,ao,[],[],[],rfl,rfl,rfl,am,cn.keep0 an,J.aa ..,d5 _,d5 _,d5 _,rfl,rfl,rfl⟩
  exact bb (Pt p (cp v rfl) k D cm h cq (b8.keep k) (b5.keep k) (m7 cb k nofun) ce fun T e cf R f i=>bx W g T e cf R f i)
end
end
section
def hC (A:cO) (R:a0) (K:List Int):Prop:= ∃Q:List b7,A.IsList R Q.toArray∧ll Q K
section
theorem hC.now(m:St G w u U q L) {I:List Int}(f:hC u z I): ∃Q:List b7,L.IsList z Q.toArray∧ll Q I:=by
 obtain⟨Q,⟨o,D,b,hd⟩,K⟩:=f
 exact⟨Q,⟨o,m.top _ _ D,b,hd⟩,K⟩
def HQ (u:cO):D→D→J→KK→KK→Prop
 | .val (.ref a),.int k,B,K,_=> ∃I:List Int,hC u a I∧(0≤k∧k < 1000000)∧ ∃A,I[k.toNat]? =ab A∧K (.int A) B
 | _,_,_,_,_=>False
noncomputable def BY (u:cO):=xx (HQ u)
theorem ints_get {I:List Int}(j:ll cw I) {k:Int}(X:I[C]? =ab k): ∃V,cw[C]? =ab (.int k V):=by
 induction j generalizing C with
 | nil=>simp at X
 | cons A V j o=>induction C with
  | zero=>exact c4 X▸⟨V,rfl⟩
  | succ C=>exact o X
theorem XF(y: ∀o J,qT eu false o J=pg [o,J] (mK o J)):sZ G w u A (yv cz eu) (HQ u):=by
 intro r q U B x O M X R f p m t z g
 cases R with
 | val X=>?_
 | _=>exact False.elim g
 cases X with
 | ref S=>?_
 | _=>exact False.elim g
 cases f with
 | int k=>
  obtain rfl:=t.val_inv
  cases z
  obtain⟨I,H,⟨D,W⟩,J,K,C⟩:=g
  refine dg (H.now m) fun Q h E=>?_
  obtain⟨V,s⟩:=ints_get E K
  exact sm h.typeIs D6.lookup (Nn h D (xg W) (by simpa using s) ⟨.int J,B,C,.int _ _,b6.refl m,dM.refl U⟩) (y _ _)
 | _=>exact False.elim g
theorem Xk {S J:cT} {D:e5} {N V:W}(i:c5 G w u A H I (cy S H) N)(K:c5 G w u A H I (cy J H) V)
 (y: ∀o P,qT J false o P=pg [o,P] (mK o P)):c5 G w u A H I (cy (.Subscript S J D) H) (BY u N V):=by
 intro r q U Y B x O p m l z
 refine Subscript_ (i.ae p m l z (fun M T n E R f C g e L=>?_) fun F F c=>c)
 exact K.ae p e L R (fun X Z v h a d s Q j b=>(XF y).ae p j (s.rv e f) d a (C.trans s) (g.trans Q)) fun F F c=>cG.mono C g c
theorem Sm {I:List Int}(j:ll cw I):cw.length=I.length:=by
 induction j with
 | nil=>rfl
 | cons _ _ _ o=>exact congrArg Dh o
theorem X8:gu G w u A (.builtin "len") (fun b B L F=> ∃R I,b= [.val (.ref R)]∧hC u R I∧I.length≤1000000∧L (.int (I.length:Int)) B):=by
 intro r q U B L O Q b p m j g
 obtain⟨R,I,rfl,H,h,g⟩:=g
 cases j with
 | cons D C=>
  cases C
  obtain rfl:=D.val_inv
  refine dg (H.now m) fun Q c K=>?_
  have Z:=Sm K
  exact Ms c (by rw [hq,Z];exact wd h) ⟨_,B,g,by rw [hq,Z];exact .int _ _,b6.refl m,⟨rfl,rfl⟩⟩
end
noncomputable def GJ (C:d7) (u:di) (A:cO) (x:ey) (I:Nat):eV:=
 jZ (lO (p8 (mV .Lt (g4 1) (rR C u A I (fQ (.val (.builtin "len"))) (jI (g4 0) (nv)))) (rQ .Mod (BY A (g4 0) (g4 1)) (rQ .Pow (fQ (.int 2)) (fQ (.int 64)))) (fQ (.int 0)))) (k3)
theorem Y6(C:d7)(p:cA w u)(v:0 < A):ie C w u (A+1) (.ref 650) (fun b B G H=>b.length=2∧GJ C w u (hd.ah w.params) A (start (b++ []) 0) B (fun F e=>G .none e) G (fun F=>H)):=by
 have y:=p.top
 have x:=p.k
 have D:=p.blt
 have X:=x 650 _ rfl
 have I:=x 649 _ rfl
 have t:vt u 650 _ _ _ 2 ["script","place"] [] []:=⟨X,rfl,⟨_,_,_,_,rfl,I,rfl,rfl⟩,rfl,rfl,rfl,rfl,dT 2 ["script","place"] (fun E c=>by show dQ _ _=_;kernel_rfl),fun F=> .nil,rfl,by decide,by decide,rfl,rfl,rfl⟩
 clear X I
 exact JW (others:= []) y t (by decide) (fun g=> @Bh _ _ _ _ _ _ _ _ _ _ (@Bg _ _ _ _ _ _ _ _ _ (@Jy _ _ _ _ _ _ _ _ _ _ _ _ _ (@Jr _ _ _ _ _ _ y v _ _ _ _ _ _ _ (@tY _ _ _ _ _ _ _ _ _ rfl (@rN _ _ _ _ _ _ _ _ rfl (by(first | exact .inl rfl | exact .inr (.inl rfl) | exact .inr (.inr rfl))) rfl)) (@Jx _ _ _ _ _ _ _ _ _ _ _ _ (@JC _ _ _ _ _ _ _ _ (@H7 _ _ _ _ _ x D _ _ _ rfl rfl rfl rfl rfl rfl rfl (by decide))) (@Ju _ _ _ _ _ _ _ _ _ _ _ (@tY _ _ _ _ _ _ _ _ _ rfl (@rN _ _ _ _ _ _ _ _ rfl (by(first | exact .inl rfl | exact .inr (.inl rfl) | exact .inr (.inr rfl))) rfl)) (@Bf _ _ _ _ _ _ _) rfl) (.inr ⟨_,_,rfl,rfl⟩) rfl) (by with_unfolding_all rfl)) (@xc _ _ _ _ _ _ _ _ _ _ _ _ (@Xk _ _ _ _ _ _ _ _ _ _ _ (@tY _ _ _ _ _ _ _ _ _ rfl (@rN _ _ _ _ _ _ _ _ rfl (by(first | exact .inl rfl | exact .inr (.inl rfl) | exact .inr (.inr rfl))) rfl)) (@tY _ _ _ _ _ _ _ _ _ rfl (@rN _ _ _ _ _ _ _ _ rfl (by(first | exact .inl rfl | exact .inr (.inl rfl) | exact .inr (.inr rfl))) rfl)) (by intros;with_unfolding_all rfl)) (@xc _ _ _ _ _ _ _ _ _ _ _ _ (@xd _ _ _ _ _ _ _ _ _) (@xd _ _ _ _ _ _ _ _ _))) (@xd _ _ _ _ _ _ _ _ _))) (@xb _ _ _ _ _ _))
end
section
set_option simprocs false
section
noncomputable def lE (K:List Int) (J:Nat):Int:=(K.getD J 0).fmod (2 ^ 64)
theorem kr(f:Nat):(0:Int) < 2 ^ f:=x8 (by decide)
theorem nh {a:Int} {b:Nat}(T: -1000≤a∧a≤1000)(H:b≤1000):0≤(b:Int)∧(b:Int)≤1000000∧ib a:=
 ⟨fy _,oA H rfl,jo (jd (by decide) T.1) (qj T.2 (by decide))⟩
theorem gw {a b:Int}(X:0 < b):0≤a.fmod b∧a.fmod b < b:=⟨Ld _ X,Int.fmod_lt_of_pos _ X⟩
theorem Rb(P:A < de.length):(de[A]).fmod (2 ^ 64)=lE de A:=by unfold lE;rw [j3,gV P];rfl
theorem Rc(P: ¬A < de.length):0=lE de A:=by unfold lE;rw [j3,nN (jw.mp P)];rfl
inductive EG (u:cO):List D→J→KK→KK→Prop
 | mk (μ:J) (K E:KK) (a:a0) (ns:List Int) (i:Nat) (h1:hC u a ns∧ns.length≤1000) (h2: ∀d:Int,0≤d→d < 2 ^ 64→d=lE ns i→K (.int d) μ):EG u [.val (.ref a),.int (i:Int)] μ K E
theorem lD(p:cA w u):cK G w u 2 (.ref 650) (EG u):=
 cK.of (p.af (by kernel_rfl)) fun I v=>(Y6 G p v).mono fun A B x O X=>by
  refine X.rec fun B x O R K J E X=>?_
  obtain⟨H,h⟩:=E
  refine ek rfl ?_
  unfold GJ BY
  dsimp
  refine⟨gD _,_,X8,R,K,rfl,H,cg h (by decide),?_⟩
  dsimp only [wA]
  by_cases P:J < K.length
  ·refine dq (decide_eq_true (gp.mpr P)) ⟨K,H,⟨fy _,gp.mpr (lY P (cg h (by decide)))⟩,K[J],by rw [ir,gV P],nh (a:=2) (b:=64) (by decide) (by decide),by decide,X _ (gw (by decide)).1 (gw (by decide)).2 (Rb P)⟩
  ·exact cW (decide_eq_false fun i=>P (gp.mp i)) (X 0 (by decide) (by decide) (Rc P))
inductive Fh:List D→J→KK→KK→Prop
 | mk (μ:J) (K E:KK) (d u:Int) (b:Nat) (h1:0≤d) (h2:d < 2 ^ 64) (h3:b≤1000) (h4: ∀x:Int,0≤x→x < 2 ^ b→K (.int x) μ):Fh [.int d,.int u,.int (b:Int)] μ K E
theorem vY(p:cA w u):cK G w u 2 (.ref 657) Fh:=
 cK.of (p.af (by kernel_rfl)) fun I v=>(Zo G p v).mono fun b B x O X=>by
  refine X.rec fun B x O T A f W K C X=>?_
  refine ek rfl ?_
  dsimp
  exact⟨.inl (jo (jd (by decide) W) K),nh (by decide) C,nM (kr f),X _ (gw (kr f)).1 (gw (kr f)).2⟩
theorem To(X:A≤64):i4 (256 ^ A):=by
 unfold i4
 rw [x5]
 refine kD (oZ (by decide) X:(256:Nat) ^ A≤256 ^ 64) ?_
 rw [show(256:Nat)=2 ^ 8 from rfl,←L0]
 exact yq (by decide) (by decide)
inductive E1:List D→J→KK→KK→Prop
 | mk (μ:J) (K E:KK) (x:Int) (m:Nat) (h1:0≤x) (h2:m≤64) (h3: ∀μ',Q [] μ μ'→K (.bytes (ed x m)) μ'):E1 [.int x,.int (m:Int)] μ K E
theorem Gm(p:cA w u):cK G w u 2 (.ref 662) E1:=
 cK.of (p.af (by kernel_rfl)) fun I v=>(Zp G p v).mono fun b B x O X=>by
  refine X.rec fun B x O S y i V X=>?_
  refine ek rfl ?_
  dsimp
  refine⟨kj _,⟨pH y,oA V rfl⟩,A1 y V rfl,?_⟩
  refine th (fun(E:Nat)=>D.int E) (fun(E:Nat)=>D.int (S / 256 ^ (y - 1 - E) % 256)) (by trivial) (f5 y) [] (fun E N L H=>?_) fun d U=>?_
  ·dsimp
   rw [vM (qm.mp N)]
   have l:=IS (y - 1 - E)
   have g:y - 1 - E≤64:=cg (nT ..) (cg (nT ..) V)
   refine⟨nh (by decide) (cg g (by decide)),⟨nM l,To g⟩,by decide,?_⟩
   show L (.int ((S.fdiv (256 ^ (y - 1 - E))).fmod 256)) B
   rw [Lc _ (by decide),uJ _ (nL l)]
   exact H
  ·refine dA wg v (vR (J.aa ..) (by rw [kC,ints_map]) ⟨by rw [kC,wH];exact cg V (by decide),F1 S y⟩ ?_)
   rw [F2]
   exact X _ (Q.new U)
inductive jz (ls:List ck) (b:Nat) (k0:Int):Prop
 | mk (keys:ls.map ck.k=(f5 ls.length).map fun(j:Nat)=>k0+(j:Int)) (fit: ∀l ∈ ls,0≤l.v∧l.v < 2 ^ b∧ ∀q,l.p=ab q→0≤q∧q < 65536)
theorem jz.fit(X:jz dm A B): ∀N ∈ dm,0≤N.v∧N.v < 2 ^ A∧ ∀P,N.p=ab P→0≤P∧P < 65536:=by cases X;assumption
theorem jz.keys(X:jz dm A B):dm.map ck.k=(f5 dm.length).map fun(E:Nat)=>B+(E:Int):=by cases X;assumption
theorem jz.nodup(X:jz dm A B):(dm.map ck.k).Nodup:=by
 rw [X.keys]
 refine aaE _ (R:=(· < ·)) (fun C A X P=>?_) List.pairwise_lt_range
 exact hU X (Int.ofNat_inj.mp (Int.add_left_cancel P))
theorem jz.add {c:Option Int}(X:jz dm A B)(V:0≤bk∧bk < 2 ^ A)(l: ∀P,c=ab P→0≤P∧P < 65536):jz (dm++ [⟨B+(dm.length:Int),bk,c⟩]) A B:=by
 refine⟨?_,fun N h=>?_⟩
 ·rw [fh,X.keys,dR,C3,C4,fh];rfl
 ·rcases j5.mp h with P | P
  ·exact X.fit N P
  ·rw [gW.mp P];exact⟨V.1,V.2,l⟩
noncomputable def pW (B f b s A:Int) (x:a0) (M y:Option D):Loc:= [ab (.int B),ab (.int b),ab (.int f),ab (.int s),ab (.int A),ab (.val (.ref x)),M,y]
inductive NX (i7 b:Nat) (pt lo po:Int) (Z:a0) (μ:J) (rs:List D) (ρ:Loc) (μ1:J):Prop
 | mk (j k:Nat) (ls:List ck) (o6 o7:Option D) (hr:rs=(xW j k).map fun(i:Nat)=>D.int (i:Int)) (hj:j+k=i7) (hρ:ρ=pW i7 b pt lo po Z o6 o7) (kk:Q [] μ μ1) (hz:μ1 Z=ab (.list (ls.map ck.d))) (hl:ls.length=j) (hok:jz ls b 5)
noncomputable def Kb:cB:=(d (eZ (eM "append" (c 5) (a (p (a (p (a (p (a (e .Add (b (.int 5)) (c 6)) (a (e .Add (b (.int 5)) (c 6)) (j)))) (j))) (a (c 7) (a (b (.int 0)) (a (b (.str "")) (j)))))) (j)))) (l))
theorem H5 {p:Option Int}(U:q z=ab (.list (dm.map ck.d)))(h:dm.length≤3)(F:T= .tup ((⟨0,jv,p⟩:ck).data.map .int))
 (d:cR (pW C dc B bk ew z (ab (.int (dm.length:Int))) (ab T)) (q.set z (.list ((dm++ [(⟨5+(dm.length:Int),jv,p⟩:ck)]).map ck.d)))):
 Kb ⟨G,w,u,A⟩ (pW C dc B bk ew z (ab (.int (dm.length:Int))) (ab T)) q cR x fM:=by
 unfold Kb pW
 dsimp
 refine jG U ?_
 dsimp
 refine⟨b9 rfl,b9 rfl,b9 rfl,jD U (by rw [dP];exact cg h (by decide)) ?_⟩
 rw [fh] at d
 subst F
 exact d
theorem Tn(X:A≤3):i4 (2 ^ A):=by
 unfold i4
 rw [x5]
 exact yq (by decide) (kD X (by decide))
inductive EW:List D→J→KK→KK→Prop
 | mk (μ:J) (K E:KK) (i7 b:Nat) (pt lo po:Int) (h1:i7≤3) (h2:b≤1000) (h3: ∀ls μ',Q [] μ μ'→ls.length=i7→jz ls b 5→K (.tup (ls.map ck.d)) μ'):EW [.int (i7:Int),.int pt,.int (b:Int),.int lo,.int po] μ K E
theorem Gk(o:cA w u):cK G w u 2 (.ref 669) EW:=
 cK.of (o.af (by kernel_rfl)) fun I v=>(Zj G o v).mono fun an B x O X=>by
  refine X.rec fun B x O i7 f r s A V H X=>?_
  refine ek rfl ?_
  dsimp
  refine⟨eA _,fun i g=>?_⟩
  (refine bb ?_;dsimp)
  refine⟨⟨pH _,oA V rfl⟩,?_⟩
  refine jq (NX i7 f r s A i B) (fun Y C W=>?_) (fun T ap Y C n W d=>?_) _ _ _ ⟨0,i7,[],ao,ao,?_,qr _,rfl,Q.new g,J.aa ..,rfl,⟨rfl,fun F=>tH⟩⟩
  ·obtain⟨E,k,L,al,y,t,N,rfl,S,U,h,R⟩:=W
   induction k with
   | succ k=>contradiction
   | zero=>
    have q:L.length=i7:=h.trans N
    unfold pW
    (refine bb ?_;dsimp)
    exact et Al v (BR U (by rw [dP,q];exact cg V (by decide)) (X L C S q R))
  ·obtain⟨E,k,L,al,y,t,N,rfl,S,U,rfl,R⟩:=W
   cases k with
   | zero=>contradiction
   | succ k=>
    cases t
    have e:L.length≤3:=cg (j6 ..) (cg (iW N) V)
    have m: ∀(M:Int) (c:Option Int) (y:Option D),0≤M→M < 2 ^ f→(∀P,c=ab P→0≤P∧P < 65536)→n (pW i7 f r s A i (ab (.int (L.length:Int))) y) (C.set i (.list ((L++ [(⟨5+(L.length:Int),M,c⟩:ck)]).map ck.d))):=fun M c y W K l=>
     d _ _ ⟨L.length+1,k,_,_,y,rfl,(si ..).trans N,rfl,S.set g,J.aa ..,dR,R.add ⟨W,K⟩ l⟩ trivial
    unfold pW at m ⊢
    dsimp
    refine⟨.inl (jo (by decide) (by decide)),nh (by decide) H,nM (kr f),b9 rfl,?_⟩
    obtain⟨z,ac⟩:=gw (a:=s+257 * (L.length:Int)) (kr f)
    (refine bb ?_;dsimp)
    refine⟨nh (by decide) (cg e (by decide)),⟨nM (kr _),Tn e⟩,by decide,?_⟩
    refine iE (fun F=>?_) fun F=>?_
    ·refine⟨.inl (jo (by decide) (by decide)),by decide,b9 rfl,b9 rfl,?_⟩
     obtain⟨am,j⟩:=gw (a:=A+77 * (L.length:Int)) (b:=65536) (by decide)
     exact bb (H5 (p:=ab ((A+77 * (L.length:Int)).fmod 65536)) U e rfl (m _ (ab ((A+77 * (L.length:Int)).fmod 65536)) _ z ac fun P Z=>by obtain rfl:=c4 Z;exact⟨am,j⟩))
    ·exact bb (H5 (p:=ao) U e rfl (m _ ao _ z ac fun P Z=>nomatch Z))
  ·unfold jH;rw [List.range_eq_range']
end
end
section
set_option simprocs false
section
def qV (f:Nat):fK→Prop
 | .none=>True
 | .span a c=>0≤a∧a≤c∧a < 2 ^ f
 | .aR a l=>0≤a∧a < 2 ^ f∧l≤f
 | .lits L=>L.length≤3∧jz L f 5
 | .named S=>(S= "m4" ∨S= "p4")∧f=32∨(S= "m6" ∨S= "p6")∧f=128
theorem jW {k:Int}(A:0≤k)(W:k < 1000000)(Z:n[k.toNat]? =ab T)(S:x T (q.set z (.list n))):jE (.val (.ref z)) (.int k) (q.set z (.list n)) x bx:=by
 exact wt (by rw [J.aa];rfl) ⟨A,W⟩ Z S
inductive ES:List D→J→KK→KK→Prop
 | mk (μ:J) (K E:KK) (form lo m q:Int) (b:Nat) (h1:0≤form) (h2:form < 6) (h3:(b=32∨b=128)) (h4:0≤lo) (h5:lo < 2 ^ b) (h6: ∀(A:fK) μ',Q [] μ μ'→qV b A→K A.d μ'):ES [.int form,.int (b:Int),.int lo,.int m,.int q] μ K E
theorem ml {k:Int}(X: -1000000≤k∧k≤1000000):i4 k:=
 lY (jo (jd (by decide) X.1) (qj X.2 (by decide))) (oZ (by decide) (by decide))
theorem Tx(y:Int): ∃S:PySem.Str,(S= "m" ∨S= "p")∧([D.str "m",D.str "p"])[(y.fmod 2).toNat]? =ab (.str S):=by
 have X:=gw (a:=y) (b:=2) (by decide)
 have V:y.fmod 2=0∨y.fmod 2=1:=by(exact Le y)
 rcases V with e | e
 ·exact⟨"m",.inl rfl,by rw [e];rfl⟩
 ·exact⟨"p",.inr rfl,by rw [e];rfl⟩
theorem RR(H:A=32∨A=128)(i:t= "m" ∨t= "p"): ∃s:PySem.Str,([D.str "4",D.str "6"])[((A:Int).fdiv 128).toNat]? =ab (.str s)∧0≤(A:Int).fdiv 128∧(A:Int).fdiv 128 < 1000000∧t.length+s.length≤1000000∧qV A (.named (t++s)):=by
 rcases H with rfl | rfl
 ·refine⟨"4",rfl,by decide,by decide,?_⟩
  rcases i with rfl | rfl
  ·exact⟨by decide,.inl ⟨.inl (by decide+kernel),rfl⟩⟩
  ·exact⟨by decide,.inl ⟨.inr (by decide+kernel),rfl⟩⟩
 ·refine⟨"6",rfl,by decide,by decide,?_⟩
  rcases i with rfl | rfl
  ·exact⟨by decide,.inr ⟨.inl (by decide+kernel),rfl⟩⟩
  ·exact⟨by decide,.inr ⟨.inr (by decide+kernel),rfl⟩⟩
theorem Ui {m:Int}(J:0≤B)(W:B < 2 ^ A):qV A (.aR B (m.fmod ((A:Int)+1)).toNat)∧(((m.fmod ((A:Int)+1)).toNat:Nat):Int)=m.fmod ((A:Int)+1)∧(A:Int)+1≠0:=by
 have X:=gw (a:=m) (b:=(A:Int)+1) (by(exact Int.succ_ofNat_pos A))
 exact⟨⟨J,W,Ug X⟩,uM X.1,by(exact Ne.symm ((fun {S s}=>bi_ine.mp) rfl))⟩
theorem Td(y:Int):(y.fmod 4).toNat≤3∧(((y.fmod 4).toNat:Nat):Int)=y.fmod 4:=
 ⟨Int.toNat_le.mpr (Lh (gw (a:=y) (b:=4) (by decide)).2),uM (gw (a:=y) (b:=4) (by decide)).1⟩
theorem Gj(p:cA w u):cK G w u 3 (.ref 676) ES:=
 cK.of (p.af (by kernel_rfl)) fun I v=>(Zf G p (cp v rfl)).mono fun r B x O X=>by
  refine X.rec fun B x O W Y y P f J z H Z C X=>?_
  refine⟨rfl,?_⟩
  have E:f≤1000:=by rcases H with rfl | rfl<;>decide
  dsimp
  refine iE (fun F=>X .none B (Q.refl _) trivial) fun F=>?_
  (refine bb ?_;dsimp)
  refine iE (fun F=>⟨b9 rfl,X (.span Y Y) B (Q.refl _) ⟨Z,CR _,C⟩⟩) fun F=>?_
  (refine bb ?_;dsimp)
  refine iE (fun F=>?_) fun F=>?_
  ·exact⟨nh (by decide) E,nM (kr f),b9 rfl,X (.span Y (Y+y.fmod (2 ^ f))) B (Q.refl _) ⟨Z,CQ (gw (kr f)).1,C⟩⟩
  (refine bb ?_;dsimp)
  refine iE (fun F=>?_) fun F=>?_
  ·refine gz (Ui (m:=y) Z C) fun A j o=>?_
   have V:=X _ B (Q.refl _) A
   rw [show fK.d (.aR Y (y.fmod ((f:Int)+1)).toNat)= .tup [.str "net",.int Y,.int (((y.fmod ((f:Int)+1)).toNat:Nat):Int)] from rfl,j] at V
   exact⟨o,b9 rfl,V⟩
  (refine bb ?_;dsimp)
  refine iE (fun F=>?_) fun F=>?_
  ·obtain⟨A,j⟩:=Td y
   refine⟨b9 rfl,(Gk (G:=G) p).ok,by decide,⟨by decide,pO⟩,dA (Gk p) (cp v rfl) (rq ⟨_,_,_,(y.fmod 4).toNat,f,_,_,_,A,E,fun L e k h R=>⟨b9 rfl,b9 rfl,X (.lits L) e k ⟨by rw [h];exact A,R⟩⟩⟩ (by rw [j]))⟩
  (refine bb ?_;dsimp)
  refine⟨b9 rfl,b9 rfl,fun d U=>⟨by decide,?_⟩⟩
  refine dg (Tx y) fun S i n=>?_
  refine KG (RR H i) fun s K M N T c=>?_
  have t:=gw (a:=y) (b:=2) (by decide)
  refine jW t.1 (r8 t.2 (by decide)) n ⟨b9 rfl,fun q g=>⟨⟨by decide,ml (by decide)⟩,?_⟩⟩
  have l:Q [] B (((B.set d (.list [D.str "m",D.str "p"])).set q (.list [D.str "4",D.str "6"]))):=(Q.new U).trans (Q.new g)
  exact jW M N K ⟨T,b9 rfl,b9 rfl,X _ _ l c⟩
end
end
section
set_option simprocs false
section
theorem Yp {r:fK}(H:(A=32∧B=2)∨(A=128∧B=10))(c:qV A r)(l: ∀R i,xS=ab (R,i)→0≤R∧R≤i∧R < 65536)(Q:I.length≤2):cj.Ok ⟨t,B,r,xS,I⟩:=by
 have z:(2:Int) ^ A=256 ^ wide B∧A=8 * wide B:=by
  rcases H with ⟨rfl,rfl⟩ | ⟨rfl,rfl⟩<;>exact⟨by decide,by decide⟩
 have v:B=2∨B=10:=by
  rcases H with ⟨_,X⟩ | ⟨_,X⟩
  ·exact .inl X
  ·exact .inr X
 refine⟨.inr v,fun R i Z=>?_,fun R N Z=>?_,fun L Z=>?_,fun S Z=>?_,l,Q⟩
 ·cases Z;rw [qV,z.1] at c;exact c
 ·cases Z;rw [qV,z.1] at c;exact⟨c.1,c.2.1,cg c.2.2 (iW z.2)⟩
 ·cases Z;have W:=c.1;have K:=c.2
  exact⟨W,K.nodup,fun N h=>by refine gz (K.fit N h) fun k j V=>?_;rw [z.1] at j;exact⟨k,j,V⟩⟩
 ·cases Z
  rcases H with ⟨rfl,rfl⟩ | ⟨rfl,rfl⟩
  ·rcases c with ⟨X,_⟩ | ⟨_,X⟩
   ·exact .inl ⟨X,rfl⟩
   ·contradiction
  ·rcases c with ⟨_,X⟩ | ⟨X,_⟩
   ·cases X
   ·exact .inr ⟨X,rfl⟩
inductive E6 (u:cO):List D→J→KK→KK→Prop
 | mk (μ:J) (K E:KK) (b0 b1 b2 b3 b4:Int) (a:a0) (ns:List Int) (at':Nat) (h1:hC u a ns∧ns.length≤1000) (h2: ∀(s:cj) μ',Q [] μ μ'→s.Ok→K s.d μ'):E6 u [.tup [.int b0,.int b1,.int b2,.int b3,.int b4],.val (.ref a),.int (at':Int)] μ K E
theorem mY(p:cA w u)(v:2≤A)(X:hC u z de∧de.length≤1000)(J:Nat)(H: ∀T:Int,0≤T→T < 2 ^ 64→x (.int T) q):mv G w u A (.ref 650) x bx [.val (.ref z),.int (J:Int)] q:=
 dA (lD p) v ⟨_,_,_,z,de,J,X,fun T W K F=>H T W K⟩
noncomputable def Kj:cB:=(d (cZ (cC .Gt (e .Mod (c 3) (b (.int 4))) (b (.int 1))) (d (cQ (p (a (b (.str "nat")) (a (f (dj (a (b (.str "masquerade")) (a (b (.str "redirect")) (j)))) (e .Sub (e .Mod (c 3) (b (.int 4))) (b (.int 2)))) (a (b (.int 0)) (a (b .none) (a (c 9) (a (c 8) (j))))))))) (l)) (l)) (d (v 11 (h (b (.val (.ref 657))) (a (h (b (.val (.ref 650))) (a (c 1) (a (e .Add (c 2) (b (.int 1))) (j)))) (a (f (c 0) (b (.int 1))) (a (c 7) (j)))))) (d (v 12 (h (b (.val (.ref 676))) (a (e .Mod (e .FloorDiv (c 3) (b (.int 16))) (b (.int 6))) (a (c 7) (a (c 11) (a (c 4) (a (c 6) (j)))))))) (d (cQ (p (a (b (.str "nat")) (a (f (dj (a (b (.str "snat")) (a (b (.str "dnat")) (j)))) (e .Mod (c 3) (b (.int 4)))) (a (f (dj (a (b (.int 2)) (a (b (.int 10)) (j)))) (e .FloorDiv (c 7) (b (.int 128)))) (a (c 12) (a (c 9) (a (c 8) (j))))))))) (l)))))
theorem IL {x y:D}(X:B=0∨B=1): ∃T,(T=x∨T=y)∧ [x,y][B.toNat]? =ab T∧0≤B∧B < 1000000:=by
 rcases X with rfl | rfl
 ·exact⟨x,.inl rfl,rfl,by decide,by decide⟩
 ·exact⟨y,.inr rfl,rfl,by decide,by decide⟩
theorem Ij:(1 < B.fmod 4→B.fmod 4 - 2=0∨B.fmod 4 - 2=1)∧(¬1 < B.fmod 4→B.fmod 4=0∨B.fmod 4=1):=by
 have X:=gw (a:=B) (b:=4) (by decide)
 refine(jN X.1).elim fun k Z=>?_
 rw [Z] at X ⊢
 exact(show ∀k:Nat,k < 4→(1 < (k:Int)→(k:Int) - 2=0∨(k:Int) - 2=1)∧(¬1 < (k:Int)→(k:Int)=0∨(k:Int)=1) by decide) k (gp.mp X.2)
theorem wJ {c:Int}:c.fmod 2=0∨c.fmod 2=1:=by
 have X:=gw (a:=c) (b:=2) (by decide)
 (exact Le c)
theorem Uq(H:A=32∨A=128): ∃E:Int,((A=32∧E=2)∨(A=128∧E=10))∧ [D.int 2,D.int 10][((A:Int).fdiv 128).toNat]? =ab (.int E)∧0≤(A:Int).fdiv 128∧(A:Int).fdiv 128 < 1000000:=by
 rcases H with rfl | rfl
 ·exact⟨2,.inl ⟨rfl,rfl⟩,rfl,by decide,by decide⟩
 ·exact⟨10,.inr ⟨rfl,rfl⟩,rfl,by decide,by decide⟩
theorem Bp(p:cA w u)(v:3≤A)(H:hC u z de∧de.length≤1000) {o aay KU:Int} {ai:Option (Int×Int)}(X: ∀(s:cj) e,Q [] q e→s.Ok→x s.d e)(Y:Q [] q M)(N:dc=32∨dc=128)(P:I.length≤2)(K: ∀S y,ai=ab (S,y)→0≤S∧S≤y∧S < 65536):
 Kj ⟨G,w,u,A⟩ [ab (.tup [.int B,.int bk,.int ew,.int jv,.int Cq]),ab (.val (.ref z)),ab (.int (C:Int)),ab (.int xN),ab (.int o),ab (.int aay),ab (.int KU),ab (.int (dc:Int)),ab (gZ I),ab (hG ai),c3,ao,ao] M cR x (fun F=>bx):=by
 unfold Kj
 dsimp
 refine⟨by decide,iE (fun f=>?_) fun f=>?_⟩
 ·refine⟨b9 rfl,fun d U=>⟨by decide,?_⟩⟩
  refine(IL (x:=D.str "masquerade") (y:=D.str "redirect") (Ij.1 (of_decide_eq_true f))).elim fun T h=>?_
  refine ui h fun hd Z O W=>?_
  obtain⟨S,rfl⟩: ∃S,T= .str S:=by rcases hd with rfl | rfl<;>exact⟨_,rfl⟩
  exact jW O W Z ⟨b9 rfl,X ⟨S,0,.none,ai,I⟩ _ (Y.trans (Q.new U)) ⟨.inl rfl,nofun,nofun,nofun,nofun,K,P⟩⟩
 ·(refine bb ?_;dsimp)
  refine⟨(vY (G:=G) p).ok,(lD (G:=G) p).ok,mY p (cp v rfl) H (C+1) fun j R J=>?_⟩
  refine dA (vY p) (cp v rfl) ⟨_,_,_,j,bk,dc,R,J,by rcases N with rfl | rfl<;>decide,fun al i ac=>?_⟩
  (refine bb ?_;dsimp)
  have t:=gw (a:=xN.fdiv 16) (b:=6) (by decide)
  refine⟨(Gj (G:=G) p).ok,⟨by decide,ml (by decide)⟩,by decide,dA (Gj p) v ⟨_,_,_,_,al,o,KU,dc,t.1,t.2,N,i,ac,fun r L l c=>?_⟩⟩
  (refine bb ?_;dsimp)
  refine⟨b9 rfl,fun d U=>⟨by decide,?_⟩⟩
  refine rT ((IL (x:=D.str "snat") (y:=D.str "dnat") (Ij.2 (of_decide_eq_false f)))) fun T hd Z O W=>?_
  obtain⟨S,rfl⟩: ∃S,T= .str S:=by rcases hd with rfl | rfl<;>exact⟨_,rfl⟩
  refine rT (Uq N) fun E V m n k=>?_
  refine jW O W Z ⟨b9 rfl,fun am g=>⟨⟨by decide,ml (by decide)⟩,?_⟩⟩
  exact jW n k m ⟨b9 rfl,X ⟨S,E,r,ai,I⟩ _ ((Y.trans l).trans ((Q.new U).trans (Q.new g))) (Yp V c K P)⟩
theorem OK(X:B=0∨B=1): ∃f:Nat,(f=32∨f=128)∧([D.int 32,D.int 128])[B.toNat]? =ab (.int (f:Int))∧0≤B∧B < 1000000:=by
 rcases X with rfl | rfl
 ·exact⟨32,.inl rfl,rfl,by decide,by decide⟩
 ·exact⟨128,.inr rfl,rfl,by decide,by decide⟩
theorem RM(J:Int): ∃A:List PySem.Str,A.length≤2∧([D.tup [],D.tup [D.str "random"],D.tup [D.str "persistent"],D.tup [D.str "random",D.str "persistent"]])[(J.fmod 4).toNat]? =ab (gZ A)∧0≤J.fmod 4∧J.fmod 4 < 1000000:=by
 have X:=gw (a:=J) (b:=4) (by decide)
 have n:J.fmod 4=0∨J.fmod 4=1∨J.fmod 4=2∨J.fmod 4=3:=U4 X
 rcases n with e | e | e | e<;>rw [e]
 ·exact⟨[],eA _,rfl,by decide,by decide⟩
 ·exact⟨["random"],b9 rfl,rfl,by decide,by decide⟩
 ·exact⟨["persistent"],b9 rfl,rfl,by decide,by decide⟩
 ·exact⟨["random","persistent"],b9 rfl,rfl,by decide,by decide⟩
theorem IQ(D:0≤bk): ∀R i,(ab (B.fmod 65536,B.fmod 65536+bk):Option (Int×Int))=ab (R,i)→0≤R∧R≤i∧R < 65536:=fun R i Z=>by
 have X:=gw (a:=B) (b:=65536) (by decide)
 cases Z
 exact⟨X.1,CQ D,X.2⟩
theorem Gp(p:cA w u):cK G w u 4 (.ref 683) (E6 u):=
 cK.of (p.af (by kernel_rfl)) fun I v=>(Zv G p (cp v rfl)).mono fun b B x O X=>by
  refine X.rec fun B x O V j Z q i R K T H X=>?_
  refine⟨rfl,?_⟩
  have M:=(lD (G:=G) p).ok
  dsimp
  refine⟨M,mY p (cp v rfl) H T fun E F F=>?_⟩
  dsimp only [tA]
  (refine bb ?_;dsimp)
  refine⟨M,mY p (cp v rfl) H (T+2) fun s F F=>?_⟩
  dsimp only [tA]
  (refine bb ?_;dsimp)
  refine⟨M,mY p (cp v rfl) H (T+3) fun J F F=>?_⟩
  dsimp only [tA]
  (refine bb ?_;dsimp)
  refine⟨M,mY p (cp v rfl) H (T+4) fun a F F=>?_⟩
  dsimp only [tA]
  (refine bb ?_;dsimp)
  refine⟨b9 rfl,fun d U=>⟨⟨by decide,ml (by decide)⟩,by decide,?_⟩⟩
  refine rT ((OK (wJ (c:=(V+E).fdiv 96)))) fun f N z m W=>?_
  refine jW m W z ?_
  have Y:Q [] B (B.set d (.list [D.int 32,D.int 128])):=Q.new U
  generalize (B.set d (.list [D.int 32,D.int 128]))=C at *
  (refine bb ?_;dsimp)
  refine⟨b9 rfl,b9 rfl,b9 rfl,b9 rfl,b9 rfl,fun r g=>⟨⟨by decide,pO⟩,by decide,?_⟩⟩
  refine rT ((RM ((V+E).fdiv 4))) fun A P h n k=>?_
  refine jW n k h ?_
  have l:=Y.trans (Q.new (S:= []) (o:= .list [D.tup [],D.tup [D.str "random"],D.tup [D.str "persistent"],D.tup [D.str "random",D.str "persistent"]]) g)
  generalize (C.set r (.list [D.tup [],D.tup [D.str "random"],D.tup [D.str "persistent"],D.tup [D.str "random",D.str "persistent"]]))=L at *
  (refine bb ?_;dsimp)
  (refine bb ?_;dsimp)
  refine⟨by decide,iE (fun e=>?_) fun e=>?_⟩
  ·refine⟨⟨by decide,ml (by decide)⟩,by decide,?_⟩
   (refine bb ?_;dsimp)
   refine⟨by decide,iE (fun e=>?_) fun e=>?_⟩
   ·refine⟨by decide,b9 rfl,?_⟩
    exact bb (Bp p v H (ai:=ab (((q+J).fdiv 3).fmod 65536,((q+J).fdiv 3).fmod 65536+(i+a).fmod 65537)) X l N P (IQ (gw (by decide)).1))
   ·refine⟨b9 rfl,?_⟩
    exact bb (Bp p v H (ai:=ab (((q+J).fdiv 3).fmod 65536,((q+J).fdiv 3).fmod 65536+0)) X l N P (IQ (CR _)))
  ·exact bb (Bp p v H (ai:=ao) X l N P nofun)
end
end
section
set_option simprocs false
section
noncomputable def lG (S:PySem.Str):Bool:=S == "m4" || S == "p4"
inductive NJ (x:PySem.Str):Prop
 | mk (mW c1:Nat) (q0:x.cps[0]? =ab mW) (q1:x.cps[1]? =ab c1) (q2:((⟨#[mW]⟩:PySem.Str) == "p")=iD x) (q3:((⟨#[c1]⟩:PySem.Str) == "4")=lG x)
theorem T4 {L:PySem.Str→Prop}(W:L "m4")(K:L "p4")(C:L "m6")(n:L "p6"): ∀S ∈ eW,L S:=fun S i=>by
 cases i with
 | head=>exact W
 | tail _ i=>cases i with
  | head=>exact K
  | tail _ i=>cases i with
   | head=>exact C
   | tail _ i=>cases i with
    | head=>exact n
    | tail _ i=>cases i
theorem wK: ∀S ∈ eW,NJ S:=
 T4 (.mk 109 52 (by decide+kernel) (by decide+kernel) (by decide+kernel) (by decide+kernel)) (.mk 112 52 (by decide+kernel) (by decide+kernel) (by decide+kernel) (by decide+kernel))
  (.mk 109 54 (by decide+kernel) (by decide+kernel) (by decide+kernel) (by decide+kernel)) (.mk 112 54 (by decide+kernel) (by decide+kernel) (by decide+kernel) (by decide+kernel))
def Er (S:PySem.Str) (N:ck):Prop:=0≤N.v∧N.v < 256 ^ (if lG S then 4 else 16)∧N.p.isSome=iD S∧ ∀P,N.p=ab P→0≤P∧P < 65536
def sV (W:PySem.Str→List ck):Prop:= ∀S ∈ eW,∀N ∈ W S,Er S N
theorem xl(X:0≤B∧B < 1000000)(Z:t.cps[B.toNat]? =ab A)(k:x (.str ⟨#[A]⟩) q):jE (.str t) (.int B) q x bx:=⟨X,A,Z,k⟩
noncomputable def ku (R:a0) (T:Nat) (s:Int) (A:a0) (h c M y o:Option D):Loc:= [ab (.val (.ref R)),ab (.int (T:Int)),ab (.int s),ab (.val (.ref A)),h,c,M,y,o]
noncomputable def BC:cB:=d (eZ (eM "append" (c 6) (a (p (a (p (a (p (a (e .Add (b (.int 3)) (c 7)) (a (e .Add (b (.int 3)) (c 7)) (j)))) (j))) (a (c 8) (a (b (.int 0)) (a (b (.str "")) (j)))))) (j)))) (l)
noncomputable def BD:cB:=d (v 8 (p (a (e .Mod (e .Add (c 2) (e .Mult (b (.int 257)) (c 7))) (e .Pow (b (.int 2)) (c 5))) (j)))) (d (cZ (cC .Eq (f (c 4) (b (.int 0))) (b (.str "p"))) (d (v 8 (e .Add (c 8) (p (a (e .Mod (e .Add (e .Add (h (b (.val (.ref 650))) (a (c 0) (a (e .Add (c 1) (b (.int 1))) (j)))) (b (.int 8000))) (c 7)) (b (.int 65536))) (j))))) (l)) (l)) (BC))
noncomputable def Ke:cB:=d (v 5 (g5 (cC .Eq (f (c 4) (b (.int 1))) (b (.str "4"))) (b (.int 32)) (b (.int 128)))) (d (v 6 (dj (j))) (d (gk (e6 7) (g6 (b (.int 2))) (BD)) (d (hJ (c 6) (c 3) (c 4)) (l))))
section
theorem TY {p:Option Int} {d8:D} {R:KK}(U:q O=ab (.list (dm.map ck.d)))(h:dm.length≤3)(K:d8= .tup ((⟨0,bk,p⟩:ck).data.map .int))
 (d:cR (ku z C B E (ab (.str t)) c3 (ab (.val (.ref O))) (ab (.int (dm.length:Int))) (ab d8)) (q.set O (.list ((dm++ [(⟨3+(dm.length:Int),bk,p⟩:ck)]).map ck.d)))):
 BC ⟨G,w,u,A⟩ (ku z C B E (ab (.str t)) c3 (ab (.val (.ref O))) (ab (.int (dm.length:Int))) (ab d8)) q cR R fM:=by
 delta BC ku
 dsimp
 refine jG U ?_
 dsimp
 refine⟨b9 rfl,b9 rfl,b9 rfl,jD U (by rw [dP];exact cg h (by decide)) ?_⟩
 rw [fh] at d
 subst K
 exact d
inductive NZ (z:a0) (C dc:Nat) (B:Int) (E O:a0) (t:PySem.Str) (μ:J) (rs:List D) (ρ:Loc) (μ1:J):Prop
 | mk (j k:Nat) (ls:List ck) (o7 o8:Option D) (hr:rs=(xW j k).map fun(i:Nat)=>D.int (i:Int)) (hj:j+k=2) (hρ:ρ=ku z C B E (ab (.str t)) (ab (.int (dc:Int))) (ab (.val (.ref O))) o7 o8) (kk:Q [] μ μ1) (hz:μ1 O=ab (.list (ls.map ck.d))) (hl:ls.length=j) (hok:jz ls dc 3) (hp: ∀l ∈ ls,l.p.isSome=iD t)
theorem TZ(ap:cA w u)(v:2≤A)(H:hC u z de∧de.length≤1000)(i:t ∈ eW)(bi:dc≤1000)(g:q O=ao)
 (m: ∀L e am o,Q [] q e→e O=ab (.list (L.map ck.d))→L.length=2→jz L dc 3→(∀N ∈ L,N.p.isSome=iD t)→cR (ku z C B E (ab (.str t)) (ab (.int (dc:Int))) (ab (.val (.ref O))) am o) e):
 ∀b Y ac,NZ z C dc B E O t q b Y ac→eS (e6 7) (BD ⟨G,w,u,A⟩) ao n cR x b Y ac:=by
 refine jq _ (fun Y ac X=>?_) (fun T b Y ac be X d=>?_)
 ·obtain⟨bm,k,L,am,o,bd,al,rfl,S,U,h,an,l⟩:=X
  induction k with
  | succ k=>contradiction
  | zero=>exact m L ac am o S U (h.trans al) an l
 ·obtain⟨bm,k,L,am,o,bd,al,rfl,S,U,rfl,an,l⟩:=X
  cases k with
  | zero=>contradiction
  | succ k=>
   cases bd
   have bk:L.length≤3:=cg (j6 ..) (cg (iW al) (by decide))
   refine(gw (a:=B+257 * (L.length:Int)) (kr dc)).elim fun M f=>?_
   have bn: ∀(c:Option Int) (o:Option D),c.isSome=iD t→(∀P,c=ab P→0≤P∧P < 65536)→be (ku z C B E (ab (.str t)) (ab (.int (dc:Int))) (ab (.val (.ref O))) (ab (.int (L.length:Int))) o) (ac.set O (.list ((L++ [(⟨3+(L.length:Int),(B+257 * (L.length:Int)).fmod (2 ^ dc),c⟩:ck)]).map ck.d))):=fun c o y W=>
    d _ _ ⟨L.length+1,k,_,_,o,rfl,(si ..).trans al,rfl,S.set g,J.aa ..,dR,an.add ⟨M,f⟩ W,fun N h=>(j5.mp h).elim (l N) fun P=>by refine(gW.mp P)▸?_;exact y⟩ trivial
   obtain⟨mW,bu,r,bx,j,V⟩:=wK t i
   have I:=fun(c:Option Int) (s:D) (K:s=_) y W=>TY (G:=G) (w:=w) (u:=u) (A:=A) (R:=x) (p:=c) (d8:=s) U bk K (bn c (ab s) y W)
   delta BD ku
   unfold ku at I
   dsimp
   refine⟨.inl (jo (by decide) (by decide)),nh (by decide) bi,nM (kr dc),b9 rfl,?_⟩
   (refine bb ?_;dsimp)
   refine xl (by decide) r ?_
   dsimp only [wz]
   refine j▸?_
   refine iE (fun y=>?_) fun y=>?_
   ·refine⟨(lD (G:=G) ap).ok,dA (lD ap) v ⟨_,_,_,z,de,C+1,H,fun bv F F F=>?_⟩⟩
    dsimp
    refine⟨by decide,b9 rfl,b9 rfl,?_⟩
    exact bb (I (ab _) _ rfl y.symm fun P Z=>by obtain rfl:=c4 Z;exact gw (by decide))
   ·exact bb (I ao _ rfl y.symm nofun)
end
theorem Ov {c:Bool}(s: ∀P:KB,P c q→gL V q P (d3 V))(h:(if c=true then T else fg)=kx)(k:cR (V.put A (ab kx)) q):rK A (p8 gL (fQ T) (fQ fg)) V q cR x d3:=by
 subst h
 refine s _ ?_
 cases c
 ·exact k
 ·exact k
theorem A8(X:eh V q (ih iK cR x d3) x d3):jZ eh iK V q cR x d3:=X
theorem OJ(S:PySem.Str): ∃f:Nat,f≤1000∧(2:Int) ^ f=256 ^ (if lG S then 4 else 16)∧(if lG S=true then D.int 32 else D.int 128)= .int (f:Int):=by
 cases lG S
 ·exact⟨128,by decide,by decide,rfl⟩
 ·exact⟨32,by decide,by decide,rfl⟩
inductive N0 (μ1:J) (Nm:a0) (nm:List (PySem.Str×D)) (x:PySem.Str) (ls:List ck):Prop
 | mk (z:a0) (z0:z≠Nm) (z1:cL nm x=ab (.val (.ref z))) (z2:μ1 z=ab (.list (ls.map ck.d))) (hl:ls.length=2) (hk:(ls.map ck.k).Nodup) (hok: ∀l ∈ ls,Er x l)
inductive N1 (a:a0) (at':Nat) (lo:Int) (Nm:a0) (μ μ0:J) (rs:List D) (ρ:Loc) (μ1:J):Prop
 | mk (done rest:List PySem.Str) (nm:List (PySem.Str×D)) (lits:PySem.Str→List ck) (o4 o5 o6 o7 o8:Option D) (hr:rs=rest.map .str) (he:eW=done++rest) (hρ:ρ=ku a at' lo Nm o4 o5 o6 o7 o8) (k:Q [Nm] μ0 μ1) (k2:Q [] μ μ1) (hm:μ1 Nm=ab (.dict nm)) (hl:nm.length≤done.length) (hd: ∀x ∈ done,N0 μ1 Nm nm x (lits x))
theorem Ut(a:eW=I++t::iI)(D:e8 ∈ I):e8≠t:=fun P=>by
 have:=Ik
 rw [a] at this
 exact(uR.mp this).2.2 _ D _ er P
theorem T2(p:cA w u)(v:2≤A)(H:hC u z de∧de.length≤1000) {at':Nat} {lo:Int}(cb:q E=ao)(ca:M O=ab (.list (eW.map .str)))(cm:O≠E) {K:KK}
 (m: ∀W e be am an y o,Q [] q e→kb e E W→sV W→cR (ku z at' lo E be am an y o) e):
 ∀b Y C,N1 z at' lo E q M b Y C→eS (e6 4) (Ke ⟨G,w,u,A⟩) (ab O) (eW.map .str) cR K b Y C:=by
 refine jq _ (fun Y C X=>?_) (fun T b Y C n X cf=>?_)
 ·obtain⟨done,ap,nm,W,be,am,an,y,o,t,a,rfl,k,bk,V,h,hd⟩:=X
  induction ap with
  | cons=>contradiction
  | nil=>
   rw [fI] at a;subst a
   refine m W C be am an y o bk ⟨⟨nm,V,fun S i=>?_⟩,fun S i=>?_⟩ fun S i=>?_
   ·obtain⟨d,bi,B,I⟩:=hd S i;exact⟨d,B,I⟩
   ·obtain⟨d,bi,B,I,P,g,_⟩:=hd S i;exact⟨by rw [P];decide,g⟩
   ·obtain⟨_,_,_,_,_,_,bd⟩:=hd S i;exact bd
 ·obtain⟨done,ap,nm,W,be,am,an,y,o,t,a,rfl,k,bk,V,h,hd⟩:=X
  cases ap with
  | nil=>contradiction
  | cons S ap=>
   cases t
   have i:S ∈ eW:=by rw [a];exact yi _ er
   obtain⟨mW,cw,cz,cn,j,co⟩:=wK S i
   refine fR ((OJ S)) fun f cj ch ci=>?_
   show Ke ⟨G,w,u,A⟩ (ku z at' lo E (ab (.str S)) am an y o) C n K fM
   have bu: ∀(x:a0) (ac:C x=ao) al e y o,Q [] C e→e x=ab (.list (al.map ck.d))→al.length=2→jz al f 3→(∀N ∈ al,N.p.isSome=iD S)→ih (jZ (tT (g4 6) (g4 3) (g4 4)) k3) n K fM (ku z at' lo E (ab (.str S)) (ab (.int (f:Int))) (ab (.val (.ref x))) y o) e:=by
    intro x ac al cs y o Z U b8 bd l
    have bm:Q [E] C (cs.set E (.dict (ep nm S (.val (.ref x))))):=jF Z
    have bx:x≠E:=(J.ne V ac).symm
    (refine bb ?_;dsimp)
    refine p5 (cV Z V) (cg h (cg (GV a) (by decide))) (cf _ _ ⟨done++ [S],ap,_,fun s=>if s=S then al else W s,_,_,_,_,_,rfl,by rw [a,fH];rfl,rfl,k.trans bm,(bk.trans Z).set cb,J.aa ..,?_,fun s D=>?_⟩ ((lQ ca).keep (k.trans bm) (fun r P=>by obtain rfl:=c4 P;exact eb cm)))
    ·rw [dR]
     exact cg pM (kE h)
    ·rcases j5.mp D with D | D
     ·obtain⟨d,bi,B,I,cp,cq,cr⟩:=hd s D
      have R:=Ut a D
      refine(if_neg R)▸?_
      exact⟨d,bi,vI.trans ((if_neg (Ne.symm R)).trans B),bm d _ (eb bi) I,cp,cq,cr⟩
     ·rw [gW.mp D]
      rw [if_pos rfl]
      refine⟨x,bx,kP,(J.ag _ _ bx).trans U,b8,bd.nodup,fun N bv=>?_⟩
      refine gz (bd.fit N bv) fun b5 bn b6=>?_
      rw [ch] at bn
      exact⟨b5,bn,l N bv,b6⟩
   unfold ku at bu
   refine A8 (Ov (c:=lG S) (fun L ce=>?_) ci ?_)
   ·dsimp
    refine xl (by decide) cn ?_
    dsimp only [wz]
    refine co▸?_;exact ce
   ·(refine bb ?_;dsimp)
    refine⟨eA _,fun x ac=>?_⟩
    (refine bb ?_;dsimp)
    exact⟨by decide,TZ p v H i cj ac (bu x ac) _ _ _ ⟨0,2,[],y,o,rfl,rfl,rfl,Q.new ac,J.aa ..,rfl,⟨rfl,fun F=>tH⟩,fun F=>tH⟩⟩
inductive E0 (u:cO):List D→J→KK→KK→Prop
 | mk (μ:J) (K E:KK) (a:a0) (ns:List Int) (at':Nat) (h1:hC u a ns∧ns.length≤1000) (h2: ∀Nm lits μ',Q [] μ μ'→kb μ' Nm lits→sV lits→K (.val (.ref Nm)) μ'):E0 u [.val (.ref a),.int (at':Int)] μ K E
theorem Pa(p:cA w u):cK G w u 4 (.ref 690) (E0 u):=
 cK.of (p.af (by kernel_rfl)) fun I v=>(Zn G p (cp v rfl)).mono fun b B x O X=>by
  refine X.rec fun B x O R V T H X=>?_
  refine ek rfl ?_
  dsimp
  refine⟨(vY (G:=G) p).ok,(lD (G:=G) p).ok,mY p (cp v rfl) H T fun E L N=>dA (vY p) (cp v rfl) ⟨_,_,_,E,_,128,L,N,by decide,fun s F F=>?_⟩⟩
  (refine bb ?_;dsimp)
  intro A D
  (refine bb ?_;dsimp)
  refine⟨by decide,fun i g=>?_⟩
  have C:i≠A:=fun P=>by subst P;rw [J.aa] at g;contradiction
  rw [J.aa]
  dsimp only [fL]
  exact T2 p (cp v rfl) H (K:=x) (at':=T) (lo:=s) D (J.aa ..) C (fun U e h c M y o k W S=>bb (X A U e k W S)) _ _ _ ⟨[],eW,[],fun F=> [],ao,ao,ao,ao,ao,rfl,rfl,rfl,Q.refl _,(Q.new D).trans (Q.new g),(J.ag _ _ C.symm).trans (J.aa ..),eA _,nofun⟩
end
end
section
set_option simprocs false
section
inductive Ends:fK→Nat→Int→Int→Prop
 | span {lo hi:Int} {b:Nat}:Ends (.span lo hi) b lo hi
 | aR {a:Int} {l b:Nat} (h1:l≤b) (h2:b≤128) (h3:0≤a) (h4:a < 2 ^ b):Ends (.aR a l) b (lI a l b).1 (lI a l b).2
theorem Uj(W:A≤C)(K:C≤128):(0≤(C:Int) - (A:Int)∧(C:Int) - (A:Int)≤1000000∧ib 2)∧((C:Int) - (A:Int)).toNat=C - A:=by
 exact⟨⟨by omega,by lia,jo (by decide) (by decide)⟩,by(exact Int.toNat_sub C A)⟩
theorem Tp {k:Nat}(X:k≤128):(2:Int) ^ k≠0∧i4 (2 ^ k):=⟨nM (kr k),by unfold i4;rw [x5];exact yq (by decide) (kD X (by decide))⟩
theorem Uh(W:A≤C)(K:C≤128)(D:0≤B)(E:B < 2 ^ C):ib (B / 2 ^ (C - A))∨ib (2 ^ (C - A)):=by
 have z:=kr (C - A)
 rcases nR 64 A with P | P
 ·refine .inr ?_
  unfold ib
  rw [x5]
  exact yq (by decide) (Uk K P)
 ·have Q:B / 2 ^ (C - A) < 2 ^ A:=by
   rw [Int.ediv_lt_iff_lt_mul z,←Int.pow_add,xX W];exact E
  have h:(2:Int) ^ A≤2 ^ 64:=by set_option simprocs true in exact_mod_cast oZ (n:=2) (by decide) P
  exact .inl (jo (jd (by decide) (x4 D (nL z))) (jd Q (j2 h (by decide))))
inductive EV:List D→J→KK→KK→Prop
 | mk (μ:J) (K E:KK) (A:fK) (b:Nat) (lo hi:Int) (h1:Ends A b lo hi) (h2:K (.tup [.int lo,.int hi]) μ):EV [A.d,.int (b:Int)] μ K E
theorem vV(p:cA w u):cK G w u 2 (.ref 697) EV:=
 cK.of (p.af (by kernel_rfl)) fun I v=>(Zi G p (cp v rfl)).mono fun b B x O X=>by
  refine X.rec fun B x O r f s A c X=>?_
  refine ek rfl ?_
  unfold GN
  induction c with
  | span=>
   dsimp only [fK.d]
   dsimp
   exact dq rfl ⟨b9 rfl,X⟩
  | @aR a l f W K C n=>
   obtain⟨z,U⟩:=Uj W K
   dsimp only [fK.d]
   dsimp
   refine cW rfl ?_
   (refine bb ?_;dsimp)
   refine⟨z,?_⟩
   rw [U]
   (refine bb ?_;dsimp)
   have Z:=Ha a (f - l)
   refine⟨Tp (cg (nT ..) K),?_⟩
   rw [Z]
   refine⟨Uh W K C n,?_⟩
   (refine bb ?_;dsimp)
   exact⟨b9 rfl,X⟩
noncomputable def Av (o:Option Nat):Bool:=match o with
 | some c=>(⟨#[c]⟩:PySem.Str) == "t"
 | none=>false
noncomputable def cH.isT (j:cH):Bool:=match j with
 | .map S _=>Av S.cps[0]?
 | _=>false
def cH.nice (j:cH):Prop:=match j with
 | .map S _=> ∃i,S.cps[0]? =ab i
 | _=>True
structure gP (rows:List cH) (t:Nat):Prop where
 nice: ∀r ∈ rows,r.nice
 cnt:(rows.filter cH.isT).length=t
theorem Km: ∀V < 8,(hc V).cps[0]? =ab 116:=by decide+kernel
theorem PK(B:c2→D)(t:c2→Bool)(y:gj df n q)(a: ∀(T:c2) (L:KK),L (B T) q→cI (ab (B T)::V) q L mn)
 (j:List c2): ∀cM:List D,(∀T ∈ j,∀L:KB,L (t T) q→gL (ab (B T)::V) q L mn)→iH (cM++(j.filter t).map B) q→iC cI (ab gL) df n (j.map B) cM V q iH:=by
 induction j with
 | nil=>intro cM _ k;rw [List.filter_nil,yh,fI] at k;exact k
 | cons T j o=>
  intro cM X k
  refine X T er _ ?_
  rw [Lw] at k
  have A:=fun Z (P:Z ∈ j)=>X Z (fJ _ P)
  induction P:t T with
  | true=>
   rw [P,if_pos rfl] at k
   rw [if_pos rfl]
   exact a T _ ⟨y,o (cM++ [B T]) A (by rw [fH];exact k)⟩
  | false=>
   rw [P,if_neg fv] at k
   rw [if_neg fv]
   exact⟨y,o cM A k⟩
theorem Ar {k:Int}(X:q z=ab (.list n))(Z:jn n=ab de)(S:c0 (de.any fun y=>y == k) q):f7 .In (.int k) (.val (.ref z)) q c0 x:=by
 show tu k z q fun i=>c0 i q
 unfold tu
 rw [X]
 dsimp only
 rw [Z];exact S
noncomputable def ud (N:ck):Int:=((N.data.length:Nat):Int)
theorem IP(N:ck)(L:List ck):gh (N::L)=(if N.p.isSome=true then 1 else 0)+gh L∧ud N=if N.p.isSome=true then 2 else 1:=by
 obtain⟨k,M,c⟩:=N
 induction c with
 | none=>exact⟨(qr _).symm,rfl⟩
 | some P=>exact⟨ym _ 1,rfl⟩
theorem Oq(L:List ck):((L.map ud).any fun s=>s == 2)=decide (0 < gh L):=by
 induction L with
 | nil=>rfl
 | cons l L o=>
  obtain⟨W,K⟩:=IP l L
  rw [gq,oV,o,K,W]
  by_cases P:l.p.isSome=true
  ·rw [if_pos P,if_pos P];exact(decide_eq_true (Nat.add_pos_left (by decide) _)).symm
  ·rw [if_neg P,if_neg P,qr];rfl
theorem Oo(L:List ck):((L.map ud).any fun s=>s == 1)=decide (gh L < L.length):=by
 induction L with
 | nil=>rfl
 | cons l L o=>
  obtain⟨W,K⟩:=IP l L
  rw [gq,oV,o,K,W,lb]
  by_cases P:l.p.isSome=true
  ·rw [if_pos P,if_pos P,ym 1];exact decide_eq_decide.mpr Nat.succ_lt_succ_iff.symm
  ·rw [if_neg P,if_neg P,qr];exact(decide_eq_true (Nat.lt_succ_of_le (LG ..))).symm
noncomputable abbrev lM (U:cj):List D:= [.int 0,.int 0,.int (if U.aw=true then ((U.size / 4:Nat):Int) else -1),.int (if U.aw=true then ((U.size / 4:Nat):Int) else -1)]
end
end
section
set_option simprocs false
section
theorem VX(X:gL V q (fun c n=>if c=true then eh V n cR x d3 else iK V n cR x d3) (d3 V)):rM gL eh iK V q cR x d3:=X
inductive N6 (r:cH):Prop
 | mk (tag:PySem.Str) (rest:List D) (e1:r.d= .tup (.str tag::rest)) (e2:(tag == "map")=true→ ∃x lay,r= .map x lay) (e3:(tag == "map")=false→r.isT=false)
theorem VD(j:cH):N6 j:=by
 induction j with
 | aS j os=>exact⟨"immediate",_,rfl,fun X=>absurd X (by decide),fun F=>rfl⟩
 | field key=>exact⟨"meta",_,rfl,fun X=>absurd X (by decide),fun F=>rfl⟩
 | map S lay=>exact⟨"map",_,rfl,fun F=>⟨S,lay,rfl⟩,fun X=>absurd X (by decide)⟩
 | nat kind nf p0 z E U C flags=>exact⟨"nat",_,rfl,fun X=>absurd X (by decide),fun F=>rfl⟩
theorem TX:("left out: a map of addresses with ports and without" :PySem.Str)= "left out: " ++oy:=by decide+kernel
theorem cj.aI(X:i.ak=true):(∃L,i.adr= .lits L)∨ ∃S,i.adr= .named S:=by
 induction i with
 | mk kind nf adr ai flags=>induction adr with
  | none=>contradiction
  | span=>contradiction
  | aR=>contradiction
  | lits L=>exact .inl ⟨L,rfl⟩
  | named S=>exact .inr ⟨S,rfl⟩
inductive sU (s:cj) (t:Nat) (key nm:PySem.Str) (wh:D) (ns:List Int):Prop
 | mk (kf:(qu (ab ((5:Nat):Int)) ao 1 key.length).length≠key.length∧(i9 key ((5:Nat):Int)).length≤1000000)
  (hp:s.pre t= [.field (i9 key ((5:Nat):Int)),.map nm s.lay]) (h2:(ns.any fun y=>y == 2)=s.aw) (h1:((ns.any fun y=>y == 1) && s.aw)=s.mixed)
theorem TH(P:i.adr= .lits dm)(V:Nat):sU i V "meta mark" (hc V) (.tup [.str "map",.tup (dm.map ck.d)]) (dm.map ud):=by
 cases i;cases P
 refine⟨Am,by refine ze▸?_;rfl,Oq dm,?_⟩
 refine(Oo dm)▸?_
 exact(Bool.and_comm _ _).trans (Bool.decide_and ..).symm
theorem TK(P:i.adr= .named t)(V:Nat):sU i V "meta priority" t (.tup [.str "ref",.str t]) [if iD t=true then 2 else 1]:=by
 cases i;cases P
 refine⟨An,by refine zf▸?_;rfl,?_,?_⟩
 ·show((if iD t=true then (2:Int) else 1) == 2 || false)=iD t
  cases iD t<;>rfl
 ·show(((if iD t=true then (2:Int) else 1) == 1 || false) && iD t)=false
  cases iD t<;>rfl
theorem S8(X:i.aw=true):D.tup [.tup [.int (i.size:Int),.str "big"],.tup [.int 2,.str "big"]]=kn i.lay:=by unfold cj.lay;rw [if_pos X];rfl
theorem S6(X:i.aw=false):D.tup [.tup [.int (i.size:Int),.str "big"]]=kn i.lay:=by unfold cj.lay;rw [if_neg (X▸fv)];rfl
theorem U8(X:i.aw=true): [D.int 0,.int 0,.int ((i.size:Int).fdiv 4),.int ((i.size:Int).fdiv 4)]=lM i:=by unfold lM;rw [if_pos X,uJ _ (by decide)];rfl
theorem U6(X:i.aw=false): [D.int 0,.int 0,.int (-1),.int (-1)]=lM i:=by unfold lM;rw [if_neg (X▸fv)]
noncomputable def BB:cB:=d (v 8 (dj (a (p (a (b (.str "meta")) (a (b (.int 0)) (a (ff (m4 5) (f (f (c 0) (b (.int 1))) (b (.int 1)))) (a (b (.int 4)) (a (b (.str "host")) (j))))))) (a (p (a (b (.str "map")) (a (b (.int 0)) (a (p (a (p (a (b (.int 4)) (a (b (.str "host")) (j)))) (j))) (a (c 4) (a (b (.int 0)) (a (c 6) (j)))))))) (j))))) (d (cQ (p (a (c 8) (a (c 7) (a (b (.str "")) (j)))))) (l))
noncomputable def BA:cB:=d (v 7 (g5 (cC .In (b (.int 2)) (c 5)) (dj (a (b (.int 0)) (a (b (.int 0)) (a (e .FloorDiv (c 1) (b (.int 4))) (a (e .FloorDiv (c 1) (b (.int 4))) (j)))))) (dj (a (b (.int 0)) (a (b (.int 0)) (a (ff fY (b (.int 1))) (a (ff fY (b (.int 1))) (j)))))))) (BB)
noncomputable def Kd:cB:=d (v 6 (g5 (cC .In (b (.int 2)) (c 5)) (p (a (p (a (c 1) (a (b (.str "big")) (j)))) (a (p (a (b (.int 2)) (a (b (.str "big")) (j)))) (j)))) (p (a (p (a (c 1) (a (b (.str "big")) (j)))) (j))))) (BA)
noncomputable def YG:cB:=d (cZ (hI [cC .In (b (.int 1)) (c 5),cC .In (b (.int 2)) (c 5)]) (d (cQ (p (a (dj (j)) (a (dj (j)) (a (b (.str "left out: a map of addresses with ports and without")) (j)))))) (l)) (l)) (Kd)
noncomputable def pX (X:PySem.Str) (A:D) (E:Nat) (P:a0) (C:PySem.Str) (B:a0) (M y o:Option D):Loc:= [ab (.tup [.str "map",.tup [.str "field",.str X],A]),ab (.int (E:Int)),ab (.val (.ref P)),ab A,ab (.str C),ab (.val (.ref B)),M,y,o]
inductive EZ:List D→J→KK→KK→Prop
 | mk (μ:J) (K E:KK) (s:cj) (R:a0) (rows:List cH) (t:Nat) (h1:s.ak=true) (h2:s.Ok) (h3:μ R=ab (.list (rows.map cH.d))) (h4:gP rows t) (h5:t < 8) (h6:rows.length≤1000) (h7:s.mixed=true→ ∀z1 z2 μ',Q [] μ μ'→μ' z1=ab (.list [])→μ' z2=ab (.list [])→K (.tup [.val (.ref z1),.val (.ref z2),.str ("left out: " ++oy)]) μ') (h8:s.mixed=false→ ∀Z P μ',Q [] μ μ'→μ Z=ao→μ' Z=ab (.list ((s.pre t).map cH.d))→μ' P=ab (.list (lM s))→K (.tup [.val (.ref Z),.val (.ref P),.str ""]) μ'):EZ [s.adr.d,.int (s.size:Int),.val (.ref R)] μ K E
section
theorem TG {P:a0}(y:sU i C t e8 T de)(h:fg=kn i.lay)(Y:Q [] q M)(H:M P=ab (.list (lM i)))
 (f: ∀B P e,Q [] q e→q B=ao→e B=ab (.list ((i.pre C).map cH.d))→e P=ab (.list (lM i))→x (.tup [.val (.ref B),.val (.ref P),.str ""]) e):
 BB ⟨G,w,u,A⟩ (pX t T i.size z e8 E (ab fg) (ab (.val (.ref P))) ao) M (fun F e=>x .none e) x (fun F=>bx):=by
 subst h
 obtain⟨N,l,_,_⟩:=y
 rw [l] at f
 delta BB pX
 dsimp
 refine⟨N,by decide,b9 rfl,b9 rfl,b9 rfl,b9 rfl,fun B g=>?_⟩
 (refine bb ?_;dsimp)
 exact⟨b9 rfl,f B P _ (Y.trans (Q.new g)) (Y.none g (by simp)) (J.aa ..) ((J.ag _ _ (J.ne H g)).trans H)⟩
theorem TJ(y:sU i C t e8 T de)(h:fg=kn i.lay)(Y:Q [] q M)(j: ∀L:KB,L i.aw M→f7 .In (.int 2) (.val (.ref E)) M L bx)
 (f: ∀Z L e,Q [] q e→q Z=ao→e Z=ab (.list ((i.pre C).map cH.d))→e L=ab (.list (lM i))→x (.tup [.val (.ref Z),.val (.ref L),.str ""]) e):
 BA ⟨G,w,u,A⟩ (pX t T i.size z e8 E (ab fg) ao ao) M (fun F e=>x .none e) x (fun F=>bx):=by
 have m:=fun L B (H:M L=ao) (I:B=lM i)=>TG (G:=G) (w:=w) (u:=u) (A:=A) (z:=z) (E:=E) (bx:=bx) (P:=L) y h (Y.trans (Q.new (o:= .list B) H)) (by rw [J.aa,I]) f
 unfold BA
 unfold pX at m ⊢
 dsimp
 refine j _ (iE (fun D=>⟨⟨by decide,pO⟩,⟨by decide,pO⟩,b9 rfl,fun L H=>bb (m L _ H (U8 D))⟩) fun D=>⟨b9 rfl,fun L H=>bb (m L _ H (U6 D))⟩)
theorem OO(Z:V.at 5=ab (.val (.ref E)))(a:M E=ab (.list (de.map .int)))(k:c0 ((de.any fun s=>s == 1) && (de.any fun s=>s == 2)) M):mU [mV .In (fQ (.int 1)) (g4 5),mV .In (fQ (.int 2)) (g4 5)] V M c0 bx:=by
 have K:jn (de.map D.int)=ab de:=(ints_map id de).trans (by rw [yg])
 dsimp
 refine Z▸?_
 refine Ar a K ?_
 induction A:de.any fun s=>s == 1 with
 | false=>rw [A] at k;exact cW rfl k
 | true=>
  refine dq rfl (Ar a K ?_)
  induction j:de.any fun s=>s == 2 with
  | false=>rw [A,j] at k;exact cW rfl k
  | true=>rw [A,j] at k;exact dq rfl k
theorem Ie(y:sU i C t e8 T de)(Y:Q [] q M)(a:M E=ab (.list (de.map .int)))
 (N:i.mixed=true→ ∀B I e,Q [] q e→e B=ab (.list [])→e I=ab (.list [])→x (.tup [.val (.ref B),.val (.ref I),.str ("left out: " ++oy)]) e)
 (f:i.mixed=false→ ∀Z L e,Q [] q e→q Z=ao→e Z=ab (.list ((i.pre C).map cH.d))→e L=ab (.list (lM i))→x (.tup [.val (.ref Z),.val (.ref L),.str ""]) e):
 YG ⟨G,w,u,A⟩ (pX t T i.size z e8 E ao ao ao) M (fun F e=>x .none e) x (fun F=>bx):=by
 have O:jn (de.map D.int)=ab de:=(ints_map id de).trans (by rw [yg])
 obtain⟨_,_,K,W⟩:=id y
 have j: ∀L:KB,L i.aw M→f7 .In (.int 2) (.val (.ref E)) M L bx:=fun L H=>Ar a O (by rw [K];exact H)
 refine A8 (VX (OO rfl a ?_))
 rw [K,W]
 induction P:i.mixed with
 | true=>
  refine dq rfl ?_
  dsimp
  refine⟨eA _,fun B c=>⟨eA _,fun I g=>⟨b9 rfl,?_⟩⟩⟩
  refine TX▸?_
  exact N P B I _ (Y.trans ((Q.new c).trans (Q.new g))) ((J.ag _ _ (fun P=>by subst P;rw [J.aa] at g;contradiction)).trans (J.aa ..)) (J.aa ..)
 | false=>
  refine cW rfl ?_
  have m:=fun U (h:U=kn i.lay)=>TJ (G:=G) (w:=w) (u:=u) (A:=A) (z:=z) y h Y j (f P)
  rw [aas]
  refine bb ?_
  unfold Kd
  dsimp
  exact j _ (iE (fun P=>⟨b9 rfl,b9 rfl,b9 rfl,bb (m _ (S8 P))⟩) fun P=>⟨b9 rfl,b9 rfl,bb (m _ (S6 P))⟩)
end
theorem AK(c:i.Ok)(P:i.adr= .named t):t ∈ eW:=by
 rcases c.named t P with ⟨rfl | rfl,_⟩ | ⟨rfl | rfl,_⟩
 ·exact er
 ·exact fJ _ er
 ·exact fJ _ (fJ _ er)
 ·exact fJ _ (fJ _ (fJ _ er))
theorem AG(X:n.length≤1000000)(k:x (.int (n.length:Int)) q):tw [.tup n] q x:=⟨X,k⟩
theorem P7(N:ck):N.data.length≤2:=by
 obtain⟨k,M,c⟩:=N
 cases c<;>exact b9 rfl
theorem Gl(p:cA w u):cK G w u 3 (.ref 702) EZ:=
 cK.of (p.af (by kernel_rfl)) fun I v=>(Zm G p (cp v rfl)).mono fun b B x O X=>by
  refine X.rec fun B x O U z K V g c al e s ap y f=>?_
  refine ek rfl ?_
  unfold GO
  rcases cj.aI g with ⟨q,P⟩ | ⟨S,P⟩
  ·have tail:=fun W C Y a=>Ie (G:=G) (w:=w) (u:=u) (A:=I) (z:=z) (E:=W) (M:=C) (bx:=O) (TH P V) Y a y f
   unfold pX at tail
   rw [show U.adr.d= .tup [.str "map",.tup [.str "field",.str "meta mark"],.tup [.str "map",.tup (q.map ck.d)]] from by rw [P];rfl]
   dsimp
   (refine bb ?_;dsimp)
   refine dq rfl ⟨kj _,gD _,?_⟩
   refine al▸?_
   refine⟨by rw [dP];exact cg ap (by decide),PK cH.d cH.isT (lQ al) (fun T L H=>H) K [] (fun j t L H=>?_) fun d bd=>?_⟩
   ·obtain⟨m,bn,ac,an,M⟩:=VD j
    refine ac▸?_
    dsimp
    induction k:m == "map" with
    | false=>rw [M k] at H;exact cW rfl H
    | true=>
     refine rU (an k) fun S be A=>?_;subst A
     obtain⟨i,am⟩:=e.nice _ t
     cases ac
     refine dq rfl (wq (by decide) rfl (xl (by decide) am ?_))
     have Z:cH.isT (.map S be)=((⟨#[i]⟩:PySem.Str) == "t"):=by show Av S.cps[0]? =_;refine am▸?_;rfl
     rw [Z] at H
     dsimp only [wz]
     induction D:((⟨#[i]⟩:PySem.Str) == "t") with
     | true=>rw [D] at H;exact dq rfl H
     | false=>rw [D] at H;exact cW rfl H
   ·have F:((K.filter cH.isT).map cH.d).length=V:=(dP ..).trans e.cnt
    refine dA (gQ p.top) (cp v rfl) (pN (dh:= []++(K.filter cH.isT).map cH.d) (J.aa ..) (by rw [kC,F];exact cg (nQ s) (by decide)) ?_)
    rw [kC,F]
    refine dA Hg (cp v rfl) ⟨⟨fy _,jd (gp.mpr s) (by decide)⟩,Kn V s,?_⟩
    (refine bb ?_;dsimp)
    refine⟨by rw [dP];exact cg (c.lits q P).1 (by decide),th ck.d (fun N=> .int (ud N)) (by trivial) q [] (fun N h L H=>?_) fun W a=>bb ?_⟩
    ·dsimp
     refine⟨gD _,dA (gQ p.top) (cp v rfl) (AG (by rw [dP];exact cg (P7 N) (by decide)) ?_)⟩
     rw [dP];exact H
    ·exact bb (tail W _ ((Q.new bd).trans (Q.new a)) (by rw [J.aa,kC,qk];rfl))
  ·have tail:=fun W C Y a=>Ie (G:=G) (w:=w) (u:=u) (A:=I) (z:=z) (E:=W) (M:=C) (bx:=O) (TK P V) Y a y f
   unfold pX at tail
   obtain⟨mW,bk,r,k,bi,bm⟩:=wK S (AK c P)
   rw [show U.adr.d= .tup [.str "map",.tup [.str "field",.str "meta priority"],.tup [.str "ref",.str S]] from by rw [P];rfl]
   dsimp
   (refine bb ?_;dsimp)
   refine cW rfl ?_
   (refine bb ?_;dsimp)
   refine xl (by decide) r ?_
   dsimp only [wz]
   rw [bi]
   refine iE (fun o=>⟨b9 rfl,fun W a=>bb (bb (tail W _ (Q.new a) ?_))⟩) fun o=>⟨b9 rfl,fun W a=>bb (bb (tail W _ (Q.new a) ?_))⟩
   ·rw [J.aa,if_pos o];rfl
   ·rw [J.aa,if_neg (by refine o▸?_;exact fv)];rfl
end
end
variable {rZ:List jh}
variable {oP:List cH}
section
set_option tactic.hygienic true
set_option simprocs false
section
noncomputable def hb (c:jh):D:= .tup [.int c.1,.int c.2.1,.int (c.2.2:Int)]
theorem Hn(k:x (.tup n) q)(X:nP (n.length+1) 1000=true):tv 1 (.tup (T::n)) q x bx:=⟨⟨by decide,kE (eA _),cg (b9 X) (by decide)⟩,k⟩
theorem JR(X: ∀d,q d=ao→x (.val (.ref d)) (q.set d (.list ((p6 B bk).map .int)))):AA (.tup [.int B,.int bk]) q x:=X
theorem s8(i:q z=ab (.list n))(D:q E=ab (.list y))(h:n.length+y.length≤1000000)(k: ∀d,q d=ao→x (.val (.ref d)) (q.set d (.list (n++y)))):ig .Add (.val (.ref z)) (.val (.ref E)) q x bx:=by
 show rt z E q x
 unfold rt
 rw [i,D];exact⟨h,k⟩
theorem YL(i:q z=ab (.list n))(h:n.length≤1000000)(k: ∀d,q d=ao→x (.val (.ref d)) (q.set d (.list (n.take A)))):tx A (.val (.ref z)) q x bx:=
 lL (P:=fun o=>nd o fun N=>N.length≤1000000∧ ∀d,q d=ao→x (.val (.ref d)) (q.set d (.list (N.take A)))) i ⟨h,k⟩
theorem kT {d:D}(i:q z=ab (.list n))(X:0≤B∧B < 1000000)(Z:n[B.toNat]? =ab d)(k:x d q):jE (.val (.ref z)) (.int B) q x bx:=wt (by refine i▸?_;rfl) X Z k
theorem rJ {k:Nat}(A:k≤1000000)(g:Nat→D)(a: ∀E < k,∀P:KK,P (g E) q→cI (ab (.int (E:Int))::V) q P mn)(S:iH ((f5 k).map g) q):
 (-1000000≤(k:Int)∧(k:Int)≤1000000)∧(jH (k:Int).toNat).length≤1000000∧iC cI ao ao (jH (k:Int).toNat) (jH (k:Int).toNat) [] V q iH:=by
 rw [ir]
 exact⟨⟨pH _,hh.mpr A⟩,by unfold jH;rw [dP,uO];exact A,th (fun(E:Nat)=>D.int E) g (by trivial) (f5 k) [] (fun E N=>a E (qm.mp N)) S⟩
noncomputable def gv (s K:Int):List Int:=if K=s then [s] else [s,K]
inductive NN (lo hi:Int):Prop
 | one (e:hi=lo) (q:gv lo hi= [lo])
 | two (e:hi≠lo) (q:gv lo hi= [lo,hi])
theorem tm(s K:Int):NN s K:=by
 by_cases Z:K=s
 ·exact .one Z (if_pos Z)
 ·exact .two Z (if_neg Z)
theorem Ae(s K:Int):(gv s K).length≤2:=by
 induction tm s K with
 | one _ P=>rw [P];exact b9 rfl
 | two _ P=>rw [P];exact b9 rfl
theorem JQ(X:B≤bk):p6 B bk=gv B bk:=by
 unfold p6
 induction tm B bk with
 | one e P=>rw [P,if_pos e.symm]
 | two e P=>rw [P,if_neg (Ne.symm e),if_pos (Int.lt_iff_le_and_ne.mpr ⟨X,Ne.symm e⟩)]
noncomputable def Ac (t:Nat→Int) (T:List Int) (y:Nat) (E:Nat):D:= .tup [.int (t E),.int (T.getD E 0),.int (y:Int)]
theorem G2(j o:Int)(y:Nat)(s K:Int)(t:Nat→Int)(J:t 0=j)(W:t 1=o):(f5 (gv s K).length).map (Ac t (gv s K) y)=(eL j o y s K).map hb:=by
 subst J;subst W
 unfold eL
 induction tm s K with
 | one e P=>rw [P,if_pos e];rfl
 | two e P=>rw [P,if_neg e];rfl
def zB (c:jh):Prop:=0≤c.2.1∧c.2.2≤16
theorem IG {o:Int}(J:0≤bk)(X:bk≤ew)(V:A≤16): ∀c ∈ eL B o A bk ew,zB c:=by
 intro c l
 unfold eL at l
 rcases gr.mp l with rfl | l
 ·exact⟨J,V⟩
 ·by_cases Z:ew=bk
  ·rw [if_pos Z] at l;exact nomatch l
  ·rw [if_neg Z] at l;rw [gW.mp l];exact⟨j2 J X,V⟩
theorem Ud {a:Int} {l b:Nat}(J:0≤a):0≤(lI a l b).1∧(lI a l b).1≤(lI a l b).2:=by
 have W:=kr (b - l)
 have C:=CT (x4 J (nL W)) (nL W)
 refine⟨C,?_⟩
 show a / 2 ^ (b - l) * 2 ^ (b - l)≤a / 2 ^ (b - l) * 2 ^ (b - l)+2 ^ (b - l) - 1
 rw [Int.add_sub_assoc]
 exact CQ (Int.le_sub_one_of_lt W)
inductive Ek (s:cj):Prop
 | mk (x:PySem.Str) (rest:List D) (lo hi:Int) (hd:s.adr.d= .tup (.str x::rest)) (hx:(x == "map")=false) (he:s.ends=ab (lo,hi)) (hE:Ends s.adr (8 * s.size) lo hi) (h0:0≤lo) (h1:lo≤hi) (hm:s.ak=false) (mx:s.mixed=false) (mp:s.aw=false) (hp: ∀t,s.pre t= []) (hl:s.low=0) (hs:s.size=wide s.nf)
theorem IT(E:Int):(2:Int) ^ (8 * wide E)=256 ^ wide E∧8 * wide E≤128:=by
 rcases lS E with e | e<;>rw [e]<;>decide
theorem vG(c:i.Ok):i.adr= .none∨i.ak=true∨Ek i:=by
 refine c.rec fun F W K F F F F=>?_
 induction i with
 | mk kind nf adr ai flags=>induction adr with
  | none=>exact .inl rfl
  | lits L=>exact .inr (.inl rfl)
  | named S=>exact .inr (.inl rfl)
  | span a b=>
   refine gz (W a b rfl) fun z U F=>?_
   exact .inr (.inr ⟨"span",_,a,b,rfl,by decide,rfl,.span,z,U,rfl,rfl,rfl,fun F=>rfl,rfl,rfl⟩)
  | aR a l=>
   refine gz (K a l rfl) fun z U C=>?_
   obtain⟨k,j⟩:=Ud (a:=a) (l:=l) (b:=8 * wide nf) z
   exact .inr (.inr ⟨"net",_,_,_,rfl,by decide,rfl,.aR C (IT nf).2 z (show a < 2 ^ (8 * wide nf) by rw [(IT nf).1];exact U),k,j,rfl,rfl,rfl,fun F=>rfl,rfl,rfl⟩)
theorem xf(U:cj):U.size≤16:=by
 obtain⟨L,E,A,B,H⟩:=U
 have:wide E≤16:=by rcases lS E with e | e<;>rw [e]<;>decide
 induction A with
 | none=>exact eA _
 | _=>exact this
theorem wG(X:i.ak=true):i.puts= []∧i.low=0∧i.high=0∧i.size=wide i.nf∧i.adr≠ .none:=by
 rcases cj.aI X with ⟨L,P⟩ | ⟨S,P⟩
 ·cases i;cases P;exact⟨rfl,rfl,rfl,rfl,nofun⟩
 ·cases i;cases P;exact⟨rfl,rfl,rfl,rfl,nofun⟩
theorem Vj(A:i.Ok): ∀c ∈ i.puts++i.aj,zB c:=by
 intro c l
 rcases j5.mp l with l | l
 ·rcases vG A with P | P | ⟨_,_,s,K,_,_,a,_,J,W⟩
  ·rw [(oF 0 P).2.2.1] at l;exact nomatch l
  ·rw [(wG P).1] at l;exact nomatch l
  ·unfold cj.puts at l
   rw [a] at l
   exact IG J W (xf i) c l
 ·by_cases V:i.aw=true
  ·rw [(pQ (.inl V)).1] at l;exact nomatch l
  ·induction S:i.ai with
   | none=>rw [(pQ (.inr S)).1] at l;exact nomatch l
   | some Z=>
    obtain⟨R,f⟩:=Z
    rw [(tF V S).1] at l
    refine gz (A.ai R f S) fun d I F=>?_
    exact IG d I (by decide) c l
theorem zK(U:cj):(U.puts++U.aj).length≤4:=by rw [dR];exact iV (AY U) (IU U)
noncomputable def xr:cB:=d (eZ (eM "append" (c 8) (a (p (a (b (.str "nat")) (a (c 2) (a (c 3) (a (f (c 9) (b (.int 0))) (a (f (c 9) (b (.int 1))) (a (c 7) (a (f (c 9) (b (.int 2))) (a (f (c 9) (b (.int 3))) (a (c 6) (j))))))))))) (j)))) (d (cQ (p (a (c 8) (a (b (.str "")) (j))))) (l))
noncomputable def xq:cB:=d (cZ (hI [cC .Gt (c 7) (b (.int 0)),cC .Eq (f (c 4) (b (.int 0))) (b (.str "net"))]) (d (v 6 (e .Add (c 6) (p (a (b (.str "netmap")) (j))))) (l)) (l)) (xr)
noncomputable def xt:cB:=d (cZ (cC .GtE (c 14) (e .Pow (b (.int 256)) (c 15))) (d (cQ (p (a (c 8) (a (b (.str "the number does not fit its octets")) (j))))) (l)) (l)) (d (eZ (eM "append" (c 8) (a (p (a (b (.str "immediate")) (a (c 13) (a (h (b (.val (.ref 662))) (a (c 14) (a (c 15) (j)))) (j))))) (j)))) (l))
noncomputable def xp:cB:=d (gk (gR [13,14,15]) (gS (c 11)) (xt)) (xq)
noncomputable def BH:cB:=d (cZ (hI [cC .IsNot (c 5) (b .none),cC .Lt (f (c 9) (b (.int 2))) (b (.int 0))]) (d (v 12 (uq (c 5))) (d (v 11 (e .Add (c 11) (jL (g6 (h (b (.val (.builtin "len"))) (a (c 12) (j)))) ao (p (a (e .Add (b (.int 8)) (c 0)) (a (f (c 13) (c 0)) (a (b (.int 2)) (j)))))))) (d (v 9 (e .Add (ff (tx 2) (c 9)) (dj (a (b (.int 8)) (a (e .Add (b (.int 7)) (h (b (.val (.builtin "len"))) (a (c 12) (j)))) (j)))))) (l)))) (l)) (xp)
noncomputable def xo:cB:=d (cZ (cC .NotEq (c 10) (b (.str ""))) (d (cQ (p (a (dj (j)) (a (c 10) (j))))) (l)) (l)) (BH)
noncomputable def oK:cB:=d (cZ (hI [cC .Gt (c 7) (b (.int 0)),cC .Eq (f (c 4) (b (.int 0))) (b (.str "map"))]) (d (ij (gR [8,9,10]) (h (b (.val (.ref 702))) (a (c 4) (a (c 7) (a (c 1) (j)))))) (l)) (d (cZ (cC .Gt (c 7) (b (.int 0))) (d (v 12 (uq (h (b (.val (.ref 697))) (a (c 4) (a (e .Mult (b (.int 8)) (c 7)) (j)))))) (d (uk 11 (g6 (h (b (.val (.builtin "len"))) (a (c 12) (j)))) ao (p (a (e .FloorDiv (e .Mult (c 0) (c 8)) (b (.int 4))) (a (f (c 13) (c 0)) (a (c 8) (j)))))) (d (v 9 (dj (a (b (.int 0)) (a (e .FloorDiv (e .Mult (e .Sub (h (b (.val (.builtin "len"))) (a (c 12) (j))) (b (.int 1))) (c 7)) (b (.int 4))) (a (ff fY (b (.int 1))) (a (ff fY (b (.int 1))) (j))))))) (l)))) (l)) (l))) (xo)
noncomputable def gF (U:cj) (P:a0) (R:D) (A:List PySem.Str) (o E F C L I B G:Option D):Loc:= [ab U.d,ab (.val (.ref P)),ab (.str U.kind),ab (.int U.nf),ab R,ab (hG U.ai),ab (gZ A),ab (.int (U.size:Int)),o,E,F,C,L,I,B,G]
noncomputable def kq (R f i T:Int):dE:= .list [.int R,.int f,.int i,.int T]
inductive E3:List D→J→KK→KK→Prop
 | mk (μ:J) (K E:KK) (s:cj) (R:a0) (rows:List cH) (t:Nat) (h1:s.Ok) (h2:μ R=ab (.list (rows.map cH.d))) (h3:gP rows t) (h4:t < 8) (h5:rows.length≤1000) (h6: ∀Z μ',Q [] μ μ'→μ Z=ao→μ' Z=ab (.list ((s.rows t).1.map cH.d))→K (.tup [.val (.ref Z),.str (s.rows t).2]) μ'):E3 [s.d,.val (.ref R)] μ K E
section
theorem VK(g:M E=ab (.list (fE.map cH.d)))(H:M O=ab (kq i.low i.high i.aM i.aB))(S:fE.length≤100)
 (f: ∀e,Q [E] M e→e E=ab (.list ((fE++ [i.last]).map cH.d))→x (.tup [.val (.ref E),.str ""]) e):
 xr ⟨G,w,u,A⟩ (gF i z T i.au (ab (.val (.ref E))) (ab (.val (.ref O))) c3 dW dk dX dU dO) M (fun F e=>x .none e) x (fun F=>bx):=by
 delta xr gF
 dsimp
 refine jG g ?_
 dsimp
 refine kT H (by decide) rfl (kT H (by decide) rfl (kT H (by decide) rfl (kT H (by decide) rfl ⟨b9 rfl,jD g (by rw [dP];exact cg S (by decide)) ?_⟩)))
 (refine bb ?_;dsimp)
 refine⟨b9 rfl,f _ ((Q.refl M).wr er) ?_⟩
 rw [J.aa,fh];rfl
theorem VI(c:i.Ok)(C:i.adr.d=T)(X:xr ⟨G,w,u,A⟩ (gF i z T i.au (ab (.val (.ref E))) (ab (.val (.ref O))) c3 dW dk dX dU dO) M cR cF (fun F=>bx)):
 xq ⟨G,w,u,A⟩ (gF i z T i.flags (ab (.val (.ref E))) (ab (.val (.ref O))) c3 dW dk dX dU dO) M cR cF (fun F=>bx):=by
 unfold xq
 unfold gF at X ⊢
 by_cases B:i.adr= .none
 ·refine Cc (oF 0 B) fun D F F F F F F R=>?_
  rw [R,D] at X
  rw [D]
  dsimp
  exact cW rfl (cW rfl (bb X))
 ·refine qa (rC 0 B) fun S H hd K I F F=>?_
  have J:(0:Int) < (i.size:Int):=by rw [I];rcases lS i.nf with e | e<;>rw [e]<;>decide
  cases C.symm.trans hd
  rw [K] at X
  dsimp
  refine dq (decide_eq_true J) ?_
  by_cases l:S= "net"
  ·rw [if_pos l] at X
   unfold gZ at X
   rw [fh] at X
   exact dq (beq_iff_eq.mpr l) (dq rfl ⟨by decide,Ai c.flags,bb X⟩)
  ·rw [if_neg l] at X
   exact cW (beq_eq_false_iff_ne.mpr l) (cW rfl (bb X))
inductive N8 (i:cj) (z E O cn:a0) (T:D) (c3 dk:Option D) (fE:List cH) (μ5:J) (rs:List D) (ρ:Loc) (μ6:J):Prop
 | mk (done:List cH) (rest:List jh) (dX dU dO:Option D) (hr:rs=rest.map hb) (hok: ∀p ∈ rest,zB p) (hl:done.length+rest.length≤4) (he:emit (i.puts++i.aj)=(done++(emit rest).1,(emit rest).2))
  (hρ:ρ=gF i z T i.flags (ab (.val (.ref E))) (ab (.val (.ref O))) c3 (ab (.val (.ref cn))) dk dX dU dO) (k:Q [E] μ5 μ6) (hZ:μ6 E=ab (.list ((fE++done).map cH.d)))
theorem GZ(P: ¬bk < 256 ^ C):emit ((B,bk,C)::rZ)=([],false):=by rw [mZ,if_neg P]
theorem G1(P:bk < 256 ^ C):emit ((B,bk,C)::rZ)=(.aS B (ed bk C)::(emit rZ).1,(emit rZ).2):=by rw [mZ,if_pos P]
theorem VL(p:cA w u)(v:2≤A)(S:fE.length≤50)(F:M cn=ab (.list ((i.puts++i.aj).map hb)))(B:cn≠E) {Nx:Loc→J→Prop}
 (W:(emit (i.puts++i.aj)).2=true→ ∀e dX dU dO,Q [E] M e→e E=ab (.list ((fE++(emit (i.puts++i.aj)).1).map cH.d))→Nx (gF i z T i.flags (ab (.val (.ref E))) (ab (.val (.ref O))) c3 (ab (.val (.ref cn))) dk dX dU dO) e)
 (K:(emit (i.puts++i.aj)).2=false→ ∀e,Q [E] M e→e E=ab (.list ((fE++(emit (i.puts++i.aj)).1).map cH.d))→x (.tup [.val (.ref E),.str m9]) e):
 ∀b Y f,N8 i z E O cn T c3 dk fE M b Y f→eS (gR [13,14,15]) (xt ⟨G,w,u,A⟩) (ab cn) ((i.puts++i.aj).map hb) Nx x b Y f:=by
 refine jq _ (fun Y f X=>?_) (fun V b Y f n X d=>?_)
 ·obtain⟨done,H,dX,dU,dO,t,_,_,a,rfl,k,g⟩:=X
  induction H with
  | cons=>contradiction
  | nil=>
   rw [show emit []=([],true) from rfl,fI] at a
   rw [a] at W
   exact W rfl f dX dU dO k g
 ·obtain⟨done,H,dX,dU,dO,t,R,h,a,rfl,k,g⟩:=X
  cases H with
  | nil=>contradiction
  | cons c H=>
   cases t
   obtain⟨j,Z,y⟩:=c
   refine(R (j,Z,y) er).elim fun I U=>?_
   have U:y≤16:=U
   have q:done.length+1+H.length≤4:=by rw [si];exact h
   show xt ⟨G,w,u,A⟩ (gF i z T i.flags (ab (.val (.ref E))) (ab (.val (.ref O))) c3 (ab (.val (.ref cn))) dk (ab (.int j)) (ab (.int Z)) (ab (.int (y:Int)))) f n x fM
   have N:Q [E] M f→Z < 256 ^ y→ ∀s,Q [] f s→n (gF i z T i.flags (ab (.val (.ref E))) (ab (.val (.ref O))) c3 (ab (.val (.ref cn))) dk (ab (.int j)) (ab (.int Z)) (ab (.int (y:Int)))) (s.set E (.list ((fE++done).map cH.d++ [(cH.aS j (ed Z y)).d]))):=fun k P s D=>by
    have C:=k.trans (jF (L:=E) (T:= []) (o:= .list ((fE++done).map cH.d++ [(cH.aS j (ed Z y)).d])) D)
    rw [G1 P] at a
    refine d _ _ ⟨done++ [.aS j (ed Z y)],H,_,_,_,rfl,fun c l=>R c (fJ _ l),by rw [dR];exact q,by rw [a,fH];rfl,rfl,C,?_⟩ ((lQ F).keep C (fun r P=>by obtain rfl:=c4 P;exact eb B))
    rw [J.aa,←fH,fh (l₁:=fE++done)];rfl
   unfold xt
   dsimp
   refine⟨nh (by decide) (cg U (by decide)),iE (fun P=>?_) fun P=>?_⟩
   ·have P: ¬Z < 256 ^ y:=je.mpr (of_decide_eq_true P)
    rw [GZ P,fI] at a
    rw [a] at K
    exact⟨b9 rfl,K rfl f k g⟩
   ·have P:Z < 256 ^ y:=x6.mp (of_decide_eq_false P)
    (refine bb ?_;dsimp)
    refine jG g ?_
    dsimp
    refine⟨(Gm (G:=G) p).ok,dA (Gm p) v ⟨_,_,_,Z,y,I,cg U (by decide),fun s D=>⟨b9 rfl,jD (cV D g) ?_ (N k P s D)⟩⟩⟩
    rw [dP,dR]
    exact cg (iV S (cg (j6 ..) h)) (by decide)
theorem VJ(p:cA w u)(v:2≤A)(c:i.Ok)(U:i.adr.d=T)(d:i.mixed=false)(m:Q [] q M)(N:q E=ao)(g:M E=ab (.list ((i.pre C).map cH.d)))(H:M O=ab (kq i.low i.high i.aM i.aB))(b:M cn=ab (.list ((i.puts++i.aj).map hb)))(B:cn≠E)(k:O≠E)
 (f: ∀E e,Q [] q e→q E=ao→e E=ab (.list ((i.rows C).1.map cH.d))→x (.tup [.val (.ref E),.str (i.rows C).2]) e):
 xp ⟨G,w,u,A⟩ (gF i z T i.flags (ab (.val (.ref E))) (ab (.val (.ref O))) c3 (ab (.val (.ref cn))) dk dX dU dO) M (fun F e=>x .none e) x (fun F=>bx):=by
 have S:(emit (i.puts++i.aj)).1.length≤4:=cg (wb _) (zK i)
 have L:=VL (G:=G) (A:=A) (z:=z) (O:=O) (T:=T) (c3:=c3) (dk:=dk) (fE:=i.pre C) (x:=x) (Nx:=ih (xq ⟨G,w,u,A⟩) (fun F e=>x .none e) x (fun F=>bx)) p v (cg (w0 i C) (by decide)) b B
  (fun I J dX dU dO y D=>bb (VI c U (VK D (y O _ (eb k) H) (by rw [dR];exact cg (iV (w0 i C) S) (by decide)) fun s Z V=>by
   have:=f E s ((y.trans Z).old N m) N
   rw [(pZ d I).1] at this
   exact this V)))
  (fun I J y D=>by
   have:=f E J (y.old N m) N
   rw [(pY d I).1] at this
   exact this D) _ _ _ ⟨[],_,dX,dU,dO,rfl,Vj c,by rw [show([]:List cH).length=0 from rfl,qr];exact zK i,rfl,rfl,Q.refl _,by rw [fI];exact g⟩
 unfold xp
 unfold gF at L ⊢
 dsimp
 refine b▸?_
 exact L
theorem IC(i:cj): ¬i.aw=true→i.p0= -1:=fun X=>if_neg X
theorem UP(X:i.aw=true):decide (i.p0 < 0)=false:=decide_eq_false (by unfold cj.p0;rw [if_pos X];exact je.mpr (fy _))
theorem ri:((gv B bk).map D.int).length≤2:=by rw [dP];exact Ae B bk
theorem FV(X:C < (gv B bk).length):((gv B bk).map D.int)[(C:Int).toNat]? =ab (.int ((gv B bk).getD C 0)):=by
 rw [ir,lX,j3,gV X];rfl
theorem JP {k:Nat}(X:C < k)(g:k≤2):0≤(C:Int)∧(C:Int) < 1000000:=⟨fy _,jd (gp.mpr (lY X g)) (by decide)⟩
theorem WA:(7:Int)+(((gv B bk).map D.int).length:Int)=if bk=B then 8 else 9:=by
 rw [dP]
 induction tm B bk with
 | one e P=>rw [P,if_pos e];rfl
 | two e P=>rw [P,if_neg e];rfl
theorem VP(p:cA w u)(v:2≤A)(c:i.Ok)(ck:i.adr.d=T)(d:i.mixed=false)(j:Q [] q M)(cj:q E=ao)(g:M E=ab (.list ((i.pre C).map cH.d)))(H:M O=ab (kq i.low i.high i.p0 i.p0))(b:M cn=ab (.list (i.puts.map hb)))(bm:cn≠E)(bk:O≠E)
 (f: ∀E e,Q [] q e→q E=ao→e E=ab (.list ((i.rows C).1.map cH.d))→x (.tup [.val (.ref E),.str (i.rows C).2]) e):
 BH ⟨G,w,u,A⟩ (gF i z T i.flags (ab (.val (.ref E))) (ab (.val (.ref O))) c3 (ab (.val (.ref cn))) dk dX dU dO) M (fun F e=>x .none e) x (fun F=>bx):=by
 have L:=fun(O cn:a0) (am:J) (dk:Option D) (m:Q [] q am) g H b bm bk=>VJ (G:=G) (z:=z) (O:=O) (cn:=cn) (bx:=bx) (c3:=c3) (dk:=dk) (dX:=dX) (dU:=dU) (dO:=dO) p v c ck d m cj g H b bm bk f
 have al:i.aw=true∨i.ai=ao→xp ⟨G,w,u,A⟩ (gF i z T i.flags (ab (.val (.ref E))) (ab (.val (.ref O))) c3 (ab (.val (.ref cn))) dk dX dU dO) M (fun F e=>x .none e) x (fun F=>bx):=fun cw=>by
  refine(pQ cw).elim fun cb h=>?_
  refine h.elim fun ce cf=>?_
  exact L O cn M dk j g (by rw [ce,cf];exact H) (by rw [cb,fI];exact b) bm bk
 unfold BH
 unfold gF at L al ⊢
 induction l:i.ai with
 | none=>
  rw [l] at al
  dsimp only [hG] at al ⊢
  dsimp
  exact cW rfl (cW rfl (bb (al (.inr rfl))))
 | some cs=>
  obtain⟨t,ac⟩:=cs
  rw [l] at al L
  dsimp only [hG] at al L ⊢
  dsimp
  refine dq rfl (kT H (by decide) rfl ?_)
  dsimp only [wA]
  by_cases V:i.aw=true
  ·exact cW (UP V) (cW rfl (bb (al (.inl V))))
  ·refine gz (tF V l) fun Y ch ci=>?_
   refine gz (c.ai t ac l) fun cC cr F=>?_
   rw [IC i V] at H ⊢
   refine dq rfl (dq rfl (JR fun B cm=>?_))
   refine(JQ cr)▸?_
   have m:Q [] M (M.set B (.list ((gv t ac).map .int))):=Q.new cm
   have W:(M.set B (.list ((gv t ac).map .int))) B=ab (.list ((gv t ac).map .int)):=J.aa ..
   revert m W
   generalize M.set B (.list ((gv t ac).map .int))=am
   intro m W
   (refine bb ?_;dsimp)
   refine⟨gD _,dA (gQ p.top) (cp v rfl) (pN W (cg ri (by decide)) ?_)⟩
   refine rJ (k:=((gv t ac).map D.int).length) (cg ri (by decide)) (Ac (fun b6=>8+(b6:Int)) (gv t ac) 2) (fun b6 N O H=>?_) fun I bu=>?_
   ·rw [dP] at N
    dsimp
    exact kT W (JP N (Ae ..)) (FV N) ⟨b9 rfl,H⟩
   ·rw [dP,G2 8 9 2 t ac _ rfl rfl,←Y]
    have y:=m.trans (Q.new (S:= []) (o:= .list (i.aj.map hb)) bu)
    have K:(am.set I (.list (i.aj.map hb))) I=ab (.list (i.aj.map hb)):=J.aa ..
    have an:(am.set I (.list (i.aj.map hb))) B=ab (.list ((gv t ac).map .int)):=(J.ag _ _ (J.ne W bu)).trans W
    revert y K an
    generalize am.set I (.list (i.aj.map hb))=bn
    intro y K an
    refine s8 (cV y b) K (by rw [←dR,←fh,dP];exact cg (zK i) (by decide)) fun X be=>?_
    refine fh▸?_
    have Z:=y.trans (Q.new (S:= []) (o:= .list ((i.puts++i.aj).map hb)) be)
    have bd:(bn.set X (.list ((i.puts++i.aj).map hb))) X=ab (.list ((i.puts++i.aj).map hb)):=J.aa ..
    have ap:(bn.set X (.list ((i.puts++i.aj).map hb))) B=ab (.list ((gv t ac).map .int)):=(J.ag _ _ (J.ne an be)).trans an
    have cq:=(J.ne (cV y g) be).symm
    revert Z bd ap
    generalize bn.set X (.list ((i.puts++i.aj).map hb))=s
    intro Z bd ap
    (refine bb ?_;dsimp)
    refine YL (cV Z H) (b9 rfl) fun a co=>⟨gD _,?_⟩
    have r:Q [] s (s.set a (.list [.int i.low,.int i.high])):=Q.new co
    have n:(s.set a (.list [.int i.low,.int i.high])) a=ab (.list [.int i.low,.int i.high]):=J.aa ..
    show mv G w u A (.builtin "len") _ _ _ (s.set a (.list [.int i.low,.int i.high]))
    revert r n
    generalize s.set a (.list [.int i.low,.int i.high])=ca
    intro r n
    refine dA (gQ p.top) (cp v rfl) (pN (cV r ap) (cg ri (by decide)) ?_)
    dsimp only [tA]
    rw [WA,←ci]
    refine⟨b9 rfl,fun cz bv=>?_⟩
    have b8:Q [] ca (ca.set cz (.list [.int 8,.int i.aB])):=Q.new bv
    refine s8 ((J.ag _ _ (J.ne n bv)).trans n) (J.aa ..) (b9 rfl) fun cB b5=>bb (bb ?_)
    have bi:=(r.trans b8).trans (Q.new (S:= []) (o:= .list ([.int i.low,.int i.high]++ [.int 8,.int i.aB])) b5)
    refine L cB X _ _ (j.trans (Z.trans bi)) (cV (Z.trans bi) g) ?_ (cV bi bd) cq (J.ne (cV (Z.trans (r.trans b8)) g) b5).symm
    rw [J.aa,ch];rfl
theorem A6(p:cA w u)(v:2≤A)(c:i.Ok)(C:i.adr.d=T)(d:i.mixed=false) {t:Nat}(j:Q [] q M)(N:q E=ao)(g:M E=ab (.list ((i.pre t).map cH.d)))(H:M O=ab (kq i.low i.high i.p0 i.p0))(b:M cn=ab (.list (i.puts.map hb)))(B:cn≠E)(k:O≠E)
 (f: ∀E e,Q [] q e→q E=ao→e E=ab (.list ((i.rows t).1.map cH.d))→x (.tup [.val (.ref E),.str (i.rows t).2]) e):
 xo ⟨G,w,u,A⟩ (gF i z T i.flags (ab (.val (.ref E))) (ab (.val (.ref O))) (ab (.str "")) (ab (.val (.ref cn))) dk dX dU dO) M (fun F e=>x .none e) x (fun F=>bx):=by
 have L:=VP (G:=G) (z:=z) (bx:=bx) (c3:=ab (.str "")) (dk:=dk) (dX:=dX) (dU:=dU) (dO:=dO) p v c C d j N g H b B k f
 unfold xo
 unfold gF at L ⊢
 dsimp
 exact cW (by decide) (bb L)
theorem JJ(i:cj):ib (i.size:Int):=jo (jd (by decide) (fy _)) (qj (hh.mpr (xf i)) (by decide))
theorem w5 {k:Nat}:(((0:Nat):Int) * (k:Int)).fdiv 4=0∧(((1:Nat):Int) * (k:Int)).fdiv 4=((k / 4:Nat):Int):=by
 rw [Int.natCast_zero,Lm,show((1:Nat):Int)=1 from rfl,CU]
 exact⟨rfl,by rw [uJ _ (by decide)];rfl⟩
theorem R7 {k:Nat}:(((((gv B bk).map D.int).length:Int) - 1) * (k:Int)).fdiv 4=if bk=B then 0 else ((k / 4:Nat):Int):=by
 rw [dP]
 induction tm B bk with
 | one e P=>rw [P,if_pos e];exact w5.1
 | two e P=>rw [P,if_neg e];exact w5.2
theorem Ht(a:i.ends=ab (B,bk)):i.high=(if bk=B then 0 else ((i.size / 4:Nat):Int))∧i.puts=eL 0 ((i.size / 4:Nat):Int) i.size B bk:=by
 unfold cj.high cj.puts
 refine a▸?_;exact⟨rfl,rfl⟩
theorem VO(p:cA w u)(v:2≤A)(c:i.Ok)(Z:Ek i)(b6:Q [] q M)(bn:q E=ao)(g:M E=ab (.list ([]:List D)))
 (f: ∀E e,Q [] q e→q E=ao→e E=ab (.list ((i.rows C).1.map cH.d))→x (.tup [.val (.ref E),.str (i.rows C).2]) e):
 oK ⟨G,w,u,A⟩ (gF i z i.adr.d i.flags (ab (.val (.ref E))) (ab (.val (.ref O))) (ab (.str "")) (ab (.val (.ref cn))) ao ao ao ao) M (fun F e=>x .none e) x (fun F=>bx):=by
 obtain⟨ch,cf,s,ac,hd,bv,a,r,ce,bu,V,d,Y,l,h,y⟩:=Z
 refine(Ht a).elim fun bk bm=>?_
 have ap:(0:Int) < (i.size:Int):=by rw [y];rcases lS i.nf with Z | Z<;>rw [Z]<;>decide
 have L:=fun(O cn:a0) (bi:J) (dk:Option D) (m:Q [] q bi) g H b cb ca=>A6 (G:=G) (A:=A) (z:=z) (O:=O) (cn:=cn) (bx:=bx) (t:=C) (dk:=dk) (dX:=ao) (dU:=ao) (dO:=ao) p v c hd d m bn g H b cb ca f
 rw [l] at L
 unfold oK
 refine hd▸?_
 unfold gF at L ⊢
 dsimp
 refine dq (decide_eq_true ap) (cW bv (cW rfl (dq (decide_eq_true ap) ⟨(vV (G:=G) p).ok,.inl wC,dA (vV p) v (rq ⟨_,_,_,i.adr,8 * i.size,s,ac,r,JR fun B b5=>?_⟩ (by refine hd▸?_;rfl))⟩)))
 refine(JQ bu)▸?_
 have j:Q [] M (M.set B (.list ((gv s ac).map .int))):=Q.new b5
 have W:(M.set B (.list ((gv s ac).map .int))) B=ab (.list ((gv s ac).map .int)):=J.aa ..
 revert j W
 generalize M.set B (.list ((gv s ac).map .int))=an
 intro j W
 (refine bb ?_;dsimp)
 refine⟨gD _,dA (gQ p.top) (cp v rfl) (pN W (cg ri (by decide)) ?_)⟩
 refine rJ (k:=((gv s ac).map D.int).length) (cg ri (by decide)) (Ac (fun bd=>((bd:Int) * (i.size:Int)).fdiv 4) (gv s ac) i.size) (fun bd N O H=>?_) fun I al=>?_
 ·rw [dP] at N
  dsimp
  exact⟨.inr (JJ i),⟨by decide,pO⟩,kT W (JP N (Ae ..)) (FV N) ⟨b9 rfl,H⟩⟩
 ·rw [dP,G2 0 ((i.size / 4:Nat):Int) i.size s ac _ w5.1 w5.2,←bm]
  have m:=j.trans (Q.new (S:= []) (o:= .list (i.puts.map hb)) al)
  have K:(an.set I (.list (i.puts.map hb))) I=ab (.list (i.puts.map hb)):=J.aa ..
  have T:(an.set I (.list (i.puts.map hb))) B=ab (.list ((gv s ac).map .int)):=(J.ag _ _ (J.ne W al)).trans W
  have b8:=(J.ne (cV j g) al).symm
  revert m K T
  generalize an.set I (.list (i.puts.map hb))=bi
  intro m K T
  (refine bb ?_;dsimp)
  refine⟨gD _,dA (gQ p.top) (cp v rfl) (pN T (cg ri (by decide)) ?_)⟩
  dsimp only [HV,SF,SE]
  rw [R7,←bk]
  refine⟨.inr (JJ i),⟨by decide,pO⟩,b9 rfl,fun X am=>bb (bb (bb ?_))⟩
  have be:=m.trans (Q.new (S:= []) (o:= .list [.int 0,.int i.high,.int (-1),.int (-1)]) am)
  refine L X I _ _ (b6.trans be) (cV be g) ?_ ((J.ag _ _ (J.ne K am)).trans K) b8 (J.ne (cV m g) am).symm
  rw [J.aa,h,IC i (by refine Y▸?_;exact fv)];rfl
theorem VN(p:cA w u)(v:2≤A)(c:i.Ok)(T:i.adr= .none)(Z:Q [] q M)(N:q E=ao)(g:M E=ab (.list ([]:List D)))(H:M O=ab (kq (-1) (-1) (-1) (-1)))(b:M cn=ab (.list ([]:List D)))(B:cn≠E)(k:O≠E)
 (f: ∀E e,Q [] q e→q E=ao→e E=ab (.list ((i.rows C).1.map cH.d))→x (.tup [.val (.ref E),.str (i.rows C).2]) e):
 oK ⟨G,w,u,A⟩ (gF i z i.adr.d i.flags (ab (.val (.ref E))) (ab (.val (.ref O))) (ab (.str "")) (ab (.val (.ref cn))) ao ao ao ao) M (fun F e=>x .none e) x (fun F=>bx):=by
 refine(oF C T).elim fun P h=>?_
 have d:=h.1;have Y:=h.2.1;have I:=h.2.2.1;have r:=h.2.2.2.1;have K:=h.2.2.2.2.1;have J:=h.2.2.2.2.2.1
 have L:=A6 (G:=G) (z:=z) (bx:=bx) (T:=i.adr.d) (t:=C) (dk:=ao) (dX:=ao) (dU:=ao) (dO:=ao) p v c rfl d Z N (by refine I▸?_;exact g) (by rw [r,K,J];exact H) (by refine Y▸?_;exact b) B k f
 unfold oK
 unfold gF at L ⊢
 rw [P] at L ⊢
 dsimp
 exact cW rfl (cW rfl (cW rfl (bb L)))
theorem Ib(X:i.ak=true): ∃H,i.adr.d= .tup (.str "map" ::H):=by
 rcases cj.aI X with ⟨L,P⟩ | ⟨S,P⟩
 ·exact⟨_,by rw [P];rfl⟩
 ·exact⟨_,by rw [P];rfl⟩
theorem U7(X:i.ak=true):lM i= [.int i.low,.int i.high,.int i.p0,.int i.p0]:=by
 refine(wG X).elim fun F h=>?_
 have W:=h.1;have K:=h.2.1
 rw [W,K];rfl
theorem Ub {T:a0}(X:q T=ab (.list n))(L:q cS=ab (.list y))(A:n.length≠y.length):T≠cS:=J.diff X L fun Z=>by injection Z with Z;subst Z;exact A rfl
theorem VM(p:cA w u)(v:3≤A)(c:i.Ok)(V:i.ak=true)(a:Q [] q M)(S:M z=ab (.list (oP.map cH.d)))(r:gP oP C)(s:C < 8)(ac:oP.length≤1000)(b:M cn=ab (.list ([]:List D)))
 (f: ∀E X,Q [] q X→q E=ao→X E=ab (.list ((i.rows C).1.map cH.d))→x (.tup [.val (.ref E),.str (i.rows C).2]) X):
 oK ⟨G,w,u,A⟩ (gF i z i.adr.d i.flags (ab (.val (.ref E))) (ab (.val (.ref O))) (ab (.str "")) (ab (.val (.ref cn))) ao ao ao ao) M (fun F X=>x .none X) x (fun F=>bx):=by
 refine(Ib V).elim fun an hd=>?_
 refine xE (wG V) fun Y F F y F=>?_
 have o:(0:Int) < (i.size:Int):=by rw [y];rcases lS i.nf with e | e<;>rw [e]<;>decide
 have L:=fun(T:i.mixed=false) (E O:a0) (am:J) (m:Q [] q am) N g H b al k=>A6 (G:=G) (A:=A) (z:=z) (E:=E) (O:=O) (cn:=cn) (bx:=bx) (t:=C) (dk:=ao) (dX:=ao) (dU:=ao) (dO:=ao) p (cp v rfl) c hd T m N g H b al k f
 unfold oK
 rw [hd]
 unfold gF at L ⊢
 dsimp
 refine dq (decide_eq_true o) (dq rfl (dq rfl ⟨(Gl (G:=G) p).ok,dA (Gl p) v (rq ⟨_,_,_,i,z,oP,C,V,c,S,r,s,ac,fun T B I h j W K=>?_,fun T E O h j N g H=>?_⟩ (hd▸rfl))⟩))
 ·rw [(tP T).1] at f
  dsimp
  refine bb (bb ?_)
  unfold xo
  refine bb ?_
  dsimp
  exact dq (by decide+kernel) ⟨eA _,fun d l=>⟨b9 rfl,f d _ ((a.trans j).trans (Q.new l)) ((a.trans j).none l (by simp)) (J.aa ..)⟩⟩
 ·dsimp
  rw [U7 V] at H
  refine bb (bb (L T E O h (a.trans j) (a.none N (by simp)) g H (by refine Y▸?_;exact cV j b) (J.ne b N) (Ub H g ?_)))
  rw [dP]
  have:=w0 i C
  show 4≠_
  lia
theorem VH(p:cA w u)(v:3≤A)(c:i.Ok)(Z:Q [] q M)(S:M z=ab (.list (oP.map cH.d)))(J:gP oP C)(s:C < 8)(h:oP.length≤1000)(N:q E=ao)(g:M E=ab (.list ([]:List D)))(H:M O=ab (kq (-1) (-1) (-1) (-1)))(b:M cn=ab (.list ([]:List D)))(B:cn≠E)(k:O≠E)
 (f: ∀E I,Q [] q I→q E=ao→I E=ab (.list ((i.rows C).1.map cH.d))→x (.tup [.val (.ref E),.str (i.rows C).2]) I):
 oK ⟨G,w,u,A⟩ (gF i z i.adr.d i.flags (ab (.val (.ref E))) (ab (.val (.ref O))) (ab (.str "")) (ab (.val (.ref cn))) ao ao ao ao) M (fun F I=>x .none I) x (fun F=>bx):=by
 rcases vG c with T | V | e
 ·exact VN p (cp v rfl) c T Z N g H b B k f
 ·exact VM p v c V Z S J s h b f
 ·exact VO p (cp v rfl) c e Z N g f
theorem Up(X:B=2∨B=10): [D.int 4,D.int 16][(B.fdiv 10).toNat]? =ab (.int (wide B:Int))∧0≤B.fdiv 10∧B.fdiv 10 < 1000000:=by
 rcases X with rfl | rfl
 ·exact⟨rfl,by decide,by decide⟩
 ·exact⟨rfl,by decide,by decide⟩
noncomputable def Kg:cB:=d (ij (nt [10,9,8]) (p (a (dj (j)) (a (dj (a (ff fY (b (.int 1))) (a (ff fY (b (.int 1))) (a (ff fY (b (.int 1))) (a (ff fY (b (.int 1))) (j)))))) (a (b (.str "")) (j)))))) (d (v 11 (dj (j))) (oK))
theorem VQ(p:cA w u)(v:3≤A)(c:i.Ok) {rows:List cH}(Z:Q [] q M)(K:M z=ab (.list (rows.map cH.d)))(N:gP rows C)(s:C < 8)(h:rows.length≤1000)
 (f: ∀E e,Q [] q e→q E=ao→e E=ab (.list ((i.rows C).1.map cH.d))→x (.tup [.val (.ref E),.str (i.rows C).2]) e):
 Kg ⟨G,w,u,A⟩ (gF i z i.adr.d i.flags ao ao ao ao ao ao ao ao) M (fun F e=>x .none e) x (fun F=>bx):=by
 delta Kg gF
 dsimp
 refine⟨eA _,fun E g=>⟨b9 rfl,fun O H=>⟨b9 rfl,?_⟩⟩⟩
 have j:=Z.trans ((Q.new (o:= .list []) g).trans (Q.new (S:= []) (o:=kq (-1) (-1) (-1) (-1)) H))
 have k:O≠E:=fun P=>by subst P;rw [J.aa] at H;contradiction
 have D:((M.set E (.list [])).set O (kq (-1) (-1) (-1) (-1))) E=ab (.list []):=(J.ag _ _ k.symm).trans (J.aa ..)
 have I:((M.set E (.list [])).set O (kq (-1) (-1) (-1) (-1))) O=ab (kq (-1) (-1) (-1) (-1)):=J.aa ..
 have B:=((Q.new (S:= []) (o:= .list []) g).trans (Q.new (o:=kq (-1) (-1) (-1) (-1)) H)) z _ (fun X=>nomatch X) K
 show ih _ _ _ _ _ ((M.set E (.list [])).set O (kq (-1) (-1) (-1) (-1)))
 revert j D I B
 generalize (M.set E (.list [])).set O (kq (-1) (-1) (-1) (-1))=L
 intro j D I B
 (refine bb ?_;dsimp)
 refine⟨eA _,fun cn b=>bb ?_⟩
 have m:Q [] L (L.set cn (.list [])):=Q.new b
 exact VH p v c (j.trans m) (cV m B) N s h (Z.none g (by simp)) (cV m D) (cV m I) (J.aa ..) (J.ne D b).symm k f
end
theorem Pc(p:cA w u):cK G w u 5 (.ref 707) E3:=
 cK.of (p.af (by kernel_rfl)) fun I v=>(Zs G p (cp v rfl)).mono fun b B x O X=>by
  refine X.rec fun B x O U P K V c A e s h f=>?_
  refine⟨rfl,?_⟩
  have L:=fun C Z A=>VQ (G:=G) (A:=I) (z:=P) (M:=C) (bx:=O) (rows:=K) p (cp v rfl) c Z A e s h f
  unfold gF at L
  unfold GQ
  rw [show U.d= .tup [.str "nat",.str U.kind,.int U.nf,U.adr.d,hG U.ai,gZ U.flags] from rfl] at L ⊢
  dsimp
  refine Hn ?_ rfl
  dsimp
  (refine bb ?_;dsimp)
  by_cases T:U.adr= .none
  ·rw [(oF V T).1,T] at L
   rw [T]
   dsimp only [fK.d] at L ⊢
   dsimp
   exact dq rfl (bb (L B (Q.refl _) A))
  ·refine qa (rC V T) fun S H hd F y F F=>?_
   refine gz (Up (c.nf.resolve_left T)) fun N J M=>?_
   rw [y,hd] at L
   refine hd▸?_
   dsimp
   refine cW rfl ⟨b9 rfl,fun d D=>⟨⟨by decide,ml (by decide)⟩,jW J M N (bb (L _ (Q.new D) (cV (Q.new D) A)))⟩⟩
end
end
section
set_option simprocs false
section
noncomputable def cj.look (U:cj) (W:PySem.Str→List ck):List ck:=match U.adr with
 | .lits L=>L
 | .named S=>W S
 | _=> []
noncomputable def cj.mark (U:cj) (q m:Int):Int:=match U.adr with
 | .lits _=>q
 | _=>m
noncomputable def ck.ai (N:ck) (b:Option (Int×Int)):Option (Int×Int):=match N.p with
 | some P=>ab (P,P)
 | none=>b
noncomputable def cj.found (U:cj) (W:PySem.Str→List ck) (q m:Int):Option ck:=(U.look W).find? fun N=>N.k == U.mark q m
noncomputable def wi (U:cj) (o:Option ck):D:=match o with
 | none=> .none
 | some l=>jX U.kind U.nf (ab (l.v,l.v)) (l.ai U.ai) U.au
noncomputable def cj.req (U:cj) (W:PySem.Str→List ck) (q m:Int):D:=match U.ak with
 | false=>jX U.kind U.nf U.ends U.ai U.au
 | true=>wi U (U.found W q m)
noncomputable def i8 (U:cj) (A N:a0) (R:D) (o E F C L I:Option D):Loc:= [ab U.d,ab (.val (.ref A)),ab (.val (.ref N)),ab (.str U.kind),ab (.int U.nf),ab R,ab (hG U.ai),ab (gZ U.flags),o,E,F,C,L,I]
section
@[simp] theorem abT:Loc.at (i8 i z E T c3 dW dk dX dU dO) 1=ab (.val (.ref z)):=rfl
@[simp] theorem abY:Loc.at (i8 i z E T c3 dW dk dX dU dO) 5=ab T:=rfl
@[simp] theorem abZ:Loc.at (i8 i z E T c3 dW dk dX dU dO) 6=ab (hG i.ai):=rfl
@[simp] theorem ab0:Loc.at (i8 i z E T c3 dW dk dX dU dO) 7=ab (gZ i.flags):=rfl
@[simp] theorem abU:Loc.at (i8 i z E T c3 dW dk dX dU dO) 10=dk:=rfl
@[simp] theorem abV:Loc.at (i8 i z E T c3 dW dk dX dU dO) 11=dX:=rfl
@[simp] theorem abW:Loc.at (i8 i z E T c3 dW dk dX dU dO) 12=dU:=rfl
@[simp] theorem abX:Loc.at (i8 i z E T c3 dW dk dX dU dO) 13=dO:=rfl
@[simp] theorem ab1:Loc.put (i8 i z E T c3 dW dk dX dU dO) 10 eT=i8 i z E T c3 dW eT dX dU dO:=rfl
@[simp] theorem ab2:Loc.put (i8 i z E T c3 dW dk dX dU dO) 13 eT=i8 i z E T c3 dW dk dX dU eT:=rfl
end
noncomputable def xn:cB:=d (cZ (cC .Eq (f (f (f (c 12) (b (.int 0))) (b (.int 0))) (b (.int 0))) (f (c 2) (ff (m4 5) (f (f (c 5) (b (.int 1))) (b (.int 1)))))) (d (v 13 (f (c 12) (b (.int 1)))) (d (cQ (p (a (c 3) (a (c 4) (a (f (c 13) (b (.int 0))) (a (f (c 13) (b (.int 0))) (a (g5 (cC .Eq (h (b (.val (.builtin "len"))) (a (c 13) (j))) (b (.int 1))) (c 6) (p (a (f (c 13) (b (.int 1))) (a (f (c 13) (b (.int 1))) (j))))) (a (c 7) (j))))))))) (l))) (l)) (l)
noncomputable def BG:cB:=d (gk (e6 12) (gS (c 11)) (xn)) (d (cQ (b .none)) (l))
noncomputable def BF:cB:=d (v 10 (f (c 5) (b (.int 2)))) (d (v 11 (g5 (cC .Eq (f (c 10) (b (.int 0))) (b (.str "ref"))) (f (c 1) (f (c 10) (b (.int 1)))) (f (c 10) (b (.int 1))))) (BG))
inductive vx (s:cj) (lits:PySem.Str→List ck) (ma mb:Int) (key:PySem.Str) (wh:D) (m:List (PySem.Str×D)):Prop
 | mk (hd:s.adr.d= .tup [.str "map",.tup [.str "field",.str key],wh]) (kf:(qu (ab ((5:Nat):Int)) ao 1 key.length).length≠key.length∧(i9 key ((5:Nat):Int)).length≤1000000) (hm:cL m (i9 key ((5:Nat):Int))=ab (.int (s.mark ma mb))) (hf:s.au=s.flags)
inductive N5 (s:cj) (Nm Mk:a0) (a:D) (o8 o9 o10 o11:Option D) (ls:List ck) (mk:Int) (μ:J) (rs:List D) (ρ:Loc) (μ1:J):Prop
 | mk (rest:List ck) (o12 o13:Option D) (hr:rs=rest.map ck.d) (hf:(ls.find? fun l=>l.k == mk)=rest.find? fun l=>l.k == mk) (hμ:μ1=μ) (hρ:ρ=i8 s Nm Mk a o8 o9 o10 o11 o12 o13)
section
theorem Vx(p:cA w u)(v:1≤A)(O:vx i cJ B bk t T s)(g:q E=ab (.dict s)) {ls:List ck} {src:Option a0}(y:gj src (ls.map ck.d) q) {Nx:Loc→J→Prop}
 (W: ∀o,(ls.find? fun l=>l.k == i.mark B bk)=ab o→x (wi i (ab o)) q)(K:(ls.find? fun l=>l.k == i.mark B bk)=ao→ ∀Y,Nx Y q):
 ∀b Y C,N5 i z E (.tup [.str "map",.tup [.str "field",.str t],T]) c3 dW dk dX ls (i.mark B bk) q b Y C→eS (e6 12) (xn ⟨G,w,u,A⟩) src (ls.map ck.d) Nx x b Y C:=by
 obtain⟨hd,N,V,R⟩:=O
 unfold wi at W
 dsimp only at W
 rw [R] at W
 refine jq _ (fun Y C X=>?_) (fun S b Y C n X d=>?_)
 ·obtain⟨H,L,I,F,Q,rfl,rfl⟩:=X
  induction H with
  | cons=>contradiction
  | nil=>exact K Q _
 ·obtain⟨H,L,I,F,Q,rfl,rfl⟩:=X
  cases H with
  | nil=>contradiction
  | cons l H=>
   cases F
   obtain⟨k,M,c⟩:=l
   show xn ⟨G,w,u,A⟩ (i8 i z E (.tup [.str "map",.tup [.str "field",.str t],T]) c3 dW dk dX (ab (.tup [.tup [.tup [.int k,.int k]],.tup ((ck.mk k M c).data.map .int),.int 0,.str ""])) I) C n x fM
   rw [mE] at Q
   unfold xn
   dsimp
   refine⟨N,rn g V ?_⟩
   dsimp only [AE]
   dsimp only at Q
   induction P:k == i.mark B bk with
   | false=>
    rw [P] at Q
    exact cW rfl (d _ _ ⟨H,_,_,rfl,Q,rfl,rfl⟩ y)
   | true=>
    rw [P] at Q
    have W:=W _ Q
    refine dq rfl ?_
    induction c with
    | none=>
     refine(show(ck.mk k M ao).data.map D.int= [.int M] from rfl)▸?_
     (refine bb ?_;dsimp)
     refine⟨gD _,dA (gQ p.top) v (AG (b9 rfl) ?_)⟩
     dsimp only [AE]
     exact dq rfl ⟨b9 rfl,W⟩
    | some P=>
     rw [show(ck.mk k M (ab P)).data.map D.int= [.int M,.int P] from rfl]
     (refine bb ?_;dsimp)
     refine⟨gD _,dA (gQ p.top) v (AG (b9 rfl) ?_)⟩
     dsimp only [AE]
     exact cW rfl ⟨b9 rfl,b9 rfl,W⟩
theorem I4(p:cA w u)(v:1≤A)(H:vx i cJ B bk t T s)(g:q E=ab (.dict s))(V:i.ak=true)(J:(fg= .tup ((i.look cJ).map ck.d)∧df=ao)∨ ∃R,fg= .val (.ref R)∧df=ab R∧q R=ab (.list ((i.look cJ).map ck.d)))(f:x (i.req cJ B bk) q):
 BG ⟨G,w,u,A⟩ (i8 i z E (.tup [.str "map",.tup [.str "field",.str t],T]) ao ao (ab T) (ab fg) ao ao) q (fun F e=>x .none e) x (fun F=>bx):=by
 unfold cj.req at f
 rw [V] at f
 dsimp only at f
 unfold cj.found at f
 have y:gj df ((i.look cJ).map ck.d) q:=by
  rcases J with ⟨_,rfl⟩ | ⟨R,_,rfl,Z⟩
  ·trivial
  ·exact lQ Z
 have L:=Vx (G:=G) (A:=A) (z:=z) (x:=x) (c3:=ao) (dW:=ao) (dk:=ab T) (dX:=ab fg) (Nx:=ih (jZ (lO (fQ .none)) k3) (fun F e=>x .none e) x (fun F=>bx)) p v H g (ls:=i.look cJ) (src:=df) y (fun o Z=>by rw [Z] at f;exact f) (fun Z Y=>by rw [Z] at f;exact f) _ _ _ ⟨i.look cJ,ao,ao,rfl,rfl,rfl,rfl⟩
 unfold BG
 rcases J with ⟨rfl,rfl⟩ | ⟨R,rfl,rfl,Z⟩
 ·dsimp;exact L
 ·dsimp;refine Z▸?_;exact L
theorem TF(c:i.Ok)(V:i.ak=true)(cJ:PySem.Str→List ck)(K:cL s "mark" =ab (.int B))(C:cL s "priority" =ab (.int bk)):
 (∃t,vx i cJ B bk t (.tup [.str "map",.tup ((i.look cJ).map ck.d)]) s)∨ ∃t A,vx i cJ B bk t (.tup [.str "ref",.str A]) s∧A ∈ eW∧i.look cJ=cJ A:=by
 rcases cj.aI V with ⟨L,P⟩ | ⟨S,P⟩
 ·cases i;cases P
  exact .inl ⟨"meta mark",rfl,Am,by refine ze▸?_;exact K,rfl⟩
 ·have:=AK c P
  cases i;cases P
  exact .inr ⟨"meta priority",S,⟨rfl,An,by refine zf▸?_;exact C,rfl⟩,this,rfl⟩
theorem Vy(p:cA w u)(v:1≤A)(c:i.Ok)(V:i.ak=true)(g:kb q z cJ)(y:lr q E B bk)(f:x (i.req cJ B bk) q):
 BF ⟨G,w,u,A⟩ (i8 i z E i.adr.d ao ao ao ao ao ao) q (fun F e=>x .none e) x (fun F=>bx):=by
 obtain⟨s,k,K,J⟩:=y
 obtain⟨⟨nm,M,j⟩,_⟩:=g
 rcases TF c V cJ K J with ⟨t,H⟩ | ⟨t,N,H,D,h⟩
 ·have L:=I4 (G:=G) (A:=A) (z:=z) (E:=E) (bx:=bx) p v H k V (.inl ⟨rfl,rfl⟩) f
  have hd:=H.1
  rw [hd]
  unfold BF
  dsimp
  (refine bb ?_;dsimp)
  exact cW rfl (bb L)
 ·refine dg (j N D) fun R C I=>?_
  have L:=I4 (G:=G) (A:=A) (z:=z) (E:=E) (bx:=bx) p v H k V (.inr ⟨R,rfl,rfl,by rw [h];exact I⟩) f
  obtain⟨hd,_⟩:=H
  rw [hd]
  unfold BF
  dsimp
  (refine bb ?_;dsimp)
  exact dq rfl (rn M C (bb L))
end
theorem Uo(X:B=2∨B=10): [D.int 32,D.int 128][(B.fdiv 10).toNat]? =ab (.int ((8 * wide B:Nat):Int))∧0≤B.fdiv 10∧B.fdiv 10 < 1000000:=by
 rcases X with rfl | rfl
 ·exact⟨rfl,by decide,by decide⟩
 ·exact⟨rfl,by decide,by decide⟩
inductive E2:List D→J→KK→KK→Prop
 | mk (μ:J) (K E:KK) (s:cj) (Nm Mk:a0) (lits:PySem.Str→List ck) (ma mb:Int) (h1:s.Ok) (h2:kb μ Nm lits) (h3:lr μ Mk ma mb) (h4: ∀μ',Q [] μ μ'→K (s.req lits ma mb) μ'):E2 [s.d,.val (.ref Nm),.val (.ref Mk)] μ K E
theorem I5(X:i.ak=false):i.req cJ B bk=jX i.kind i.nf i.ends i.ai i.au:=by unfold cj.req;rw [X]
theorem Pb(p:cA w u):cK G w u 4 (.ref 714) E2:=
 cK.of (p.af (by kernel_rfl)) fun I v=>(Zr G p (cp v rfl)).mono fun b B x O X=>by
  refine X.rec fun B x O U z N W q m c g Z f=>?_
  refine ek rfl ?_
  unfold GP
  rw [show U.d= .tup [.str "nat",.str U.kind,.int U.nf,U.adr.d,hG U.ai,gZ U.flags] from rfl]
  dsimp
  refine Hn ?_ rfl
  dsimp
  (refine bb ?_;dsimp)
  rcases vG c with T | V | ⟨S,H,s,j,hd,i,a,r,_,_,V,_,_,_,_,y⟩
  ·have R:U.req W q m=jX U.kind U.nf ao U.ai U.flags:=by cases U;cases T;rfl
   have:=f B (Q.refl _)
   rw [R] at this
   rw [T]
   dsimp only [fK.d]
   dsimp
   exact dq rfl ⟨b9 rfl,this⟩
  ·have L:=Vy (G:=G) (A:=I) (x:=x) (bx:=O) p (cp v rfl) c V g Z (f B (Q.refl _))
   refine(Ib V).elim fun H hd=>?_
   refine hd▸?_
   unfold i8 at L
   rw [show U.d= .tup [.str "nat",.str U.kind,.int U.nf,U.adr.d,hG U.ai,gZ U.flags] from rfl,hd] at L
   dsimp
   refine cW rfl ?_
   (refine bb ?_;dsimp)
   exact cW rfl (bb L)
  ·have T:U.adr≠ .none:=fun P=>by rw [P] at hd;contradiction
   refine(rC 0 T).elim fun A k=>?_
   refine KG k fun C e t F F F=>?_
   cases hd.symm.trans e
   obtain⟨R,J,M⟩:=Uo (c.nf.resolve_left T)
   rw [y] at r
   have f:=fun d (Y:B d=ao)=>f _ (Q.new (o:= .list [D.int 32,D.int 128]) Y)
   rw [I5 V,a,t] at f
   rw [hd]
   dsimp
   refine cW rfl ?_
   (refine bb ?_;dsimp)
   refine dq (by show(!(S == "map"))=true;refine i▸?_;rfl) ⟨(vV (G:=G) p).ok,b9 rfl,fun d Y=>⟨⟨by decide,ml (by decide)⟩,jW J M R (dA (vV p) (cp v rfl) (rq ⟨_,_,_,U.adr,8 * wide U.nf,s,j,r,?_⟩ (hd▸rfl)))⟩⟩
   have f:=f d Y
   have h:=c.flags
   unfold jX gZ at f
   (refine bb ?_;dsimp)
   by_cases l:S= "net"
   ·rw [if_pos l,fh] at f
    exact dq (beq_iff_eq.mpr l) ⟨by decide,Ai c.flags,b9 rfl,f⟩
   ·rw [if_neg l] at f
    refine cW (beq_eq_false_iff_ne.mpr l) ⟨by decide,?_,b9 rfl,?_⟩
    ·rw [dP];exact cg h (by decide)
    ·rw [fI];exact f
end
end
section
set_option simprocs false
section
noncomputable def lF (M:D):Bool:=match M with
 | .none=>true
 | .tup (.str a::_)=>a == "continue"
 | _=>false
def i2 (M:D):Prop:=M= .none∨ ∃R U,M= .tup [.str R,.str U]
noncomputable abbrev brk:D:= .tup [.str "break",.str ""]
noncomputable def fA (W:PySem.Str→List ck) (q m:Int) (P:List D):List cj→Nat→List D→D×List D
 | [],_,log=>(.none,log)
 | s::j,V,log=>
  if (s.rows V).1.isEmpty=true then fA W q m P j (V+s.sets.length) log else
  if (s.ak && (s.found W q m).isNone)=true then (brk,log) else
  if ((s.rows V).2 == "")=true then
   if lF (P.getD log.length .none)=true then fA W q m P j (V+s.sets.length) (log++ [s.req W q m]) else (P.getD log.length .none,log++ [s.req W q m])
  else fA W q m P j (V+s.sets.length) log
section
theorem GW:fA cJ B bk n (i::dt) A y=if (i.rows A).1.isEmpty=true then fA cJ B bk n dt (A+i.sets.length) y else
 if (i.ak && (i.found cJ B bk).isNone)=true then (brk,y) else
 if ((i.rows A).2 == "")=true then
  if lF (n.getD y.length .none)=true then fA cJ B bk n dt (A+i.sets.length) (y++ [i.req cJ B bk]) else (n.getD y.length .none,y++ [i.req cJ B bk])
 else fA cJ B bk n dt (A+i.sets.length) y:=rfl
end
theorem Vz(U:cj)(W:PySem.Str→List ck)(q m:Int):isNone (U.req W q m)=ab (U.ak && (U.found W q m).isNone):=by
 unfold cj.req
 induction U.ak with
 | false=>rfl
 | true=>cases U.found W q m<;>rfl
theorem gP.app(X:gP fE A)(L:gP oP C):gP (fE++oP) (A+C):=⟨fun j t=>(j5.mp t).elim (X.nice j) (L.nice j),by rw [Lv,dR,X.cnt,L.cnt]⟩
theorem gP.nil:gP [] 0:=⟨fun j X=>absurd X nO,rfl⟩
theorem gP.cons {r:cH}(v:r.nice)(X:gP fE A):gP (r::fE) (A+if r.isT=true then 1 else 0):=by
 refine⟨fun S i=>?_,?_⟩
 ·cases i with
  | head=>exact v
  | tail _ i=>exact X.nice S i
 ·rw [Lw]
  by_cases P:r.isT=true
  ·rw [if_pos P,if_pos P,lb,X.cnt]
  ·rw [if_neg P,if_neg P,X.cnt];rfl
theorem Rr(B:List jh):gP (emit B).1 0:=by
 induction B with
 | nil=>exact .nil
 | cons p B o=>
  obtain⟨R,f,i⟩:=p
  by_cases P:f < 256 ^ i
  ·rw [G1 P];exact .cons trivial o
  ·rw [GZ P];exact .nil
theorem T3: ∀S ∈ eW,cH.isT (.map S [])=false:=by decide+kernel
theorem T1(i:t ∈ eW)(U:List Nat): ¬cH.isT (.map t U)=true:=fun X=>fv ((T3 t i).symm.trans X)
theorem YJ(s:A < 8)(U:List Nat):cH.isT (.map (hc A) U)=true:=by
 show Av (hc A).cps[0]? =true
 refine(Km A s)▸?_;decide+kernel
theorem Vg(c:i.Ok)(s:A < 8):gP (i.pre A) i.adr.ax.length:=by
 have nm:=fun S (P:i.adr= .named S)=>AK c P
 induction i with
 | mk kind nf adr ai flags=>induction adr with
  | none=>exact .nil
  | span a b=>exact .nil
  | aR a l=>exact .nil
  | lits L=>
   have X:=gP.cons (r:= .map (hc A) (cj.lay ⟨kind,nf,.lits L,ai,flags⟩)) ⟨_,Km A s⟩ .nil
   rw [if_pos (YJ s _)] at X
   exact .cons trivial X
  | named S=>
   have B:=nm S rfl
   obtain⟨mW,k,C,_⟩:=wK S B
   have X:=gP.cons (r:= .map S (cj.lay ⟨kind,nf,.named S,ai,flags⟩)) ⟨_,C⟩ .nil
   rw [if_neg (T1 B _)] at X
   exact .cons trivial X
theorem VG(B:i.Ok)(s:A < 8):gP (i.rows A).1 i.sets.length:=by
 have Z:=Rr (i.puts++i.aj)
 have c:=Vg B s
 delta cj.rows cj.sets
 induction i.mixed with
 | true=>exact .nil
 | false=>
  rw [if_neg fv,if_neg fv]
  by_cases P:(emit (i.puts++i.aj)).2=true
  ·rw [if_pos P];exact(c.app Z).app (gP.cons (r:=i.last) trivial .nil)
  ·rw [if_neg P];exact c.app Z
theorem gP.add(X:gP fE A)(s:A < 8)(c:i.Ok):gP (fE++(i.rows A).1) (A+i.sets.length):=X.app (VG c s)
end
end
variable {xO:List cj}
section
set_option simprocs false
section
noncomputable def BL:cB:=d (v 11 (h (b (.val (.ref 714))) (a (c 8) (a (c 1) (a (c 2) (j)))))) (d (cZ (cC .Is (c 11) (b .none)) (d (v 7 (p (a (b (.str "break")) (a (b (.str "")) (j))))) (l)) (d (cZ (cC .Eq (c 10) (b (.str ""))) (d (v 12 (f (c 3) (h (b (.val (.builtin "len"))) (a (c 6) (j))))) (d (eZ (eM "append" (c 6) (a (c 11) (j)))) (d (cZ (hI [cC .IsNot (c 12) (b .none),cC .NotEq (f (c 12) (b (.int 0))) (b (.str "continue"))]) (d (v 7 (c 12)) (l)) (l)) (l)))) (l)) (l))) (l))
noncomputable def xu:cB:=d (cZ (hI [cC .Is (c 7) (b .none),cC .NotEq (c 9) (dj (j))]) (BL) (l)) l
noncomputable def BK:cB:=d (ij (gR [9,10]) (h (b (.val (.ref 707))) (a (c 8) (a (c 5) (j))))) (d (v 5 (e .Add (c 5) (c 9))) (d (eZ (eM "append" (c 4) (a (c 10) (j)))) (xu)))
theorem Ua(T:q z=ab (.list n))(H:q E=ab (.list []))(k:c0 (!n.isEmpty) q):f7 .NotEq (.val (.ref z)) (.val (.ref E)) q c0 x:=by
 show rr z E q fun i=>c0 i q
 unfold rr
 rw [T,H];exact k
theorem HG(Z:isNone T=ab dJ)(k:c0 dJ q):f7 .Is T .none q c0 x:=by
 show(match isNone T with | some dJ=>c0 dJ q | none=>False)
 refine Z▸?_;exact k
theorem HH {b:Bool}(Z:isNone T=ab b)(k:c0 (!b) q):f7 .IsNot T .none q c0 x:=by
 show(match isNone T with | some b=>c0 (!b) q | none=>False)
 refine Z▸?_;exact k
theorem R5:lF (.tup [.str t,.str e8])=(t == "continue"):=rfl
inductive gf (lits:PySem.Str→List ck) (ma mb:Int) (rp:List D) (ss rest:List cj) (t:Nat) (log:List D) (v:D):Prop
 | go (hv:v= .none) (e:fA lits ma mb rp ss 0 []=fA lits ma mb rp rest t log)
 | done (hv:isNone v=ab false) (e:fA lits ma mb rp ss 0 []=(v,log))
noncomputable def jr (r A N G B P T:a0) (M:D) (o E F C L:Option D):Loc:= [ab (.val (.ref r)),ab (.val (.ref A)),ab (.val (.ref N)),ab (.val (.ref G)),ab (.val (.ref B)),ab (.val (.ref P)),ab (.val (.ref T)),ab M,o,E,F,C,L]
section
@[simp] theorem ab4:Loc.at (jr z E O cn cS c9 dz T c3 dW dk dX dU) 6=ab (.val (.ref dz)):=rfl
@[simp] theorem ab5:Loc.at (jr z E O cn cS c9 dz T c3 dW dk dX dU) 7=ab T:=rfl
@[simp] theorem ab6:Loc.at (jr z E O cn cS c9 dz T c3 dW dk dX dU) 9=dW:=rfl
@[simp] theorem ab3:Loc.at (jr z E O cn cS c9 dz T c3 dW dk dX dU) 12=dU:=rfl
@[simp] theorem ab7:Loc.put (jr z E O cn cS c9 dz T c3 dW dk dX dU) 11 dO=jr z E O cn cS c9 dz T c3 dW dk dO dU:=rfl
@[simp] theorem ab8:Loc.put (jr z E O cn cS c9 dz T c3 dW dk dX dU) 12 dO=jr z E O cn cS c9 dz T c3 dW dk dX dO:=rfl
end
def Et (W:PySem.Str→List ck) (q m:Int) (P:List D) (z H:List cj) (V:Nat) (A:List D) (T:a0) (B s:J) (n:D→Option D→Option D→J→Prop):Prop:=
 ∀o l N C L,Q [T] s o→Q [] B o→o T=ab (.list l)→l.length≤A.length+1→gf W q m P z H V l N→n N C L o
section
inductive Given (cJ:PySem.Str→List ck) (B bk:Int) (n:List D) (E O cn dz:a0) (q:J):Prop
 | mk (hN:kb q E cJ) (hM:lr q O B bk) (hrp:fL (q cn)=ab n) (hrl:n.length=8) (hans: ∀v ∈ n,i2 v) (fLg:q dz=ao)
theorem Rl(p:cA w u)(l:4≤A)(c:i.Ok)(N:Given cJ B bk n E O cn dz q)(Z:Q [] q eo)(e:Q [] M eo)(m:eo dz=ab (.list y))(F:y.length≤6)
 (a:fA cJ B bk n dt 0 []=if (i.ak && (i.found cJ B bk).isNone)=true then (brk,y) else
  if ((i.rows C).2 == "")=true then
   if lF (n.getD y.length .none)=true then fA cJ B bk n xO (C+i.sets.length) (y++ [i.req cJ B bk]) else (n.getD y.length .none,y++ [i.req cJ B bk])
  else fA cJ B bk n xO (C+i.sets.length) y)
 (next:Et cJ B bk n dt xO (C+i.sets.length) y dz q M fun v dW dk=>cR (jr z E O cn cS c9 dz v (ab i.d) c3 (ab (.str (i.rows C).2)) dW dk)):
 BL ⟨G,w,u,A⟩ (jr z E O cn cS c9 dz .none (ab i.d) c3 (ab (.str (i.rows C).2)) dW dk) eo cR x fM:=by
 obtain⟨g,r,I,h,U,s⟩:=N
 unfold BL
 dsimp
 refine et (Pb p) l ⟨_,_,_,i,E,O,cJ,B,bk,c,g.keep Z,r.keep Z,fun Y H=>?_⟩
 have T:=e.trans H
 have S:=Z.trans H
 have K:=cV H m
 (refine bb ?_;dsimp)
 refine HG (Vz i cJ B bk) (iE (fun P=>?_) fun P=>?_)
 ·rw [if_pos P] at a
  exact⟨b9 rfl,bb (next Y y brk _ _ (Mine.keep0 T) S K (lj _) (.done rfl a))⟩
 ·rw [if_neg (by refine P▸?_;exact fv)] at a
  refine iE (fun j=>?_) fun j=>?_
  ·rw [if_pos j] at a
   have L:y.length < n.length:=by rw [h];exact kD F (by decide)
   have W:n[((y.length:Nat):Int).toNat]? =ab (n.getD y.length .none):=by rw [ir,j3,gV L];rfl
   have d:i2 (n.getD y.length .none):=by
    rw [j3,gV L];exact U _ (ye L)
   refine⟨gD _,dA (gQ p.top) (cp l rfl) (pN K (cg F (by decide)) (wt ((show gj (ab cn) n q from I).keep S (by simp)) ⟨fy _,qj (hh.mpr F) (by decide)⟩ W ?_))⟩
   revert d a
   generalize n.getD y.length .none=said
   intro a d
   (refine bb ?_;dsimp)
   refine jG K ?_
   dsimp
   refine jD K (cg F (by decide)) ?_
   have f:Q [dz] M (Y.set dz (.list (y++ [i.req cJ B bk]))):=jF T
   have k:Q [] q (Y.set dz (.list (y++ [i.req cJ B bk]))):=S.set s
   have o:(y++ [i.req cJ B bk]).length≤y.length+1:=by rw [dR];exact d5 _
   have next:=fun t dW dk X=>next (Y.set dz (.list (y++ [i.req cJ B bk]))) _ t dW dk f k (J.aa ..) o X
   (refine bb ?_;dsimp)
   rcases d with rfl | ⟨R,st,rfl⟩
   ·rw [if_pos (show lF D.none=true from rfl)] at a
    exact HH (b:=true) rfl (cW rfl (cW rfl (bb (bb (next _ _ _ (.go rfl a))))))
   ·rw [R5] at a
    refine HH (b:=false) rfl (dq rfl ?_)
    dsimp only [SP,SK]
    induction V:R == "continue" with
    | true=>
     rw [V,if_pos rfl] at a
     exact cW (by show(!(R == "continue"))=false;rw [V];rfl) (cW rfl (bb (bb (next _ _ _ (.go rfl a)))))
    | false=>
     rw [V,if_neg fv] at a
     exact dq (by show(!(R == "continue"))=true;rw [V];rfl) (dq rfl (bb (bb (next _ _ _ (.done rfl a)))))
  ·rw [if_neg (by refine j▸?_;exact fv)] at a
   exact bb (next Y y _ _ _ (Mine.keep0 T) S K (lj _) (.go rfl a))
theorem Ro(p:cA w u)(v:4≤A)(c:i.Ok)(N:Given cJ B bk n E O cn dz q)(Z:Q [] q M)(g:M eX=ab (.list ((i.rows C).1.map cH.d)))(H:M dz=ab (.list y))(F:y.length≤6)(V:gf cJ B bk n dt (i::xO) C y T)
 (next:Et cJ B bk n dt xO (C+i.sets.length) y dz q M fun T dW dk=>cR (jr z E O cn cS c9 dz T (ab i.d) (ab (.val (.ref eX))) (ab (.str (i.rows C).2)) dW dk)):
 xu ⟨G,w,u,A⟩ (jr z E O cn cS c9 dz T (ab i.d) (ab (.val (.ref eX))) (ab (.str (i.rows C).2)) dW dk) M cR x fM:=by
 have D:=fun eo r H a=>Rl (G:=G) (A:=A) (z:=z) (cS:=cS) (c9:=c9) (x:=x) (c3:=ab (.val (.ref eX))) (dW:=dW) (dk:=dk) (eo:=eo) p v c N (Z.trans r) r H F a next
 unfold xu
 induction V with
 | done V e=>
  dsimp
  exact HG V (cW rfl (cW rfl (next M y T _ _ (Q.refl _) Z H (lj _) (.done V e))))
 | go V e=>
  subst V
  rw [GW] at e
  dsimp
  refine dq rfl ⟨eA _,fun d U=>?_⟩
  have r:Q [] M (M.set d (.list [])):=Q.new U
  refine Ua (cV r g) (J.aa ..) ?_
  rw [List.isEmpty_map]
  induction P:(i.rows C).1.isEmpty with
  | true=>
   rw [P,if_pos rfl] at e
   exact cW rfl (cW rfl (next _ y _ _ _ (Mine.keep0 r) (Z.trans r) (cV r H) (lj _) (.go rfl e)))
  | false=>
   rw [P,if_neg fv] at e
   exact dq rfl (dq rfl (D _ r (cV r H) e))
end
inductive NL (A Nm Mk dS W Lg:a0) (ss:List cj) (lits:PySem.Str→List ck) (ma mb:Int) (rp:List D) (μ:J) (rs:List D) (ρ:Loc) (μ4:J):Prop
 | mk (done rest:List cj) (lss:List (List ck)) (whys:List PySem.Str) (rows:List cH) (log:List D) (v:D) (R:a0) (o8 o9 o10 o11 o12:Option D) (hr:rs=rest.map cj.d) (he:ss=done++rest) (hρ:ρ=jr A Nm Mk dS W R Lg v o8 o9 o10 o11 o12)
  (k:Q [] μ μ4) (m1:μ4 W=ab (.list (whys.map .str))) (m2:μ4 R=ab (.list (rows.map cH.d))) (m3:μ4 Lg=ab (.list log)) (n1:W≠R) (n2:R≠Lg) (l1:lss.length≤done.length) (l2:rows.length≤20 * done.length) (l3:whys.length≤done.length) (jU:log.length≤done.length)
  (hT:gP rows lss.length) (t1:(eC ss []).1=whys++(eC rest lss).1) (t2:(eC ss []).2.1=rows++(eC rest lss).2.1) (hv:gf lits ma mb rp ss rest lss.length log v)
theorem Rm(p:cA w u)(v:5≤A) {Nx:Loc→J→Prop} {K:KK}(c:q z=ab (.list (dt.map cj.d)))(R: ∀s ∈ dt,s.Ok)(cb:dt.length≤7)(N:Given cJ B bk n E O cn c9 q)(cz:q cS=ao)(cs:cS≠c9)
 (m: ∀P bi o be F C L,Q [] q bi→bi cS=ab (.list ((eC dt []).1.map .str))→bi P=ab (.list ((eC dt []).2.1.map cH.d))→bi c9=ab (.list (fA cJ B bk n dt 0 []).2)→Nx (jr z E O cn cS P c9 (fA cJ B bk n dt 0 []).1 o be F C L) bi):
 ∀b Y h,NL z E O cn cS c9 dt cJ B bk n q b Y h→eS (e6 8) (BK ⟨G,w,u,A⟩) (ab z) (dt.map cj.d) Nx K b Y h:=by
 refine jq _ (fun Y h X=>?_) (fun T b Y h b6 X d=>?_)
 ·obtain⟨done,H,W,al,am,cm,M,P,o,be,F,C,L,ce,a,rfl,k,bd,bn,bu,_,_,_,_,_,_,_,I,S,V⟩:=X
  induction H with
  | cons=>contradiction
  | nil=>
   rw [show(eC [] W).1= [] from rfl,fI] at I
   rw [show(eC [] W).2.1= [] from rfl,fI] at S
   have hd:fA cJ B bk n dt 0 []=(M,cm):=by
    induction V with
    | go V e=>subst V;exact e
    | done _ e=>exact e
   rw [hd,I,S] at m
   exact m P h o be F C L k bd bn bu
 ·obtain⟨done,H,W,al,am,cm,M,P,o,be,F,C,L,ce,a,rfl,k,bd,bn,bu,cL,j,ch,ci,ck,jU,ca,I,S,V⟩:=X
  cases H with
  | nil=>contradiction
  | cons s H=>
   cases ce
   have bm:done.length≤6:=by
    rw [a,dR,lb] at cb
    exact C6 (cg (kE (j6 _ _)) cb)
   have bx:s.Ok:=R s (by rw [a];exact yi _ er)
   have i:W.length < 8:=kD ch (kD bm (by decide))
   have b8:am.length≤120:=cg ci (Dd 20 bm)
   have cK:q c9=ao:=by obtain⟨_,_,_,_,_,t⟩:=N;exact t
   show BK ⟨G,w,u,A⟩ (jr z E O cn cS P c9 M (ab s.d) be F C L) h b6 K fM
   have cG: ∀(x ac:a0) (f b5:J),Q [] h f→h x=ao→f x=ab (.list ((s.rows W.length).1.map cH.d))→f ac=ab (.list ((am++(s.rows W.length).1).map cH.d))→cS≠ac→ac≠c9→b5=f.set cS (.list (al.map D.str++ [.str (s.rows W.length).2]))→
    xu ⟨G,w,u,A⟩ (jr z E O cn cS ac c9 M (ab s.d) (ab (.val (.ref x))) (ab (.str (s.rows W.length).2)) C L) b5 b6 K fM:=by
    intro x ac f b5 y bv g an cr cq cw
    subst cw
    have Z:Q [cS] f (f.set cS (.list (al.map D.str++ [.str (s.rows W.length).2]))):=jF (Q.refl _)
    have cF:Q [] q (f.set cS (.list (al.map D.str++ [.str (s.rows W.length).2]))):=(k.trans y).set cz
    have cC:(f.set cS (.list (al.map D.str++ [.str (s.rows W.length).2]))) cS=ab (.list ((al++ [(s.rows W.length).2]).map .str)):=by rw [J.aa,fh];rfl
    refine Ro p (cp v rfl) bx N cF (Z _ _ (eb (J.ne bd bv).symm) g) (Z _ _ (eb cs.symm) (cV y bu)) (cg jU bm) V fun cM l cI C L r cf cB cD cE=>?_
    refine d _ _ ⟨done++ [s],H,W++s.sets,al++ [(s.rows W.length).2],am++(s.rows W.length).1,l,cI,ac,_,_,_,_,_,rfl,by rw [a,fH];rfl,rfl,cf,r _ _ (eb cs) cC,r _ _ (eb cq) (Z _ _ (eb cr.symm) an),cB,cr,cq,?_,?_,?_,?_,?_,?_,?_,?_⟩ ((lQ c).keep cf nofun)
    ·rw [dR,dR];exact iV ch (Jn s)
    ·rw [dR,dR,Nat.mul_add];exact iV ci (A5 s _)
    ·rw [dR,dR];exact iV ck (d5 _)
    ·rw [dR];exact cg cD (iV jU (d5 _))
    ·rw [dR];exact ca.add i bx
    ·rw [I,fH];rfl
    ·rw [S,fH];rfl
    ·refine dR▸?_;exact cE
   unfold BK
   dsimp
   refine et (Pc p) v ⟨_,_,_,s,P,am,W.length,bx,bn,ca,i,cg b8 (by decide),fun x U ap bv g=>?_⟩
   (refine bb ?_;dsimp)
   refine s8 (cV ap bn) g (by rw [dP,dP];exact cg (iV b8 (A5 s _)) (by decide)) fun ac an=>?_
   refine fh▸?_
   have y:Q [] U (U.set ac (.list ((am++(s.rows W.length).1).map cH.d))):=Q.new an
   have co:=cV (ap.trans y) bd
   (refine bb ?_;dsimp)
   refine jG co ?_
   dsimp
   exact jD co (by rw [dP];exact cg ck (cg bm (by decide))) (bb (cG x ac _ _ (ap.trans y) bv (cV y g) (J.aa ..) (J.ne (cV ap bd) an) (J.ne (cV ap bu) an).symm rfl))
inductive EU:List D→J→KK→KK→Prop
 | mk (μ:J) (K E:KK) (A Nm Mk dS:a0) (ss:List cj) (lits:PySem.Str→List ck) (ma mb:Int) (rp:List D) (h1:μ A=ab (.list (ss.map cj.d))) (h2:(∀s ∈ ss,s.Ok)) (h3:ss.length≤7) (h4:kb μ Nm lits) (h5:lr μ Mk ma mb) (h6:fL (μ dS)=ab rp) (h7:rp.length=8) (h8: ∀v ∈ rp,i2 v) (h9: ∀W L Lg μ',Q [] μ μ'→μ' W=ab (.list ((eC ss []).1.map .str))→μ' L=ab (.list ((eC ss []).2.1.map cH.d))→μ' Lg=ab (.list (fA lits ma mb rp ss 0 []).2)→K (.tup [.val (.ref W),.val (.ref L),(fA lits ma mb rp ss 0 []).1,.val (.ref Lg)]) μ'):EU [.val (.ref A),.val (.ref Nm),.val (.ref Mk),.val (.ref dS)] μ K E
theorem O7(p:cA w u):cK G w u 7 (.ref 721) EU:=
 cK.of (p.af (by kernel_rfl)) fun I v=>(Zh G p (cp v rfl)).mono fun b B x O X=>by
  refine X.rec fun B x O r A N dS z al q m bd j R V g y ac h U f=>?_
  refine⟨rfl,?_⟩
  dsimp
  refine⟨eA _,fun W a=>?_⟩
  (refine bb ?_;dsimp)
  refine⟨eA _,fun P S=>?_⟩
  (refine bb ?_;dsimp)
  refine⟨eA _,fun T c=>?_⟩
  have Y:Q [] B (B.set W (.list [])):=Q.new a
  have l:Q [] (B.set W (.list [])) ((B.set W (.list [])).set P (.list [])):=Q.new S
  have Z:Q [] ((B.set W (.list [])).set P (.list [])) (((B.set W (.list [])).set P (.list [])).set T (.list [])):=Q.new c
  have H:=cV l (J.aa ..)
  have s:=(Y.trans l).none c (by simp)
  have D:=J.ne H c
  have d:=J.ne (J.aa ((B.set W (.list []))) P (.list [])) c
  have i:=J.ne (J.aa B W (.list [])) S
  have M:=Y.trans (l.trans Z)
  have L:=Rm (G:=G) (K:=x) (Nx:=ih (jZ (lO (p9 (jI (g4 4) (jI (g4 5) (jI (g4 7) (jI (g4 6) (nv))))))) (k3)) (fun F e=>x .none e) x (fun F=>O)) p (cp v rfl) j R V ⟨g,y,ac,h,U,s⟩ a D
   (fun P e o E am an ap k n t C=>by
    (refine bb ?_;dsimp)
    exact⟨b9 rfl,f W P T e k n t C⟩) _ _ _ ⟨[],z,[],[],[],[],.none,P,ao,ao,ao,ao,ao,rfl,rfl,rfl,M,cV Z H,cV Z (J.aa ..),J.aa ..,i,d,d5 _,d5 _,d5 _,d5 _,.nil,rfl,rfl,.go rfl rfl⟩
  (refine bb ?_;dsimp)
  (refine bb ?_;dsimp)
  refine(cV M j)▸?_
  exact L
end
end
section
set_option simprocs false
section
noncomputable def lP (o:Option (Option (Int×Int))):D:=match o with
 | none=> .str mq
 | some j=>hG j
theorem Yx(t:Nat→Int)(i:Int)(N:List Nat):(N.map fun E=>t E * i).sum=(N.map t).sum * i:=by
 induction N with
 | nil=>exact(Lm i).symm
 | cons a N o=>rw [gq,gq,LR,LR,o,Lb]
theorem XT(X:4 * A+(C+1)≤b5.length):slice b5 A (C+1)=slice b5 A C++ [b5.getD (4 * A+C) 0]:=by
 unfold slice
 have h:C < (b5.drop (4 * A)).length:=by rw [C1];(exact Nat.lt_sub_iff_add_lt'.mpr X)
 rw [LS,gV h,List.getElem_drop,j3,gV (by(assumption))];rfl
theorem Yy(r:List Nat)(j:Nat): ∀y:Nat,4 * j+y≤r.length→((f5 y).map fun E=>((r.getD (4 * j+E) 0:Nat):Int) * 256 ^ (y - 1 - E)).sum=gy (slice r j y):=by
 intro y
 induction y with
 | zero=>intro _;rfl
 | succ y o=>
  intro X
  rw [XT X,Iv,←o (LX X),C4,fh,LQ]
  have Z:((f5 y).map fun E=>((r.getD (4 * j+E) 0:Nat):Int) * 256 ^ (y+1 - 1 - E))=((f5 y).map fun E=>(((r.getD (4 * j+E) 0:Nat):Int) * 256 ^ (y - 1 - E)) * 256):=by
   refine uP fun E N=>?_
   have Z:y+1 - 1 - E=(y - 1 - E)+1:=J4 (qm.mp N)
   rw [Z,x9,Int.mul_assoc]
  rw [Z,Yx]
  show _+((r.getD (4 * j+y) 0:Nat) * 256 ^ (y+1 - 1 - y)+(0:Int))=_
  rw [Int.add_zero,LV,Dg,Int.pow_zero,Int.mul_one];rfl
theorem Yz(i:q z=ab (.list n))(Z:jn n=ab de)(k:x (.int de.sum) q):AB [.val (.ref z)] q x:=by
 show eY q (.ref z) _
 unfold eY
 dsimp only
 rw [i]
 show pS n _
 unfold pS
 refine Z▸?_;exact k
theorem PL(X:cI (ab T::V) q (fun B C=>gj df n C∧cI (ab fg::V) C (fun H L=>gj df n L∧iH [B,H] L) mn) mn):iC cI ao df n [T,fg] [] V q iH:=X
theorem Uz {k:Nat}(X:k < b5.length):(b5.map fun(k:Nat)=>D.int (k:Int))[k]? =ab (.int ((b5.getD k 0:Nat):Int)):=by
 rw [lX,j3,gV X];rfl
theorem Uy(D:fO b5) {k:Nat}(X:k < b5.length):ib ((b5.getD k 0:Nat):Int):=by
 rw [j3,gV X]
 exact jo (jd (by decide) (fy _)) (r8 (gp.mpr (D _ (ye X))) (by decide))
theorem Wd(K:0≤B)(I:4 * B+A≤64):4 * B.toNat+A≤64:=by
 obtain⟨k,rfl⟩:=jN K
 exact(hh (m:=4 * k+A) (n:=64)).mp I
theorem Wa(K:0≤B)(I:4 * B+A≤64)(X:C < A):0≤4 * B+(C:Int)∧4 * B+(C:Int) < 1000000∧(4 * B+(C:Int)).toNat=4 * B.toNat+C∧4 * B.toNat+C < 64∧4 * B.toNat+A≤64:=by
 obtain⟨k,rfl⟩:=jN K
 have Z:=(hh (m:=4 * k+A) (n:=64)).mp I
 have t:=lY (Nat.add_lt_add_left X (4 * k)) Z
 exact⟨fy (4 * k+C),gp.mpr (uU t (by decide)),rfl,t,Z⟩
noncomputable def m6 (s K:Int):Int:=if K < 0 then s else K
noncomputable def tD (R f:Int):Int:=if f > R then f else R
theorem V9 {ks:List Nat} {hi:Int} {m:Nat}(J: ¬B < 0):if 64 < 4 * tD B (m6 B hi)+(m:Int) then fe ks B hi m=ao else (fe ks B hi m=ab (ab (gy (slice ks B.toNat m),gy (slice ks (m6 B hi).toNat m)))∧4 * B+m≤64∧4 * m6 B hi+m≤64∧0≤m6 B hi):=by
 delta fe tD m6
 rw [if_neg J]
 by_cases i:hi < 0
 ·rw [if_pos i,if_pos i,if_neg (Int.lt_irrefl B)]
  by_cases c:64 < 4 * B+(m:Int)
  ·rw [if_pos c,if_pos c]
  ·rw [if_neg c,if_neg c];exact⟨rfl,by omega,by omega,by(exact je.mp (by assumption))⟩
 ·rw [if_neg i,if_neg i]
  by_cases P:hi > B
  ·rw [if_pos P]
   by_cases c:64 < 4 * hi+(m:Int)
   ·rw [if_pos c,if_pos c,ite_self]
   ·rw [if_neg c,if_neg c,if_neg (by omega)];exact⟨rfl,by omega,by(exact je.mp (by assumption)),by omega⟩
  ·rw [if_neg P]
   by_cases c:64 < 4 * B+(m:Int)
   ·rw [if_pos c,if_pos c]
   ·rw [if_neg c,if_neg c,if_neg (by omega)];exact⟨rfl,by omega,by omega,by omega⟩
noncomputable def B6:dH:=h (b (.val (.builtin "sum"))) (a (jL (g6 (c 4)) ao (e .Mult (f (c 2) (e .Add (e .Mult (b (.int 4)) (c 1)) (c 0))) (e .Pow (b (.int 256)) (e .Sub (e .Sub (c 5) (b (.int 1))) (c 0))))) (j))
noncomputable def BI:cB:=d (cQ (h (b (.val (.type "tuple"))) (a (jL (gS (dj (a (c 1) (a (c 4) (j))))) ao (B6)) (j)))) (l)
noncomputable def Ki:cB:=d (cZ (cC .Gt (e .Add (e .Mult (b (.int 4)) (h (b (.val (.builtin "max"))) (a (c 1) (a (c 4) (j))))) (c 3)) (b (.int 64))) (d (cQ (b (.str "octets past the registers"))) (l)) (l)) (BI)
noncomputable def rI (W:a0) (s K:Int) (y:Nat) (A:Int):Loc:= [ab (.val (.ref W)),ab (.int s),ab (.int K),ab (.int (y:Int)),ab (.int A)]
inductive E4:List D→J→KK→KK→Prop
 | mk (μ:J) (K E:KK) (O:a0) (lo hi:Int) (m:Nat) (ks:List Nat) (h1:μ O=ab (.list (ks.map fun(k:Nat)=>D.int (k:Int)))) (h2:ks.length=64) (h3:fO ks) (h4:m≤16) (h5: ∀μ',Q [] μ μ'→K (lP (fe ks lo hi m)) μ'):E4 [.val (.ref O),.int lo,.int hi,.int (m:Int)] μ K E
section
theorem Wb(v:1≤A) {r:Int}(R:M z=ab (.list (b5.map fun(k:Nat)=>D.int (k:Int))))(h:b5.length=64)(b:fO b5)(V:C≤16)(K:0≤r)(I:4 * r+C≤64)(H: ∀L,Q [] M L→cF (.int (gy (slice b5 r.toNat C))) L):
 B6 ⟨G,w,u,A⟩ (ab (.int r)::rI z B bk C ew) M cF bx:=by
 delta B6 rI
 dsimp
 refine⟨gD _,rJ (k:=C) (cg V (by decide)) (fun E=> .int (((b5.getD (4 * r.toNat+E) 0:Nat):Int) * 256 ^ (C - 1 - E))) (fun E N n P=>?_) fun S U=>?_⟩
 ·refine xE (Wa K I N) fun O W a g F=>?_
  have g:4 * r.toNat+E < b5.length:=by rw [h];exact g
  dsimp
  refine(vM N)▸?_
  refine⟨.inl jU,kT (d:= .int ((b5.getD (4 * r.toNat+E) 0:Nat):Int)) R ⟨O,W⟩ (by rw [a];exact Uz g) ⟨nh (by decide) (cg (nT ..) (cg (nT ..) (cg V (by decide)))),.inl (Uy b g),P⟩⟩
 ·have Z:4 * r.toNat+C≤b5.length:=by rw [h];exact Wd K I
  refine dA RO v (Yz (J.aa ..) (ints_map _ _) ?_)
  refine(Yy b5 r.toNat C Z)▸?_
  exact H _ (Q.new U)
theorem V8(p:cA w u)(v:1≤A)(R:q z=ab (.list (b5.map fun(k:Nat)=>D.int (k:Int))))(h:b5.length=64)(b:fO b5)(V:C≤16)(K:0≤B)(I:4 * B+C≤64)(N:0≤ew)(i:4 * ew+C≤64)
 (f: ∀e,Q [] q e→x (.tup [.int (gy (slice b5 B.toNat C)),.int (gy (slice b5 ew.toNat C))]) e):
 BI ⟨G,w,u,A⟩ (rI z B bk C ew) q (fun F e=>x .none e) x (fun F=>bx):=by
 have one:=fun(j:Int) M cF bx (Y:Q [] q M) K I H=>Wb (G:=G) (w:=w) (u:=u) (B:=B) (bk:=bk) (ew:=ew) (r:=j) (cF:=cF) (bx:=bx) v (cV Y R) h b V K I H
 unfold BI
 dsimp
 refine⟨kj _,b9 rfl,fun d U=>?_⟩
 have Y:Q [] q (q.set d (.list [.int B,.int ew])):=Q.new U
 have c:gj (ab d) [.int B,.int ew] (q.set d (.list [.int B,.int ew])):=lQ (J.aa ..)
 rw [J.aa]
 show _∧iC _ _ _ _ _ _ _ (q.set d (.list [.int B,.int ew])) _
 revert Y c
 generalize q.set d (.list [.int B,.int ew])=M
 intro Y c
 refine⟨b9 rfl,PL (one B M _ _ Y K I fun L l=>⟨c.keep l (by simp),one ew L _ _ (Y.trans l) N i fun t Z=>⟨c.keep (l.trans Z) (by simp),fun O g=>?_⟩⟩)⟩
 exact dA Al v (BR (J.aa ..) (b9 rfl) (f _ ((Y.trans (l.trans Z)).trans (Q.new g))))
theorem Wc(p:cA w u)(v:1≤A)(R:q z=ab (.list (b5.map fun(k:Nat)=>D.int (k:Int))))(h:b5.length=64)(b:fO b5)(V:C≤16)(J: ¬B < 0)(H:ew=m6 B bk)(f: ∀e,Q [] q e→x (lP (fe b5 B bk C)) e):
 Ki ⟨G,w,u,A⟩ (rI z B bk C ew) q (fun F e=>x .none e) x (fun F=>bx):=by
 subst H
 have t:=V9 (ks:=b5) (hi:=bk) (m:=C) J
 delta Ki rI
 dsimp
 refine⟨gD _,dA RN v ?_⟩
 show(ib 4∨ib (tD B (m6 B bk)))∧(if decide (64 < 4 * tD B (m6 B bk)+(C:Int))=true then _ else _)
 refine⟨.inl jU,?_⟩
 by_cases c:64 < 4 * tD B (m6 B bk)+(C:Int)
 ·rw [if_pos c] at t
  rw [t] at f
  exact dq (decide_eq_true c) (f q (Q.refl _))
 ·rw [if_neg c] at t
  have K:=t.1;have E:=t.2.1;have i:=t.2.2.1;have j:=t.2.2.2
  rw [K] at f
  exact cW (decide_eq_false c) (bb (V8 p v R h b V (je.mp J) E j i f))
end
theorem vW(p:cA w u):cK G w u 2 (.ref 761) E4:=
 cK.of (p.af (by kernel_rfl)) fun I v=>(Zt G p (cp v rfl)).mono fun b B x O X=>by
  refine X.rec fun B x O W s K y r R h C V f=>?_
  refine⟨rfl,?_⟩
  have L:=fun J A H=>Wc (G:=G) (A:=I) (ew:=A) (bx:=O) p v R h C V J H f
  unfold rI at L
  dsimp
  refine iE (fun P=>?_) fun P=>?_
  ·have:fe r s K y=ab ao:=if_pos (of_decide_eq_true P)
   rw [this] at f
   exact f B (Q.refl _)
  ·(refine bb ?_;dsimp)
   have L:=L (of_decide_eq_false P)
   exact iE (fun j=>bb (L s (if_pos (of_decide_eq_true j)).symm)) fun j=>bb (L K (if_neg (of_decide_eq_false j)).symm)
inductive E5:List D→J→KK→KK→Prop
 | mk (μ:J) (K E:KK) (g G:a0) (lo hi:Int) (m:Nat) (ks:List Nat) (h1:ez μ g G ks) (h2:m≤64) (h3: ∀μ',Q [] μ μ'→K (lP (fe ks lo hi m)) μ'):E5 [.val (.ref g),.int lo,.int hi,.int (m:Int)] μ K E
theorem Gn(p:cA w u):cK G w u 6 (.ref 768) E5:=
 cK.of (p.af (by kernel_rfl)) fun I v=>(Zu G p (cp v rfl)).mono fun b B x O X=>by
  refine X.rec fun B x O g N C K y r a V f=>?_
  refine ek rfl ?_
  dsimp
  rw [p4]
  dsimp
  refine et (te p) v ⟨_,_,_,g,N,C,K,y,r,a,V,?_⟩
  induction P:fe r C K y with
  | some j=>rw [P] at f;exact fun e k=>f e k
  | none=>
   rw [P] at f
   intro Z e k t
   refine jK t fun h s A D i E=>?_
   refine wo A (Bq w) ?_
   dsimp
   exact xA A D i ⟨rfl,rfl,rfl,rfl,rfl,rfl,rfl,rfl⟩ (f e k)
noncomputable def ox (o b:Option (Option (Int×Int))) (Y:Bool) (M:D) (A:List D) (L:PySem.Str) (E:Int) (H:List PySem.Str):D×List D:=match o with
 | none=>(.str mq,A)
 | some o=>match b with
  | none=>(.str mq,A)
  | some b=>if Y=true then (M,A++ [jX L E o b H]) else (.str "no tool for nat",A)
inductive ET:List D→J→KK→KK→Prop
 | mk (μ:J) (K E:KK) (sc Lg cE Tl Op St g G:a0) (o kind:PySem.Str) (pk:D) (log rp:List D) (tl:List (PySem.Str×D)) (ks:List Nat) (nf p0 p1 p2 p3:Int) (m:Nat) (flags:List PySem.Str) (tool:Bool) (v:D) (h1:fj μ sc o Lg cE Tl Op St pk) (h2:ez μ g G ks) (h3:μ Lg=ab (.list log)) (h4:fL (μ cE)=ab rp) (h5:cE≠Lg) (h6:μ Tl=ab (.dict tl)) (h7:log.length≤1000) (h8:m≤64) (h9:rp[log.length]? =ab v) (h10:cL tl "nat" =(if tool=true then ab (.val (.ref 742)) else ao)) (h11: ∀μ',Q [Lg] μ μ'→μ' Lg=ab (.list (ox (fe ks p0 p1 m) (fe ks p2 p3 2) tool v log kind nf flags).2)→K (.tup [(ox (fe ks p0 p1 m) (fe ks p2 p3 2) tool v log kind nf flags).1,.val (.ref Lg)]) μ'):ET [.val (.ref sc),.val (.ref g),(cH.nat kind nf p0 p1 (m:Int) p2 p3 flags).d] μ K E
theorem O6(ac:cA w u):cK G w u 7 (.ref 775) ET:=
 cK.of (ac.af (by kernel_rfl)) fun I v=>(Zg G ac (cp v rfl)).mono fun b B x O X=>by
  refine X.rec fun B x O q T cE W be St g N o L bu A P bv r E an z U C y H Y M n bk am S R bi h V bn ap f=>?_
  refine ek rfl ?_
  unfold GL
  generalize bm:(cH.nat L E an z (y:Int) U C H).d=row
  dsimp
  rw [p4]
  dsimp
  refine et (zW ac) v (rq ⟨_,_,_,q,T,cE,W,be,St,g,N,o,L,bu,.none,A,P,bv,r,E,an,z,U,C,y,H,n,bk,am,S,R,bi,h,V,?_⟩ (bm▸rfl))
  have al: ∀(m:PySem.Str) (Z:a0) (e:J),(∀e,Q [T] B e→e T=ab (.list A)→x (.tup [.str m,.val (.ref T)]) e)→Q [] B e→hF e Z 65 m→
   mr (KF w) [(65,3,d (cQ (p (a (dD "why" (c 3)) (a (dD "log" (c 0)) (j))))) (l) ⟨G,w,u,I⟩)] (fun F=>O) x
    [ab (.val (.ref q)),ab (.val (.ref g)),ab row,ao] (.val (.ref Z)) e:=by
   intro m Z e f k t
   refine t.elim fun b5 bx=>?_
   refine rT bx fun s K D i b6=>?_
   refine wo K (Bq w) ?_
   dsimp
   exact xA K D i ⟨rfl,rfl,rfl,rfl,rfl,rfl,rfl,rfl⟩ ((n.keep k.h).log ⟨b9 rfl,f e (Mine.keep0 k) (cV k am)⟩)
  induction bb:fe r an z y with
  | none=>rw [bb] at f;exact fun Z e k t=>al _ Z e f k t
  | some sp=>
   rw [bb] at f
   induction bd:fe r U C 2 with
   | none=>rw [bd] at f;exact fun Z e k t=>al _ Z e f k t
   | some b8=>
    rw [bd] at f
    induction Y with
    | true=>exact .inl ⟨ap,M,bn,fun e k Z=>(n.keep (k.lh am)).log ⟨b9 rfl,f e k Z⟩⟩
    | false=>exact .inr ⟨ap,fun Z e k t=>al _ Z e f k t⟩
end
end
section
set_option simprocs false
section
noncomputable def jR:List (List Int):= [[3,6,10,0,42],[12,0,0,5,3],[0,8,16,16,120],[2,14,1,1,5]]
theorem OF: ∀k < 4,(jR.getD k []).length=5:=by decide
def jl (I:Nat) (T:D):Prop:= ∀B,hD B I T T
theorem tX {n:Nat} {f:c2→D} {N:List c2}(X: ∀S ∈ N,jl n (f S))(B:J):g8 B n (N.map f) (N.map f):=by
 induction N with
 | nil=>exact .nil
 | cons S N o=>exact .cons (X S er B) (o fun s A=>X s (fJ _ A))
theorem Je(I:Nat)(S:PySem.Str):jl I (.str S):=fun B=> .str S
theorem Jd(I:Nat)(N:List PySem.Str):jl (I+1) (gZ N):=fun B=> .tup (tX (fun S F=>Je I S) B)
theorem Wi(I:Nat)(c:Option (Int×Int)):jl (I+1) (hG c):=fun B=>by
 induction c with
 | none=>exact .none
 | some Z=>exact .tup (.cons (.int Z.1) (.cons (.int Z.2) .nil))
theorem Wh(I:Nat)(c:Option (Int×Int)):jl I (AH c):=fun B=>by
 induction c with
 | none=>exact .none
 | some Z=>exact .int Z.1
theorem We(I:Nat)(c:Option (Int×Int)):jl I (Aq c):=fun B=>by
 induction c with
 | none=>exact .none
 | some Z=>exact .int Z.2
theorem Bd(I:Nat)(L:PySem.Str)(E:Int)(o b:Option (Int×Int))(A:List PySem.Str):jl (I+2) (jX L E o b A):=fun B=> .tup (.cons (.str _) (.cons (.int _) (.cons (Wh _ _ B) (.cons (We _ _ B) (.cons (Wi _ _ B) (.cons (Jd _ _ B) .nil))))))
theorem Ir(X:g8 q 20 n y)(k:c0 false q):f7 .NotEq (.tup n) (.tup y) q c0 x:=⟨X,k⟩
theorem Uc(j:Option (Option (Int×Int)))(k:c0 false q):f7 .NotEq (lP j) (lP j) q c0 x:=by
 induction j with
 | none=>
  show c0 (mq != mq) q
  rw [bne_self_eq_false];exact k
 | some j=>
  induction j with
  | none=>exact k
  | some Z=>
   obtain⟨R,f⟩:=Z
   exact⟨.cons (.int R) (.cons (.int f) .nil),k⟩
theorem VY:tW b5 cI V q cR x d3=cI V q (fun T e=>match T with
 | .val (.ref a)=>match e a with
  | some (.list b)=>match puts b5 b V with
   | some E=>cR E e
   | none=>False
  | _=>False
 | _=>False) (d3 V):=rfl
theorem HF(j:Option (Option (Int×Int)))(k:x (.bool j.isNone) q):Az [lP j,.val (.type "str")] q x:=by
 induction j with
 | none=>exact⟨rfl,k⟩
 | some j=>induction j with
  | none=>exact⟨rfl,k⟩
  | some Z=>exact⟨rfl,k⟩
end
end
section
set_option simprocs false
section
noncomputable def Bt:cB:=d (v 20 (p (a (b (.str "nat")) (a (c 12) (a (c 13) (a (c 7) (a (c 8) (a (c 14) (a (c 9) (a (c 10) (a (c 15) (j)))))))))))) (d (cZ (cC .NotEq (h (b (.val (.ref 775))) (a (c 16) (a (c 3) (a (c 20) (j))))) (c 19)) (d (cQ (b (.bool false))) (l)) (l)) l)
noncomputable def Bs:cB:=d (cZ (nA [qb (h (b (.val (.builtin "isinstance"))) (a (c 17) (a (b (.val (.type "str"))) (j)))),qb (h (b (.val (.builtin "isinstance"))) (a (c 18) (a (b (.val (.type "str"))) (j))))]) (d (v 19 (p (a (b (.str "octets past the registers")) (a (dj (j)) (j))))) (l)) (d (cZ (cC .Eq (e .Mod (e .FloorDiv (c 11) (b (.int 2))) (b (.int 4))) (b (.int 0))) (d (v 19 (p (a (b (.str "no tool for nat")) (a (dj (j)) (j))))) (l)) (d (v 17 (g5 (cC .Is (c 17) (b .none)) (p (a (b .none) (a (b .none) (j)))) (c 17))) (d (v 19 (p (a (p (a (b (.str "accept")) (a (b (.str "")) (j)))) (a (dj (a (p (a (c 12) (a (c 13) (a (f (c 17) (b (.int 0))) (a (f (c 17) (b (.int 1))) (a (c 18) (a (c 15) (j)))))))) (j))) (j))))) (l)))) (l))) (Bt)
noncomputable def By:cB:=d (v 17 (h (b (.val (.ref 761))) (a (c 2) (a (c 7) (a (c 8) (a (c 14) (j))))))) (d (v 18 (h (b (.val (.ref 761))) (a (c 2) (a (c 9) (a (c 10) (a (b (.int 2)) (j))))))) (Bs))
noncomputable def Bx:cB:=d (cZ (cC .Gt (e .Mod (e .FloorDiv (c 11) (b (.int 2))) (b (.int 4))) (b (.int 0))) (d (hJ (b (.val (.ref 742))) (dD "tools" (c 16)) (b (.str "nat"))) (l)) (l)) (By)
noncomputable def Bw:cB:=d (v 16 (h (b (.val (.ref 407))) (a (b .none) (a (gb []) (j))))) (d (dN "replies" (dj (a (p (a (b (.str "accept")) (a (b (.str "")) (j)))) (j))) (c 16)) (Bx))
noncomputable def Bv:cB:=d (ij (nt [14,13,12]) (p (a (f (dj (a (b (.str "snat")) (a (b (.str "dnat")) (j)))) (e .Mod (e .FloorDiv (c 11) (b (.int 128))) (b (.int 2)))) (a (f (dj (a (b (.int 2)) (a (b (.int 10)) (j)))) (e .Mod (c 11) (b (.int 2)))) (a (f (dj (a (b (.int 4)) (a (b (.int 16)) (j)))) (e .Mod (c 11) (b (.int 2)))) (j)))))) (d (v 15 (f (dj (a (p (j)) (a (p (a (b (.str "random")) (j))) (j)))) (e .Mod (e .FloorDiv (c 11) (b (.int 256))) (b (.int 2))))) (Bw))
noncomputable def Bu:cB:=d (cZ (cC .NotEq (h (b (.val (.ref 768))) (a (c 3) (a (c 7) (a (c 8) (a (e .Add (e .Mod (e .FloorDiv (c 11) (b (.int 8))) (b (.int 16))) (b (.int 1))) (j)))))) (h (b (.val (.ref 761))) (a (c 2) (a (c 7) (a (c 8) (a (e .Add (e .Mod (e .FloorDiv (c 11) (b (.int 8))) (b (.int 16))) (b (.int 1))) (j))))))) (d (cQ (b (.bool false))) (l)) (l)) (Bv)
noncomputable def Br:cB:=d (v 6 (jL (g6 (b (.int 5))) ao (e .Add (f (f (c 5) (c 6)) (c 0)) (h (b (.val (.ref 650))) (a (c 1) (a (e .Add (e .Add (e .Add (c 2) (b (.int 1))) (e .Mult (b (.int 5)) (c 6))) (c 0)) (j))))))) (d (Cf [7,8,9,10] (jL (g6 (b (.int 4))) ao (e .Sub (e .Mod (f (c 7) (c 0)) (b (.int 17))) (b (.int 1))))) (d (v 11 (f (c 6) (b (.int 4)))) (Bu)))
theorem Ow(I C:Option (Option (Int×Int)))(Y:Bool)(L:PySem.Str)(E:Int)(A:List PySem.Str)(B:J):hD B 20 (ox I C Y (.tup [.str "accept",.str ""]) [] L E A).1 (ox I C Y (.tup [.str "accept",.str ""]) [] L E A).1∧
 g8 B 19 (ox I C Y (.tup [.str "accept",.str ""]) [] L E A).2 (ox I C Y (.tup [.str "accept",.str ""]) [] L E A).2:=by
 induction I with
 | none=>exact⟨.str _,.nil⟩
 | some sp=>induction C with
  | none=>exact⟨.str _,.nil⟩
  | some b=>induction Y with
   | false=>exact⟨.str _,.nil⟩
   | true=>exact⟨.tup (.cons (.str _) (.cons (.str _) .nil)),.cons (Bd 17 L E sp b A B) .nil⟩
structure zA where
 a:a0
 at':Nat
 O:a0
 g:a0
 Bz:a0
 k:Nat
 Dz:a0
 lo:Int
 hi:Int
 pl:Int
 ph:Int
 c:Int
noncomputable def pV (R:a0) (T:Nat) (W g S:a0) (c M y o E F C L I B G A H K N O:Option D):Loc:= [ab (.val (.ref R)),ab (.int (T:Int)),ab (.val (.ref W)),ab (.val (.ref g)),ab (.val (.ref S)),c,M,y,o,E,F,C,L,I,B,G,A,H,K,N,O]
noncomputable def lN (S:zA) (L I B G A H K N O:Option D):Loc:=pV S.a S.at' S.O S.g S.Bz (ab (.int (S.k:Int))) (ab (.val (.ref S.Dz))) (ab (.int S.lo)) (ab (.int S.hi)) (ab (.int S.pl)) (ab (.int S.ph)) (ab (.int S.c)) L I B G A H K N O
section
variable {dZ:zA}
variable {o:Option D}
@[simp] theorem abR:Loc.at (lN dZ c3 dW dk dX dU dO eT gH gA) 11=ab (.int dZ.c):=rfl
@[simp] theorem abS:Loc.at (lN dZ c3 dW dk dX dU dO eT gH gA) 17=dO:=rfl
end
inductive mc (x:zA) (G:a0) (ks:List Nat) (μ:J):Prop
 | mk (hO:μ x.O=ab (.list (ks.map fun(k:Nat)=>D.int (k:Int)))) (hg:ez μ x.g G ks)
variable {dZ:zA}
theorem mc.keep {G:a0}(X:mc dZ G b5 q)(k:Q [] q M):mc dZ G b5 M:=by
 have W:=X.1;have K:=X.2;exact⟨cV k W,K.keep k⟩
noncomputable abbrev cM:D:= .tup [.str "accept",.str ""]
inductive q5 (μ:J) (sc Lg cE Tl Op St:a0) (tool:Bool):Prop
 | mk (tl:List (PySem.Str×D)) (hsc:fj μ sc "little" Lg cE Tl Op St .none) (hL:μ Lg=ab (.list [])) (hR:fL (μ cE)=ab [cM]) (ne:cE≠Lg) (hT:μ Tl=ab (.dict tl)) (hat:cL tl "nat" =(if tool=true then ab (.val (.ref 742)) else ao))
theorem q5.keep(X:q5 q z E O cn cS c9 dJ)(k:Q [] q M):q5 M z E O cn cS c9 dJ:=by
 obtain⟨V,W,K,C,n,e,f⟩:=X
 exact⟨V,W.keep k.h,cV k K,m7 C k nofun,n,cV k e,f⟩
def oq (S:zA) (C:J) (n:Loc→J→Prop):Prop:= ∀L I B G A H K N O e,Q [] C e→n (lN S L I B G A H K N O) e
section
theorem Vr(p:cA w u)(v:7≤A)(R:mc dZ z b5 M)(P:q5 M E O cn cS c9 dz dJ)(k:Q [] q M)(f:q O=ao)(y:C≤16)(W:fe b5 dZ.lo dZ.hi C=mC)(K:fe b5 dZ.pl dZ.ph 2=nF)(c:ox mC nF dJ cM [] t B I=(T,n))(U:M eX=ab (.list n))(J:eX≠O)(L:oq dZ q cR):
 Bt ⟨G,w,u,A⟩ (lN dZ (ab (.str t)) (ab (.int B)) (ab (.int (C:Int))) (ab (gZ I)) (ab (.val (.ref E))) dO eT (ab (.tup [T,.val (.ref eX)])) gA) M cR x fM:=by
 have a:=R.2
 obtain⟨V,l,m,h,S,D,N⟩:=P
 have F:=fun e=>Ow mC nF dJ t B I e
 rw [c] at F
 unfold oq at L
 unfold Bt
 dsimp
 refine⟨b9 rfl,?_⟩
 (refine bb ?_;dsimp)
 refine et (O6 p) v ⟨_,_,_,E,O,cn,cS,c9,dz,dZ.g,z,"little",t,.none,[],[cM],V,b5,B,dZ.lo,dZ.hi,dZ.pl,dZ.ph,C,I,dJ,cM,l,a,m,h,S,D,eA _,cg y (by decide),rfl,N,fun e r H=>?_⟩
 rw [W,K,c] at H ⊢
 refine Ir (.cons (F e).1 (.cons (.list H (r _ _ (eb J) U) (F e).2) .nil)) (cW rfl ?_)
 exact L _ _ _ _ _ _ _ _ _ e (r.old f k)
theorem Vq(p:cA w u)(v:7≤A)(R:mc dZ z b5 M)(N:q5 M E O cn cS c9 dz dJ)(k:Q [] q M)(f:q O=ao)(y:C≤16)(W:fe b5 dZ.lo dZ.hi C=mC)(S:fe b5 dZ.pl dZ.ph 2=nF)(s:((dZ.c.fdiv 2).fmod 4 == 0)= !dJ)(L:oq dZ q cR):
 Bs ⟨G,w,u,A⟩ (lN dZ (ab (.str t)) (ab (.int B)) (ab (.int (C:Int))) (ab (gZ I)) (ab (.val (.ref E))) (ab (lP mC)) (ab (lP nF)) gH gA) M cR x fM:=by
 have V:M O=ab (.list []):=by obtain⟨_,_,X,_⟩:=N;exact X
 have m:=fun(H:D) (F:List D) (dO:Option D) (T:ox mC nF dJ cM [] t B I=(H,F)) (d:a0) (U:M d=ao)=>Vr (G:=G) (A:=A) (x:=x) (dO:=dO) (eT:=ab (lP nF)) (gA:=gA) p v (R.keep (Q.new (o:= .list F) U)) (N.keep (Q.new U)) (k.trans (Q.new U)) f y W S T (J.aa ..) (J.ne V U).symm L
 unfold Bs
 dsimp
 refine⟨gD _,dA He (cp v rfl) (HF _ ?_)⟩
 induction mC with
 | none=>exact dq rfl (dq rfl ⟨eA _,fun d U=>⟨b9 rfl,bb (bb (m _ _ _ rfl d U))⟩⟩)
 | some mC=>
  refine cW rfl ⟨gD _,dA He (cp v rfl) (HF _ ?_)⟩
  induction nF with
  | none=>exact dq rfl (dq rfl ⟨eA _,fun d U=>⟨b9 rfl,bb (bb (m _ _ _ rfl d U))⟩⟩)
  | some nF=>
   refine cW rfl (cW rfl ⟨⟨by decide,ml (by decide)⟩,by decide,?_⟩)
   induction dJ with
   | false=>exact dq s ⟨eA _,fun d U=>⟨b9 rfl,bb (bb (m _ _ _ rfl d U))⟩⟩
   | true=>
    refine cW s ?_
    induction mC with
    | none=>
     rw [show lP (ab ao)=D.none from rfl]
     dsimp only [SG]
     refine dq rfl ⟨b9 rfl,?_⟩
     (refine bb ?_;dsimp)
     exact⟨b9 rfl,b9 rfl,b9 rfl,fun d U=>⟨b9 rfl,bb (bb (m _ _ _ rfl d U))⟩⟩
    | some Z=>
     obtain⟨c,P⟩:=Z
     rw [show lP (ab (ab (c,P)))=D.tup [.int c,.int P] from rfl]
     dsimp only [SI]
     refine cW rfl ?_
     (refine bb ?_;dsimp)
     exact⟨b9 rfl,b9 rfl,b9 rfl,fun d U=>⟨b9 rfl,bb (bb (m _ _ _ rfl d U))⟩⟩
theorem I0(p:cA w u)(v:7≤A)(R:mc dZ z b5 M)(U:q5 M E O cn cS c9 dz dJ)(k:Q [] q M)(f:q O=ao)(y:C≤16)(s:((dZ.c.fdiv 2).fmod 4 == 0)= !dJ)(L:oq dZ q cR):
 By ⟨G,w,u,A⟩ (lN dZ (ab (.str t)) (ab (.int B)) (ab (.int (C:Int))) (ab (gZ I)) (ab (.val (.ref E))) dO eT gH gA) M cR x fM:=by
 have m:=fun e (r:Q [] M e)=>Vq (G:=G) (A:=A) (x:=x) (t:=t) (B:=B) (I:=I) (gH:=gH) (gA:=gA) p v (R.keep r) (U.keep r) (k.trans r) f y rfl rfl s L
 obtain⟨R,a⟩:=R
 unfold By
 dsimp
 refine et (vW p) (cp v rfl) ⟨_,_,_,dZ.O,dZ.lo,dZ.hi,C,b5,R,a.len,a.fit,y,fun F Y=>?_⟩
 (refine bb ?_;dsimp)
 exact et (vW p) (cp v rfl) ⟨_,_,_,dZ.O,dZ.pl,dZ.ph,2,b5,cV Y R,a.len,a.fit,by decide,fun D l=>bb (m D (Y.trans l))⟩
theorem RQ:0≤(bk.fdiv 2).fmod 4:=Ld _ (by decide)
theorem Vv(p:cA w u)(v:7≤A) {dx:a0} {kvs:List (PySem.Str×D)}(F:mc dZ z b5 q)(N:InstAt M E 407 dx kvs)(H:jP kvs "little" O cn cS c9 dz .none)(c:M O=ab (.list []))(S:M cn=ab (.list [cM]))(R:cn≠O)(e:M cS=ab (.dict []))(a:cS≠dx)(k:Q [] q M)(f:q O=ao)(W:q cS=ao)(y:C≤16)(L:oq dZ q cR):
 Bx ⟨G,w,u,A⟩ (lN dZ (ab (.str t)) (ab (.int B)) (ab (.int (C:Int))) (ab (gZ I)) (ab (.val (.ref E))) dO eT gH gA) M cR x fM:=by
 have T:Q [cS] M (M.set cS (.dict [("nat",.val (.ref 742))])):=jF (Q.refl M)
 have V:=fun(X:((dZ.c.fdiv 2).fmod 4 == 0)=false)=>I0 (G:=G) (A:=A) (x:=x) (t:=t) (B:=B) (I:=I) (dO:=dO) (eT:=eT) (gH:=gH) (gA:=gA) (dJ:=true) p v (F.keep (k.set W))
  ⟨_,H.at (N.aT T e a),T _ _ (eb (J.diff c e nofun)) c,by rw [T _ _ (eb (J.diff S e nofun)) S];rfl,R,J.aa ..,rfl⟩ (k.set W) f y X L
 have U:=fun(X:((dZ.c.fdiv 2).fmod 4 == 0)=true)=>I0 (G:=G) (A:=A) (x:=x) (t:=t) (B:=B) (I:=I) (dO:=dO) (eT:=eT) (gH:=gH) (gA:=gA) (dJ:=false) p v (F.keep k)
  ⟨_,H.at N,c,by rw [S];rfl,R,e,rfl⟩ k f y X L
 unfold Bx
 dsimp
 refine⟨⟨by decide,ml (by decide)⟩,by decide,iE (fun P=>?_) fun P=>?_⟩
 ·exact gx N.1 N.2.1 H.ba ⟨rfl,rfl,rfl,rfl,rfl⟩ (p5 e (eA _) (bb (bb (V (beq_false_of_ne (nM (of_decide_eq_true P))))))) rfl
 ·exact bb (U (beq_iff_eq.mpr (Lf (je.mp (of_decide_eq_false P)) RQ)))
theorem jP.rep {o:PySem.Str}(X:jP s o O cn cS c9 dz T):jP (ep s "replies" (.val (.ref eX))) o O eX cS c9 dz T:=by
 obtain⟨W,K,C,n,e,f,V,i⟩:=X
 exact⟨fk W (by kernel_rfl),fk K (by kernel_rfl),kP,fk n (by kernel_rfl),fk e (by kernel_rfl),fk f (by kernel_rfl),fk V (by kernel_rfl),fk i (by kernel_rfl)⟩
theorem Vu(p:cA w u)(v:7≤A)(F:mc dZ z b5 q)(k:Q [] q M)(y:C≤16)(L:oq dZ q cR):
 Bw ⟨G,w,u,A⟩ (lN dZ (ab (.str t)) (ab (.int B)) (ab (.int (C:Int))) (ab (gZ I)) dU dO eT gH gA) M cR x fM:=by
 have m:=fun(E h:a0) (s:List (PySem.Str×D)) (O cn cS c9 dz:a0) (M:J) N H c S R e a k f W=>Vv (G:=G) (A:=A) (x:=x) (t:=t) (B:=B) (C:=C) (I:=I) (dO:=dO) (eT:=eT) (gH:=gH) (gA:=gA) (E:=E) (dx:=h) (kvs:=s) (O:=O) (cn:=cn) (cS:=cS) (c9:=c9) (dz:=dz) (M:=M) p v F N H c S R e a k f W y L
 unfold Bw
 dsimp
 refine⟨(vS (G:=G) p).ok,fun d U=>dA (vS p) (cp v rfl) ⟨_,_,_,_,_,fun E h s O cn cS c9 dz bd an X l N i=>?_⟩⟩
 obtain⟨H,g,P,j,_,_,V,r,Y,_,_,_,_,_⟩:=i
 have ac:=k.trans (Q.new (o:= .dict []) U)
 (refine bb ?_;dsimp)
 refine⟨b9 rfl,b9 rfl,fun b T=>N.bN.aE T (cg g (by decide)) ⟨rfl,rfl,rfl,rfl,rfl⟩ fun am al Z mC nF ap=>bb (m E h _ O b cS c9 dz am al.at H.rep ?_ mC (J.ne P T).symm ?_ Y ?_ (ac.none j (by simp)) (ac.none r (by simp)))⟩
 ·exact Z _ _ (eb (J.diff P N.2.1 nofun)) P
 ·exact Z _ _ (eb Y) V
 ·exact Z.old (ac.none X (by simp)) (ac.trans l)
theorem oH(J:Int):0≤J.fmod 2∧J.fmod 2 < 1000000:=by
 have X:=gw (a:=J) (b:=2) (by decide)
 exact⟨X.1,r8 X.2 (by decide)⟩
theorem SR(J:Int): ∃dZ:PySem.Str,([D.str "snat",D.str "dnat"])[(J.fmod 2).toNat]? =ab (.str dZ):=by
 rcases wJ (c:=J) with e | e<;>rw [e]<;>exact⟨_,rfl⟩
theorem XR(J:Int): ∃(B:Int) (C:Nat),C≤16∧([D.int 2,D.int 10])[(J.fmod 2).toNat]? =ab (.int B)∧([D.int 4,D.int 16])[(J.fmod 2).toNat]? =ab (.int (C:Int)):=by
 rcases wJ (c:=J) with e | e<;>rw [e]
 ·exact⟨2,4,by decide,rfl,rfl⟩
 ·exact⟨10,16,by decide,rfl,rfl⟩
theorem RL(J:Int): ∃I:List PySem.Str,([D.tup [],D.tup [D.str "random"]])[(J.fmod 2).toNat]? =ab (gZ I):=by
 rcases wJ (c:=J) with e | e<;>rw [e]
 ·exact⟨[],rfl⟩
 ·exact⟨["random"],rfl⟩
theorem tB {k:Int}(X:k≠0∧(-1000000≤k∧k≤1000000)):k≠0∧i4 k:=⟨X.1,ml X.2⟩
theorem Vt(p:cA w u)(v:7≤A)(F:mc dZ z b5 q)(k:Q [] q M)(L:oq dZ q cR):Bv ⟨G,w,u,A⟩ (lN dZ c3 dW dk dX dU dO eT gH gA) M cR x fM:=by
 have H:=fun(t:PySem.Str) (B:Int) (C:Nat) (I:List PySem.Str) (e:J) (r:Q [] M e) y=>Vu (G:=G) (A:=A) (x:=x) (t:=t) (B:=B) (C:=C) (I:=I) (dU:=dU) (dO:=dO) (eT:=eT) (gH:=gH) (gA:=gA) p v F (k.trans r) y L
 obtain⟨t,E⟩:=SR (dZ.c.fdiv 128)
 refine j0 (XR dZ.c) fun B C y m T=>?_
 obtain⟨I,h⟩:=RL (dZ.c.fdiv 256)
 unfold Bv
 dsimp
 refine⟨b9 rfl,fun O c=>⟨tB (by decide),by decide,jW (oH _).1 (oH _).2 E ⟨b9 rfl,fun P g=>⟨by decide,jW (oH _).1 (oH _).2 m ⟨b9 rfl,fun X i=>⟨by decide,jW (oH _).1 (oH _).2 T ⟨b9 rfl,?_⟩⟩⟩⟩⟩⟩⟩
 have Y:=((Q.new (S:= []) (o:= .list [D.str "snat",.str "dnat"]) c).trans (Q.new (o:= .list [D.int 2,.int 10]) g)).trans (Q.new (o:= .list [D.int 4,.int 16]) i)
 revert Y
 generalize ((M.set O (.list [D.str "snat",.str "dnat"])).set P (.list [D.int 2,.int 10])).set X (.list [D.int 4,.int 16])=R
 intro Y
 (refine bb ?_;dsimp)
 exact⟨b9 rfl,b9 rfl,b9 rfl,fun a N=>⟨tB (by decide),by decide,jW (oH _).1 (oH _).2 h (bb (H t B C I _ (Y.trans (Q.new N)) y))⟩⟩
theorem TC(i:Int): ∃y:Nat,(i.fdiv 8).fmod 16+1=(y:Int)∧y≤16:=by
 have X:=gw (a:=i.fdiv 8) (b:=16) (by decide)
 exact i7 X
theorem Vs(p:cA w u)(v:7≤A)(F:mc dZ z b5 q)(k:Q [] q M)(L:oq dZ q cR):Bu ⟨G,w,u,A⟩ (lN dZ c3 dW dk dX dU dO eT gH gA) M cR x fM:=by
 have m:=fun(e:J) (r:Q [] M e)=>Vt (G:=G) (A:=A) (x:=x) (c3:=c3) (dW:=dW) (dk:=dk) (dX:=dX) (dU:=dU) (dO:=dO) (eT:=eT) (gH:=gH) (gA:=gA) p v F (k.trans r) L
 obtain⟨R,a⟩:=F.keep k
 refine(TC dZ.c).elim fun y h=>?_
 refine h.elim fun N V=>?_
 unfold Bu
 dsimp
 refine N▸?_
 refine⟨(Gn (G:=G) p).ok,tB (by decide),by decide,dA (Gn p) (cp v rfl) ⟨_,_,_,dZ.g,z,dZ.lo,dZ.hi,y,b5,a,cg V (by decide),fun C Y=>⟨(vW (G:=G) p).ok,tB (by decide),by decide,dA (vW p) (cp v rfl) ⟨_,_,_,dZ.O,dZ.lo,dZ.hi,y,b5,cV Y R,a.len,a.fit,V,fun B l=>Uc _ (cW rfl (bb (m B (Y.trans l))))⟩⟩⟩⟩
theorem xh {k:Nat}(X:dc < k)(g:nP k 1000000=true):0≤(dc:Int)∧(dc:Int) < 1000000:=⟨fy _,jd (gp.mpr X) (hh.mpr (b9 g))⟩
theorem OG {k:Nat}(X:k < 4):(jR.map fun N=>D.tup (N.map D.int))[(k:Int).toNat]? =ab (.tup ((jR.getD k []).map .int)):=by
 rw [ir,lX,j3,gV (show k < jR.length from X)];rfl
theorem OH {k:Nat}(X:k < 4)(N:dc < 5):((jR.getD k []).map D.int)[(dc:Int).toNat]? =ab (.int ((jR.getD k []).getD dc 0)):=by
 rw [ir,lX,j3 (l:=jR.getD k []),gV (show dc < (jR.getD k []).length by rw [OF k X];exact N)];rfl
theorem VC {t:Nat→c2}(X:il < dc):((f5 dc).map t)[(il:Int).toNat]? =ab (t il):=by
 rw [ir,lX,List.getElem?_range X];rfl
theorem GS(p:cA w u)(v:2≤A)(X:hC u eX de∧de.length≤1000)(J:Nat)(H:0≤lE de J→lE de J < 2 ^ 64→bx (.int (lE de J)) M):mv G w u A (.ref 650) bx cF [.val (.ref eX),.int (J:Int)] M:=
 dA (lD p) v ⟨_,_,_,eX,de,J,X,fun T W K Z=>by subst Z;exact H W K⟩
theorem Vp(p:cA w u)(v:7≤A)(H:hC u eX de∧de.length≤1000) {g:a0}(h:il < 4) {M Cy Cz CA CB CC:Option D}(R:q fC=ab (.list (b5.map fun(k:Nat)=>D.int (k:Int))))(a:ez q g z b5)(O:q j1=ab (.list (jR.map fun l=>D.tup (l.map .int))))
 (j: ∀c M Cy Cz CA CB CC c3 dW dk dX dU dO eT gH gA e,Q [] q e→cR (pV eX dc fC g j1 c M Cy Cz CA CB CC c3 dW dk dX dU dO eT gH gA) e):
 Br ⟨G,w,u,A⟩ (pV eX dc fC g j1 (ab (.int (il:Int))) M Cy Cz CA CB CC c3 dW dk dX dU dO eT gH gA) q cR x fM:=by
 have m:=fun(I:a0) (s y V Z i:Int) (e:J) (r:Q [] q e)=>Vs (G:=G) (A:=A) (x:=x) (cR:=cR) (z:=z) (b5:=b5) (dZ:=⟨eX,dc,fC,g,j1,il,I,s,y,V,Z,i⟩) (c3:=c3) (dW:=dW) (dk:=dk) (dX:=dX) (dU:=dU) (dO:=dO) (eT:=eT) (gH:=gH) (gA:=gA) p v ⟨R,a⟩ r fun c3 dW dk dX dU dO eT gH gA e k=>j _ _ _ _ _ _ _ c3 dW dk dX dU dO eT gH gA e k
 unfold Br
 unfold lN pV at m
 unfold pV
 dsimp only at m
 obtain⟨B,U⟩: ∃B:Nat→Int,∀E,B E=(jR.getD il []).getD E 0+lE de (dc+1+5 * il+E):=⟨_,fun F=>rfl⟩
 dsimp
 refine rJ (k:=5) (by decide) (fun E=> .int (B E)) (fun E N L f=>?_) fun I T=>?_
 ·rw [U] at f
  dsimp
  refine kT (d:= .tup ((jR.getD il []).map .int)) O (xh h rfl) (OG h) (wq (T:= .int ((jR.getD il []).getD E 0)) (xh N rfl) (OH h N) ⟨(lD (G:=G) p).ok,.inl (jo (by decide) (by decide)),?_⟩)
  exact GS p (cp v rfl) H (dc+1+5 * il+E) fun F F=>f
 ·have Y:=Q.new (S:= []) (o:= .list ((f5 5).map fun E=>D.int (B E))) T
  have W:=J.aa q I (.list ((f5 5).map fun E=>D.int (B E)))
  revert Y W
  generalize (q.set I (.list ((f5 5).map fun E=>D.int (B E))))=C
  intro Y W
  refine bb (A8 ?_)
  rw [aat,VY]
  dsimp
  refine rJ (k:=4) (by decide) (fun E=> .int ((B E).fmod 17 - 1)) (fun E N L f=>?_) fun b P=>?_
  ·dsimp
   exact kT (d:= .int (B E)) W (xh N rfl) (VC (uU N (by decide))) ⟨by decide,f⟩
  ·rw [J.aa,show((f5 4).map fun(E:Nat)=>D.int ((B E).fmod 17 - 1))= [.int ((B 0).fmod 17 - 1),.int ((B 1).fmod 17 - 1),.int ((B 2).fmod 17 - 1),.int ((B 3).fmod 17 - 1)] from rfl]
   have ac:=Y.trans (Q.new (S:= []) (o:= .list [.int ((B 0).fmod 17 - 1),.int ((B 1).fmod 17 - 1),.int ((B 2).fmod 17 - 1),.int ((B 3).fmod 17 - 1)]) P)
   have t:=(Q.new (S:= []) (o:= .list [.int ((B 0).fmod 17 - 1),.int ((B 1).fmod 17 - 1),.int ((B 2).fmod 17 - 1),.int ((B 3).fmod 17 - 1)]) P) _ _ (fun X=>nomatch X) W
   (refine bb ?_;dsimp)
   exact kT (d:= .int (B 4)) t (by decide) rfl (bb (m I _ _ _ _ (B 4) _ ac))
inductive NR (a:a0) (at':Nat) (O g Bz:a0) (μ4:J) (rs:List D) (ρ:Loc) (μ5:J):Prop
 | mk (k m:Nat) (o5 o6 o7 o8 o9 o10 o11 c3 dW dk dX dU dO eT gH gA:Option D) (hr:rs=(xW k m).map fun(i:Nat)=>D.int (i:Int)) (hk:k+m=4) (hρ:ρ=pV a at' O g Bz o5 o6 o7 o8 o9 o10 o11 c3 dW dk dX dU dO eT gH gA) (kk:Q [] μ4 μ5)
theorem Vw(p:cA w u)(v:7≤A)(H:hC u eX de∧de.length≤1000) {at':Nat} {g:a0}(R:q fC=ab (.list (b5.map fun(k:Nat)=>D.int (k:Int))))(a:ez q g z b5)(O:q j1=ab (.list (jR.map fun l=>D.tup (l.map .int)))) {all:List D} {Nx:Loc→J→Prop}
 (m: ∀Y e,Q [] q e→Nx Y e): ∀b Y U,NR eX at' fC g j1 q b Y U→eS (e6 5) (Br ⟨G,w,u,A⟩) ao all Nx x b Y U:=by
 refine jq _ (fun Y U X=>?_) (fun T b Y U cR X d=>?_)
 ·obtain⟨k,y,c,M,I,o,E,F,C,c3,dW,dk,dX,dU,dO,eT,gH,gA,t,B,Z,S⟩:=X
  exact m Y U S
 ·obtain⟨k,y,c,M,I,o,E,F,C,c3,dW,dk,dX,dU,dO,eT,gH,gA,t,B,rfl,S⟩:=X
  cases y with
  | zero=>contradiction
  | succ y=>
   cases t
   exact Vp p v H (lY (LY (qq y)) (iW B)) (cV S R) (a.keep S) (cV S O) fun c M I o E F C c3 dW dk dX dU dO eT gH gA e r=>
    d _ _ ⟨k+1,y,c,M,I,o,E,F,C,c3,dW,dk,dX,dU,dO,eT,gH,gA,rfl,(si ..).trans B,rfl,S.trans r⟩ trivial
end
theorem UB(T:Int): ∃r:List Nat,((f5 64).map fun(E:Nat)=>D.int ((37+89 * (E:Int)+T * ((E:Int) * E+1)).fmod 256))=r.map (fun(k:Nat)=>D.int (k:Int))∧r.length=64∧fO r:=by
 have X:=fun E:Nat=>gw (a:=37+89 * (E:Int)+T * ((E:Int) * E+1)) (b:=256) (by decide)
 refine⟨(f5 64).map fun(E:Nat)=>((37+89 * (E:Int)+T * ((E:Int) * E+1)).fmod 256).toNat,?_,wH _ _,fun k g=>?_⟩
 ·rw [qk]
  exact uP fun E F=>congrArg D.int (uM (X E).1).symm
 ·refine dg (ql.mp g) fun E F A=>?_;subst A
  exact(uL (X E).1).mpr (X E).2
theorem UA(X:fO b5): ∀k ∈ b5.map (fun(k:Nat)=>(k:Int)),0≤k∧k < 256:=fun k g=>by
 refine(ql.mp g).elim fun E h=>?_
 obtain⟨N,rfl⟩:=h
 exact⟨fy _,gp.mpr (X E N)⟩
theorem YK(r:List Nat):(r.map fun(k:Nat)=>(k:Int)).map r9=r:=by
 rw [qk]
 exact(uP fun F F=>ir _).trans (yg _)
theorem IF(X:b5.length=64):eB b5=b5:=by unfold eB;refine X▸?_;exact fI _
theorem Z7(X:b5.length=64):wr (iu 64 0) 0 b5=b5:=by
 unfold wr
 rw [X,Lq (by rw [oW];decide),fI];rfl
inductive Fu (u:cO):List D→J→KK→KK→Prop
 | mk (μ:J) (K E:KK) (a:a0) (ns:List Int) (at':Nat) (h1:hC u a ns∧ns.length≤1000) (h2: ∀μ',Q [] μ μ'→K (.bool true) μ'):Fu u [.val (.ref a),.int (at':Int)] μ K E
theorem Pq(p:cA w u):fq G w u 9 (.ref 780) (Fu u):=
 fq.of (p.af (by kernel_rfl)) fun I v=>(Zq G p (cp v rfl)).mono fun b B x O X=>by
  refine X.rec fun B x O R y T H f=>?_
  refine⟨rfl,?_⟩
  refine fR ((UB (lE y T))) fun r an V P=>?_
  dsimp
  refine rJ (k:=64) (by decide) (fun E=> .int ((37+89 * (E:Int)+lE y T * ((E:Int) * E+1)).fmod 256)) (fun E am ap d=>?_) fun q al=>?_
  ·have N:ib (E:Int):=jo (jd (by decide) (fy _)) (r8 (gp.mpr am) (by decide))
   dsimp
   exact⟨.inr N,(lD (G:=G) p).ok,GS p (cp v rfl) H T fun W ac=>⟨.inl N,.inl (jo (jd (by decide) W) ac),by decide,d⟩⟩
  ·refine an▸?_
   have s:Q [] B (B.set q (.list (r.map (fun(k:Nat)=>D.int (k:Int))))):=Q.new al
   have A:(B.set q (.list (r.map (fun(k:Nat)=>D.int (k:Int))))) q=ab (.list (r.map (fun(k:Nat)=>D.int (k:Int)))):=J.aa ..
   revert s A
   generalize (B.set q (.list (r.map (fun(k:Nat)=>D.int (k:Int)))))=C
   intro s A
   (refine bb ?_;dsimp)
   refine mg (Gb p) (cp v rfl) ⟨_,_,_,fun g z bd c i l a=>?_⟩
   have o:=cV l A
   (refine bb ?_;dsimp)
   refine a.bA p ?_
   dsimp
   refine⟨kj _,dA wg (cp v rfl) (vR o (ints_map (fun(k:Nat)=>(k:Int)) r) ⟨by rw [dP,V];decide,UA P⟩ ?_)⟩
   rw [YK]
   refine⟨_,(td p).sp _ (cp v rfl),⟨_,_,_,g,z,0,r,_,a,P,iW V,by rw [IF V,V];decide,fun t Z U=>?_⟩⟩
   rw [IF V,Z7 V] at U
   have M:Q [] C t:=l.drop Z i
   (refine bb ?_;dsimp)
   refine⟨b9 rfl,b9 rfl,b9 rfl,b9 rfl,b9 rfl,fun S h=>?_⟩
   have j:Q [] t (t.set S (.list (jR.map fun N=>D.tup (N.map .int)))):=Q.new h
   have L:=Vw (G:=G) (A:=I) (x:=x) (all:=jH (4:Int).toNat) (Nx:=ih (jZ (lO (fQ (.bool true))) k3) (fun F e=>x .none e) x (fun F=>O)) p (cp v rfl) H (at':=T) (cV (M.trans j) A) (U.keep j) (J.aa ..) (fun Y e m=>f e (((s.trans M).trans j).trans m)) _ _ _ ⟨0,4,ao,ao,ao,ao,ao,ao,ao,ao,ao,ao,ao,ao,ao,ao,ao,ao,rfl,rfl,rfl,Q.refl _⟩
   unfold pV at L
   (refine bb ?_;dsimp)
   exact⟨by decide,L⟩
end
end
section
section
theorem UU(M:List Nat):(eB M).take M.length=M:=by unfold eB;simp
theorem JN(X:4 * A≤b5.length)(V:C≤fu.length):slice (wr b5 A fu) A C=fu.take C:=by
 unfold slice wr
 have Z:(b5.take (4 * A)).length=4 * A:=by rw [yf];(exact uV (by assumption))
 rw [fH,Lp (by(exact iW (Eq.symm (by assumption)))),Lq (by(exact iW (by assumption))),kC,LU V]
theorem tZ(X:4 * C+dc≤4 * A)(h:4 * A≤b5.length):slice (wr b5 A fu) C dc=slice b5 C dc:=by
 unfold slice wr
 have Z:(b5.take (4 * A)).length=4 * A:=by rw [yf];(exact uV (by assumption))
 rw [fH,Lp (by rw [Z];exact cg (j6 ..) X),LU (by rw [C1,Z];exact K2 X),List.drop_take,List.take_take,uV (by(exact K2 X))]
theorem pE(X:4 * A≤b5.length)(J:0≤B)(W:B < 256 ^ C):gy (slice (wr b5 A (eB (ed B C))) A C)=B:=by
 have Z:=lB B C
 rw [JN X (by unfold eB;rw [dR];omega)]
 have:=UU (ed B C)
 rw [Z] at this
 rw [this,wN C B J W]
theorem R9 {o:PySem.Str}(X:b5.length=64)(J:0≤B)(W:B < 256 ^ 4):kS o (slice (wr b5 0 (i6 o B 4)) 0 4)=B:=by
 rw [JN (by(exact eA _)) (by rw [rm];exact d5 _)]
 have:(i6 o B 4).take 4=i6 o B 4:=C5 (by rw [rm];exact d5 _)
 rw [this]
 unfold kS i6
 by_cases P:o= "big"
 ·rw [if_pos P,if_pos P];exact wN 4 B J W
 ·rw [if_neg P,if_neg P,List.reverse_reverse];exact wN 4 B J W
def ji (r:List Nat):Prop:=r.length=64∧fO r
theorem ji.wr(X:ji b5)(V:fO fu)(h:4 * A+fu.length≤64):ji (wr b5 A fu):=⟨by rw [Kr (by rw [X.1];exact h)];exact X.1,Ks X.2 V⟩
def Place (c:jh):Prop:= ∃j:Nat,c.1=(j:Int)∧c.2.2≤16∧4 * j+(eB (ed c.2.1 c.2.2)).length≤64
noncomputable def hH:List Nat→List jh→List Nat
 | r,[]=>r
 | r,p::B=>hH (wr r p.1.toNat (eB (ed p.2.1 p.2.2))) B
section
variable {o:PySem.Str}
theorem I9(B:List jh)(r:List Nat)(G:ji r)(l: ∀c ∈ B,Place c)(X: ∀E,ji E→((emit B).2=true→E=hH r B)→Run o eU e7 n fE E y g7 T):Run o eU e7 n ((emit B).1++fE) r y g7 T:=by
 induction B generalizing r with
 | nil=>exact X r G fun F=>rfl
 | cons c B J=>
  obtain⟨j,Z,H⟩:=c
  unfold emit at X ⊢
  obtain⟨P,W,K,C⟩:=l (j,Z,H) er
  obtain rfl:j=(P:Int):=W
  by_cases Q:Z < 256 ^ H
  ·rw [if_pos Q] at X ⊢
   exact .go (.aS (mf Z H) (by rw [lB];exact cg K (b9 rfl)) C) (.inl rfl) (J _ (G.wr (rG (mf Z H)) C) (fun c D=>l c (fJ _ D)) fun E I a=>X E I fun A=>a A)
  ·rw [if_neg Q] at X ⊢
   exact X r G fun A=>absurd A fv
end
theorem tN(S:Int):(eB (ed S 2)).length=4:=by
 unfold eB;rw [dR,lB,oW];decide
theorem wZ {m:Nat}(S:Int)(X:m=4∨m=16):(eB (ed S m)).length=m:=by
 rw [IE (by rw [lB];rcases X with rfl | rfl<;>rfl),lB]
theorem Ve: ∀c ∈ eL 8 9 2 B bk,Place c:=by
 intro c l
 unfold eL at l
 rcases gr.mp l with rfl | l
 ·exact⟨8,rfl,(by decide:(2:Nat)≤16),by rw [tN];decide⟩
 ·split at l
  ·cases l
  ·rw [gW] at l;subst l
   exact⟨9,rfl,(by decide:(2:Nat)≤16),by rw [tN];decide⟩
theorem Oj(X:A=4∨A=16): ∀c ∈ eL 0 ((A / 4:Nat):Int) A B bk,Place c:=by
 intro c l
 unfold eL at l
 rcases gr.mp l with rfl | l
 ·refine⟨0,rfl,?_,?_⟩
  ·show A≤16;omega
  ·show 4 * 0+(eB (ed B A)).length≤64;rw [wZ _ X];omega
 ·split at l
  ·cases l
  ·rw [gW] at l;subst l
   refine⟨A / 4,rfl,?_,?_⟩
   ·show A≤16;lia
   ·show 4 * (A / 4)+(eB (ed bk A)).length≤64;rw [wZ _ X];lia
theorem G0 {o:Int}(X:(emit (eL B o A bk ew)).2=true):bk < 256 ^ A∧ew < 256 ^ A:=by
 unfold eL at X
 simp only [emit] at X
 by_cases W:bk < 256 ^ A
 ·rw [if_pos W] at X
  refine⟨W,?_⟩
  by_cases Z:ew=bk
  ·rw [Z];exact W
  ·rw [if_neg Z] at X
   simp only [emit] at X
   by_cases K:ew < 256 ^ A
   ·exact K
   ·rw [if_neg K] at X;contradiction
 ·rw [if_neg W] at X;contradiction
theorem IH {ks:List Nat} {r q m:Nat} {lo hi:Int}(G:ji ks)(A:4 * r+m≤4 * q)(S:4 * q+(eB (ed hi m)).length≤64)(t:4 * r+(eB (ed lo m)).length≤64)(J:0≤lo)(W:lo≤hi)(h:lo < 256 ^ m)(p:hi < 256 ^ m):
 ji (hH ks (eL r q m lo hi))∧gy (slice (hH ks (eL r q m lo hi)) r m)=lo∧gy (slice (hH ks (eL r q m lo hi)) (if hi=lo then r else q) m)=hi∧
 ∀x E,4 * x+E≤4 * r→slice (hH ks (eL r q m lo hi)) x E=slice ks x E:=by
 have j:=lB lo m
 have i:m≤(eB (ed lo m)).length:=by unfold eB;rw [dR];omega
 have D:m≤(eB (ed hi m)).length:=by unfold eB;rw [dR,lB];(exact j6 ..)
 have Y:=G.wr (rG (mf lo m)) t
 have l:=Y.wr (rG (mf hi m)) S
 unfold eL
 by_cases Z:hi=lo
 ·rw [if_pos Z,if_pos Z]
  simp only [hH,ir]
  refine⟨Y,pE (by rw [G.1];omega) J h,?_,fun x E X=>tZ X (by rw [G.1];omega)⟩
  rw [Z];exact pE (by rw [G.1];omega) J h
 ·rw [if_neg Z,if_neg Z]
  simp only [hH,ir]
  refine⟨l,?_,pE (by rw [Y.1];omega) (by(exact j2 (by assumption) (by assumption))) p,fun x E X=>?_⟩
  ·rw [tZ A (by rw [Y.1];omega)];exact pE (by rw [G.1];omega) J h
  ·rw [tZ (by lia) (by rw [Y.1];(exact Nat.le_of_add_right_le S))];exact tZ X (by rw [G.1];omega)
end
end
section
section
theorem xk {ks:List Nat} {r q m:Nat}(t:4 * r+m≤64)(S:4 * q+m≤64):fe ks (r:Int) (q:Int) m=ab (ab (gy (slice ks r m),gy (slice ks q m))):=by
 unfold fe
 rw [if_neg (by(exact uK r)),if_neg (by lia),if_neg (by(exact uK q)),if_neg (by lia),ir,ir]
theorem JU:fe b5 (-1) B A=ab ao:=by unfold fe;rw [if_pos (by decide)]
theorem Rt {f:List jh}(X:(emit (rZ++f)).2=true):(emit rZ).2=true∧(emit f).2=true:=by
 rw [rj] at X
 induction P:(emit rZ).2 with
 | true=>rw [P,if_pos rfl] at X;exact⟨rfl,X⟩
 | false=>rw [P,if_neg fv,P] at X;contradiction
theorem I2: ∀(R f:List jh) (r:List Nat),hH r (R++f)=hH (hH r R) f
 | [],_,_=>rfl
 | p::R,f,r=>I2 R f _
theorem AW(c:i.Ok)(V:i.aw=false)(G:ji b5)(X:(emit i.aj).2=true):ji (hH b5 i.aj)∧fe (hH b5 i.aj) i.aM i.aB 2=ab i.ai∧ ∀x E,4 * x+E≤32→slice (hH b5 i.aj) x E=slice b5 x E:=by
 delta cj.aj cj.aM cj.aB at *
 rw [V,if_neg fv] at *
 rw [if_neg fv,if_neg fv]
 induction P:i.ai with
 | none=>exact⟨G,JU,fun F F F=>rfl⟩
 | some Z=>
  obtain⟨R,f⟩:=Z
  rw [P] at X
  refine(c.ai R f P).elim fun d h=>?_
  refine h.elim fun I K=>?_
  refine(G0 X).elim fun A J=>?_
  obtain⟨z,U,C,a⟩:=IH (ks:=b5) (r:=8) (q:=9) (m:=2) (lo:=R) (hi:=f) G (by decide) (by rw [tN];decide) (by rw [tN];decide) d I A J
  refine⟨z,?_,fun x E X=>a x E X⟩
  dsimp only
  have H:=xk (ks:=hH b5 (eL 8 9 2 R f)) (r:=8) (q:=if f=R then 8 else 9) (m:=2) (by decide) (by split<;>decide)
  have U:gy (slice (hH b5 (eL 8 9 2 R f)) 8 2)=R:=U
  have C:gy (slice (hH b5 (eL 8 9 2 R f)) (if f=R then 8 else 9) 2)=f:=C
  rw [U,C] at H
  refine H▸?_
  congr 1
  split<;>rfl
def Eg (U:cj) (W:PySem.Str→List ck) (q m:Int) (r:List Nat):Prop:=U.ak=true→ ∃N,U.found W q m=ab N∧gy (slice r 0 U.size)=N.v∧
 ((U.aw=true∧ ∃P,N.p=ab P∧gy (slice r (U.size / 4) 2)=P)∨(U.aw=false∧N.p=ao))
section
variable {o:PySem.Str}
structure Known (eU:PySem.Str→List ck→Prop) (e7:PySem.Str→Int→Prop) (cJ:PySem.Str→List ck) (B bk:Int):Prop where
 named: ∀x ∈ eW,eU x (cJ x)
 bY:sV cJ
 mark:e7 "mark" B
 prio:e7 "priority" bk
 ma:0≤B∧B < 256 ^ 4
 mb:0≤bk∧bk < 256 ^ 4
theorem JK(X:i.ak=true):i.size=wide i.nf:=by
 unfold cj.ak at X;unfold cj.size
 cases P:i.adr<;>rw [P] at X<;>first | cases X | rfl
theorem Vb {ls:List ck}(X: ¬gh ls < ls.length): ∀N ∈ ls,N.p.isSome=true:=by
 have W:gh ls≤ls.length:=LG _ _
 unfold gh at X W
 have:(ls.filter fun N=>N.p.isSome).length=ls.length:=by lia
 rw [List.length_filter_eq_length_iff] at this
 exact this
theorem Vc(X: ¬0 < gh dm): ∀N ∈ dm,N.p=ao:=by
 intro N h
 unfold gh at X
 have:(dm.filter fun N=>N.p.isSome)= []:=Ls (by(exact Nat.eq_zero_of_not_pos X))
 have:=Lx.mp this N h
 induction P:N.p with
 | none=>rfl
 | some S=>rw [P] at this;exact absurd rfl this
theorem RP(c:i.Ok)(v:sV cJ)(N:i.mixed=false)(V:i.ak=true)(B:gm ∈ i.look cJ):0≤gm.v∧gm.v < 256 ^ i.size∧((i.aw=true∧ ∃P,gm.p=ab P∧0≤P∧P < 65536)∨(i.aw=false∧gm.p=ao)):=by
 refine(JK V)▸?_
 unfold cj.ak at V
 unfold cj.look at B
 unfold cj.mixed at N
 unfold cj.aw
 induction P:i.adr with
 | none=>rw [P] at V;contradiction
 | span a b=>rw [P] at V;contradiction
 | aR a b=>rw [P] at V;contradiction
 | lits L=>
  rw [P] at B N
  refine gz (c.lits L P) fun F F C=>?_
  refine gz (C gm B) fun M f U=>?_
  refine⟨M,f,?_⟩
  by_cases l:0 < gh L
  ·have:=of_decide_eq_false N
   have:=Vb (ls:=L) (by omega) gm B
   induction e:gm.p with
   | none=>rw [e] at this;contradiction
   | some S=>exact .inl ⟨decide_eq_true l,S,rfl,U S e⟩
  ·exact .inr ⟨decide_eq_false l,Vc l gm B⟩
 | named S=>
  rw [P] at B
  have D:S ∈ eW:=by
   have:=c.named S P
   simp only [eW,gr,nO,or_false]
   rcases this with ⟨h | h,_⟩ | ⟨h | h,_⟩<;>simp [h]
  refine ui ((v S D gm B)) fun M f U A=>?_
  have z:(if lG S=true then 4 else 16)=wide i.nf:=by
   have n:lG "m4" =true∧lG "p4" =true∧lG "m6" =false∧lG "p6" =false:=by decide+kernel
   rcases c.named S P with ⟨h | h,v⟩ | ⟨h | h,v⟩<;>rw [h,v]<;>simp [n,wide]
  refine⟨M,by refine z▸?_;exact f,?_⟩
  show(iD S=true∧_)∨(iD S=false∧_)
  induction e:gm.p with
  | none=>rw [e] at U;exact .inr ⟨U.symm,rfl⟩
  | some y=>rw [e] at U;exact .inl ⟨U.symm,y,rfl,A y e⟩
theorem VU(c:i.Ok)(N:i.mixed=false)(w:o= "big" ∨o= "little")(e:Known eU e7 cJ B bk) {t:Nat}(u: ∀L,i.adr= .lits L→eU (hc t) L) {rest:List cH} {ks:List Nat} {log log':List D} {v:D}(G:ji ks):
 ((i.ak && (i.found cJ B bk).isNone)=true→log'=log∧v=brk)→((i.ak && (i.found cJ B bk).isNone)=false→ ∀O,ji O→Eg i cJ B bk O→Run o eU e7 n rest O log log' v)→Run o eU e7 n (i.pre t++rest) ks log log' v:=by
 intro R s
 induction V:i.ak with
 | false=>
  rw [V] at R s
  have:i.pre t= []:=by
   unfold cj.ak at V;unfold cj.pre
   cases P:i.adr<;>rw [P] at V<;>first | rfl | contradiction
  refine this▸?_
  exact s rfl ks G fun h=>absurd (V.symm.trans h) fv
 | true=>
  rw [V,x2] at R s
  obtain⟨X,E,q,x,m,H,T⟩: ∃X E,i.pre t= [.field X,.map E i.lay]∧(X= "mark" ∨X= "priority")∧e7 X (i.mark B bk)∧(0≤i.mark B bk∧i.mark B bk < 256 ^ 4)∧eU E (i.look cJ):=by
   unfold cj.ak at V;delta cj.pre cj.mark cj.look
   induction P:i.adr with
   | none=>rw [P] at V;contradiction
   | span a b=>rw [P] at V;contradiction
   | aR a b=>rw [P] at V;contradiction
   | lits L=>exact⟨_,_,rfl,.inl rfl,e.mark,e.ma,u L P⟩
   | named S=>
    refine⟨_,_,rfl,.inr rfl,e.prio,e.mb,e.named S ?_⟩
    have:=c.named S P
    simp only [eW,gr,nO,or_false]
    rcases this with ⟨h | h,_⟩ | ⟨h | h,_⟩<;>simp [h]
  refine q▸?_
  have j:ji (wr ks 0 (i6 o (i.mark B bk) 4)):=G.wr (Hu _ _ _) (by rw [rm];decide)
  have g:kS o (slice (wr ks 0 (i6 o (i.mark B bk) 4)) 0 4)=i.mark B bk:=R9 G.1 H.1 H.2
  refine .go (.field x m H.1 H.2) (.inl rfl) ?_
  induction Q:i.found cJ B bk with
  | none=>
   rw [Q] at R
   obtain⟨rfl,rfl⟩:=R rfl
   refine .stop (.miss T (by rw [g];exact Q)) ⟨"break","",rfl,by decide⟩
  | some l=>
   rw [Q] at s
   have k:l ∈ i.look cJ:=List.mem_of_find?_eq_some Q
   refine gz (RP c e.bY N V k) fun M f U=>?_
   have z:=lS i.nf
   have A:=JK V
   have I:i.size=4∨i.size=16:=by rw [A];exact z
   have d:zq i.lay l.data:=by
    refine⟨i.size,l.v,by(exact xf i),M,f,?_⟩
    rcases U with ⟨W,P,K,C,r⟩ | ⟨W,K⟩
    ·refine .inr ⟨by unfold cj.lay;rw [W];rfl,P,by unfold ck.data;rw [K],C,r⟩
    ·refine .inl ⟨by unfold cj.lay;rw [W];rfl,[],by unfold ck.data;rw [K],by decide⟩
   refine .go (.hit T (by rw [g];exact Q) d) (.inl rfl) ?_
   generalize wr ks 0 (i6 o (i.mark B bk) 4)=Y at *
   have p:4 * 0+(eB (ed l.v i.size)).length≤64:=by rw [wZ _ I];exact(rP I).1
   have J:=j.wr (rG (mf l.v i.size)) p
   rcases U with ⟨W,P,K,C,r⟩ | ⟨W,K⟩
   ·have Z:pU Y 0 i.lay l.data=wr (wr Y 0 (eB (ed l.v i.size))) (i.size / 4) (eB (ed P 2)):=by
     delta cj.lay ck.data
     rw [W,K,if_pos rfl]
     simp only [pU]
     have:0+(i.size+3) / 4=i.size / 4:=(rP I).2.2.2.2.2
     rw [this]
    refine Z▸?_
    refine s rfl _ (J.wr (rG (mf P 2)) (by rw [tN];exact(rP I).2.1)) fun F=>⟨l,Q,?_,.inl ⟨W,P,K,?_⟩⟩
    ·rw [tZ (rP I).2.2.1 (by rw [J.1];exact(rP I).2.2.2.1)];exact pE (by(exact eA _)) M f
    ·exact pE (by rw [J.1];exact(rP I).2.2.2.1) C (by(assumption))
   ·have Z:pU Y 0 i.lay l.data=wr Y 0 (eB (ed l.v i.size)):=by
     unfold cj.lay ck.data
     rw [W,K]
     rfl
    rw [Z]
    exact s rfl _ J fun F=>⟨l,Q,pE (by(exact eA _)) M f,.inr ⟨W,K⟩⟩
end
end
end
section
section
section
variable {o:PySem.Str}
theorem IX: ∀c ∈ i.puts++i.aj,Place c:=by
 intro c l
 rcases j5.mp l with l | l
 ·by_cases T:i.adr= .none
  ·rw [(oF 0 T).2.2.1] at l;exact nomatch l
  ·refine qa (rC 0 T) fun F F F F y F F=>?_
   unfold cj.puts at l
   induction e:i.ends with
   | none=>rw [e] at l;cases l
   | some P=>rw [e] at l;exact Oj (by refine y▸?_;exact lS i.nf) c l
 ·by_cases P:i.aw=true∨i.ai=ao
  ·rw [(pQ P).1] at l;exact nomatch l
  ·induction S:i.ai with
   | none=>exact absurd (.inr S) P
   | some Z=>rw [(tF (fun X=>P (.inl X)) S).1] at l;exact Ve c l
theorem SS(c:i.Ok)(G:ji b5)(T:Eg i cJ B bk b5)(X:(emit (i.puts++i.aj)).2=true): ∃o b,fe (hH b5 (i.puts++i.aj)) i.low i.high i.size=ab o∧fe (hH b5 (i.puts++i.aj)) i.aM i.aB 2=ab b∧i.req cJ B bk=jX i.kind i.nf o b i.au:=by
 refine(Rt X).elim fun v u=>?_
 rw [I2]
 rcases vG c with am | V | ⟨_,_,s,ac,_,_,a,_,d,I,V,_,bd,_,ap,y⟩
 ·refine Cc (oF 0 am) fun F F l F F L F F=>?_
  have g:i.req cJ B bk=jX i.kind i.nf ao i.ai i.au∧i.aw=false:=by cases i;cases am;exact⟨rfl,rfl⟩
  refine(AW c g.2 G u).elim fun z h=>?_
  obtain⟨U,C⟩:=h
  rw [l,L,g.1]
  exact⟨_,_,JU,U,rfl⟩
 ·refine fR (T V) fun N Q W K=>?_
  refine(wG V).elim fun l h=>?_
  have L:=h.1;have an:=h.2.1;have A:=h.2.2.1
  have A:i.size=4∨i.size=16:=by rw [A];exact lS i.nf
  have n:4 * 0+i.size≤64∧4 * (i.size / 4)+2≤64∧4 * 0+i.size≤4 * 8:=by rcases A with e | e<;>rw [e]<;>decide
  have g:i.req cJ B bk=jX i.kind i.nf (ab (N.v,N.v)) (N.ai i.ai) i.au:=by unfold cj.req;rw [V];show wi i (i.found cJ B bk)=_;rw [Q];rfl
  rw [l,L,an,g]
  have o: ∀E,slice E 0 i.size=slice b5 0 i.size→fe E 0 0 i.size=ab (ab (N.v,N.v)):=fun E e=>by
   have:=xk (ks:=E) (r:=0) (q:=0) (m:=i.size) n.1 n.1
   rw [e,W] at this
   exact this
  rcases K with ⟨k,P,M,O⟩ | ⟨k,M⟩
  ·have x:i.aj= []:=(pQ (.inl k)).1
   have al:i.aM=((i.size / 4:Nat):Int):=by unfold cj.aM;rw [k];rfl
   have J:i.aB=((i.size / 4:Nat):Int):=by unfold cj.aB;rw [k];rfl
   rw [x,al,J]
   refine⟨_,_,o b5 rfl,?_,rfl⟩
   have:=xk (ks:=b5) (r:=i.size / 4) (q:=i.size / 4) (m:=2) n.2.1 n.2.1
   refine this.trans ?_
   unfold ck.ai
   rw [O,M]
  ·refine gz (AW c k G u) fun z U C=>?_
   refine⟨_,_,o _ (C 0 i.size n.2.2),U,?_⟩
   unfold ck.ai;rw [M]
 ·have A:i.size=4∨i.size=16:=by rw [y];exact lS i.nf
  refine(Ht a).elim fun p w=>?_
  have fP:=fun S=>wZ (m:=i.size) S A
  rw [w] at v ⊢
  refine(G0 v).elim fun al J=>?_
  have t:4 * 0+i.size≤4 * (i.size / 4)∧4 * (i.size / 4)+i.size≤64∧4 * 0+i.size≤64∧4 * (i.size / 4)+i.size≤4 * 8:=by rcases A with e | e<;>rw [e]<;>decide
  obtain⟨Y,bb,Z,j⟩:=IH (ks:=b5) (r:=0) (q:=i.size / 4) (m:=i.size) (lo:=s) (hi:=ac) G t.1 (by rw [fP];exact t.2.1) (by rw [fP];exact t.2.2.1) d I al J
  refine gz ((AW c bd Y u)) fun z U C=>?_
  refine⟨ab (s,ac),i.ai,?_,U,by rw [I5 V,a]⟩
  have D:4 * (if ac=s then 0 else i.size / 4)+i.size≤64∧4 * (if ac=s then 0 else i.size / 4)+i.size≤4 * 8:=by
   by_cases e:ac=s
   ·rw [if_pos e];lia
   ·rw [if_neg e];exact t.2.symm.elim fun R f=>⟨t.2.1,t.2.2.2⟩
  have H:=xk (ks:=hH (hH b5 (eL ((0:Nat):Int) ((i.size / 4:Nat):Int) i.size s ac)) i.aj) (r:=0) (q:=if ac=s then 0 else i.size / 4) (m:=i.size) t.2.2.1 D.1
  rw [C 0 i.size (cg t.1 (cg (j6 _ i.size) t.2.2.2)),C _ i.size D.2,bb,Z] at H
  rw [ap,p]
  refine Eq.trans ?_ H
  congr 1
  by_cases e:ac=s
  ·rw [if_pos e,if_pos e];rfl
  ·rw [if_neg e,if_neg e]
theorem YF(z:List cj)(W:List (List ck)): ∃P,(eC z W).2.2=W++P:=by
 induction z generalizing W with
 | nil=>exact⟨[],(fI W).symm⟩
 | cons s j o=>refine(o (W++s.sets)).elim fun y Z=>?_;exact⟨s.sets++y,Z.trans (fH ..)⟩
theorem R4(X:i2 T)(g:lF T=true):zl T:=by
 rcases X with rfl | ⟨R,U,rfl⟩
 ·exact .inl rfl
 ·refine .inr ⟨U,?_⟩
  have:R= "continue" :=beq_iff_eq.mp (show(R == "continue")=true from g)
  rw [this]
theorem Yr(X:i2 T)(g:lF T=false):zI T:=by
 rcases X with rfl | ⟨R,U,rfl⟩
 ·contradiction
 ·exact⟨R,U,rfl,beq_eq_false_iff_ne.mp (show(R == "continue")=false from g)⟩
theorem Vh(U:cj)(V:Nat)(N:U.mixed=false): ∃P,(U.rows V).1=U.pre V++P:=by
 induction K:(emit (U.puts++U.aj)).2 with
 | true=>exact⟨_,(congrArg uW (pZ N K).1).trans (fH ..)⟩
 | false=>exact⟨_,congrArg uW (pY N K).1⟩
theorem Vi(V:i.ak=true):(i.pre A).isEmpty=false:=by
 unfold cj.ak at V;unfold cj.pre
 induction P:i.adr with
 | lits=>rfl
 | named=>rfl
 | _=>rw [P] at V;contradiction
theorem Ou {R f:List c2}(X:R.isEmpty=false):(R++f).isEmpty=false:=by
 induction R with
 | nil=>contradiction
 | cons=>rfl
noncomputable def pJ (cJ:PySem.Str→List ck) (B bk:Int) (n:List D) (U:cj) (V:Nat) (t:List D→D×List D) (A:List D):D×List D:=
 if (U.rows V).1.isEmpty=true then t A else
 if (U.ak && (U.found cJ B bk).isNone)=true then (brk,A) else
 if ((U.rows V).2 == "")=true then
  if lF (n.getD A.length .none)=true then t (A++ [U.req cJ B bk]) else (n.getD A.length .none,A++ [U.req cJ B bk])
 else t A
section
theorem Ri(X:(i.rows A).1.isEmpty=true):pJ cJ B bk n i A mA y=mA y:=if_pos X
theorem Rh(X:(i.rows A).1.isEmpty=false)(H:(i.ak && (i.found cJ B bk).isNone)=true):pJ cJ B bk n i A mA y=(brk,y):=(if_neg (oU.mp X)).trans (if_pos H)
theorem Rj(H:(i.ak && (i.found cJ B bk).isNone)=false)(S:((i.rows A).2 == "")=false):pJ cJ B bk n i A mA y=mA y:=by
 unfold pJ
 rw [H,S]
 exact ite_self _
theorem Rk(X:(i.rows A).1.isEmpty=false)(H:(i.ak && (i.found cJ B bk).isNone)=false)(S:((i.rows A).2 == "")=true):pJ cJ B bk n i A mA y=if lF (n.getD y.length .none)=true then mA (y++ [i.req cJ B bk]) else (n.getD y.length .none,y++ [i.req cJ B bk]):=
 (if_neg (oU.mp X)).trans ((if_neg (oU.mp H)).trans (if_pos S))
theorem Rn(s:o= "big" ∨o= "little")(e:Known eU e7 cJ B bk)(u:n.length=8)(U: ∀M ∈ n,i2 M)(c:i.Ok)(z: ∀L,i.mixed=false→i.adr= .lits L→eU (hc A) L)(G:ji b5)(V:y.length≤6)
 (next: ∀E l,ji E→l.length≤y.length+1→Run o eU e7 n fE E l (mA l).2 (mA l).1):Run o eU e7 n ((i.rows A).1++fE) b5 y (pJ cJ B bk n i A mA y).2 (pJ cJ B bk n i A mA y).1:=by
 have q:=fun E g=>next E y g (j6 ..)
 induction N:i.mixed with
 | true=>
  have Z:(i.rows A).1= []:=congrArg uW (tP (t:=A) N).1
  rw [Ri (by rw [Z];rfl),Z]
  exact q b5 G
 | false=>
  have Y:=fun(l:List D) (M:D) (w:List cH) R f=>VU (n:=n) (t:=A) (ks:=b5) (log:=y) (log':=l) (v:=M) (rest:=w) c N s e (fun L=>z L N) G R f
  induction H:(i.ak && (i.found cJ B bk).isNone) with
  | true=>
   refine(Vh i A N).elim fun P k=>?_
   rw [Rh (by rw [k];exact Ou (Vi (xZ.mp H).1)) H,k,fH]
   exact Y _ _ _ (fun F=>⟨rfl,rfl⟩) fun X=>absurd (H.symm.trans X) (by decide)
  | false=>
   have S: ¬(i.ak && (i.found cJ B bk).isNone)=true:=fun X=>absurd (H.symm.trans X) (by decide)
   induction K:(emit (i.puts++i.aj)).2 with
   | true=>
    have I:(i.rows A).1=_:=congrArg uW (pZ (t:=A) N K).1
    have C:(i.rows A).2=_:=congrArg ys (pZ (t:=A) N K).1
    dsimp only at I C
    rw [Rk (by rw [I,fH];exact LD.mpr (fun X=>absurd (Lo.mp (Lo.mp X).2).2 (List.cons_ne_nil _ _))) H (by rw [C];rfl),I,fH,fH]
    refine Y _ _ _ (fun X=>absurd X S) fun F O j T=>?_
    refine I9 _ O j IX fun p J Z=>?_
    obtain rfl:=Z K
    refine j0 (SS c j T K) fun ac b x m h=>?_
    have Q:y.length < n.length:=by rw [u];exact kD V (by decide)
    have r:n[y.length]? =ab (n.getD y.length .none):=by rw [j3,gV Q];rfl
    have d:i2 (n.getD y.length .none):=by rw [j3,gV Q];exact U _ (ye Q)
    have W:=jj.nat (o:=o) (eU:=eU) (e7:=e7) (n:=n) (kind:=i.kind) (nf:=i.nf) (flags:=i.au) (y:=y) x m r (cg (xf i) (b9 rfl)) (cg V (by decide))
    refine h▸?_
    induction a:lF (n.getD y.length .none) with
    | true=>exact .go W (R4 d a) (next _ _ J (iW dR))
    | false=>exact .stop W (Yr d a)
   | false=>
    have I:(i.rows A).1=_:=congrArg uW (pY (t:=A) N K).1
    have C:(i.rows A).2=_:=congrArg ys (pY (t:=A) N K).1
    dsimp only at I C
    rw [Rj H (by rw [C];decide),I,fH]
    refine Y _ _ _ (fun X=>absurd X S) fun F O j T=>?_
    exact I9 _ O j IX fun p J F=>q p J
end
theorem VT(C:o= "big" ∨o= "little")(e:Known eU e7 cJ B bk)(I:n.length=8)(U: ∀v ∈ n,i2 v)(z:List cj)(W:List (List ck))(r:List Nat)(A:List D)(R: ∀s ∈ z,s.Ok)(h: ∀i L,(eC z W).2.2[i]? =ab L→eU (hc i) L)(G:ji r)(V:A.length+z.length≤7):
 Run o eU e7 n (eC z W).2.1 r A (fA cJ B bk n z W.length A).2 (fA cJ B bk n z W.length A).1:=by
 induction z generalizing W r A with
 | nil=>exact .nil
 | cons s j F=>
  refine Rn (mA:=fA cJ B bk n j (W.length+s.sets.length)) C e I U (R s er) (fun L N P=>h W.length L ?_) G (cg (j6 _ j.length) (C6 V)) fun E l g q=>?_
  ·refine(YF j (W++s.sets)).elim fun y Z=>?_
   have J:s.sets= [L]:=by unfold cj.sets;rw [N,if_neg fv,P];rfl
   show(eC j (W++s.sets)).2.2[W.length]? =_
   rw [Z,J,fH,List.getElem?_append_right (d5 _),Dg];rfl
  ·have d:=F (W++s.sets) E l (fun a X=>R a (fJ _ X)) h g (cg (uS q _) (cg (iW (Di A.length j.length)) V))
   rw [dR] at d
   exact d
end
end
end
section
set_option tactic.hygienic true
set_option simprocs false
section
noncomputable def BP:cB:=d (cZ (cC .NotEq (iT (b (.val (.ref 756))) (a (c 2) (a (c 7) (a (c 6) (a (c 4) (a (c 9) (j))))))) (c 8)) (d (cQ (b (.bool false))) (l)) (l)) (l)
noncomputable def BM:cB:=d (gk (e6 9) (gS (dj (a (b (.str "little")) (a (b (.str "big")) (j))))) (BP)) (d (cQ (iT (b (.val (.ref 780))) (a (c 0) (a (b (.int 40)) (j))))) l)
noncomputable def BN:cB:=d (v 6 (gb [("mark",e .Add (b (.int 5)) (e .Mod (e .Add (h (b (.val (.ref 650))) (a (c 0) (a (b (.int 36)) (j)))) (b (.int 1))) (b (.int 4)))),("priority",e .Add (b (.int 3)) (e .Mod (h (b (.val (.ref 650))) (a (c 0) (a (b (.int 37)) (j)))) (b (.int 3))))])) (d (v 7 (h (b (.val (.ref 690))) (a (c 0) (a (b (.int 38)) (j))))) (d (v 8 (h (b (.val (.ref 721))) (a (c 2) (a (c 7) (a (c 6) (a (c 4) (j))))))) (BM)))
noncomputable def xv:cB:=d (v 4 (dj (a (b .none) (a (p (a (b (.str "continue")) (a (b (.str "")) (j)))) (a (b .none) (a (p (a (b (.str "continue")) (a (b (.str "")) (j)))) (a (b .none) (a (p (a (b (.str "continue")) (a (b (.str "")) (j)))) (a (b .none) (a (b .none) (j))))))))))) (d (v 5 (h (b (.val (.ref 650))) (a (c 0) (a (b (.int 35)) (j))))) (d (hJ (f (dj (a (p (a (b (.str "accept")) (a (b (.str "")) (j)))) (a (p (a (b (.str "drop")) (a (b (.str "")) (j)))) (a (p (a (b (.str "break")) (a (b (.str "")) (j)))) (j))))) (e .Mod (e .FloorDiv (c 5) (b (.int 8))) (b (.int 3)))) (c 4) (e .Mod (e .Add (c 5) (b (.int 6))) (b (.int 8)))) (BN)))
noncomputable def BO:cB:=d (eZ (eM "append" (c 2) (a (h (b (.val (.ref 683))) (a (f (c 1) (c 3)) (a (c 0) (a (e .Mult (b (.int 5)) (c 3)) (j))))) (j)))) (l)
noncomputable def Kl:cB:=d (v 2 (dj (j))) (d (gk (e6 3) (g6 (b (.int 7))) (BO)) (xv))
theorem Wg(I:Nat)(N:List Nat):jl (I+2) (kn N):=fun B=> .tup (tX (f:=fun(I:Nat)=>D.tup [.int (I:Int),.str "big"]) (fun S F B=> .tup (.cons (.int _) (.cons (.str _) .nil))) B)
theorem Wj(I:Nat)(j:cH):jl (I+3) j.d:=fun B=>by
 induction j with
 | aS j os=>exact .tup (.cons (.str _) (.cons (.int _) (.cons (.bytes _) .nil)))
 | field key=>exact .tup (.cons (.str _) (.cons (.int _) (.cons (.str _) (.cons (.int _) (.cons (.str _) .nil)))))
 | map S lay=>exact .tup (.cons (.str _) (.cons (.int _) (.cons (.tup (.cons (.tup (.cons (.int _) (.cons (.str _) .nil))) .nil)) (.cons (.str _) (.cons (.int _) (.cons (Wg I lay B) .nil))))))
 | nat kind nf p0 z E U C A=>exact .tup (.cons (.str _) (.cons (.str _) (.cons (.int _) (.cons (.int _) (.cons (.int _) (.cons (.int _) (.cons (.int _) (.cons (.int _) (.cons (Jd (I+1) A B) .nil)))))))))
theorem Jc(I:Nat)(X:i2 T):jl (I+1) T:=fun B=>by
 rcases X with rfl | ⟨R,U,rfl⟩
 ·exact .none
 ·exact .tup (.cons (.str _) (.cons (.str _) .nil))
theorem Wk(I:Nat)(U:cj)(W:PySem.Str→List ck)(q m:Int):jl (I+2) (U.req W q m):=by
 unfold cj.req
 induction U.ak with
 | false=>exact Bd I _ _ _ _ _
 | true=>induction U.found W q m with
  | none=>exact fun B=> .none
  | some l=>exact Bd I _ _ _ _ _
theorem Om(U: ∀v ∈ n,i2 v)(J:Nat):i2 (n.getD J .none):=by
 rw [j3]
 induction P:n[J]? with
 | none=>exact .inl rfl
 | some S=>exact U S (uQ P)
theorem GX(I:Nat) {lits:PySem.Str→List ck} {ma mb:Int}(U: ∀v ∈ n,i2 v)(z:List cj): ∀(V:Nat) (A:List D),(∀T ∈ A,jl (I+2) T)→jl (I+1) (fA lits ma mb n z V A).1∧ ∀T ∈ (fA lits ma mb n z V A).2,jl (I+2) T:=by
 induction z with
 | nil=>intro V A X;exact⟨fun B=> .none,X⟩
 | cons s j o=>
  intro V A X
  have hd:=Om U A.length
  have K: ∀T ∈ A++ [s.req lits ma mb],jl (I+2) T:=fun T hd=>(j5.mp hd).elim (X T) fun P=>by rw [gW.mp P];exact Wk I s lits ma mb
  rw [GW]
  by_cases k:(s.rows V).1.isEmpty=true
  ·rw [if_pos k];exact o _ _ X
  ·rw [if_neg k]
   by_cases M:(s.ak && (s.found lits ma mb).isNone)=true
   ·rw [if_pos M];exact⟨Jc I (.inr ⟨_,_,rfl⟩),X⟩
   ·rw [if_neg M]
    by_cases O:((s.rows V).2 == "")=true
    ·rw [if_pos O]
     by_cases a:lF (n.getD A.length .none)=true
     ·rw [if_pos a];exact o _ _ K
     ·rw [if_neg a];exact⟨Jc I hd,K⟩
    ·rw [if_neg O];exact o _ _ X
theorem Wl(X: ∀d ∈ n,jl A d)(B:J):g8 B A n n:=by
 have:=tX (f:=id) (n:=A) X B
 rw [yg] at this;exact this
noncomputable def zP:List (List Int):= [[37,3325256725,20,12002,99],[144,42540766464122081094298350666160367223,56,0,0],[73,167772260,2,24241,443],[15,0,0,9385,0],[176,0,1,3074,64511],[20,2130706433,0,0,0],[57,2886795262,12,1330,0]]
noncomputable def cont:D:= .tup [.str "continue",.str ""]
noncomputable def nu:List D:= [.none,cont,.none,cont,.none,cont,.none,.none]
theorem YN: ∀M ∈ nu,i2 M:=fun M V=>by
 have W:i2 .none:= .inl rfl
 have K:i2 cont:= .inr ⟨_,_,rfl⟩
 have e:M= .none∨M=cont:=by
  unfold nu at V
  simp only [gr,nO,or_false] at V
  rcases V with e | e | e | e | e | e | e | e
  all_goals first | exact .inl e | exact .inr e
 rcases e with rfl | rfl
 ·exact W
 ·exact K
theorem Wo {k:Int} {l:List D}(X:q z=ab (.list l))(g:0≤k∧k < l.length∧l.length≤1000000)(S:x .none (q.set z (.aJ (l.set k.toNat T)))):m5 (.val (.ref z)) (.int k) T q x bx:=by
 show(match q z with | some o=>wy z o (.int k) T q x | none=>False)
 rw [X]
 exact⟨g,S⟩
theorem OE: ∀k < 7,∃V j Z q i,(zP.map fun N=>D.tup (N.map .int))[k]? =ab (.tup [.int V,.int j,.int Z,.int q,.int i])
 | 0,_=>⟨_,_,_,_,_,rfl⟩
 | 1,_=>⟨_,_,_,_,_,rfl⟩
 | 2,_=>⟨_,_,_,_,_,rfl⟩
 | 3,_=>⟨_,_,_,_,_,rfl⟩
 | 4,_=>⟨_,_,_,_,_,rfl⟩
 | 5,_=>⟨_,_,_,_,_,rfl⟩
 | 6,_=>⟨_,_,_,_,_,rfl⟩
 | k+7,h=>absurd h (jw.mpr (yo 7 k))
theorem tG {P:J→Prop} {o:dE}(U:q z=ao)(X: ∀e,Q [] q e→e z=ab o→P e):P (q.set z o):=X _ (Q.new U) (J.aa ..)
theorem YO(J:Int): ∃S:PySem.Str,([D.tup [D.str "accept",D.str ""],D.tup [D.str "drop",D.str ""],D.tup [D.str "break",D.str ""]])[(J.fmod 3).toNat]? =ab (.tup [.str S,.str ""])∧0≤J.fmod 3∧J.fmod 3 < 1000000:=by
 have X:=gw (a:=J) (b:=3) (by decide)
 have C:J.fmod 3=0∨J.fmod 3=1∨J.fmod 3=2:=U3 X
 rcases C with e | e | e<;>rw [e]
 ·exact⟨"accept",rfl,by decide,by decide⟩
 ·exact⟨"drop",rfl,by decide,by decide⟩
 ·exact⟨"break",rfl,by decide,by decide⟩
noncomputable def jY (R W r:a0) (t h c M y o E:Option D):Loc:= [ab (.val (.ref R)),ab (.val (.ref W)),ab (.val (.ref r)),t,h,c,M,y,o,E]
inductive sS (A Nm Mk dS:a0) (ss:List cj) (lits:PySem.Str→List ck) (ma mb:Int) (rp:List D) (W L Lg:a0) (μ:J):Prop
 | mk (hA:μ A=ab (.list (ss.map cj.d))) (hN:kb μ Nm lits) (hM:lr μ Mk ma mb) (hrp:fL (μ dS)=ab rp) (w1:μ W=ab (.list ((eC ss []).1.map .str))) (w2:μ L=ab (.list ((eC ss []).2.1.map cH.d))) (w3:μ Lg=ab (.list (fA lits ma mb rp ss 0 []).2))
theorem sS.keep(X:sS z E O cn dt cJ B bk n cS c9 dz q)(k:Q [] q M):sS z E O cn dt cJ B bk n cS c9 dz M:=by
 obtain⟨W,K,C,A,e,f,V⟩:=X
 exact⟨cV k W,K.keep k,C.keep k,m7 A k nofun,cV k e,cV k f,cV k V⟩
inductive qZ (ss:List cj) (lits:PySem.Str→List ck) (ma mb:Int) (rp:List D):Prop
 | mk (hok: ∀s ∈ ss,s.Ok) (hss:ss.length=7) (hNok:sV lits) (hma:0≤ma∧ma < 256 ^ 4) (hmb:0≤mb∧mb < 256 ^ 4) (hrl:rp.length=8) (hans: ∀v ∈ rp,i2 v)
theorem qZ.run(X:qZ dt cJ B bk n)(i:t= "big" ∨t= "little"):Run t (tC (eC dt []).2.2 cJ) (tE B bk) n (eC dt []).2.1 (iu 64 0) [] (fA cJ B bk n dt 0 []).2 (fA cJ B bk n dt 0 []).1:=by
 obtain⟨R,P,A,T,d,h,U⟩:=X
 have e:Known (tC (eC dt []).2.2 cJ) (tE B bk) cJ B bk:=⟨fun s D=> .inr ⟨D,rfl⟩,A,.inl ⟨rfl,rfl⟩,.inr ⟨rfl,rfl⟩,T,d⟩
 exact VT i e h U dt [] (iu 64 0) [] R (fun J L K=> .inl ⟨J,rfl,K⟩) ⟨oW,fun k g=>by rw [CX g];decide⟩ (by rw [List.length_nil,P];decide)
theorem qZ.same(X:qZ dt cJ B bk n) {W' L' Lg':a0}(K:q z=ab (.list ((eC dt []).1.map .str)))(L:q E=ab (.list ((eC dt []).2.1.map cH.d)))(V:q O=ab (.list (fA cJ B bk n dt 0 []).2))
 (M:q W'=ab (.list ((eC dt []).1.map .str)))(f:q L'=ab (.list ((eC dt []).2.1.map cH.d)))(A:q Lg'=ab (.list (fA cJ B bk n dt 0 []).2)):
 g8 q 20 [.val (.ref W'),.val (.ref L'),(fA cJ B bk n dt 0 []).1,.val (.ref Lg')] [.val (.ref z),.val (.ref E),(fA cJ B bk n dt 0 []).1,.val (.ref O)]:=by
 obtain⟨_,_,_,_,_,_,U⟩:=X
 have l:=(GX 19 (lits:=cJ) (ma:=B) (mb:=bk) U dt 0 [] (fun T hd=>absurd hd nO)).1 q
 have m:=Wl (GX 17 (lits:=cJ) (ma:=B) (mb:=bk) U dt 0 [] (fun T hd=>absurd hd nO)).2 q
 exact .cons (.list M K (tX (fun s F=>Je _ s) q)) (.cons (.list f L (tX (fun j F=>Wj 16 j) q)) (.cons l (.cons (.list A V m) .nil)))
inductive NW (a z5 A:a0) (o3 o4 o5 o6 o7 o8:Option D) (μ:J) (rs:List D) (ρ:Loc) (μ1:J):Prop
 | mk (rest:List PySem.Str) (o9:Option D) (hr:rs=rest.map .str) (hor: ∀x ∈ rest,x= "big" ∨x= "little") (hρ:ρ=jY a z5 A o3 o4 o5 o6 o7 o8 o9) (k:Q [] μ μ1)
section
theorem SY(p:cA w u)(v:12≤A)(N:sS O cn cS c9 dt cJ B bk n dz eX fC q)(b:qZ dt cJ B bk n)(ac:q j1=ab (.list [D.str "little",D.str "big"]))
 (m: ∀eT e,Q [] q e→cR (jY z E O c3 (ab (.val (.ref c9))) dk (ab (.val (.ref cS))) (ab (.val (.ref cn))) (ab (.tup [.val (.ref dz),.val (.ref eX),(fA cJ B bk n dt 0 []).1,.val (.ref fC)])) eT) e):
 ∀l Y C,NW z E O c3 (ab (.val (.ref c9))) dk (ab (.val (.ref cS))) (ab (.val (.ref cn))) (ab (.tup [.val (.ref dz),.val (.ref eX),(fA cJ B bk n dt 0 []).1,.val (.ref fC)])) q l Y C→eS (e6 9) (BP ⟨G,w,u,A⟩) (ab j1) [D.str "little",D.str "big"] cR x l Y C:=by
 refine jq _ (fun Y C X=>?_) (fun T l Y C am X d=>?_)
 ·obtain⟨H,eT,t,h,rfl,k⟩:=X
  exact m eT C k
 ·obtain⟨H,eT,t,h,rfl,k⟩:=X
  cases H with
  | nil=>contradiction
  | cons S H=>
   cases t
   have i:=h S er
   obtain⟨c,g,y,I,K,L,V⟩:=N.keep k
   have o:=b.run i
   have j:=fun(e:J) a F Z (r:Q [] C e) M f U=>b.same (W':=a) (L':=F) (Lg':=Z) (cV r K) (cV r L) (cV r V) M f U
   obtain⟨R,P,_,_,_,_,_⟩:=b
   have W:=fun(e:J) (r:Q [] C e)=>d _ _ ⟨H,ab (.str S),rfl,fun s al=>h s (fJ _ al),rfl,k.trans r⟩ ((lQ ac).keep (k.trans r) (by simp))
   unfold BP
   unfold jY at W ⊢
   dsimp
   exact mg (Pd p) v ⟨_,_,_,O,cn,cS,c9,S,dt,cJ,B,bk,n,_,_,c,R,iW P,i,g,y,I,o,fun a F Z e r M f U=>Ir (j e a F Z r M f U) (cW rfl (W e r))⟩
theorem SW(p:cA w u)(v:12≤A)(H:hC u z de∧de.length≤1000)(N:sS O cn cS c9 dt cJ B bk n dz eX fC q)(b:qZ dt cJ B bk n)(f: ∀e,Q [] q e→x (.bool true) e):
 BM ⟨G,w,u,A⟩ (jY z E O c3 (ab (.val (.ref c9))) dk (ab (.val (.ref cS))) (ab (.val (.ref cn))) (ab (.tup [.val (.ref dz),.val (.ref eX),(fA cJ B bk n dt 0 []).1,.val (.ref fC)])) eT) q (fun F e=>x .none e) x (fun F=>bx):=by
 unfold BM jY
 dsimp
 refine⟨b9 rfl,fun j1 C=>?_⟩
 have Y:Q [] q (q.set j1 (.list [D.str "little",D.str "big"])):=Q.new C
 rw [J.aa]
 refine SY p v (N.keep Y) b (J.aa ..) (fun eT e k=>?_) _ _ _ ⟨["little","big"],eT,rfl,fun S i=>?_,rfl,Q.refl _⟩
 ·unfold jY
  (refine bb ?_;dsimp)
  exact mg (Pq p) (cp v rfl) ⟨_,_,_,z,de,40,H,fun K I=>f K ((Y.trans k).trans I)⟩
 ·cases i with
  | head=>exact .inr rfl
  | tail _ i=>rw [gW.mp i];exact .inl rfl
theorem SV(p:cA w u)(i:12≤A)(H:hC u z de∧de.length≤1000)(c:q O=ab (.list (dt.map cj.d)))(R: ∀s ∈ dt,s.Ok)(P:dt.length=7)(I:fL (q c9)=ab n)(h:n.length=8)(U: ∀v ∈ n,i2 v)(f: ∀e,Q [] q e→x (.bool true) e):
 BN ⟨G,w,u,A⟩ (jY z E O c3 (ab (.val (.ref c9))) dk dX dU dO eT) q (fun F e=>x .none e) x (fun F=>bx):=by
 have m:=fun(cn cS dz eX fC:a0) (cJ:PySem.Str→List ck) (B bk:Int) (e:J) (r:Q [] q e) N ac=>SW (G:=G) (z:=z) (E:=E) (O:=O) (cn:=cn) (cS:=cS) (c9:=c9) (dz:=dz) (eX:=eX) (fC:=fC) (dt:=dt) (cJ:=cJ) (B:=B) (bk:=bk) (n:=n) (c3:=c3) (dk:=dk) (eT:=eT) (bx:=bx) (q:=e) p i H N ac fun k l=>f k (r.trans l)
 have M:=(lD (G:=G) p).ok
 unfold BN
 unfold jY at m ⊢
 dsimp
 refine⟨M,mY p (cp i rfl) H 36 fun j F F=>?_⟩
 dsimp
 refine⟨by decide,M,mY p (cp i rfl) H 37 fun K F F=>?_⟩
 dsimp
 refine⟨by decide,fun cS g=>?_⟩
 have Y:=Q.new (S:= []) (o:= .dict [("mark",.int (5+(j+1).fmod 4)),("priority",.int (3+K.fmod 3))]) g
 have y:lr (q.set cS (.dict [("mark",.int (5+(j+1).fmod 4)),("priority",.int (3+K.fmod 3))])) cS (5+(j+1).fmod 4) (3+K.fmod 3):=⟨_,J.aa ..,rfl,rfl⟩
 have T:0≤5+(j+1).fmod 4∧5+(j+1).fmod 4 < 256 ^ 4:=Tz (gw (a:=j+1) (b:=4) (by decide))
 have d:0≤3+K.fmod 3∧3+K.fmod 3 < 256 ^ 4:=TN (gw (a:=K) (b:=3) (by decide))
 show ih _ _ _ _ _ (q.set cS (.dict [("mark",.int (5+(j+1).fmod 4)),("priority",.int (3+K.fmod 3))]))
 revert Y y T d
 generalize q.set cS (.dict [("mark",.int (5+(j+1).fmod 4)),("priority",.int (3+K.fmod 3))])=C
 generalize 5+(j+1).fmod 4=B
 generalize 3+K.fmod 3=bk
 intro Y y T d
 (refine bb ?_;dsimp)
 refine et (Pa p) (cp i rfl) ⟨_,_,_,z,de,38,H,fun cn cJ k l D al=>?_⟩
 have X:=Y.trans l
 (refine bb ?_;dsimp)
 exact et (O7 p) (cp i rfl) ⟨_,_,_,O,cn,cS,c9,dt,cJ,B,bk,n,cV X c,R,iW P,D,y.keep l,m7 I X nofun,h,U,fun dz eX fC t Z am an ap=>
  bb (m cn cS dz eX fC cJ B bk t (X.trans Z) ⟨cV (X.trans Z) c,D.keep Z,(y.keep l).keep Z,m7 I (X.trans Z) nofun,am,an,ap⟩ ⟨R,P,al,T,d,h,U⟩)⟩
theorem S2(p:cA w u)(v:12≤A)(H:hC u z de∧de.length≤1000)(c:q O=ab (.list (dt.map cj.d)))(R: ∀s ∈ dt,s.Ok)(P:dt.length=7)(N:Q [] M q)(f: ∀e,Q [] M e→x (.bool true) e):
 xv ⟨G,w,u,A⟩ (jY z E O c3 dW dk dX dU dO eT) q (fun F e=>x .none e) x (fun F=>bx):=by
 have m:=fun(c9:a0) (n:List D) (dk:Option D) (e:J) (r:Q [] M e) c I h g=>SV (G:=G) (z:=z) (E:=E) (O:=O) (c9:=c9) (dt:=dt) (n:=n) (c3:=c3) (dk:=dk) (dX:=dX) (dU:=dU) (dO:=dO) (eT:=eT) (bx:=bx) (q:=e) p v H c R P I h g fun L W=>f L (r.trans W)
 unfold xv
 unfold jY at m ⊢
 dsimp
 refine⟨b9 rfl,b9 rfl,b9 rfl,b9 rfl,fun c9 K=>?_⟩
 have Y:Q [] q (q.set c9 (.list nu)):=Q.new K
 have B:(q.set c9 (.list nu)) c9=ab (.list nu):=J.aa ..
 have T:=J.ne c K
 show ih _ _ _ _ _ (q.set c9 (.list nu))
 revert Y B
 generalize q.set c9 (.list nu)=C
 intro Y B
 (refine bb ?_;dsimp)
 refine⟨(lD (G:=G) p).ok,mY p (cp v rfl) H 35 fun st F F=>?_⟩
 (refine bb ?_;dsimp)
 refine fR (YO (st.fdiv 8)) fun al Z k j=>?_
 obtain⟨t,y⟩:=gw (a:=st+6) (b:=8) (by decide)
 refine⟨b9 rfl,b9 rfl,b9 rfl,b9 rfl,fun d U=>⟨tB (by decide),by decide,jW k j Z ⟨by decide,?_⟩⟩⟩
 have W:=Y.trans (Q.new (S:= []) (o:= .list [D.tup [D.str "accept",D.str ""],D.tup [D.str "drop",D.str ""],D.tup [D.str "break",D.str ""]]) U)
 refine Wo (l:=nu) ((J.ag _ _ (J.ne B U)).trans B) ⟨t,y,by decide⟩ (bb (m c9 (nu.set ((st+6).fmod 8).toNat (.tup [.str al,.str ""])) _ _ ((N.trans W).set (N.none K (by simp))) ?_ (by rw [J.aa];rfl) (by rw [List.length_set];rfl) fun ac i=>?_))
 ·exact(J.ag _ _ T).trans (cV W c)
 ·rcases List.mem_or_eq_of_mem_set i with X | rfl
  ·exact YN ac X
  ·exact .inr ⟨_,_,rfl⟩
inductive Ob (z E O:a0) (M μ6:J) (rs:List D) (ρ:Loc) (μ7:J):Prop
 | mk (k m:Nat) (dt:List cj) (c3:Option D) (hr:rs=(xW k m).map fun(i:Nat)=>D.int (i:Int)) (hk:k+m=7) (hρ:ρ=jY z E O c3 ao ao ao ao ao ao) (hl:dt.length=k) (hok: ∀s ∈ dt,s.Ok) (k6:Q [O] μ6 μ7) (k0:Q [] M μ7) (hA:μ7 O=ab (.list (dt.map cj.d)))
theorem S1(p:cA w u)(v:12≤A)(H:hC u z de∧de.length≤1000)(W:eo E=ab (.list (zP.map fun l=>D.tup (l.map .int))))(L:E≠O)(I:M O=ao) {all:List D} {Nx:Loc→J→Prop}
 (m: ∀(dt:List cj) (c3:Option D) e,dt.length=7→(∀U ∈ dt,U.Ok)→Q [] M e→e O=ab (.list (dt.map cj.d))→Nx (jY z E O c3 ao ao ao ao ao ao) e):
 ∀b Y s,Ob z E O M eo b Y s→eS (e6 3) (BO ⟨G,w,u,A⟩) ao all Nx x b Y s:=by
 refine jq _ (fun Y s X=>?_) (fun T b Y s n X f=>?_)
 ·obtain⟨k,y,dt,c3,t,g,rfl,h,R,S,N,c⟩:=X
  induction y with
  | succ y=>contradiction
  | zero=>exact m dt c3 s (h.trans g) R N c
 ·obtain⟨k,y,dt,c3,t,g,rfl,h,R,S,N,c⟩:=X
  cases y with
  | zero=>contradiction
  | succ y=>
   cases t
   have C:k < 7:=lY (LY (qq y)) (iW g)
   refine aar (OE k C) fun V j Z q i K=>?_
   unfold BO jY
   dsimp
   refine jG c ?_
   dsimp
   refine⟨(Gp (G:=G) p).ok,kT (d:= .tup [.int V,.int j,.int Z,.int q,.int i]) (S _ _ (eb L) W) (xh C rfl) (by rw [ir];exact K) ⟨.inl (jo (by decide) (by decide)),?_⟩⟩
   rw [show(5:Int) * (k:Int)=((5 * k:Nat):Int) from rfl]
   refine dA (Gp p) (cp v rfl) ⟨_,_,_,V,j,Z,q,i,z,de,5 * k,H,fun U o r B=>jD (cV r c) (by rw [dP,h];exact cg (nQ C) (by decide)) ?_⟩
   refine f _ _ ⟨k+1,y,dt++ [U],_,rfl,(si ..).trans g,rfl,by rw [dR,h];rfl,fun a F=>?_,S.trans (jF r),(N.trans r).set I,by rw [J.aa,fh];rfl⟩ trivial
   rcases j5.mp F with P | P
   ·exact R a P
   ·rw [gW.mp P];exact B
theorem S0(p:cA w u)(v:12≤A)(H:hC u z de∧de.length≤1000)(B:q E=ab (.list (zP.map fun l=>D.tup (l.map .int))))(N:Q [] M q)(f: ∀e,Q [] M e→x (.bool true) e):
 Kl ⟨G,w,u,A⟩ [ab (.val (.ref z)),ab (.val (.ref E)),ao,ao,ao,ao,ao,ao,ao,ao] q (fun F e=>x .none e) x (fun F=>bx):=by
 unfold Kl
 dsimp
 refine⟨eA _,fun O c=>?_⟩
 have Y:Q [] q (q.set O (.list [])):=Q.new c
 have L:=S1 (G:=G) (A:=A) (z:=z) (E:=E) (O:=O) (M:=M) (x:=x) (all:=jH (7:Int).toNat) (Nx:=ih (xv ⟨G,w,u,A⟩) (fun F e=>x .none e) x (fun F=>bx)) p v H (cV Y B) (J.ne B c) (N.none c (by simp)) (fun dt c3 e W I C P=>bb (S2 p v H P I W C f)) _ _ _ ⟨0,7,[],ao,rfl,rfl,rfl,rfl,fun U y=>absurd y nO,Q.refl _,N.trans Y,J.aa ..⟩
 unfold jY at L
 (refine bb ?_;dsimp)
 exact⟨by decide,L⟩
end
inductive ER (u:cO):List D→J→KK→KK→Prop
 | mk (μ:J) (K E:KK) (a:a0) (ns:List Int) (h1:hC u a ns∧ns.length≤1000) (h2: ∀μ',Q [] μ μ'→K (.bool true) μ'):ER u [.val (.ref a)] μ K E
theorem O5(p:cA w u):fq G w u 14 (.ref 787) (ER u):=
 fq.of (p.af (by kernel_rfl)) fun I v=>(Ze G p (cp v rfl)).mono fun b B x O X=>by
  refine X.rec fun B x O R K H f=>?_
  refine⟨rfl,?_⟩
  have L:=fun W e N T=>S0 (G:=G) (A:=I) (z:=R) (E:=W) (q:=e) (M:=B) (bx:=O) p (cp v rfl) H T N f
  dsimp
  refine⟨b9 rfl,b9 rfl,b9 rfl,fun V c=>tG (P:=fun y=>ih _ _ _ _ _ y) c fun C Y F=>?_⟩
  (refine bb ?_;dsimp)
  refine⟨b9 rfl,b9 rfl,b9 rfl,b9 rfl,fun d g=>tG (P:=fun y=>ig _ _ _ y _ _) g fun q l J=>s8 (cV l F) J (by decide) fun k i=>tG (P:=fun y=>ih _ _ _ _ _ y) i fun t Z M=>?_⟩
  (refine bb ?_;dsimp)
  refine⟨b9 rfl,b9 rfl,b9 rfl,fun o D=>tG (P:=fun y=>ig _ _ _ y _ _) D fun h j S=>s8 (cV j M) S (by decide) fun W A=>tG (P:=fun y=>ih _ _ _ _ _ y) A fun U m Q=>?_⟩
  exact bb (L W U ((((Y.trans l).trans Z).trans j).trans m) Q)
end
end
end Mine
end
section
open PySem PySem.W PyProof.Rows
namespace Mine
variable {u:cO}{cf:ey}{z:a0}{fF:Option b7}{t:PySem.Str}{oQ:PySem.Str→Option b7}
section
set_option tactic.hygienic true
noncomputable def lawD:DefRec:=((defOf viewQ "law").getD (⟨("" :PySem.Str),default,[],default,default⟩,[])).1
theorem lawD_of:defOf viewQ "law" =ab (lawD,[]):=by kernel_rfl
theorem SX:lawD.name= "law" :=by kernel_rfl
noncomputable def AN (x:ey) (R:a0) (S:PySem.Str):Option (Option b7):=match x.lookup R with
 | some o=>match o.data with
  | .dict T _=>ab (nsFind T S)
  | _=>ao
 | none=>ao
theorem Ux(x:cf.In u)(i:u.Ns z oQ)(Z:AN cf z t=ab fF):oQ t=fF:=by
 obtain⟨o,T,Y,D,hd,_,Q⟩:=i
 unfold AN at Z
 induction hl:cf.lookup z with
 | none=>rw [hl] at Z;exact lK Z
 | some p=>
  rw [hl] at Z
  obtain rfl:=c4 ((x _ _ hl).symm.trans D)
  dsimp only at Z
  rw [hd] at Z
  obtain rfl:=c4 Z
  exact(Q t).symm
theorem SU(L:pa):AN (hd.ah L) hB ("law" :PySem.Str)=ab (ab (.ref 787)):=by kernel_rfl
theorem PH:jy 14 qI []:=⟨⟨fun F=>⟨rfl,by decide+kernel,by decide+kernel⟩,⟨[],rfl,rfl,fun Z a=>nomatch a⟩⟩,rfl⟩
theorem walk(u:di)(D E:cx)(J m:PySem.Str→Option b7)(N:sv viewQ looseN PySem.Challenge.rw_pf0350_01.row.records (fun F X=> ∃o,X.get? pn=ab o) u D J m E.heap)(s:(pf hd.ah keysA keysA_eq).says u E.heap)(R:a0)(H:J lawD.name=ab (.ref R))(Y:E.gens= #[])
 (v:List va)(A:List b7)(B:List a0)(q:PySem.Challenge.rw_pf0350_01.row.toRowW.claim.pre v=true)(b:yG v=true)(w:DC PySem.Challenge.rw_pf0350_01.row.toRowW.records (kI D.heap) E.heap A v B)(I:DE u.params E.heap A v)(L: ∀R ∈ B,(R == pn)=false):
  dr (bD PySem.Challenge.rw_pf0350_01.row.toRowW.prog u) qI (fW (.ref R) A) (fun M a=>qD PySem.Challenge.rw_pf0350_01.row.toRowW.claim (kI D.heap) (qw D.heap) v E (.ok (.ret M)) a)
   (fun Z a=>qD PySem.Challenge.rw_pf0350_01.row.toRowW.claim (kI D.heap) (qw D.heap) v E (.error Z) a) E:=by
 have x:=kIn_of s
 have y:=N.T
 have p:cA u E.heap:=⟨⟨y.nolimit,N.X⟩,x,⟨m,y.b,y.builtins⟩⟩
 obtain rfl:R=787:=by
  rw [SX] at H
  have:=Ux x y.g (SU u.params)
  rw [H] at this
  exact abm (c4 this)
 wrow_args q b w I L
 rename_i K _ _ _ _ _ _ _ G Q _ c _ _ _ C _ V _
 have O:K.length≤1000:=by omega
 refine iG ((O5 (G:=PySem.Challenge.rw_pf0350_01.row.prog) p).sp 14 (d5 _) qI [] E (fun F=>ao) (fun T F=>T= .bool true) (fun F F=>False) [.ref G] [.val (.ref G)] PH ⟨fun F F Z=>Z,fun F F Z=>(nomatch Z),fun F F Z=>(nomatch Z),fun g c=>(nomatch c)⟩ (.cons (.val _) .nil) ⟨_,_,_,G,K,⟨⟨Q,c,C⟩,O⟩,fun F F=>rfl⟩) ?_ ?_
 ·rintro M a ⟨T,e,rfl,t,P,U⟩
  cases t
  exact⟨.inl ⟨_,.bool true,[],rfl,fun F=>rfl,.bool true,postW_of (r:=PySem.Challenge.rw_pf0350_01.row.toRowW) rfl (w_eq_bool (k:=true) (l:=true) (w_res rfl) w_lit) rfl,fun F=>⟨.nil,fun R W=>(nomatch W)⟩⟩,P.st.top,U.os,U.gens.trans Y⟩
 ·rintro S a ⟨Z,i,h,e,_,X,_⟩
  exact X.elim
theorem Tf:(sreFenced fP.main && ((M6 fP.main.body).isEmpty || lookedIntoSs (M6 fP.main.body) fP.main.body))=true:=by kernel_rfl
theorem Tg:namesResolve fP=true:=by
 rw [PySem.W.Fast.te8377067652309620493]
 kernel_rfl
theorem Th:(fP.boundNames.all fun I=> !worldNames.contains I)=true:=by kernel_rfl
theorem Ti:noRoadLSs {strict:= !(n6 fP.main.body).all cThrough.contains,foot:=ao,bare:=(["vars","dir","locals"]:List Str).filter (readsOut fP fP.main.body)} fP.main.body=true:=by
 rw [PySem.W.Fast.te8326940854005059898]
 kernel_rfl
theorem Tj:(namesMeet fP fP.main.body fun F I=>attrL I)=true:=by
 rw [PySem.W.Fast.te17119622794617984870]
 kernel_rfl
theorem Te:looksOpen PySem.Challenge.rw_pf0350_01.row.prog=true:=yM (yM (yM (yM Tf Tg) Th) Ti) Tj
theorem said:ML PySem.Challenge.rw_pf0350_01=true:=by
 delta ML OpenRow.wellSaid OpenRow.partSaid
 rw [Te,PySem.W.Fast.te17119622794617984870]
 kernel_rfl
end
end Mine
set_option maxRecDepth 100000 in
set_option maxHeartbeats 8000000 in
theorem PySem.Challenge.cw_pf0350_01_holds : PySem.Challenge.rw_pf0350_01.Holds :=
 holds_law Mine.said fun said=>by
  refine Mine.PySem.W.holds_open (d:=Mine.lawD) (q:=Mine.viewQ) (loose:=Mine.looseN) (Xt:=Mine.seesM) (XP:=fun F X=> ∃o,X.get? pn=ab o) (Yf:=(pf Mine.hd.ah Mine.keysA Mine.keysA_eq).obs) (Ya:=(pf Mine.hd.ah Mine.keysA Mine.keysA_eq).val) (YP:=(pf Mine.hd.ah Mine.keysA Mine.keysA_eq).says) (N:=8000) Mine.left (pf Mine.hd.ah Mine.keysA Mine.keysA_eq).of (pf Mine.hd.ah Mine.keysA Mine.keysA_eq).keeps ?S ?O Mine.lawD_of ?l ?g ?M (by rfl) said ?ok ?H ?z ?walk
  case S=>exact fun U X=>nU.mp X
  case O=>exact fun F F F ⟨o,X⟩ k=>⟨o,k _ _ X⟩
  case l=>rfl
  case g=>rfl
  case M=>exact fun U F=>recFacts_of rfl
  case ok=>decide+kernel
  case H=>exact⟨rfl,rfl,rfl,rfl,rfl,by decide+kernel⟩
  case z=>w_witness2
  case walk=>intro u D E J m P s R o c p f G V W K C n e a v A B Q b w I L;exact Mine.walk u D E J m P s R e a v A B Q b w I L
end
