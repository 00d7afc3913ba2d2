import PyProof.Rows.All
import PyProof.AttrMissHeap
import KE.KDictOf
import Wide.FinOn
import OpenK.AllK
import Wide.All
import Lean
import PySem.Challenge.RW_nn0172_01
set_option Elab.async false
set_option maxRecDepth 100000
set_option linter.unusedVariables false
set_option linter.unusedSimpArgs false
set_option maxHeartbeats 1000000
set_option genSizeOf false
set_option genInjectivity false
set_option genSizeOfSpec false
set_option tactic.hygienic false
namespace Mine
open And renaming right→Sz
open Array renaming length_toList→bJ,getElem?_toList→eZ,toList_inj→nf,getElem?_setIfInBounds_self_of_lt→pJ,map→qh,toList_append→qG,getElem?_eq_getElem→yP,size_setIfInBounds→Aw,mem_toList_iff→En,toList_extract→ED
open Bool renaming and_eq_true_iff→aF,and_eq_true→cZ,or_eq_false_iff→df,false_ne_true→dM,eq_iff_iff→eV,or_eq_true_iff→fT,false_eq_true→hW,or_eq_true→pa,not_eq_true'→uc,false_or→AG,or_false→AL,and_eq_false_iff→EC,eq_false_iff→NW,true_and→Yc,true→ae,false→af
open Char renaming toNat→nM
open Classical renaming em→xR
open Exists renaming elim→bD
open False renaming elim→jV
open ForInStep renaming yield→jX
open Int renaming natCast_nonneg→bR,ofNat_lt→cf,ofNat_le→dm,natAbs_of_nonneg→iM,le_of_lt→iR,not_lt→jw,ofNat→kb,toNat_of_nonneg→k6,le_trans→lg,not_le→lR,lt_trans→o4,natAbs_eq_zero→tC,lt_of_le_of_lt→tD,lt_of_lt_of_le→tE,toNat_natCast→uB,ofNat_natAbs_of_nonpos→Ao,ne_of_gt→EE,natAbs_sub_le→OU,max_eq_right→SK,natCast_mul→UE,min_eq_left→UM,ofNat_sub→YV,toNat_sub→YW,ediv_one→adb,add_comm→adf
open Int.ofNat renaming inj→lm
open List renaming length_append→ah,length_map→aq,getElem?_eq_some_iff→ay,append_assoc→az,mem_singleton→aC,all_eq_true→aE,append_nil→aH,mem_cons→aJ,length_cons→aO,mem_map→aT,getElem?_append_right→aZ,map_map→ba,size_toArray→bb,range→be,cons_ne_nil→bf,getElem?_append_left→bo,map_append→br,mem_append→bt,getElem?_eq_getElem→bz,length_set→bG,map_cons→bX,mem_append_left→bY,length_singleton→ci,replicate→cj,getElem?_set_ne→cn,mem_of_getElem?→cp,set_append_right→cy,append_ne_nil_of_right_ne_nil→cz,getElem?_set_self→cC,exists_cons_of_ne_nil→cQ,mem_append_right→cU,length_nil→c0,getElem?_map→dh,getElem?_toArray→dw,length_drop→dD,drop_drop→dP,length_replicate→dX,flatMap_cons→dY,append_eq_nil_iff→ee,range'→ew,eq_nil_of_length_eq_zero→ey,nodup_cons→eJ,mem_cons_self→fg,getLast?_eq_some_getLast→fu,length_range→fF,length_reverse→fU,take_of_length_le→fY,length_take→f9,isEmpty_eq_false_iff→gn,foldl_cons→gr,forIn_cons→gu,nil_append→gx,set_append_left→gz,flatMap_map→gS,mem_flatMap→gT,mem_range→iE,mem_cons_of_mem→iG,cons_append→iN,filterMap_cons_some→jb,zip_cons_cons→jg,pairwise_cons→jh,length→jx,drop_zero→jE,nodup_nil→jF,set_set→jH,getLast?_append→kj,replicate_succ→kU,flatten_append→kY,map_eq_nil_iff→kZ,drop_left→lG,mem_or_eq_of_mem_set→lW,any_eq_false→mz,ext_getElem?→mD,filterMap_cons_none→mI,not_mem_nil→ny,take_length→nz,drop_eq_nil_of_le→nK,length_take_of_le→nX,find?_cons→o6,head?_drop→o9,take_append_drop→pG,getElem?_eq_none→pI,forIn_nil→qg,take_left→qi,range_eq_range'→qj,flatMap_append→qR,take_nil→rW,zip_nil_right→r8,mem_filterMap→r9,findIdx?_cons→sf,rec→tZ,nodup_append→ub,map_fst_zip→u4,range'_succ→u5,getLast_mem→vf,take_append_of_le_length→xd,drop_append_of_le_length→xf,of_mem_zip→xk,mem_of_find?_eq_some→Al,extract_eq_take_drop→Ar,drop_eq_getElem_cons→Ax,any_cons→AE,map_take→AF,getElem?_take_of_lt→AJ,length_filterMap_le→AM,sum_cons→AN,contains_iff_mem→Er,dropLast_eq_take→Ey,drop_eq_nil_iff→GL,mem_of_mem_drop→GP,reverse_reverse→GR,getLast?_concat→GS,append_toArray→IF,map_congr_left→IH,toList_toArray→II,getElem?_range→IL,filterMap_cons→IQ,mem_map_of_mem→IT,length_pos_iff→IV,map_inj_right→Ja,getElem?_drop→Jb,prefix_append→Jh,map_inj_left→NT,reverse_cons→N7,getElem_mem→OA,any_toArray→OB,lookup_cons→OC,zipIdx_cons→OF,any_eq_true→OH,isEmpty_iff→OJ,drop_length→OM,mem_reverse→OS,map_reverse→OT,find?_some→Sr,length_zip→Sw,all_append→SM,sum_append→SN,foldl_map→UK,foldl_nil→UO,map_drop→X1,all_cons→X9,getLast?→Yd,map_nil→YL,lookup→acR,map_id→acU
open List.Pairwise renaming nil→acY
open List.Sublist renaming map→aeD
open List.cons renaming inj→cg,injEq→GI
open Nat renaming le_trans→ai,le_add_right→aw,lt_of_le_of_lt→ax,le_refl→aP,add_sub_cancel_left→aU,le_of_lt→a9,add_le_add_left→bq,lt_of_lt_of_le→bw,lt_trans→bA,add_comm→bB,succ_le_succ→bI,zero_add→bM,add_le_add_right→bN,le_of_succ_le_succ→bU,add_assoc→bZ,mul_le_mul_left→cm,zero_le→cF,add_le_add→cG,le_of_not_lt→cH,lt_irrefl→cL,add_right_comm→cS,le_of_eq→cX,lt_succ_self→da,le_of_succ_le→dq,sub_self→dA,ne_of_lt→dB,lt_add_of_pos_right→dE,succ_ne_zero→dW,not_lt→eO,le_add_left→eW,div_lt_of_lt_mul→fx,not_succ_le_zero→fy,le_of_lt_succ→fH,le_antisymm→gy,lt_of_succ_lt→gB,succ_pos→gC,lt_of_not_le→gY,le_succ→hY,add_sub_cancel'→i5,lt_of_le_of_ne→jy,ne_of_gt→jJ,le_succ_of_le→jK,sub_add_cancel→lO,sub_le→lQ,sub_lt_left_of_lt_add→mC,not_lt_of_gt→nH,rec→oX,mul_succ→oZ,mod_lt→o8,pow_le_pow_right→qI,add_lt_add_left→r5,lt_succ_of_le→ux,le_max_right→xe,log2_lt→xj,min_le_left→xJ,le_max_left→xV,succ_add_eq_add_succ→Cp,lt_of_succ_lt_succ→Et,succ_sub→EA,le_mul_of_pos_left→EF,sub_zero→EH,sub_eq_zero_of_le→GK,add_sub_add_right→GQ,repr→IJ,sub_le_of_le_add→IK,pow_pos→IU,add_lt_add_right→IW,sub_lt_sub_left→Jf,not_le→N2,max_le→N8,lt_trichotomy→OE,lt_succ_of_lt→OL,sub_pos_of_lt→ON,mul_mod_right→OP,zero_lt_of_lt→OQ,add_mod_right→OR,min_le_right→Su,sub_sub_self→SJ,not_lt_zero→UG,div_add_mod→UN,lt_one_iff→XX,toDigits→acW,mul_comm→ade,casesOn→aem,mul_add→aex,mul_one→aey
open Nat.succ renaming inj→jf
open Option renaming map_eq_some_iff→ed,bind_some→jR,none→lP,map→GU,getD_some→Jd,elim→Yb,some→aa,none→ac
open Option.some renaming inj→aM
open PUnit renaming unit→acV
open Prod renaming fst→dQ,snd→ua
open Prod.mk renaming inj→bk
open Pure renaming pure→ff
open PyProof.Rows renaming subscriptTail→iC,Call_Name→mH,sortedHeap→w9,seqObj→Ap,IntsAre→YF,StrsAre→YG,arrOf→YH,in_str→aeq,truthy_int→aer,getItem_tuple→aes,get?_update_seq→aev
open PySem renaming wpAny_bind→ak,Value→ao,wpAny_pure→aB,Shared→aG,Addr→aN,Params→aS,wpAny→aX,wpAny_holding→bu,model→bP,Str→bQ,Expr→bV,Around→bW,holding→cN,wpAny_loadPart_at→cW,standAt→dy,exec→dC,Heap→dK,OsState→eE,wpAny_of_eq→eK,wpAny_standAt→eN,wpAny_mono→e9,assignEach→fa,builtinLookup_eq_fast→fk,World→fA,Obj→fE,Scope→fQ,compareOp→fX,wpAny_isSubtype_exc→gd,behindInMarks→gh,getMethod_builtin→gO,FuncData→gP,typeLookup→gX,starEach→ig,checkBuiltinCall→ik,NameKind→iz,typeLookup_type→iA,swapsWith→iH,sizeLine→jD,markedBehindIn_of_false→jQ,holding→jZ,Program→j6,arm_evalEach_cons→j8,wpAny_newObj_type→j9,contains→ka,wpAny_typeOf→kc,wpAny_call→kW,pyIter→kX,swappedStores→k7,callWith_function_kw→li,codeAny_call_builtin→lj,wpAny_field→ll,wpAny_newFunctionEnv→lq,unpackItems→lr,Model→lS,execs→lV,codeAny→mA,backTo→nc,bindName→nh,wpAny_nsGet→nO,release→nP,wpAny_assign_Name→nU,interactive→nV,Stmt→oY,stored→o7,ExceptHandler→pb,CmpOp→pS,binaryOp→pU,noteFrame→pW,setFlight→pX,bindArgs→pY,wpAny_Name→qH,assign→qJ,wpAny_ite_split→qM,arm_exec_Assign→qN,arm_exec_Return→qO,codeAny_call_function→rZ,callWith→tF,constantsAlone→tH,codeAmong→t6,valueAt→t7,spliced→t8,getMethod→t9,list_getitem_lookup→uv,wpAny_dictSet_pairs→uw,wpAny_newList→uZ,swapsWithSole→u7,assignInOrder→u9,foldedForSure→vc,typeIs_str→w7,wpAny_rule→w8,call_meets→xa,wpAny_truthy_bool→xH,dictSet→xK,keeperOf→xM,wpAny_pyIter_list→xP,firstIterPos→xT,assignStores→xU,DictEntry→Ai,arm_evalEach_nil→Am,Builtin→Aq,storeName→Av,codeAny_of_tree→Ck,wpAny_specialOf→Cm,wpAny_ite_false→Cn,wpAny_dropValue→Co,BoolOp→Em,nsFind→Ep,loadGlobal→Eu,evalEach→Ew,methodCallForm→Ex,isSubtype_type→Ez,wpAny_ite_true→EB,wpAt_of_wpAny→GO,call→IE,attributeBase→IG,comprehension→IM,arm_exec_Expr→IP,strValues→Je,getItem→NS,setAttr→NU,clipAt→NV,setItem→NX,Keyword→NY,pyNext→NZ,wpAny_pyNext_list_item→N0,Flow→N3,Setting→N4,wpAny_pyNext_list_end→OG,wpAt_bind→OO,Operator→So,loadName→Sp,wpAny_loadName_local→Sq,wpAny_mkInt→Sv,wpAny_point→Sx,keywordEach→Sy,bm_if_false→SA,getAttr?→SE,setField→SG,handleBy→SH,builtinType_eq_fast→UJ,frameOf→UL,intKind_is→XY,strKind_is→XZ,fastLookup→X0,boolOp→X2,arm_eval_Subscript→X3,methodCall→X4,typeOf→X5,getattributeRaised→X6,Result→X7,wpAny_keeperOf_exc→X8,UnaryOp→YD,relabel→YN,foldedSetIterable→YO,arm_eval_ListComp→YQ,arm_eval_DictComp→YR,TriplesOk→acN,noFill_tuple_add→acP,arm_eval_UnaryOp→acS,arm_allTrue_cons→acT,entryFor_of_tree→acZ,specialOf→ac0,dropValue→ac2,wpAny_Try_except→ac3,cellsFrom→ac4,lookupAlong_cons→ac5,wpAny_madeBy_exc→ac6,wpAny_lookBehind→ac7,pastItsLine_dict→ac8,raiseStmt→ac9,wpAny_operating→aeo,wpAny_mroOf_exc→aeC
open PySem.Around renaming under_plainId→pH,in1_units→I9
open PySem.AutoSeq1 renaming list_extend_list_list_0→YI
open PySem.Builtin renaming globals→t5,divisionGoesByPylong→uu
open PySem.Builtin.Bytes renaming fitsIndex→acQ
open PySem.Builtin.Dict renaming updateFrom→uy,pairItems→u6,addKeywords→aeA,selfAndRest→aeB
open PySem.Builtin.Int renaming intBits→nG
open PySem.Builtin.List renaming listLengthHint→rX,listExtendWith→rY,listSameRef→aew
open PySem.Builtin.ObjectAttr renaming storeInDict→AK
open PySem.Builtin.Range renaming rangeSize→dR,small→jG,rangeFitsLong→ac1
open PySem.Builtin.Str renaming subAt→gc,strSliceIndices→jW,occurrences→uY,tooLong→yO,glued→CA
open PySem.Challenge renaming pw_nn0172_01→aR,rw_nn0172_01→aV
open PySem.Code renaming quiet_builtin→Jg
open PySem.Env renaming blockKind→YC
open PySem.Expr renaming Name→vd
open PySem.F renaming excBase_Exception→eU,slot_list_extend→iS,plainAttrs_list→mE,args_list_extend_2→xb,entry_list_extend→xl,args_tuple_add_2→xG,slot_list_append→xN,entry_tuple_add→yN,slot_tuple_add→Ak,slot_str_index→As,plainAttrs_str→Au,slot_list_pop→AH,slot_str_join→AI
open PySem.Flow renaming next→gb,ret→yQ
open PySem.Heap renaming get?_push_of_some→aI,get?_push_size→ck,lt_size→fW,get?_update_other→fZ,get?_update_self→jY,SameBut→nR,get?_none_of_le→GN,get?_update_ne→IR
open PySem.Heap.DictOf renaming new→lT
open PySem.Heap.IsSliceOf renaming new→YE
open PySem.Heap.SameBut renaming update→aeu
open PySem.Keeper renaming machine→jz
open PySem.MeetsSeq renaming list_pop_last→YJ
open PySem.Obj renaming isFreed_of_fields→pV,mapFields→se,data_mapFields→tG,data→uz,mapSeq→An,cls_mapFields→OK
open PySem.SeqAt.RcAt renaming lists→aep
open PySem.Spec renaming ltCps→Cz
open PySem.Str renaming ofString→acX
open PySem.StrLaws renaming occBody→iW
open PySem.Value renaming ref→dz,none→jd,bytes→lU,int→aet,str→aez
open PySem.W renaming typeIs_bytes→dG,SharedT→gN,lookup→jv,behindTheImports→kS,boot_heap→mF,typeIs_bytes→xI,topRun→XW,readsAllW_cons_inv→Ya,WData→YT,ReadsAllW→ada
open PySem.W.FB renaming slot_bytes_getitem→j7,args_bytes_getitem_2→Eo,entry_bytes_getitem→GJ,plainAttrs_bytes→N1,owner_bytes→YM
open PySem.W.Fast renaming tw8920871248978507458→nJ,tw14364793385576792824→ad0,tw10110043849684766642→ad1,tw12563942051412417395→ad2,tw15667345088766844465→ad3,tw14374325043358763698→ad4,tw14082659384304107361→ad5,tw11892475500146522536→ad6,tw4187177175401517315→ad7,tw5923862056798008813→ad8,te10110043849684766642→ad9,te14364793385576792824→aea,te12563942051412417395→aeb,te15667345088766844465→aec,te14374325043358763698→aed,te14082659384304107361→aee,te11892475500146522536→aef,te8920871248978507458→aeg,te4187177175401517315→aeh,te5923862056798008813→aei,tw9446332074065402090→aej,te9446332074065402090→aek
open PySem.W.KBw renaming pyIter_bytes→SD
open PySem.W.KBy renaming buffer_eq→YK
open PySem.W.Looks renaming of_peek→qQ
open PySem.W.SL renaming s5160863994218179198x17→pF
open PySem.W.WData renaming bool→IS,int→N6
open PySem.W.WShape renaming hasItems→N5,has→YU
open PySem.W.WTm renaming holds→xc
open PySem.Within renaming cons→uA,nil→YS
open Std.Legacy.Range renaming forIn_eq_forIn_range'→UH,size→UI
open String renaming toList_ofList→Cy
open UInt8 renaming toNat→bh,toNat_inj→Oz
open _root_ renaming List→ag,Nat→aj,Option→ar,congrArg→av,if_pos→aA,beq_eq_false_iff_ne→aD,if_neg→aL,absurd→aQ,Bool→aW,decide_eq_false→aY,decide_eq_true→bc,Int→bE,of_decide_eq_true→bO,beq_iff_eq→bT,decide_eq_true_iff→cb,Array→cE,beq_self_eq_true→dJ,DecidableEq→eF,String→eS,Unit→fP,UInt8→iq,congrFun→jC,bne_iff_ne→m9,False→pT,True→rV,decide_eq_true_eq→xF,if_false→xO,or_assoc→xQ,bne_self_eq_false→xS,Inhabited→Aj,or_congr_right→EG,ForInStep→Jc,of_decide_eq_false→Ye,Decidable→acO,and_congr_right→ael
theorem lX{α:Type}{P:Prop}{x:α}(h:ac=aa x):P:=by cases h
theorem no2{α:Type}{P:Prop}{x:α}(h:aa x=ac):P:=by cases h
theorem Yf{P:Prop}(h:af=ae):P:=by cases h
theorem no4{P:Prop}(h:ae=af):P:=by cases h
local macro_rules | `(tactic| cases $h:ident) => `(tactic| first | exact Mine.lX $h | exact Mine.Yf $h | exact Mine.no2 $h | exact Mine.no4 $h | exact False.elim $h | subst $h | (injection $h; done) | (injection $h with h1; cases h1) | (injection $h with h1 h2; cases h1; cases h2) | (injection $h with h1 h2 h3; cases h1; cases h2; cases h3) | cases ($h))
local macro_rules | `(tactic| omega) => `(tactic| first | lia | omega (config := {}))
theorem yR{m:aj}(h:m<=1999999):2000000=2000000-1-m+1+m:=((cS _ 1 m).trans (av (· +1) (lO h))).symm
section
variable{qk uC AO N9 α4:Type}{R:Prop}
theorem gf{P0 P1:Prop}(h:P0/\P1)(k:P0->P1->R):R:=k h.1 h.2
theorem nY{P0 P1 P2:Prop}(h:P0/\P1/\P2)(k:P0->P1->P2->R):R:=k h.1 h.2.1 h.2.2
theorem ud{P0 P1 P2 P3:Prop}(h:P0/\P1/\P2/\P3)(k:P0->P1->P2->P3->R):R:=k h.1 h.2.1 h.2.2.1 h.2.2.2
theorem YX{P0 P1 P2 P3 P4:Prop}(h:P0/\P1/\P2/\P3/\P4)(k:P0->P1->P2->P3->P4->R):R:=k h.1 h.2.1 h.2.2.1 h.2.2.2.1 h.2.2.2.2
theorem aeE{P0 P1 P2 P3 P4 P5:Prop}(h:P0/\P1/\P2/\P3/\P4/\P5)(k:P0->P1->P2->P3->P4->P5->R):R:=k h.1 h.2.1 h.2.2.1 h.2.2.2.1 h.2.2.2.2.1 h.2.2.2.2.2
theorem aeF{P0 P1 P2 P3 P4 P5 P6:Prop}(h:P0/\P1/\P2/\P3/\P4/\P5/\P6)(k:P0->P1->P2->P3->P4->P5->P6->R):R:=k h.1 h.2.1 h.2.2.1 h.2.2.2.1 h.2.2.2.2.1 h.2.2.2.2.2.1 h.2.2.2.2.2.2
theorem fJ{P0:qk->Prop}(h:∃a0,P0 a0)(k:∀a0,P0 a0->R):R:=h.elim λa0 h=>k a0 h
theorem bH{P0 P1:qk->Prop}(h:∃a0,P0 a0/\P1 a0)(k:∀a0,P0 a0->P1 a0->R):R:=h.elim λa0 h=>gf h (k a0)
theorem nB{P0 P1 P2:qk->Prop}(h:∃a0,P0 a0/\P1 a0/\P2 a0)(k:∀a0,P0 a0->P1 a0->P2 a0->R):R:=h.elim λa0 h=>nY h (k a0)
theorem CB{P0 P1 P2 P3:qk->Prop}(h:∃a0,P0 a0/\P1 a0/\P2 a0/\P3 a0)(k:∀a0,P0 a0->P1 a0->P2 a0->P3 a0->R):R:=h.elim λa0 h=>ud h (k a0)
theorem OV{P0 P1 P2 P3 P4:qk->Prop}(h:∃a0,P0 a0/\P1 a0/\P2 a0/\P3 a0/\P4 a0)(k:∀a0,P0 a0->P1 a0->P2 a0->P3 a0->P4 a0->R):R:=h.elim λa0 h=>YX h (k a0)
theorem aeG{P0 P1 P2 P3 P4 P5:qk->Prop}(h:∃a0,P0 a0/\P1 a0/\P2 a0/\P3 a0/\P4 a0/\P5 a0)(k:∀a0,P0 a0->P1 a0->P2 a0->P3 a0->P4 a0->P5 a0->R):R:=h.elim λa0 h=>aeE h (k a0)
theorem aeH{P0 P1 P2 P3 P4 P5 P6:qk->Prop}(h:∃a0,P0 a0/\P1 a0/\P2 a0/\P3 a0/\P4 a0/\P5 a0/\P6 a0)(k:∀a0,P0 a0->P1 a0->P2 a0->P3 a0->P4 a0->P5 a0->P6 a0->R):R:=h.elim λa0 h=>aeF h (k a0)
theorem gU{P0:qk->uC->Prop}(h:∃a0 a1,P0 a0 a1)(k:∀a0 a1,P0 a0 a1->R):R:=h.elim λa0 h=>fJ h (k a0)
theorem dZ{P0 P1:qk->uC->Prop}(h:∃a0 a1,P0 a0 a1/\P1 a0 a1)(k:∀a0 a1,P0 a0 a1->P1 a0 a1->R):R:=h.elim λa0 h=>bH h (k a0)
theorem k8{P0 P1 P2:qk->uC->Prop}(h:∃a0 a1,P0 a0 a1/\P1 a0 a1/\P2 a0 a1)(k:∀a0 a1,P0 a0 a1->P1 a0 a1->P2 a0 a1->R):R:=h.elim λa0 h=>nB h (k a0)
theorem vg{P0 P1 P2 P3:qk->uC->Prop}(h:∃a0 a1,P0 a0 a1/\P1 a0 a1/\P2 a0 a1/\P3 a0 a1)(k:∀a0 a1,P0 a0 a1->P1 a0 a1->P2 a0 a1->P3 a0 a1->R):R:=h.elim λa0 h=>CB h (k a0)
theorem Ji{P0 P1 P2 P3 P4:qk->uC->Prop}(h:∃a0 a1,P0 a0 a1/\P1 a0 a1/\P2 a0 a1/\P3 a0 a1/\P4 a0 a1)(k:∀a0 a1,P0 a0 a1->P1 a0 a1->P2 a0 a1->P3 a0 a1->P4 a0 a1->R):R:=h.elim λa0 h=>OV h (k a0)
theorem OW{P0 P1 P2 P3 P4 P5:qk->uC->Prop}(h:∃a0 a1,P0 a0 a1/\P1 a0 a1/\P2 a0 a1/\P3 a0 a1/\P4 a0 a1/\P5 a0 a1)(k:∀a0 a1,P0 a0 a1->P1 a0 a1->P2 a0 a1->P3 a0 a1->P4 a0 a1->P5 a0 a1->R):R:=h.elim λa0 h=>aeG h (k a0)
theorem aeI{P0 P1 P2 P3 P4 P5 P6:qk->uC->Prop}(h:∃a0 a1,P0 a0 a1/\P1 a0 a1/\P2 a0 a1/\P3 a0 a1/\P4 a0 a1/\P5 a0 a1/\P6 a0 a1)(k:∀a0 a1,P0 a0 a1->P1 a0 a1->P2 a0 a1->P3 a0 a1->P4 a0 a1->P5 a0 a1->P6 a0 a1->R):R:=h.elim λa0 h=>aeH h (k a0)
theorem YY{P0:qk->uC->AO->Prop}(h:∃a0 a1 a2,P0 a0 a1 a2)(k:∀a0 a1 a2,P0 a0 a1 a2->R):R:=h.elim λa0 h=>gU h (k a0)
theorem yS{P0 P1:qk->uC->AO->Prop}(h:∃a0 a1 a2,P0 a0 a1 a2/\P1 a0 a1 a2)(k:∀a0 a1 a2,P0 a0 a1 a2->P1 a0 a1 a2->R):R:=h.elim λa0 h=>dZ h (k a0)
theorem ue{P0 P1 P2:qk->uC->AO->Prop}(h:∃a0 a1 a2,P0 a0 a1 a2/\P1 a0 a1 a2/\P2 a0 a1 a2)(k:∀a0 a1 a2,P0 a0 a1 a2->P1 a0 a1 a2->P2 a0 a1 a2->R):R:=h.elim λa0 h=>k8 h (k a0)
theorem xm{P0 P1 P2 P3:qk->uC->AO->Prop}(h:∃a0 a1 a2,P0 a0 a1 a2/\P1 a0 a1 a2/\P2 a0 a1 a2/\P3 a0 a1 a2)(k:∀a0 a1 a2,P0 a0 a1 a2->P1 a0 a1 a2->P2 a0 a1 a2->P3 a0 a1 a2->R):R:=h.elim λa0 h=>vg h (k a0)
theorem UP{P0 P1 P2 P3 P4:qk->uC->AO->Prop}(h:∃a0 a1 a2,P0 a0 a1 a2/\P1 a0 a1 a2/\P2 a0 a1 a2/\P3 a0 a1 a2/\P4 a0 a1 a2)(k:∀a0 a1 a2,P0 a0 a1 a2->P1 a0 a1 a2->P2 a0 a1 a2->P3 a0 a1 a2->P4 a0 a1 a2->R):R:=h.elim λa0 h=>Ji h (k a0)
theorem aeJ{P0 P1 P2 P3 P4 P5:qk->uC->AO->Prop}(h:∃a0 a1 a2,P0 a0 a1 a2/\P1 a0 a1 a2/\P2 a0 a1 a2/\P3 a0 a1 a2/\P4 a0 a1 a2/\P5 a0 a1 a2)(k:∀a0 a1 a2,P0 a0 a1 a2->P1 a0 a1 a2->P2 a0 a1 a2->P3 a0 a1 a2->P4 a0 a1 a2->P5 a0 a1 a2->R):R:=h.elim λa0 h=>OW h (k a0)
theorem YZ{P0 P1 P2 P3 P4 P5 P6:qk->uC->AO->Prop}(h:∃a0 a1 a2,P0 a0 a1 a2/\P1 a0 a1 a2/\P2 a0 a1 a2/\P3 a0 a1 a2/\P4 a0 a1 a2/\P5 a0 a1 a2/\P6 a0 a1 a2)(k:∀a0 a1 a2,P0 a0 a1 a2->P1 a0 a1 a2->P2 a0 a1 a2->P3 a0 a1 a2->P4 a0 a1 a2->P5 a0 a1 a2->P6 a0 a1 a2->R):R:=h.elim λa0 h=>aeI h (k a0)
theorem OX{P0:qk->uC->AO->N9->Prop}(h:∃a0 a1 a2 a3,P0 a0 a1 a2 a3)(k:∀a0 a1 a2 a3,P0 a0 a1 a2 a3->R):R:=h.elim λa0 h=>YY h (k a0)
theorem aeK{P0 P1:qk->uC->AO->N9->Prop}(h:∃a0 a1 a2 a3,P0 a0 a1 a2 a3/\P1 a0 a1 a2 a3)(k:∀a0 a1 a2 a3,P0 a0 a1 a2 a3->P1 a0 a1 a2 a3->R):R:=h.elim λa0 h=>yS h (k a0)
theorem OY{P0 P1 P2:qk->uC->AO->N9->Prop}(h:∃a0 a1 a2 a3,P0 a0 a1 a2 a3/\P1 a0 a1 a2 a3/\P2 a0 a1 a2 a3)(k:∀a0 a1 a2 a3,P0 a0 a1 a2 a3->P1 a0 a1 a2 a3->P2 a0 a1 a2 a3->R):R:=h.elim λa0 h=>ue h (k a0)
theorem OZ{P0 P1 P2 P3:qk->uC->AO->N9->Prop}(h:∃a0 a1 a2 a3,P0 a0 a1 a2 a3/\P1 a0 a1 a2 a3/\P2 a0 a1 a2 a3/\P3 a0 a1 a2 a3)(k:∀a0 a1 a2 a3,P0 a0 a1 a2 a3->P1 a0 a1 a2 a3->P2 a0 a1 a2 a3->P3 a0 a1 a2 a3->R):R:=h.elim λa0 h=>xm h (k a0)
theorem aeL{P0 P1 P2 P3 P4:qk->uC->AO->N9->Prop}(h:∃a0 a1 a2 a3,P0 a0 a1 a2 a3/\P1 a0 a1 a2 a3/\P2 a0 a1 a2 a3/\P3 a0 a1 a2 a3/\P4 a0 a1 a2 a3)(k:∀a0 a1 a2 a3,P0 a0 a1 a2 a3->P1 a0 a1 a2 a3->P2 a0 a1 a2 a3->P3 a0 a1 a2 a3->P4 a0 a1 a2 a3->R):R:=h.elim λa0 h=>UP h (k a0)
theorem aeM{P0 P1 P2 P3 P4 P5 P6:qk->uC->AO->N9->Prop}(h:∃a0 a1 a2 a3,P0 a0 a1 a2 a3/\P1 a0 a1 a2 a3/\P2 a0 a1 a2 a3/\P3 a0 a1 a2 a3/\P4 a0 a1 a2 a3/\P5 a0 a1 a2 a3/\P6 a0 a1 a2 a3)(k:∀a0 a1 a2 a3,P0 a0 a1 a2 a3->P1 a0 a1 a2 a3->P2 a0 a1 a2 a3->P3 a0 a1 a2 a3->P4 a0 a1 a2 a3->P5 a0 a1 a2 a3->P6 a0 a1 a2 a3->R):R:=h.elim λa0 h=>YZ h (k a0)
theorem UQ{P0:qk->uC->AO->N9->α4->Prop}(h:∃a0 a1 a2 a3 a4,P0 a0 a1 a2 a3 a4)(k:∀a0 a1 a2 a3 a4,P0 a0 a1 a2 a3 a4->R):R:=h.elim λa0 h=>OX h (k a0)
theorem UR{P0 P1:qk->uC->AO->N9->α4->Prop}(h:∃a0 a1 a2 a3 a4,P0 a0 a1 a2 a3 a4/\P1 a0 a1 a2 a3 a4)(k:∀a0 a1 a2 a3 a4,P0 a0 a1 a2 a3 a4->P1 a0 a1 a2 a3 a4->R):R:=h.elim λa0 h=>aeK h (k a0)
theorem xn{P0 P1 P2:qk->uC->AO->N9->α4->Prop}(h:∃a0 a1 a2 a3 a4,P0 a0 a1 a2 a3 a4/\P1 a0 a1 a2 a3 a4/\P2 a0 a1 a2 a3 a4)(k:∀a0 a1 a2 a3 a4,P0 a0 a1 a2 a3 a4->P1 a0 a1 a2 a3 a4->P2 a0 a1 a2 a3 a4->R):R:=h.elim λa0 h=>OY h (k a0)
theorem aeN{P0 P1 P2 P3:qk->uC->AO->N9->α4->Prop}(h:∃a0 a1 a2 a3 a4,P0 a0 a1 a2 a3 a4/\P1 a0 a1 a2 a3 a4/\P2 a0 a1 a2 a3 a4/\P3 a0 a1 a2 a3 a4)(k:∀a0 a1 a2 a3 a4,P0 a0 a1 a2 a3 a4->P1 a0 a1 a2 a3 a4->P2 a0 a1 a2 a3 a4->P3 a0 a1 a2 a3 a4->R):R:=h.elim λa0 h=>OZ h (k a0)
end
local macro_rules | `(tactic| rewrite [$h:term]) => `(tactic| first | refine Mine.rwl $h ?_ | fail) | `(tactic| rewrite [← $h:term]) => `(tactic| first | refine Mine.rwr $h ?_ | fail)
local macro_rules | `(tactic| rw [$r, $rs,*]) => `(tactic| (rewrite [$r]; rw [$rs,*]))
section
open PySem PySem.W PyProof.Rows
set_option maxHeartbeats 0
noncomputable abbrev F:Program:=aR
noncomputable abbrev GV:String:=PySem.W.SL.s7174869446012820540x8
noncomputable def zL(n:aj):ag Nat:=@oX (λZ=>aj->ag aj->ag aj) (λZ a=>a) (λZ ih n a=>@aW.rec (λZ=>ag aj) (ih (aj.div n 256) (aj.mod n 256::a)) a (aj.beq n 0)) 64 n []
noncomputable def zN(n:aj)(l:ag aj):Nat:=@tZ aj (λZ=>aj->aj) (λZ=>0) (λa Z ih n=>@oX (λZ=>aj) a (λm Z=>ih m) n) l n
noncomputable def fG(i:aj):Str:=⟨⟨zL (zN i [0x5f5f6e616d655f5f,0x5f5f646f635f5f,0x5f5f7061636b6167655f5f,0x5f5f6c6f616465725f5f,0x5f5f737065635f5f,0x5f5f6d61696e5f5f,0x747970652e5f5f737562636c61737365735f5f2e457863657074696f6e2e30,0x747970652e5f5f737562636c61737365735f5f2e457863657074696f6e2e6e,0x6c61775f6e6e303137325f3031,0x5f5f616e6e6f746174696f6e735f5f,0x5f5f6275696c74696e735f5f,0x5f5f66696c655f5f,0x2f636c61696d2f6375742e7079,0x5f5f6361636865645f5f,0x5f77616c6c,0x5748495445,0x44454c494d4954455253,0x4c494e455f46454544,0x52455455524e,0x434f4d4d454e54,0x4d4f53545f464947555245535f637572736f72,0x69735f7768697465,0x69735f726567756c6172,0x69735f666967757265,0x437572736f72,0x50617065724572726f72,0x53796e7461784661756c74,0x4d4f53545f464947555245535f646563696d616c73,0x504c5553,0x4d494e5553,0x504f494e54,0x5a45524f,0x446563696d616c,0x7369676e5f74657874,0x726561645f646563696d616c,0x504152454e,0x434c4f53455f504152454e,0x4c455353,0x47524541544552,0x534c415348,0x4241434b534c4153485f6c65786572,0x48415348,0x5349474e53,0x6865785f776f727468,0x706c61696e5f657363617065,0x6e616d655f74657874,0x6f6374616c,0x657363617065645f636f646573,0x6c69746572616c,0x6865785f737472696e67,0x72756e5f746f6b656e,0x64656c696d697465645f746f6b656e,0x6e6578745f746f6b656e,0x69735f7369676e,0x4e616d65,0x537472696e67,0x53747265616d,0x5265666572656e6365,0x6b696e645f6f66,0x746f6c645f706c61696e,0x746f6c64,0x746f6c645f6f626a65637473,0x70617274735f6f66,0x64657074685f6f66,0x4d4f53545f4445505448,0x4672616d65,0x69735f77686f6c65,0x74616b655f7265666572656e6365,0x776f72645f76616c7565,0x706c61696e5f76616c7565,0x646963745f6f66,0x636c6f73655f6672616d65,0x6f626a6563745f66726f6d,0x4d4f53545f4e4553544544,0x4d4f53545f4e554d424552,0x4241434b534c4153485f777269746572,0x4f50454e5f425241434b4554,0x434c4f53455f425241434b4554,0x4341525249414745,0x4e554d4245525f5349474e,0x4845585f46494755524553,0x746578745f6f6374657473,0x6865785f70616972,0x6e616d655f6f6374657473,0x77686f6c655f6f6374657473,0x646563696d616c5f6f6374657473,0x6c6f6e655f627261636b657473,0x6c69746572616c5f6f6374657473,0x6865785f6f6374657473,0x737472696e675f6f6374657473,0x706c61696e5f70617274,0x6c61795f7265666572656e6365,0x6c61795f64696374,0x6c61795f7061727473,0x72756e5f746f676574686572,0x6a6f696e65645f7061727473,0x73747265616d5f68656164,0x77726974655f6f626a656374,0x56414c55455f574f524453,0x4f7065726174696f6e,0x69735f6f70657261746f72,0x776f72645f74657874,0x696d6167655f68656164,0x656e64735f696d616765,0x696d6167655f6f6374657473,0x726561645f696d616765,0x726561645f636f6e74656e74,0x6f70657261746f725f6f6374657473,0x696d6167655f706965636573,0x6f7065726174696f6e5f6f6374657473,0x77726974655f636f6e74656e74,0x5f6c61775f70656e,0x5f6c61775f64726177,0x5f6c61775f7069636b,0x5f6c61775f6f6374657473,0x5f6c61775f706c61696e,0x5f6c61775f76616c7565,0x5f6c61775f696d616765,0x5f6c61775f6f7065726174696f6e,0x5f6c61775f746f6c64,0x5f6c61775f6261636b,0x5f6c61775f69735f72656675736564,0x5f6c61775f696d6167655f7269676874,0x6c6177,0x3c6d6f64756c653e,0x6b,0x636f6465,0x7061706572686f6c642e637572736f72,0x5f5f6d6f64756c655f5f,0x5f5f7175616c6e616d655f5f,0x5f5f66697273746c696e656e6f5f5f,0x5f5f696e69745f5f,0x69735f646f6e65,0x7065656b,0x74616b65,0x737461727473,0x736b6970,0x736b69705f7768697465,0x74616b655f726567756c6172,0x736b69705f6c696e655f656e64,0x74616b655f6c696e65,0x6e756d626572,0x66696e64,0x66696e645f6c617374,0x5f5f7374617469635f617474726962757465735f5f,0x73656c66,0x64617461,0x6174,0x656e64,0x437572736f722e5f5f696e69745f5f,0x437572736f722e69735f646f6e65,0x6168656164,0x73706f74,0x437572736f722e7065656b,0x437572736f722e74616b65,0x776f7264,0x437572736f722e737461727473,0x437572736f722e736b6970,0x437572736f722e736b69705f7768697465,0x6669727374,0x437572736f722e74616b655f726567756c6172,0x437572736f722e736b69705f6c696e655f656e64,0x437572736f722e74616b655f6c696e65,0x437572736f722e6e756d626572,0x437572736f722e66696e64,0x437572736f722e66696e645f6c617374,0x5f5f646963745f5f,0x5f5f7765616b7265665f5f,0x7061706572686f6c642e6572726f7273,0x77686174,0x50617065724572726f722e5f5f696e69745f5f,0x50617065724572726f722e746f6c64,0x7061706572686f6c642e646563696d616c73,0x706c7573,0x6d696e7573,0x74696d6573,0x6e656761746564,0x636f6d7061726564,0x666c6f6f72,0x726f756e646564,0x74657874,0x6c656173745f74657874,0x746f70,0x706c61636573,0x446563696d616c2e5f5f696e69745f5f,0x6f74686572,0x446563696d616c2e706c7573,0x446563696d616c2e6d696e7573,0x446563696d616c2e74696d6573,0x446563696d616c2e6e656761746564,0x446563696d616c2e636f6d7061726564,0x446563696d616c2e69735f77686f6c65,0x446563696d616c2e666c6f6f72,0x446563696d616c2e726f756e646564,0x446563696d616c2e746f6c64,0x6e756d6572616c73,0x446563696d616c2e74657874,0x446563696d616c2e6c656173745f74657874,0x6f6374657473,0x626567756e,0x7061706572686f6c642e6c65786572,0x7369676e73,0x706c616365,0x68696768,0x6c6f77,0x637572736f72,0x74616b656e,0x6f70656e696e67,0x636f646573,0x6465707468,0x72756e,0x746f6b656e,0x7369676e,0x7061706572686f6c642e6f626a65637473,0x4e616d652e5f5f696e69745f5f,0x69735f686578,0x537472696e672e5f5f696e69745f5f,0x68656164,0x53747265616d2e5f5f696e69745f5f,0x70616972,0x67656e65726174696f6e,0x5265666572656e63652e5f5f696e69745f5f,0x5265666572656e63652e70616972,0x76616c7565,0x6b696e64,0x64656570657374,0x6c696e65,0x68657265,0x61626f7665,0x70617274,0x7061706572686f6c642e726561646572,0x77616e74735f6b6579,0x6d61726b,0x4672616d652e5f5f696e69745f5f,0x4672616d652e77616e74735f6b6579,0x6974656d73,0x70726f6265,0x776f727468,0x6c6574735f7265666572656e636573,0x6672616d6573,0x6672616d65,0x69735f6f70656e696e67,0x7061706572686f6c642e777269746572,0x666f756e64,0x6f70656e5f6f6e6573,0x6c6f6e65,0x69735f6c65617374,0x726f756e6465645f666f726d,0x616e676c65645f666f726d,0x7061727473,0x6b6579,0x6265666f7265,0x626568696e64,0x6265747765656e,0x7061706572686f6c642e636f6e74656e74,0x6f706572616e6473,0x4f7065726174696f6e2e5f5f696e69745f5f,0x4f7065726174696f6e2e746f6c64,0x6f7065726174696f6e,0x706965636573,0x726f77,0x7772697474656e,0x736372697074,0x63656c6c,0x70656e,0x6d616e79,0x6469676974,0x736f6d65,0x61736b])⟩⟩
noncomputable abbrev sv(i t:aj):Value:=.str (fG i) t
noncomputable abbrev n0:Value:=.none
noncomputable abbrev e(P:aS)(x:aj)(t:aj)(v:ao):DictEntry:=⟨PyData.keyHash P (fG x),.str (fG x) t,v⟩
noncomputable def b0(P:aS)(i:aj):Obj:=((mF P).objs.toList.drop i).headD default
noncomputable def tp(i:aj):Stmt:=(F.main.body.drop i).headD (.Pass default)
noncomputable def mt(i j:aj):Stmt:=match tp i with
 |.ClassDef _ _ _ b _ _ _ _ _ _ _=>(b.drop j).headD (.Pass default)
 |_=>.Pass default
noncomputable def pf(st:oY)(q:bQ):Obj:=match st with
 |.FunctionDef n a b _ _ _ sc _ _ _=>⟨.none,ac,.func {name:=n,qualname:=q,params:=a,body:=.stmts b,scope:=sc,globals:=0,closure:=[],defaults:=.none,kwdefaults:=.none},⟨[]⟩⟩
 |_=>default
noncomputable def fo(st:oY)(q:bQ)(md:ao)(c:aN)(d:ao):Obj:=match st with
 |.FunctionDef n a b _ _ _ sc _ _ _=>⟨.type GV,ac,.func {name:=n,qualname:=q,params:=a,body:=.stmts b,scope:=sc,globals:=3,closure:=[],defaults:=d,kwdefaults:=.none,pyModule:=md,code:=.ref c},⟨[]⟩⟩
 |_=>default
noncomputable def sp(l:ag fE):ag fE×ag Obj:=@tZ fE (λZ=>ag fE×ag fE) ([],[]) (λa Z ih=>(a::ih.2,ih.1)) l
noncomputable def mkF(n:aj):ag fE->BT:=@oX (λZ=>ag fE->BT) (λZ=>.nil) (λZ ih l=>@tZ fE (λZ=>BT) .nil (λo r Z=>.node o (ih (sp r).1) (ih (sp r).2)) l) n
noncomputable def mk(l:ag fE):BT:=mkF 11 l
noncomputable abbrev S0:String:=PySem.W.SL.s2766695959194262286x5
noncomputable abbrev S1:String:=PySem.W.SL.s5856160107412720595x4
noncomputable abbrev S2:String:=PySem.W.SL.s14018661285674007319x4
noncomputable abbrev S3:String:=PySem.W.SL.s17162191345867700912x4
noncomputable abbrev S4:String:=PySem.W.SL.s11030030927630378310x26
noncomputable abbrev S5:String:=PySem.W.SL.s2742458400755230247x6
noncomputable abbrev S6:String:=PySem.W.SL.s14755015743595814543x17
noncomputable abbrev S7:String:=PySem.W.SL.s658472552662922059x5
noncomputable abbrev S8:String:=PySem.W.SL.s4290257624100764138x5
noncomputable abbrev S9:String:=PySem.W.SL.s10062305145149207511x16
noncomputable abbrev S10:String:=PySem.W.SL.s4860613602091757760x24
noncomputable abbrev S11:String:=PySem.W.SL.s10220274742760427390x26
noncomputable abbrev S12:String:=PySem.W.SL.s11443829558043349243x14
noncomputable abbrev S13:String:=PySem.W.SL.s6511155373996960695x17
noncomputable abbrev S14:String:=PySem.W.SL.s12411053484034534018x21
noncomputable abbrev S15:String:=PySem.W.SL.s5946037652744460706x9
noncomputable abbrev S16:String:=PySem.W.SL.s4278001404047624695x13
noncomputable abbrev S17:String:=PySem.W.SL.s10852414792293593619x7
noncomputable abbrev sq(v:ag ao)(n:aj):Obj:=⟨.type S0,ac,.seq ⟨v⟩ n,⟨[]⟩⟩
noncomputable abbrev fe(v:ag ao):Obj:=⟨.none,ac,.fields ⟨v⟩,⟨[]⟩⟩
noncomputable abbrev fL(s:eS)(v:ag ao):Obj:=⟨.type s,ac,.fields ⟨v⟩,⟨[]⟩⟩
noncomputable def o11(P:aS):Obj:=sq [] 0
noncomputable def aeP(P:aS):Obj:=⟨(.type S2),ac,(.dict ⟨[e P 128 250 (sv 127 194),e P 130 254 (.int 17 253),e P 131 267 (.ref 59),e P 132 274 (.ref 66),e P 133 284 (.ref 74),e P 134 292 (.ref 81),e P 135 300 (.ref 88),e P 136 308 (.ref 95),e P 137 316 (.ref 102),e P 138 324 (.ref 109),e P 139 331 (.ref 116),e P 140 338 (.ref 123),e P 141 347 (.ref 130),e P 142 356 (.ref 137),e P 143 364 (.ref 144),e P 144 368 (.ref 145),e P 166 370 (.ref 148),e P 167 372 (.ref 149),e P 1 373 .none]⟩ 4),⟨[]⟩⟩
noncomputable def US(P:aS):Obj:=fo (mt 13 0) (fG 170) (sv 168 376) 165 (.ref 159)
noncomputable def aeQ(P:aS):Obj:=⟨(.type S2),ac,(.dict ⟨[e P 128 385 (sv 168 376),e P 130 389 (.int 94 388),e P 131 400 (.ref 166),e P 60 407 (.ref 173),e P 144 410 (.ref 174),e P 167 412 (.ref 177),e P 1 413 .none]⟩ 3),⟨[]⟩⟩
noncomputable def aeR(P:aS):Obj:=⟨(.type S2),ac,(.dict ⟨[e P 128 425 (sv 168 376),e P 130 429 (.int 103 428),e P 144 430 (.ref 187),e P 1 431 .none]⟩ 2),⟨[]⟩⟩
noncomputable def aeS(P:aS):Obj:=⟨(.type S3),ac,(.cls {name:=(fG 26),bases:=[.ref 176],mro:=[.ref 189,.ref 176,.type S15,.type S16,.type S5],ns:=188,qualname:=(fG 26),subclasses:=[]}),⟨[aa (.ref 180),ac,aa (sv 26 418),aa (sv 26 426),aa (.builtin pF),aa (.bool ae)]⟩⟩
noncomputable def aeT(P:aS):Obj:=⟨(.type S2),ac,(.dict ⟨[e P 128 453 (sv 172 434),e P 130 457 (.int 111 456),e P 131 466 (.ref 205),e P 173 474 (.ref 212),e P 174 482 (.ref 219),e P 175 490 (.ref 226),e P 176 497 (.ref 233),e P 177 505 (.ref 240),e P 66 512 (.ref 247),e P 178 519 (.ref 254),e P 179 527 (.ref 261),e P 60 534 (.ref 268),e P 180 542 (.ref 275),e P 181 550 (.ref 282),e P 144 553 (.ref 283),e P 166 555 (.ref 286),e P 167 557 (.ref 287),e P 1 558 .none]⟩ 4),⟨[]⟩⟩
noncomputable def aeU(P:aS):Obj:=⟨(.type S2),ac,(.dict ⟨[e P 128 710 (sv 213 701),e P 130 714 (.int 317 713),e P 131 722 (.ref 394),e P 144 724 (.ref 395),e P 166 726 (.ref 398),e P 167 728 (.ref 399),e P 1 729 .none]⟩ 4),⟨[]⟩⟩
noncomputable def aeV(P:aS):Obj:=⟨(.type S2),ac,(.dict ⟨[e P 128 739 (sv 213 701),e P 130 743 (.int 321 742),e P 131 752 (.ref 416),e P 144 755 (.ref 417),e P 166 757 (.ref 420),e P 167 759 (.ref 421),e P 1 760 .none]⟩ 4),⟨[]⟩⟩
noncomputable def aeW(P:aS):Obj:=⟨(.type S2),ac,(.dict ⟨[e P 128 883 (sv 230 872),e P 130 887 (.int 406 886),e P 131 895 (.ref 517),e P 231 902 (.ref 524),e P 144 905 (.ref 525),e P 166 907 (.ref 528),e P 167 909 (.ref 529),e P 1 910 .none]⟩ 4),⟨[]⟩⟩
noncomputable def aeX(P:aS):Obj:=⟨(.type S2),ac,(.dict ⟨[e P 128 1164 (sv 254 1151),e P 130 1168 (.int 632 1167),e P 131 1177 (.ref 709),e P 60 1183 (.ref 714),e P 144 1186 (.ref 715),e P 166 1188 (.ref 718),e P 167 1190 (.ref 719),e P 1 1191 .none]⟩ 4),⟨[]⟩⟩
noncomputable def Y0(P:aS):Obj:=fL S1 [sv 122 1363,sv 122 1364,sv 12 1365,.int 787 0,.int 1 0,.int 0 0,.int 0 0,.int 3 0,.ref 857,.bool ae,.int 181 0,.ref 858,.none,.none,.none,.ref 859,.int 1366 0,.int 787 0,sv 12 1367]
noncomputable def Y1(P:aS):Obj:=fL S1 [sv 123 1369,sv 123 1370,sv 12 1371,.int 800 0,.int 1 0,.int 0 0,.int 0 0,.int 3 0,.ref 862,.bool ae,.int 181 0,.ref 863,.none,.none,.none,.ref 864,.int 1372 0,.int 800 0,sv 12 1373]
noncomputable def d3(P:aS):ag DictEntry:=[e P 1 166 .none,e P 2 167 .none,e P 3 168 (.builtin PySem.W.SL.s7097527257260152453x26),e P 4 169 .none,e P 9 170 (.ref 6),e P 10 171 (.ref 4),e P 11 173 (sv 12 172),e P 13 174 .none,e P 14 193 (.ref 21),e P 15 202 (.ref 22),e P 16 213 (.ref 23),e P 17 215 (.int 10 214),e P 18 217 (.int 13 216),e P 19 219 (.int 37 218),e P 20 221 (.int 20 220),e P 21 228 (.ref 30),e P 22 235 (.ref 37),e P 23 242 (.ref 44),e P 24 375 (.ref 147),e P 25 417 (.ref 176),e P 26 433 (.ref 189),e P 27 437 (.int 40 436),e P 28 439 (.int 43 438),e P 29 441 (.int 45 440),e P 30 443 (.int 46 442),e P 31 445 (.int 48 444),e P 32 560 (.ref 285),e P 33 567 (.ref 296),e P 34 579 (.ref 303),e P 35 583 (.int 40 582),e P 36 585 (.int 41 584),e P 37 587 (.int 60 586),e P 38 589 (.int 62 588),e P 39 591 (.int 47 590),e P 40 593 (.int 92 592),e P 41 595 (.int 35 594),e P 42 600 (.ref 304),e P 43 607 (.ref 311),e P 44 614 (.ref 318),e P 45 629 (.ref 326),e P 46 639 (.ref 333),e P 47 647 (.ref 340),e P 48 658 (.ref 347),e P 49 664 (.ref 352),e P 50 674 (.ref 359),e P 51 683 (.ref 366),e P 52 692 (.ref 373),e P 53 700 (.ref 380),e P 54 731 (.ref 397),e P 55 762 (.ref 419),e P 56 793 (.ref 440),e P 57 831 (.ref 468),e P 58 838 (.ref 479),e P 59 846 (.ref 486),e P 60 852 (.ref 491),e P 61 853 (.ref 491),e P 62 859 (.ref 496),e P 63 871 (.ref 503),e P 64 875 (.int 40 874),e P 65 912 (.ref 527),e P 66 919 (.ref 538),e P 67 929 (.ref 545),e P 68 937 (.ref 552),e P 69 949 (.ref 559),e P 70 955 (.ref 564),e P 71 966 (.ref 571),e P 72 981 (.ref 579),e P 73 985 (.int 40 984),e P 74 987 (.int 40 986),e P 75 989 (.int 92 988),e P 76 991 (.int 40 990),e P 77 993 (.int 41 992),e P 78 995 (.int 13 994),e P 79 997 (.int 35 996),e P 80 999 (.bytes ⟨[48,49,50,51,52,53,54,55,56,57,65,66,67,68,69,70]⟩ 998),e P 81 1005 (.ref 584),e P 82 1012 (.ref 591),e P 83 1022 (.ref 598),e P 84 1029 (.ref 605),e P 85 1035 (.ref 610),e P 86 1045 (.ref 617),e P 87 1056 (.ref 624),e P 88 1065 (.ref 631),e P 89 1075 (.ref 638),e P 90 1084 (.ref 645),e P 91 1092 (.ref 652),e P 92 1102 (.ref 659),e P 93 1113 (.ref 666),e P 94 1121 (.ref 673),e P 95 1131 (.ref 680),e P 96 1140 (.ref 687),e P 97 1150 (.ref 694),e P 98 1156 (.ref 695),e P 99 1193 (.ref 717),e P 100 1200 (.ref 728),e P 101 1206 (.ref 733),e P 102 1215 (.ref 740),e P 103 1223 (.ref 747),e P 104 1232 (.ref 754),e P 105 1240 (.ref 761),e P 106 1251 (.ref 768),e P 107 1257 (.ref 773),e P 108 1272 (.ref 780),e P 109 1278 (.ref 785),e P 110 1284 (.ref 791),e P 111 1295 (.ref 798),e P 112 1304 (.ref 805),e P 113 1312 (.ref 812),e P 114 1318 (.ref 817),e P 115 1324 (.ref 822),e P 116 1330 (.ref 827),e P 117 1336 (.ref 832),e P 118 1342 (.ref 837),e P 119 1348 (.ref 842),e P 120 1355 (.ref 849),e P 121 1362 (.ref 856),e P 122 1368 (.ref 861),e P 123 1374 (.ref 866)]
noncomputable def d2(P:aS):ag DictEntry:=[e P 6 414 (.int 176 0),e P 7 415 (.int 1 0)]
noncomputable def d12:ag Value:=[.int 1 0,.int 0 0,.ref 20,.int 11 0,.int 0 0,.ref 29,.int 13 0,.int 0 0,.ref 36,.int 15 0,.int 0 0,.ref 43,.int 17 0,.int 0 0,.ref 50,.int 94 0,.int 0 0,.ref 157,.int 103 0,.int 0 0,.ref 185,.int 111 0,.int 0 0,.ref 197,.int 159 0,.int 0 0,.ref 295,.int 161 0,.int 0 0,.ref 302,.int 192 0,.int 0 0,.ref 310,.int 200 0,.int 0 0,.ref 317,.int 212 0,.int 0 0,.ref 325,.int 228 0,.int 0 0,.ref 332,.int 235 0,.int 0 0,.ref 339,.int 244 0,.int 0 0,.ref 346,.int 264 0,.int 0 0,.ref 351,.int 279 0,.int 0 0,.ref 358,.int 287 0,.int 0 0,.ref 365,.int 305 0,.int 0 0,.ref 372,.int 314 0,.int 0 0,.ref 379,.int 317 0,.int 0 0,.ref 386,.int 321 0,.int 0 0,.ref 407,.int 326 0,.int 0 0,.ref 429,.int 331 0,.int 0 0,.ref 450,.int 339 0,.int 0 0,.ref 478,.int 361 0,.int 0 0,.ref 485,.int 375 0,.int 0 0,.ref 490,.int 385 0,.int 0 0,.ref 495,.int 394 0,.int 0 0,.ref 502,.int 406 0,.int 0 0,.ref 509,.int 414 0,.int 0 0,.ref 537,.int 416 0,.int 0 0,.ref 544,.int 425 0,.int 0 0,.ref 551,.int 433 0,.int 0 0,.ref 558,.int 450 0,.int 0 0,.ref 563,.int 455 0,.int 0 0,.ref 570,.int 465 0,.int 0 0,.ref 578,.int 494 0,.int 0 0,.ref 583,.int 496 0,.int 0 0,.ref 590,.int 498 0,.int 0 0,.ref 597,.int 510 0,.int 0 0,.ref 604,.int 514 0,.int 0 0,.ref 609,.int 524 0,.int 0 0,.ref 616,.int 538 0,.int 0 0,.ref 623,.int 551 0,.int 0 0,.ref 630,.int 557 0,.int 0 0,.ref 637,.int 563 0,.int 0 0,.ref 644,.int 577 0,.int 0 0,.ref 651,.int 583 0,.int 0 0,.ref 658,.int 590 0,.int 0 0,.ref 665,.int 603 0,.int 0 0,.ref 672,.int 605 0,.int 0 0,.ref 679,.int 614 0,.int 0 0,.ref 686,.int 620 0,.int 0 0,.ref 693,.int 632 0,.int 0 0,.ref 701,.int 640 0,.int 0 0,.ref 727,.int 642 0,.int 0 0,.ref 732,.int 644 0,.int 0 0,.ref 739,.int 655 0,.int 0 0,.ref 746,.int 659 0,.int 0 0,.ref 753,.int 671 0,.int 0 0,.ref 760,.int 674 0,.int 0 0,.ref 767,.int 693 0,.int 0 0,.ref 772,.int 699 0,.int 0 0,.ref 779,.int 711 0,.int 0 0,.ref 784,.int 717 0,.int 0 0,.ref 790,.int 723 0,.int 0 0,.ref 797,.int 728 0,.int 0 0,.ref 804,.int 735 0,.int 0 0,.ref 811,.int 737 0,.int 0 0,.ref 816,.int 739 0,.int 0 0,.ref 821,.int 750 0,.int 0 0,.ref 826,.int 761 0,.int 0 0,.ref 831,.int 771 0,.int 0 0,.ref 836,.int 774 0,.int 0 0,.ref 841,.int 776 0,.int 0 0,.ref 848,.int 781 0,.int 0 0,.ref 855,.int 787 0,.int 0 0,.ref 860,.int 800 0,.int 0 0,.ref 865]
noncomputable def x3(P:aS)(v:ao)(n:aj):Obj:=⟨.type S2,ac,.dict ⟨e P 0 165 v::(d3 P).take n⟩ (n+1),⟨[]⟩⟩
noncomputable def x2(P:aS)(n:aj):Obj:=⟨.none,ac,.dict ⟨(d2 P).take n⟩ n,⟨[]⟩⟩
noncomputable def yT(n:aj):Obj:=⟨.none,ac,.fields ⟨d12.take n⟩,⟨[]⟩⟩
noncomputable def lY(subs:ag ao):Obj:=⟨(.type S3),ac,(.cls {name:=(fG 25),bases:=[.type S15],mro:=[.ref 176,.type S15,.type S16,.type S5],ns:=175,qualname:=(fG 25),subclasses:=subs}),⟨[aa (.ref 152),ac,aa (sv 25 378),aa (sv 25 386),aa (.builtin pF),aa (.bool ae)]⟩⟩
noncomputable def hJ(l:ag (ag fE)):ag Obj:=@tZ (ag fE) (λZ=>ag fE) [] (λa Z ih=>@tZ fE (λZ=>ag fE) ih (λo Z r=>o::r) a) l
noncomputable def hM(l:ag aj):aj->ag Value:=@tZ aj (λZ=>aj->ag ao) (λZ=>[]) (λa Z ih n=>sv a n::ih (n+1)) l
noncomputable def hV(z q:aj)(t l np fl k:aj)(b:aW)(r1 r2 r3:ao)(u:aj):Obj:=fL S1 [sv z t,sv q (t+1),sv 12 (t+2),.int l 0,.int np 0,.int 0 0,.int 0 0,.int fl 0,.ref k,.bool b,.int 181 0,.ref (k+1),.none,r1,r2,r3,.int u 0,.int l 0,sv 12 (u+1)]
noncomputable def hH(k:aj)(s:oY)(z q:aj)(t l np:aj)(ns:ag aj)(x:ag ao):ag Obj:=[sq x 0,fe [],sq (hM ns (t+3)) 0,sq [] 0,pf s (fG q),hV z q t l np 3 k ae (.ref (k+2)) (.ref (k+3)) (.ref (k+4)) (t+3+ns.length)]
noncomputable def hI(k:aj)(s:oY)(z q:aj)(t l np:aj)(ns:ag aj)(x:ag ao)(m d:ao):ag Obj:=hJ [hH k s z q t l np ns x,[fo s (fG q) m (k+5) d]]
noncomputable def hB(k:aj)(s:oY)(z q:aj)(t l np:aj)(ns:ag aj):ag Obj:=hH k s z q t l np ns []
noncomputable def hG(k:aj)(s:oY)(z q:aj)(t l np:aj)(ns:ag aj)(m d:ao):ag Obj:=hI k s z q t l np ns [] m d
noncomputable def hK(c a b:aj):ag Obj:=[fL S6 [sv 166 a,.ref c,.builtin S13,.builtin S14],fL S6 [sv 167 b,.ref c,.builtin S11,.none],fL S8 [.ref c,.ref c,.ref c],fL S4 [.builtin S10,.ref c]]
noncomputable def hC(n c d a b:aj):Obj:=⟨(.type S3),ac,(.cls {name:=(fG n),bases:=[.type S5],mro:=[.ref c,.type S5],ns:=d,qualname:=(fG n),subclasses:=[]}),⟨[ac,ac,aa (sv n a),aa (sv n b),aa (.builtin S12),aa (.bool ae)]⟩⟩
noncomputable def hP(c d a b:aj):Obj:=⟨(.type S7),ac,.plain,⟨[aa (.ref c),aa (.ref 3),aa (.ref d),ac,aa (sv a b),ac,aa (.ref 0)]⟩⟩
noncomputable def objs(P:aS)(a2 a3 a12 aeY:fE):ag Obj:=hJ [[b0 P 0,b0 P 1,a2,a3,b0 P 4,b0 P 5,b0 P 6,b0 P 7,b0 P 8,b0 P 9,b0 P 10,o11 P,a12,hV 124 124 182 1 0 0 11 af n0 n0 n0 185,hP 13 3 5 164],hG 15 (tp 0) 14 14 187 1 1 [125] (sv 5 164) .none,[sq [.int 0 196,.int 9 197,.int 10 198,.int 12 199,.int 13 200,.int 32 201] 0,sq [.int 40 203,.int 41 204,.int 60 205,.int 62 206,.int 91 207,.int 93 208,.int 123 209,.int 125 210,.int 47 211,.int 37 212] 0],hG 24 (tp 8) 21 21 222 11 1 [126] (sv 127 194) .none,hG 31 (tp 9) 22 22 229 13 1 [126] (sv 127 194) .none,hG 38 (tp 10) 23 23 236 15 1 [126] (sv 127 194) .none,[sq [] 0,fL S4 [.builtin S9,.type S3],⟨(.type S2),ac,(.dict ⟨[e P 128 250 (sv 127 194),e P 129 252 (sv 24 251),e P 130 254 (.int 17 253),e P 131 267 (.ref 59),e P 132 274 (.ref 66),e P 133 284 (.ref 74),e P 134 292 (.ref 81),e P 135 300 (.ref 88),e P 136 308 (.ref 95),e P 137 316 (.ref 102),e P 138 324 (.ref 109),e P 139 331 (.ref 116),e P 140 338 (.ref 123),e P 141 347 (.ref 130),e P 142 356 (.ref 137),e P 143 364 (.ref 144),e P 144 368 (.ref 145)]⟩ 17),⟨[]⟩⟩,sq [] 0,fe [.int 19 0,.int 4 0,.ref 58,.int 24 0,.int 4 0,.ref 65,.int 27 0,.int 4 0,.ref 73,.int 31 0,.int 4 0,.ref 80,.int 38 0,.int 4 0,.ref 87,.int 41 0,.int 4 0,.ref 94,.int 47 0,.int 4 0,.ref 101,.int 58 0,.int 4 0,.ref 108,.int 64 0,.int 4 0,.ref 115,.int 75 0,.int 4 0,.ref 122,.int 78 0,.int 4 0,.ref 129,.int 88 0,.int 4 0,.ref 136,.int 91 0,.int 4 0,.ref 143],hV 24 24 245 17 0 0 48 af n0 n0 n0 248,hP 50 47 127 194,sq [.int 0 255,(.int (-1) 257)] 0],hG 53 (mt 11 0) 131 149 258 19 4 [145,146,147,148] (sv 127 194) (.ref 52),hG 60 (mt 11 1) 132 150 268 24 1 [145] (sv 127 194) .none,[sq [.int 0 275] 0],hG 68 (mt 11 2) 133 153 276 27 2 [145,151,152] (sv 127 194) (.ref 67),hG 75 (mt 11 3) 134 154 285 31 1 [145,126] (sv 127 194) .none,hG 82 (mt 11 4) 135 156 293 38 2 [145,155] (sv 127 194) .none,hG 89 (mt 11 5) 136 157 301 41 2 [145,155] (sv 127 194) .none,hG 96 (mt 11 6) 137 158 309 47 1 [145,126] (sv 127 194) .none,hG 103 (mt 11 7) 138 160 317 58 1 [145,159] (sv 127 194) .none,hG 110 (mt 11 8) 139 161 325 64 1 [145] (sv 127 194) .none,hG 117 (mt 11 9) 140 162 332 75 1 [145] (sv 127 194) .none,hG 124 (mt 11 10) 141 163 339 78 1 [145,159,141] (sv 127 194) .none,hG 131 (mt 11 11) 142 164 348 88 3 [145,155,159] (sv 127 194) .none,hG 138 (mt 11 12) 143 165 357 91 2 [145,155] (sv 127 194) .none,[sq [sv 147 365,sv 146 366,sv 148 367] 0,aeP P,hC 24 147 146 243 251],hK 147 369 371,[sq [.type S15] 0,fL S4 [.builtin S9,.type S3],⟨(.type S2),ac,(.dict ⟨[e P 128 385 (sv 168 376),e P 129 387 (sv 25 386),e P 130 389 (.int 94 388),e P 131 400 (.ref 166),e P 60 407 (.ref 173),e P 144 410 (.ref 174)]⟩ 6),⟨[]⟩⟩,sq [] 0,fe [.int 96 0,.int 4 0,.ref 165,.int 101 0,.int 4 0,.ref 172],hV 25 25 380 94 0 0 155 af n0 n0 n0 383,hP 157 154 168 376,sq [(.int (-1) 391)] 0],hB 160 (mt 13 0) 131 170 392 96 3 [145,169,147],[US P],hG 167 (mt 13 1) 60 171 401 101 1 [145] (sv 168 376) .none,[sq [sv 147 408,sv 169 409] 0,aeQ P,aeY,fL S6 [sv 167 411,.ref 176,.builtin S11,.none],fL S8 [.ref 176,.ref 176,.ref 176],fL S4 [.builtin S10,.ref 176],sq [.ref 176] 0,fL S4 [.builtin S9,.type S3],⟨(.type S2),ac,(.dict ⟨[e P 128 425 (sv 168 376),e P 129 427 (sv 26 426),e P 130 429 (.int 103 428),e P 144 430 (.ref 187)]⟩ 4),⟨[]⟩⟩,sq [] 0,fe [],hV 26 26 420 103 0 0 183 af n0 n0 n0 423,hP 185 182 168 376,sq [] 0,aeR P,aeS P,fL S8 [.ref 189,.ref 189,.ref 189],fL S4 [.builtin S10,.ref 189],sq [] 0,fL S4 [.builtin S9,.type S3],⟨(.type S2),ac,(.dict ⟨[e P 128 453 (sv 172 434),e P 129 455 (sv 32 454),e P 130 457 (.int 111 456),e P 131 466 (.ref 205),e P 173 474 (.ref 212),e P 174 482 (.ref 219),e P 175 490 (.ref 226),e P 176 497 (.ref 233),e P 177 505 (.ref 240),e P 66 512 (.ref 247),e P 178 519 (.ref 254),e P 179 527 (.ref 261),e P 60 534 (.ref 268),e P 180 542 (.ref 275),e P 181 550 (.ref 282),e P 144 553 (.ref 283)]⟩ 16),⟨[]⟩⟩,sq [] 0,fe [.int 113 0,.int 4 0,.ref 204,.int 120 0,.int 4 0,.ref 211,.int 123 0,.int 4 0,.ref 218,.int 126 0,.int 4 0,.ref 225,.int 129 0,.int 4 0,.ref 232,.int 132 0,.int 4 0,.ref 239,.int 135 0,.int 4 0,.ref 246,.int 138 0,.int 4 0,.ref 253,.int 141 0,.int 4 0,.ref 260,.int 144 0,.int 4 0,.ref 267,.int 147 0,.int 4 0,.ref 274,.int 154 0,.int 4 0,.ref 281],hV 32 32 448 111 0 0 195 af n0 n0 n0 451,hP 197 194 172 434],hG 199 (mt 21 0) 131 184 458 113 3 [145,182,183] (sv 172 434) .none,hG 206 (mt 21 1) 173 186 467 120 2 [145,185] (sv 172 434) .none,hG 213 (mt 21 2) 174 187 475 123 2 [145,185] (sv 172 434) .none,hG 220 (mt 21 3) 175 188 483 126 2 [145,185] (sv 172 434) .none,hG 227 (mt 21 4) 176 189 491 129 1 [145] (sv 172 434) .none,hG 234 (mt 21 5) 177 190 498 132 2 [145,185] (sv 172 434) .none,hG 241 (mt 21 6) 66 191 506 135 1 [145] (sv 172 434) .none,hG 248 (mt 21 7) 178 192 513 138 1 [145] (sv 172 434) .none,hG 255 (mt 21 8) 179 193 520 141 2 [145,183] (sv 172 434) .none,hG 262 (mt 21 9) 60 194 528 144 1 [145] (sv 172 434) .none,hG 269 (mt 21 10) 180 196 535 147 1 [145,195] (sv 172 434) .none,hG 276 (mt 21 11) 181 197 543 154 1 [145,195] (sv 172 434) .none,[sq [sv 183 551,sv 182 552] 0,aeT P,hC 32 285 284 446 454],hK 285 554 556,hG 290 (tp 22) 33 33 561 159 1 [141] (sv 172 434) .none,hG 297 (tp 23) 34 34 568 161 1 [198,199,182,195,183,126] (sv 172 434) .none,[sq [.int 91 596,.int 93 597,.int 123 598,.int 125 599] 0],hG 305 (tp 33) 43 43 601 192 1 [126] (sv 200 580) .none,hG 312 (tp 34) 44 44 608 200 1 [126] (sv 200 580) .none,[sq [(.int (-1) 616)] 0],hG 320 (tp 35) 45 45 617 212 2 [198,147,201,202,126,203,204] (sv 200 580) (.ref 319),hG 327 (tp 36) 46 46 630 228 2 [205,159,126,206] (sv 200 580) .none,hG 334 (tp 37) 47 47 640 235 1 [205,126] (sv 200 580) .none,hG 341 (tp 38) 48 48 648 244 1 [205,207,208,209,126] (sv 200 580) .none,[sq [] 0,fe [],pf (tp 39) (fG 49),hV 49 49 659 264 1 3 348 ae .none .none (.ref 350) 662,fo (tp 39) (fG 49) (sv 200 580) 351 .none],hG 353 (tp 40) 50 50 665 279 2 [205,147,210,141] (sv 200 580) .none,hG 360 (tp 41) 51 51 675 287 3 [205,126,147] (sv 200 580) .none,hG 367 (tp 42) 52 52 684 305 1 [205,147,126] (sv 200 580) .none,hG 374 (tp 43) 53 53 693 314 2 [211,212] (sv 200 580) .none,[sq [] 0,fL S4 [.builtin S9,.type S3],⟨(.type S2),ac,(.dict ⟨[e P 128 710 (sv 213 701),e P 129 712 (sv 54 711),e P 130 714 (.int 317 713),e P 131 722 (.ref 394),e P 144 724 (.ref 395)]⟩ 5),⟨[]⟩⟩,sq [] 0,fe [.int 319 0,.int 4 0,.ref 393],hV 54 54 705 317 0 0 384 af n0 n0 n0 708,hP 386 383 213 701],hG 388 (mt 45 0) 131 214 715 319 2 [145,180] (sv 213 701) .none,[sq [sv 180 723] 0,aeU P,hC 54 397 396 703 711],hK 397 725 727,[sq [] 0,fL S4 [.builtin S9,.type S3],⟨(.type S2),ac,(.dict ⟨[e P 128 739 (sv 213 701),e P 129 741 (sv 55 740),e P 130 743 (.int 321 742),e P 131 752 (.ref 416),e P 144 755 (.ref 417)]⟩ 5),⟨[]⟩⟩,sq [] 0,fe [.int 323 0,.int 4 0,.ref 415],hV 55 55 734 321 0 0 405 af n0 n0 n0 737,hP 407 404 213 701,sq [.bool af] 0],hG 410 (mt 46 0) 131 216 744 323 3 [145,198,215] (sv 213 701) (.ref 409),[sq [sv 215 753,sv 198 754] 0,aeV P,hC 55 419 418 732 740],hK 419 756 758,[sq [] 0,fL S4 [.builtin S9,.type S3],⟨(.type S2),ac,(.dict ⟨[e P 128 770 (sv 213 701),e P 129 772 (sv 56 771),e P 130 774 (.int 326 773),e P 131 783 (.ref 437),e P 144 786 (.ref 438)]⟩ 5),⟨[]⟩⟩,sq [] 0,fe [.int 328 0,.int 4 0,.ref 436],hV 56 56 765 326 0 0 427 af n0 n0 n0 768,hP 429 426 213 701],hG 431 (mt 47 0) 131 218 775 328 3 [145,217,198] (sv 213 701) .none,[sq [sv 217 784,sv 198 785] 0,⟨(.type S2),ac,(.dict ⟨[e P 128 770 (sv 213 701),e P 130 774 (.int 326 773),e P 131 783 (.ref 437),e P 144 786 (.ref 438),e P 166 788 (.ref 441),e P 167 790 (.ref 442),e P 1 791 .none]⟩ 4),⟨[]⟩⟩,hC 56 440 439 763 771],hK 440 787 789,[sq [] 0,fL S4 [.builtin S9,.type S3],⟨(.type S2),ac,(.dict ⟨[e P 128 801 (sv 213 701),e P 129 803 (sv 57 802),e P 130 805 (.int 331 804),e P 131 814 (.ref 458),e P 219 821 (.ref 465),e P 144 824 (.ref 466)]⟩ 6),⟨[]⟩⟩,sq [] 0,fe [.int 333 0,.int 4 0,.ref 457,.int 337 0,.int 4 0,.ref 464],hV 57 57 796 331 0 0 448 af n0 n0 n0 799,hP 450 447 213 701],hG 452 (mt 48 0) 131 221 806 333 3 [145,141,220] (sv 213 701) .none,hG 459 (mt 48 1) 219 222 815 337 1 [145] (sv 213 701) .none,[sq [sv 220 822,sv 141 823] 0,⟨(.type S2),ac,(.dict ⟨[e P 128 801 (sv 213 701),e P 130 805 (.int 331 804),e P 131 814 (.ref 458),e P 219 821 (.ref 465),e P 144 824 (.ref 466),e P 166 826 (.ref 469),e P 167 828 (.ref 470),e P 1 829 .none]⟩ 4),⟨[]⟩⟩,hC 57 468 467 794 802],hK 468 825 827,hG 473 (tp 49) 58 58 832 339 1 [223] (sv 213 701) .none,hG 480 (tp 50) 59 59 839 361 2 [224,223] (sv 213 701) .none,[sq [] 0,fe [],pf (tp 51) (fG 60),hV 60 60 847 375 1 3 487 ae .none .none (.ref 489) 850,fo (tp 51) (fG 60) (sv 213 701) 490 .none,sq [] 0,fe [],pf (tp 53) (fG 62),hV 62 62 854 385 1 3 492 ae .none .none (.ref 494) 857,fo (tp 53) (fG 62) (sv 213 701) 495 .none],hG 497 (tp 54) 63 63 860 394 1 [223,225,226,227,228,229] (sv 213 701) .none,[sq [] 0,fL S4 [.builtin S9,.type S3],⟨(.type S2),ac,(.dict ⟨[e P 128 883 (sv 230 872),e P 129 885 (sv 65 884),e P 130 887 (.int 406 886),e P 131 895 (.ref 517),e P 231 902 (.ref 524),e P 144 905 (.ref 525)]⟩ 6),⟨[]⟩⟩,sq [] 0,fe [.int 408 0,.int 4 0,.ref 516,.int 412 0,.int 4 0,.ref 523],hV 65 65 878 406 0 0 507 af n0 n0 n0 881,hP 509 506 230 872],hG 511 (mt 57 0) 131 233 888 408 2 [145,232] (sv 230 872) .none,hG 518 (mt 57 1) 231 234 896 412 1 [145] (sv 230 872) .none,[sq [sv 235 903,sv 232 904] 0,aeW P,hC 65 527 526 876 884],hK 527 906 908,hG 532 (tp 58) 66 66 913 414 1 [223] (sv 230 872) .none,hG 539 (tp 59) 67 67 920 416 2 [205,141,236,220] (sv 230 872) .none,hG 546 (tp 60) 68 68 930 425 2 [237,147] (sv 230 872) .none,hG 553 (tp 61) 69 69 938 433 3 [205,211,238,224,237,147] (sv 230 872) .none,[sq [] 0,fe [],pf (tp 62) (fG 70),hV 70 70 950 450 1 3 560 ae .none .none (.ref 562) 953,fo (tp 62) (fG 70) (sv 230 872) 563 .none],hG 565 (tp 63) 71 71 956 455 3 [239,237,147,207,240] (sv 230 872) .none,[sq [.bool ae] 0],hG 573 (tp 64) 72 72 967 465 3 [205,211,238,239,224,237,147,241,223] (sv 230 872) (.ref 572),[sq [] 0,fe [],pf (tp 74) (fG 81),hV 81 81 1000 494 1 3 580 ae .none .none (.ref 582) 1003,fo (tp 74) (fG 81) (sv 242 982) 583 .none],hG 585 (tp 75) 82 82 1006 496 1 [126] (sv 242 982) .none,hG 592 (tp 76) 83 83 1013 498 1 [180,243,212,126] (sv 242 982) .none,hG 599 (tp 77) 84 84 1023 510 1 [141] (sv 242 982) .none,[sq [] 0,fe [],pf (tp 78) (fG 85),hV 85 85 1030 514 2 3 606 ae .none .none (.ref 608) 1033,fo (tp 78) (fG 85) (sv 242 982) 609 .none],hG 611 (tp 79) 86 86 1036 524 1 [198,244,245,147] (sv 242 982) .none,hG 618 (tp 80) 87 87 1046 538 1 [198,245,243,147,126] (sv 242 982) .none,hG 625 (tp 81) 88 88 1057 551 1 [198,243,126] (sv 242 982) .none,hG 632 (tp 82) 89 89 1066 557 2 [223,246,247,248] (sv 242 982) .none,hG 639 (tp 83) 90 90 1076 563 3 [224,223,246] (sv 242 982) .none,hG 646 (tp 84) 91 91 1085 577 2 [249,223] (sv 242 982) .none,hG 653 (tp 85) 92 92 1093 583 3 [249,223,246,250] (sv 242 982) .none,hG 660 (tp 86) 93 93 1103 590 3 [249,223,246,224,229] (sv 242 982) .none,hG 667 (tp 87) 94 94 1114 603 2 [251,252] (sv 242 982) .none,hG 674 (tp 88) 95 95 1122 605 2 [249,246,243,147] (sv 242 982) .none,hG 681 (tp 89) 96 96 1132 614 1 [223,217,250] (sv 242 982) .none,hG 688 (tp 90) 97 97 1141 620 2 [223,246,249,253] (sv 242 982) .none,[⟨(.type S0),ac,(.seq ⟨[(.bytes ⟨[116,114,117,101]⟩ 1153),(.bytes ⟨[102,97,108,115,101]⟩ 1154),(.bytes ⟨[110,117,108,108]⟩ 1155)]⟩ 0),⟨[]⟩⟩,sq [] 0,fL S4 [.builtin S9,.type S3],⟨(.type S2),ac,(.dict ⟨[e P 128 1164 (sv 254 1151),e P 129 1166 (sv 99 1165),e P 130 1168 (.int 632 1167),e P 131 1177 (.ref 709),e P 60 1183 (.ref 714),e P 144 1186 (.ref 715)]⟩ 6),⟨[]⟩⟩,sq [] 0,fe [.int 634 0,.int 4 0,.ref 708,.int 638 0,.int 4 0,.ref 713],hV 99 99 1159 632 0 0 699 af n0 n0 n0 1162,hP 701 698 254 1151],hG 703 (mt 93 0) 131 256 1169 634 3 [145,155,255] (sv 254 1151) .none,[sq [] 0,fe [],pf (mt 93 1) (fG 257),hV 60 257 1178 638 1 3 710 ae .none .none (.ref 712) 1181,fo (mt 93 1) (fG 257) (sv 254 1151) 713 .none,sq [sv 255 1184,sv 155 1185] 0,aeX P,hC 99 717 716 1157 1165],hK 717 1187 1189,hG 722 (tp 94) 100 100 1194 640 1 [211] (sv 254 1151) .none,[sq [] 0,fe [],pf (tp 95) (fG 101),hV 101 101 1201 642 1 3 729 ae .none .none (.ref 731) 1204,fo (tp 95) (fG 101) (sv 254 1151) 732 .none],hG 734 (tp 96) 102 102 1207 644 1 [205,235,211] (sv 254 1151) .none,hG 741 (tp 97) 103 103 1216 655 2 [205,147] (sv 254 1151) .none,hG 748 (tp 98) 104 104 1224 659 1 [205,199,147] (sv 254 1151) .none,hG 755 (tp 99) 105 105 1233 671 1 [205,217] (sv 254 1151) .none,hG 762 (tp 100) 106 106 1241 674 1 [146,205,243,255,211] (sv 254 1151) .none,[sq [] 0,fe [],pf (tp 101) (fG 107),hV 107 107 1252 693 1 3 769 ae .none .none (.ref 771) 1255,fo (tp 101) (fG 107) (sv 254 1151) 772 .none],hG 774 (tp 102) 108 108 1258 699 2 [258,246,217,198,259,250,260,261,205] (sv 254 1151) .none,[sq [] 0,fe [],pf (tp 103) (fG 109),hV 109 109 1273 711 2 3 781 ae .none .none (.ref 783) 1276,fo (tp 103) (fG 109) (sv 254 1151) 784 .none,sq [.bool af] 0,sq [] 0,fe [],pf (tp 104) (fG 110),hV 110 110 1279 717 2 3 787 ae .none .none (.ref 789) 1282,fo (tp 104) (fG 110) (sv 254 1151) 790 (.ref 786)],hG 792 (tp 106) 111 111 1287 723 1 [262,141,263] (sv 8 1285) .none,hG 799 (tp 107) 112 112 1296 728 2 [264,265,266] (sv 8 1285) .none,hG 806 (tp 108) 113 113 1305 735 2 [264,267] (sv 8 1285) .none,[sq [] 0,fe [],pf (tp 109) (fG 114),hV 114 114 1313 737 2 3 813 ae .none .none (.ref 815) 1316,fo (tp 109) (fG 114) (sv 8 1285) 816 .none,sq [] 0,fe [],pf (tp 110) (fG 115),hV 115 115 1319 739 1 3 818 ae .none .none (.ref 820) 1322,fo (tp 110) (fG 115) (sv 8 1285) 821 .none,sq [] 0,fe [],pf (tp 111) (fG 116),hV 116 116 1325 750 2 3 823 ae .none .none (.ref 825) 1328,fo (tp 111) (fG 116) (sv 8 1285) 826 .none,sq [] 0,fe [],pf (tp 112) (fG 117),hV 117 117 1331 761 1 3 828 ae .none .none (.ref 830) 1334,fo (tp 112) (fG 117) (sv 8 1285) 831 .none,sq [] 0,fe [],pf (tp 113) (fG 118),hV 118 118 1337 771 1 3 833 ae .none .none (.ref 835) 1340,fo (tp 113) (fG 118) (sv 8 1285) 836 .none,sq [] 0,fe [],pf (tp 114) (fG 119),hV 119 119 1343 774 1 3 838 ae .none .none (.ref 840) 1346,fo (tp 114) (fG 119) (sv 8 1285) 841 .none],hG 843 (tp 115) 120 120 1349 776 1 [146] (sv 8 1285) .none,hG 850 (tp 116) 121 121 1356 781 1 [268] (sv 8 1285) .none,[sq [] 0,fe [],pf (tp 117) (fG 122),Y0 P,fo (tp 117) (fG 122) (sv 8 1285) 860 .none,sq [] 0,fe [],pf (tp 118) (fG 123),Y1 P,fo (tp 118) (fG 123) (sv 8 1285) 865 .none]]
noncomputable def UT(P:aS)(os:eE):SharedT:=⟨mk ((objs P (x2 P 0) (x3 P (sv 5 164) 8) (yT 0) (lY [])).take 15),15,{},⟨[]⟩,{},187,os⟩
noncomputable def st1(P:aS)(os:eE):SharedT:=⟨mk ((objs P (x2 P 0) (x3 P (sv 127 194) 18) (yT 12) (lY [])).take 45),45,{},⟨[]⟩,{},243,os⟩
noncomputable def st2(P:aS)(os:eE):SharedT:=⟨mk ((objs P (x2 P 0) (x3 P (sv 127 194) 19) (yT 15) (lY [])).take 152),152,{},⟨[]⟩,{},376,os⟩
noncomputable def st3(P:aS)(os:eE):SharedT:=⟨mk ((objs P (x2 P 2) (x3 P (sv 168 376) 20) (yT 18) (lY [])).take 180),180,{},⟨[]⟩,{},418,os⟩
noncomputable def st4(P:aS)(os:eE):SharedT:=⟨mk ((objs P (x2 P 2) (x3 P (sv 172 434) 26) (yT 21) (lY [.ref 189])).take 192),192,{},⟨[]⟩,{},446,os⟩
noncomputable def st5(P:aS)(os:eE):SharedT:=⟨mk ((objs P (x2 P 2) (x3 P (sv 172 434) 27) (yT 24) (lY [.ref 189])).take 290),290,{},⟨[]⟩,{},561,os⟩
noncomputable def st6(P:aS)(os:eE):SharedT:=⟨mk ((objs P (x2 P 2) (x3 P (sv 200 580) 44) (yT 51) (lY [.ref 189])).take 353),353,{},⟨[]⟩,{},665,os⟩
noncomputable def st7(P:aS)(os:eE):SharedT:=⟨mk ((objs P (x2 P 2) (x3 P (sv 213 701) 49) (yT 66) (lY [.ref 189])).take 402),402,{},⟨[]⟩,{},732,os⟩
noncomputable def st8(P:aS)(os:eE):SharedT:=⟨mk ((objs P (x2 P 2) (x3 P (sv 213 701) 50) (yT 69) (lY [.ref 189])).take 424),424,{},⟨[]⟩,{},763,os⟩
noncomputable def st9(P:aS)(os:eE):SharedT:=⟨mk ((objs P (x2 P 2) (x3 P (sv 213 701) 51) (yT 72) (lY [.ref 189])).take 445),445,{},⟨[]⟩,{},794,os⟩
noncomputable def Y2(P:aS)(os:eE):SharedT:=⟨mk ((objs P (x2 P 2) (x3 P (sv 213 701) 57) (yT 87) (lY [.ref 189])).take 497),497,{},⟨[]⟩,{},860,os⟩
noncomputable def Y3(P:aS)(os:eE):SharedT:=⟨mk ((objs P (x2 P 2) (x3 P (sv 230 872) 63) (yT 102) (lY [.ref 189])).take 553),553,{},⟨[]⟩,{},938,os⟩
noncomputable def Y4(P:aS)(os:eE):SharedT:=⟨mk ((objs P (x2 P 2) (x3 P (sv 242 982) 81) (yT 132) (lY [.ref 189])).take 618),618,{},⟨[]⟩,{},1046,os⟩
noncomputable def Y5(P:aS)(os:eE):SharedT:=⟨mk ((objs P (x2 P 2) (x3 P (sv 254 1151) 93) (yT 165) (lY [.ref 189])).take 696),696,{},⟨[]⟩,{},1157,os⟩
noncomputable def Y6(P:aS)(os:eE):SharedT:=⟨mk ((objs P (x2 P 2) (x3 P (sv 254 1151) 99) (yT 183) (lY [.ref 189])).take 755),755,{},⟨[]⟩,{},1233,os⟩
noncomputable def Y7(P:aS)(os:eE):SharedT:=⟨mk ((objs P (x2 P 2) (x3 P (sv 8 1285) 112) (yT 222) (lY [.ref 189])).take 833),833,{},⟨[]⟩,{},1337,os⟩
noncomputable def UU(P:aS)(os:eE):SharedT:=⟨mk ((objs P (x2 P 2) (x3 P (sv 8 1285) 118) (yT 240) (lY [.ref 189])).take 867),867,{},⟨[]⟩,{},1375,os⟩
noncomputable abbrev pw:Program:=aR
noncomputable abbrev vh:=ad0
noncomputable abbrev yU:=ad1
noncomputable abbrev Jj:=ad2
noncomputable def CC(p:j6):Env:={scope:=p.main.scope,locals:=mainNs,globals:=mainNs,cells:=[],code:=.ref 13,frame:=aa 14}
noncomputable def cP(p:j6):Code:=.body (kS p) (CC p)
noncomputable def seg(p:j6)(a n:aj):ag Stmt:=(p.main.body.drop a).take n
noncomputable def yV(l:ag oY)(pos:Pos):Thread:=⟨(Jj l (CC F)).wrap doneF deadEnd id id,cP F,pos,[topFrame ⟨0,0,0,0⟩]⟩
theorem pc0(w:fA):(λos=>yU vh F w 11 (aa (.ref 6)) 1 198 (UT w.params os) (yV (seg F 0 11) ⟨0,0,0,0⟩))=λos=>aa (.next,st1 w.params os,cP F,⟨15,0,16,27⟩):=by kernel_rfl
theorem pc1(w:fA):(λos=>yU vh F w 11 (aa (.ref 6)) 1 621 (st1 w.params os) (yV (seg F 11 1) ⟨15,0,16,27⟩))=λos=>aa (.next,st2 w.params os,cP F,⟨17,0,92,16⟩):=by kernel_rfl
theorem pc2(w:fA):(λos=>yU vh F w 11 (aa (.ref 6)) 1 278 (st2 w.params os) (yV (seg F 12 2) ⟨17,0,92,16⟩))=λos=>aa (.next,st3 w.params os,cP F,⟨94,0,102,35⟩):=by kernel_rfl
theorem pc3(w:fA):(λos=>yU vh F w 11 (aa (.ref 6)) 1 268 (st3 w.params os) (yV (seg F 14 7) ⟨94,0,102,35⟩))=λos=>aa (.next,st4 w.params os,cP F,⟨110,0,110,4⟩):=by kernel_rfl
theorem pc4(w:fA):(λos=>yU vh F w 11 (aa (.ref 6)) 1 573 (st4 w.params os) (yV (seg F 21 1) ⟨110,0,110,4⟩))=λos=>aa (.next,st5 w.params os,cP F,⟨111,0,158,67⟩):=by kernel_rfl
theorem pc5(w:fA):(λos=>yU vh F w 11 (aa (.ref 6)) 1 371 (st5 w.params os) (yV (seg F 22 18) ⟨111,0,158,67⟩))=λos=>aa (.next,st6 w.params os,cP F,⟨264,0,278,62⟩):=by kernel_rfl
theorem pc6(w:fA):(λos=>yU vh F w 11 (aa (.ref 6)) 1 356 (st6 w.params os) (yV (seg F 40 6) ⟨264,0,278,62⟩))=λos=>aa (.next,st7 w.params os,cP F,⟨317,0,320,24⟩):=by kernel_rfl
theorem pc7(w:fA):(λos=>yU vh F w 11 (aa (.ref 6)) 1 226 (st7 w.params os) (yV (seg F 46 1) ⟨317,0,320,24⟩))=λos=>aa (.next,st8 w.params os,cP F,⟨321,0,325,28⟩):=by kernel_rfl
theorem pc8(w:fA):(λos=>yU vh F w 11 (aa (.ref 6)) 1 225 (st8 w.params os) (yV (seg F 47 1) ⟨321,0,325,28⟩))=λos=>aa (.next,st9 w.params os,cP F,⟨326,0,330,28⟩):=by kernel_rfl
theorem pc9(w:fA):(λos=>yU vh F w 11 (aa (.ref 6)) 1 377 (st9 w.params os) (yV (seg F 48 6) ⟨326,0,330,28⟩))=λos=>aa (.next,Y2 w.params os,cP F,⟨385,0,393,13⟩):=by kernel_rfl
theorem aeZ(w:fA):(λos=>yU vh F w 11 (aa (.ref 6)) 1 398 (Y2 w.params os) (yV (seg F 54 7) ⟨385,0,393,13⟩))=λos=>aa (.next,Y3 w.params os,cP F,⟨425,0,432,44⟩):=by kernel_rfl
theorem ae0(w:fA):(λos=>yU vh F w 11 (aa (.ref 6)) 1 387 (Y3 w.params os) (yV (seg F 61 19) ⟨425,0,432,44⟩))=λos=>aa (.next,Y4 w.params os,cP F,⟨524,0,537,15⟩):=by kernel_rfl
theorem ae1(w:fA):(λos=>yU vh F w 11 (aa (.ref 6)) 1 370 (Y4 w.params os) (yV (seg F 80 13) ⟨524,0,537,15⟩))=λos=>aa (.next,Y5 w.params os,cP F,⟨631,0,631,11⟩):=by kernel_rfl
theorem ae2(w:fA):(λos=>yU vh F w 11 (aa (.ref 6)) 1 400 (Y5 w.params os) (yV (seg F 93 6) ⟨631,0,631,11⟩))=λos=>aa (.next,Y6 w.params os,cP F,⟨659,0,670,36⟩):=by kernel_rfl
theorem ae3(w:fA):(λos=>yU vh F w 11 (aa (.ref 6)) 1 385 (Y6 w.params os) (yV (seg F 99 14) ⟨659,0,670,36⟩))=λos=>aa (.next,Y7 w.params os,cP F,⟨761,0,770,76⟩):=by kernel_rfl
theorem ae4(w:fA):(λos=>yU vh F w 11 (aa (.ref 6)) 1 163 (Y7 w.params os) (yV (seg F 113 6) ⟨761,0,770,76⟩))=λos=>aa (.next,UU w.params os,cP F,⟨800,0,815,51⟩):=by kernel_rfl
abbrev ann:ar Value:=aa (.ref 6)
abbrev p0:Pos:=⟨0,0,0,0⟩
noncomputable abbrev Jk:=ad3
noncomputable abbrev EI:=ad4
noncomputable abbrev EJ:=ad5
noncomputable abbrev EK:=ad6
noncomputable def Jl(w:fA)(os:eE):Shared:=⟨mF w.params,⟨[]⟩,boot_drawn,boot_toks,os⟩
theorem ae5(w:fA):(λos=>Jk vh F w 11 ann 12 (Jl w os) (topStub F))=λos=>aa ((UT w.params os).abs,(⟨EK vh (cP F),cP F,p0,[topFrame p0]⟩ :Thread)):=by kernel_rfl
theorem UW(w:fA):(λos=>EI vh F w 11 ann 1 1 (UT w.params os).abs (blockOf (kS F) (CC F) (cP F) p0 [topFrame p0]))=λos=>aa (.next,(UT w.params os).abs,cP F,p0):=by kernel_rfl
theorem Y8(w:fA):((mF w.params).isNs mainGlobals&&(cE.mk []:cE GenState).size==0,(mF w.params).objs.size,nJ (mF w.params) mainGlobals ⟨⟨[95,95,97,110,110,111,116,97,116,105,111,110,115,95,95]⟩⟩)=(ae,11,ann):=by kernel_rfl
noncomputable def loose:ag Str:=(ew 14 109).map fG
noncomputable def qP(p:j6):Program:={p with main:={p.main with body:=seg p 118 1}}
noncomputable def H1(P:aS):Heap:=⟨⟨objs P (x2 P 2) (x3 P (sv 8 1285) 118) (yT 240) (lY [.ref 189])⟩,{}⟩
noncomputable def Jm(w:fA)(os:eE):Shared:=⟨H1 w.params,⟨[]⟩,{},1375,os⟩
theorem ae6(w:fA):(λos=>EJ vh F w 11 ann 2 (UU w.params os).abs ⟨doneF .next,cP F,⟨800,0,815,51⟩,[topFrame p0]⟩)=λos=>aa (Jm w os):=by kernel_rfl
noncomputable abbrev xW:=ad7
noncomputable abbrev imF:=ad8
theorem Y9(w:fA):(λos=>staticsOk (imF F.main.body) (mF w.params) (H1 w.params))=λ(os:eE)=>true:=by kernel_rfl
theorem Za(w:fA):(λos=>namesBound F (H1 w.params))=λ(os:eE)=>true:=by kernel_rfl
theorem Zb(w:fA):(λos=>gensDone (Jm w os))=λ(os:eE)=>true:=by kernel_rfl
theorem Zc(w:fA):(λos=>laidKept (mF w.params) (H1 w.params))=λ(os:eE)=>true:=by kernel_rfl
theorem Zd(w:fA):(λos=>xW (qP F) loose (imF F.main.body) (λZ=>ae) ae (Jm w os))=λ(os:eE)=>openGood (qP F) loose:=by kernel_rfl
theorem xX:aR=F:=rfl
theorem UX:@segRunT=yU:=ad9
theorem EL:treeTable=vh:=aea
theorem Jn:@execs=Jj:=aeb
theorem Jo:@topGo=Jk:=aec
theorem GW:@segRun=EI:=aed
theorem GX:@XW=EJ:=aee
theorem GY:@denote=EK:=aef
theorem Jp:@dK.nsMap=nJ:=aeg
theorem AP:@openSeen=xW:=aeh
theorem SO:@importedModules=imF:=aei
theorem Jq:F.main.body.length=119:=by kernel_rfl
theorem behind:kS F=F.main.body:=by kernel_rfl
section
variable(p:j6)(hp:p=F)(w:fA)(os:eE)
include hp
theorem conv{n:aj}{s s':aS->eE->gN}{a k:aj}{x y:Pos}
 (h:∀w:fA,(λos=>yU vh F w 11 (aa (.ref 6)) 1 n (s w.params os) (yV (seg F a k) x))=λos=>aa (.next,s' w.params os,cP F,y)):
 segRun treeTable p w 11 ann 1 n (s w.params os).abs (piecesOf (seg p a k) (CC p) (cP p) x [topFrame p0])=aa (.next,(s' w.params os).abs,cP p,y):=by
 subst hp;refine segRun_of ?_;have h:=jC (h w) os;unfold yV at h;rw[<-Jn, <-UX, <-EL] at h;exact h
theorem fB{n N:aj}{s s':aS->eE->gN}{a k:aj}{x y:Pos}{r:aG}
 (h:∀w:fA,(λos=>yU vh F w 11 (aa (.ref 6)) 1 n (s w.params os) (yV (seg F a k) x))=λos=>aa (.next,s' w.params os,cP F,y))
 (g:XW treeTable p w 11 ann N (s' w.params os).abs (restOf (p.main.body.drop (a+k)) (CC p) (cP p) y [topFrame p0])=aa r):
 XW treeTable p w 11 ann (n+N) (s w.params os).abs (restOf (p.main.body.drop a) (CC p) (cP p) x [topFrame p0])=aa r:=by
 have e:p.main.body.drop a=seg p a k++p.main.body.drop (a+k):=by
  unfold seg;rw[<-dP,pG]
 rw[e];exact piece_app (conv p hp w os h) g
theorem O0:XW treeTable p w 11 ann 2 (UU w.params os).abs ⟨doneF .next,cP p,⟨800,0,815,51⟩,[topFrame p0]⟩=aa (Jm w os):=by
 subst hp;rw[GX,EL];exact jC (ae6 w) os
theorem O1:topGo treeTable p w 11 ann 12 (Jl w os) (topStub p)=aa ((UT w.params os).abs,(⟨denote treeTable (cP p),cP p,p0,[topFrame p0]⟩ :Thread)):=by
 subst hp;rw[Jo,EL,GY];exact jC (ae5 w) os
theorem GZ:segRun treeTable p w 11 ann 1 1 (UT w.params os).abs (blockOf (kS p) (CC p) (cP p) p0 [topFrame p0])=aa (.next,(UT w.params os).abs,cP p,p0):=by
 subst hp;rw[GW,EL];exact jC (UW w) os
theorem O2:XW treeTable p w 11 ann (12+(1+(198+(621+(278+(268+(573+(371+(356+(226+(225+(377+(398+(387+(370+(400+(385+(163+2)))))))))))))))))) (Jl w os) (topStub p)=aa (Jm w os):=by
 refine go_top (O1 p hp w os) ?_;refine piece_block (GZ p hp w os) ?_;have e:kS p=p.main.body.drop 0:=by subst hp;rw[jE];exact behind
 rw[e];refine fB p hp w os pc0 ?_;refine fB p hp w os pc1 ?_;refine fB p hp w os pc2 ?_;refine fB p hp w os pc3 ?_;refine fB p hp w os pc4 ?_;refine fB p hp w os pc5 ?_;refine fB p hp w os pc6 ?_;refine fB p hp w os pc7 ?_;refine fB p hp w os pc8 ?_;refine fB p hp w os pc9 ?_;refine fB p hp w os aeZ ?_;refine fB p hp w os ae0 ?_;refine fB p hp w os ae1 ?_;refine fB p hp w os ae2 ?_;refine fB p hp w os ae3 ?_;refine fB p hp w os ae4 ?_;have e:p.main.body.drop (113+6)=[]:=by subst hp;exact nK (by rw[Jq];exact aP _)
 rw[e];exact piece_nil (O0 p hp w os)
end
theorem O3(p:j6)(hp:p=F)(Jr:opening p=plainProg p.main.scope.names)(hf:∀s,fenceModules? p s=aa s):
 LeftO p (qP p) loose (λZ=>ae) (λs=>s.heap) (λw=>H1 w.params) 10000 true:=by
 refine LeftO.of_pieces (H₀:=mF) (H₁:=H1) (gs₀:=⟨[]⟩) (gs₁:=⟨[]⟩) (d₀:=boot_drawn) (d₁:={}) (k₀:=boot_toks) (k₁:=1375) (m₀:=11) (ann:=ann) (boot_open Jr rfl hf) ?_ (λw os=>O2 p hp w os) rfl ?_
 ·intro w
  rw[Jp];exact Y8 w
 ·intro w
  funext os;refine Prod.ext ?_ (Prod.ext ?_ rfl)
  ·have h1:=jC (Y9 w) os
   have h2:=jC (Za w) os;have h3:=jC (Zb w) os;have h4:=jC (Zc w) os;subst hp;rw[SO];show(_&&_&&_&&_)=ae;simp only[cZ];exact⟨⟨⟨h1,h2⟩,h3⟩,h4⟩
  ·have h5:=jC (Zd w) os
   subst hp;rw[AP,SO];exact h5
noncomputable abbrev CD:Str:=PySem.Str.ofString "law"
noncomputable def qm(p:j6):DefRec:=match (seg p 118 1).headD (.Pass default) with
 |.FunctionDef n a b _ _ _ sc _ _ ps=>⟨n,a,b,sc,ps⟩
 |_=>⟨CD,⟨[],[],ac,[],[],ac,[]⟩,[],⟨.function,[],af,af,[]⟩,default⟩
theorem Jr:opening pw=plainProg pw.main.scope.names:=by kernel_rfl
theorem UY:∀s,fenceModules? pw s=aa s:=λs=>by kernel_rfl
theorem left:LeftO pw (qP pw) loose (λZ=>ae) (λs=>s.heap) (λw=>H1 w.params) 10000 true:=O3 pw xX Jr UY
theorem ae8:defOf (qP F) CD=aa (qm F,[]):=by kernel_rfl
theorem ae9:F.theDef CD=aa ((qm F).params,(qm F).body,(qm F).scope):=by kernel_rfl
theorem hkw:kwWritten? (qm F).params.kwonlyargs (qm F).params.kw_defaults=aa []:=by kernel_rfl
theorem O4:chainsOk (qP F)=true:=by kernel_rfl
theorem UZ:opensWell F=true:=by kernel_rfl
theorem Ze:F.tablesWhole=true:=by kernel_rfl
theorem U0:aej aV=true:=by kernel_rfl
theorem U1(h:aV.row.wellSaid=ae->aV.row.Holds):aV.Holds:=holds_law ((jC aek _).trans U0) h
theorem Zf:defOf (qP aR) CD=aa (qm aR,[]):=by rw[xX];exact ae8
theorem Zg:aR.theDef CD=aa ((qm aR).params,(qm aR).body,(qm aR).scope):=by rw[xX];exact ae9
theorem afa:kwWritten? (qm aR).params.kwonlyargs (qm aR).params.kw_defaults=aa []:=by rw[xX];exact hkw
theorem hok:(chainsOk (qP aR)&&opensWell aR)=true:=by rw[xX,O4,UZ];rfl
theorem Zh:aR.bare:=⟨rfl,rfl,rfl,rfl,rfl,by rw[xX];exact Ze⟩
theorem Zi:aV.row.toRowW.promised:=by w_witness2
abbrev YP1(w:fA)(h:dK):Prop:=∀b o,(H1 w.params).get? b=aa o->h.get? b=aa o
theorem head(call:WalkO (qP aR) loose (λZ Z=>rV) YP1 aV.row.toRowW (qm aR) [] (λf vs=>IE f vs)):aV.Holds:=by
 refine U1 λU0=>?_;refine holds_open (r:=aV.row) (XP:=λZ Z=>rV) (YP:=YP1) left (λw s e=>?_) (λw h h' y k b o x=>k b o (y b o x)) (λZ Z=>trivial) (λZ Z Z Z Z=>trivial) Zf Zg afa (λs Z=>recFacts_of (by kernel_rfl)) (by kernel_rfl) U0 ?_ Zh Zi call
 ·have e:s.heap=H1 w.params:=e
  intro b o x;rw[e];exact x
 ·show(_&&_&&_)=ae
  rw[cZ];exact⟨hok,by decide+kernel⟩
end
section
open PySem
inductive T where
 |none |bool (b:aW) |int (i:bE) |str (s:ag aj) |bytes (s:ag aj)
 |list (xs:ag T) |tup (xs:ag T) |dict (kvs:ag (T×T)) |inst (c:aj) (fs:ag T)
 deriving Aj
inductive PV where
 |t (v:T) |m (i:aj)
 deriving Aj
inductive MO where
 |list (xs:ag PV) |dict (kvs:ag (T×T)) |inst (c:aj) (fs:ag PV) |dead |tab (j:aj)
 deriving Aj
abbrev Mu:=ag MO
abbrev Loc:=ag (ar PV)
inductive Res(α:Type) where
 |ok (a:α) (mu:Mu) |exc (mu:Mu) |aK
 deriving Aj
noncomputable def Res.bind{α β:Type}(r:Res α)(f:α->Mu->Res β):Res β:=match r with
 |.ok a mu=>f a mu
 |.exc mu=>.exc mu
 |.aK=>.aK
inductive O5 where
 |add |sub |mul |fdiv |mod |pow
 deriving eF
inductive Js where
 |eq |ne |lt |le |gt |ge |is |kf |isIn |pZ
 deriving eF
inductive B where
 |len |min |max |chr |ord |bytes |str |abs |int |sorted |list |tuple |dict
 deriving eF
mutual
inductive E where
 |c (v:T)
 |au (i:aj)
 |attr (e:E) (f:aj)
 |bin (op:O5) (a b:E)
 |neg (a:E)
 |not (a:E)
 |and (a b:E)
 |or (a b:E)
 |cmp (op:Js) (a b:E)
 |si (op uD:Js) (a b d:E)
 |qK (t a b:E)
 |sub (a i:E)
 |slice (a:E) (lo hi:ar E)
 |call (f:aj) (as:ag E)
 |qo (f:aj) (as:ag E) (kw:ag aj) (k:E)
 |new (k:aj) (as:ag E)
 |cR (o:E) (n:aj) (as:ag E)
 |bi (f:B) (as:ag E)
 |hZ (a:E) (k:aj)
 |tup (as:ag E)
 |list (as:ag E)
 |newList (as:ag E)
 |newDict (kvs:ag (E×E))
 |sj (a b:E)
 |comp (elt:E) (slot:aj) (it:It) (dN:ag E)
 |qS (k v:E) (slot:aj) (it:It) (dN:ag E)
 |refused (j:aj) (e:E)
inductive It where
 |range (as:ag E) |name (i:aj) |val (e:E) |rev (e:E)
end
inductive S where
 |asg (slot:aj) (e:E)
 |dH (o:E) (f:aj) (e:E)
 |iX (o i:E) (e:E)
 |unpack (slots:ag aj) (e:E)
 |expr (e:E)
 |ret (e:E)
 |G0
 |ifs (t:E) (a b:ag S)
 |while (t:E) (b:ag S)
 |for (slot:aj) (it:It) (b:ag S)
 |cont
 |raise (es:ag E)
 |try (b:ag S) (h:ag S)
inductive cB where
 |next |cont |ret (v:PV)
 deriving Aj
noncomputable def bp:Nat:=1000000
noncomputable def qp:Int:=9223372036854775808
noncomputable def mJ(i:bE):Bool:=decide (-1152921504606846976<i/\i<1152921504606846976)
noncomputable def vj:ag (aj×aj×aj):=[(0,0,0),(0,1,1),(0,2,2),(1,3,0),(1,4,1),(2,5,0),(3,6,0),(3,7,1),(4,8,0),(4,9,1),(5,10,0),(5,11,1)]
noncomputable def Jt(l:ag (aj×aj×aj))(c f:aj):ar Nat:=(l.find? λx=>x.1==c&&x.2.1==f).map (·.2.2)
noncomputable def pd(c f:aj):ar Nat:=Jt vj c f
noncomputable def T.flat:aj->T->aW
 |0,_=>af
 |n+1,t=>
  match t with
   |.list xs=>xs.all (T.flat n)
   |.tup xs=>xs.all (T.flat n)
   |.dict _=>af
   |.inst ..=>af
   |_=>ae
noncomputable def eB:ag PV->ar (ag T)
 |[]=>aa []
 |.t v::r=>(eB r).map (v::·)
 |.m _::_=>ac
noncomputable def O6(i:aj)(mu:Mu):MO->ar (T×Mu)
 |.list xs=>(eB xs).map λts=>(.list ts,mu.set i .dead)
 |.dict kvs=>aa (.dict kvs,mu.set i .dead)
 |_=>ac
noncomputable def Cq(v:PV)(mu:Mu):ar (T×Mu):=match v with
 |.t v=>aa (v,mu)
 |.m i=>mu[i]?.bind (O6 i mu)
noncomputable def kK:ag PV->Mu->ar (ag T×Mu)
 |[],mu=>aa ([],mu)
 |v::r,mu=>(Cq v mu).bind λp=>(kK r p.2).map λq=>(p.1::q.1,q.2)
noncomputable def lu{α:Type}(r:ar (α×Mu)):Res α:=match r with
 |some (a,mu)=>.ok a mu
 |none=>.aK
noncomputable def SP:MO->ar T
 |.list xs=>(eB xs).map .list
 |.dict kvs=>aa (.dict kvs)
 |_=>ac
noncomputable def look(v:PV)(mu:Mu):ar T:=match v with
 |.t v=>aa v
 |.m i=>mu[i]?.bind SP
noncomputable def U2:T->ar aW
 |.none=>aa af
 |.bool b=>aa b
 |.int i=>aa (decide (i≠0))
 |_=>ac
noncomputable def MO.l?:MO->ar (ag PV) |.list l=>aa l |_=>ac
noncomputable def MO.d?:MO->ar (ag (T×T)) |.dict l=>aa l |_=>ac
noncomputable def truth(v:PV)(mu:Mu):ar Bool:=match v with
 |.t t=>U2 t
 |.m i=>(mu[i]?.bind MO.l?).bind λxs=>if xs.length<=bp then aa (!xs.isEmpty) else ac
noncomputable def SQ{α:Type}(c f:aj)(fs:ag α):ar α:=(pd c f).bind λk=>fs[k]?
noncomputable def Zj(f:aj):T->ar T
 |.inst c fs=>SQ c f fs
 |_=>ac
noncomputable def Zk(f:aj):MO->ar PV
 |.inst c fs=>SQ c f fs
 |_=>ac
noncomputable def qq(v:PV)(f:aj)(mu:Mu):ar PV:=match v with
 |.t t=>(Zj f t).map .t
 |.m i=>mu[i]?.bind (Zk f)
noncomputable def xY(s:ag aj)(mu:Mu):Res PV:=if s.length<=bp then .ok (.t (.str s)) mu else .aK
noncomputable def jL(s:ag aj)(mu:Mu):Res PV:=if s.length<=bp then .ok (.t (.bytes s)) mu else .aK
noncomputable def h9(s:ag T)(mu:Mu):Res PV:=if s.length<=bp then .ok (.t (.list s)) mu else .aK
noncomputable def vk(s:ag T)(mu:Mu):Res PV:=if s.length<=bp then .ok (.t (.tup s)) mu else .aK
noncomputable def ji(s:ag aj):aj->ag aj
 |0=>[]
 |n+1=>s++ji s n
noncomputable def T.i?:T->ar bE |.int i=>aa i |_=>lP
noncomputable def T.s?:T->ar (ag aj) |.str i=>aa i |_=>lP
noncomputable def T.b?:T->ar (ag aj) |.bytes i=>aa i |_=>lP
noncomputable def T.l?:T->ar (ag T) |.list i=>aa i |_=>lP
noncomputable def T.p?:T->ar (ag T) |.tup i=>aa i |_=>lP
noncomputable def T.qr:T->ar (ag T) |.tup i=>aa i |.list i=>aa i |_=>lP
noncomputable def PV.t?:PV->ar T |.t v=>aa v |.m _=>ac
noncomputable def dO{α β:Type}(a:ar α)(f:α->Res β):Res β:=match a with
 |some l=>f l
 |none=>.aK
noncomputable def Ju(a b:T)(f:bE->bE->Res PV):Res PV:=dO a.i? λa=>dO b.i? λb=>f a b
noncomputable def Zl(a b:T)(mu:Mu):Res PV:=match a with
 |.int a=>dO b.i? λb=>.ok (.t (.int (a+b))) mu
 |.str a=>dO b.s? λb=>xY (a++b) mu
 |.bytes a=>dO b.b? λb=>jL (a++b) mu
 |.list a=>dO b.l? λb=>h9 (a++b) mu
 |.tup a=>dO b.p? λb=>vk (a++b) mu
 |_=>.aK
noncomputable def Zm(a b:T)(mu:Mu):Res PV:=match a with
 |.int a=>dO b.i? λb=>if(mJ a||mJ b)=ae then .ok (.t (.int (a*b))) mu else .aK
 |.str a=>dO b.i? λn=>if -1000000<=n/\n<=1000000 then xY (ji a n.toNat) mu else .aK
 |_=>.aK
noncomputable def G1(op:O5)(a b:T)(mu:Mu):Res PV:=match op with
 |.add=>Zl a b mu
 |.mul=>Zm a b mu
 |.sub=>Ju a b λa b=>.ok (.t (.int (a-b))) mu
 |.fdiv=>Ju a b λa b=>if 0<b/\b<4611686018427387904 then .ok (.t (.int (a/b))) mu else .aK
 |.mod=>Ju a b λa b=>if 0<b then .ok (.t (.int (a%b))) mu else .aK
 |.pow=>Ju a b λa b=>if 0<=b/\b<=100/\0<=a/\a<=100 then .ok (.t (.int (a^b.toNat))) mu else .aK
noncomputable def k9(op:O5)(a b:PV)(mu:Mu):Res PV:=dO (look a mu) λx=>dO (look b mu) λy=>G1 op x y mu
noncomputable def tI:PV->aW
 |.t (.list [])=>ae
 |_=>af
open Classical in
noncomputable def eqL(a b:ag T):ar Bool:=if a.isEmpty != b.isEmpty then aa af else if a.isEmpty then aa ae else if a=b/\T.flat 20 (.list a)=ae then aa ae else ac
noncomputable def eqT(a b:T):ar Bool:=match a with
 |.int a=>b.i?.map (a==·)
 |.str a=>b.s?.map (a==·)
 |.bytes a=>b.b?.map (a==·)
 |.list a=>b.l?.bind (eqL a)
 |_=>ac
noncomputable def gD(mu:Mu)(i:aj):Bool:=((mu[i]?.bind MO.d?).map (·.isEmpty)).getD af
noncomputable def listAt(mu:Mu)(i:aj):ar (ag PV):=mu[i]?.bind MO.l?
noncomputable def Yg(a b:PV)(mu:Mu):ar Bool:=match a with
 |.t a=>b.t?.bind (eqT a)
 |.m i=>if tI b then(listAt mu i).map (·.isEmpty) else ac
noncomputable def T.SR:T->aW |.int _=>ae |_=>af
noncomputable def T.Yh:T->aW |.str _=>ae |_=>af
noncomputable def T.isB:T->aW |.bytes _=>ae |_=>af
noncomputable def T.SS(a:bE):T->aW |.int b=>b==a |_=>af
noncomputable def T.eqS(a:ag aj):T->aW |.str b=>b==a |_=>af
noncomputable def T.eqB(a:ag aj):T->aW |.bytes b=>b==a |_=>af
noncomputable def inI(a:bE):T->ar aW
 |.tup l=>if l.all T.SR then aa (l.any (T.SS a)) else ac
 |.dict l=>if(l.map (·.1)).all T.SR then aa ((l.map (·.1)).any (T.SS a)) else ac
 |_=>ac
noncomputable def oneOf{α:Type}:ag α->ar α
 |[a]=>aa a
 |_=>ac
noncomputable def inS(a:ag aj):T->ar aW
 |.tup l=>if l.all T.Yh then aa (l.any (T.eqS a)) else ac
 |.str l=>(oneOf a).map λa=>l.any (· ==a)
 |_=>ac
noncomputable def U3(a b:T):ar Bool:=match a with
 |.int a=>inI a b
 |.str a=>inS a b
 |.bytes a=>b.p?.bind λl=>if l.all T.isB then aa (l.any (T.eqB a)) else ac
 |_=>ac
noncomputable def ltT(a b:T):ar (bE×bE):=a.i?.bind λa=>b.i?.map λb=>(a,b)
noncomputable def ltV(a b:PV)(f:bE->bE->aW):ar Bool:=a.t?.bind λa=>b.t?.bind λb=>(ltT a b).map λp=>f p.1 p.2
noncomputable def T.qt:T->aW |.none=>ae |_=>af
noncomputable def isV(a b:PV):ar Bool:=a.t?.bind λa=>b.t?.bind λb=>if b.qt then aa a.qt else ac
noncomputable def eC(op:Js)(a b:PV)(mu:Mu):ar Bool:=match op with
 |.eq=>Yg a b mu
 |.ne=>(Yg a b mu).map (!·)
 |.lt=>ltV a b λx y=>decide (x<y)
 |.le=>ltV a b λx y=>decide (x<=y)
 |.gt=>ltV a b λx y=>decide (y<x)
 |.ge=>ltV a b λx y=>decide (y<=x)
 |.is=>isV a b
 |.kf=>(isV a b).map (!·)
 |.isIn=>a.t?.bind λa=>b.t?.bind (U3 a)
 |.pZ=>(a.t?.bind λa=>b.t?.bind (U3 a)).map (!·)
noncomputable def Oa(i:bE)(n:aj):ar Nat:=
 if 0<=i then(if i<n then aa i.toNat else ac) else(if 0<=i+n then aa (i+n).toNat else ac)
noncomputable def clip(n:aj)(i:bE):Nat:=(max 0 (min (if i<0 then i+n else i) n)).toNat
noncomputable def cut{α:Type}(l:ag α)(lo hi:ar bE):ag α:=
 (l.drop (lo.elim 0 (clip l.length))).take (hi.elim l.length (clip l.length)-lo.elim 0 (clip l.length))
noncomputable def tJ(a b:T):Bool:=match a,b with
 |.int a,.int b=>a==b
 |.str a,.str b=>a==b
 |_,_=>af
noncomputable def pe(a:T)(l:ag (T×T)):Bool:=match a with
 |.int _=>(l.map (·.1)).all T.SR
 |.str _=>(l.map (·.1)).all T.Yh
 |_=>af
noncomputable def CE(k:T):ag (T×T)->ar T
 |[]=>ac
 |(a,b)::r=>if tJ a k then aa b else CE k r
noncomputable def dput(k v:T):ag (T×T)->ag (T×T)
 |[]=>[(k,v)]
 |(a,b)::r=>if tJ a k then(a,v)::r else(a,b)::dput k v r
noncomputable def idx{α β:Type}(l:ag α)(f:α->β)(i:bE):ar β:=if -qp<=i/\i<qp then(Oa i l.length).bind λk=>(l[k]?).map f else ac
noncomputable def key(l:ag (T×T))(k:ag aj):ar T:=if pe (.str k) l then CE (.str k) l else ac
noncomputable def afe(a i:T):ar PV:=match a with
 |.list l=>i.i?.bind (idx l .t)
 |.tup l=>i.i?.bind (idx l .t)
 |.bytes l=>i.i?.bind (idx l λx=>.t (.int x))
 |.dict l=>(i.s?.bind (key l)).map .t
 |_=>ac
noncomputable def O7(i:T):MO->ar PV
 |.list l=>i.i?.bind (idx l id)
 |.dict l=>(i.s?.bind (key l)).map .t
 |_=>ac
noncomputable def mK(a i:PV)(mu:Mu):ar PV:=i.t?.bind λi=>match a with
 |.t a=>afe a i
 |.m j=>mu[j]?.bind (O7 i)
noncomputable def lH(a:T)(lo hi:ar bE):ar T:=match a with
 |.bytes l=>if l.length<=bp then aa (.bytes (cut l lo hi)) else ac
 |.str l=>if l.length<=bp then aa (.str (cut l lo hi)) else ac
 |.list l=>if l.length<=bp then aa (.list (cut l lo hi)) else ac
 |_=>ac
noncomputable def Zn:T->ar aj
 |.str s=>aa s.length
 |.bytes s=>aa s.length
 |.list s=>aa s.length
 |.tup s=>aa s.length
 |.dict s=>aa s.length
 |_=>ac
noncomputable def Zo:MO->ar aj
 |.list xs=>aa xs.length
 |.dict xs=>aa xs.length
 |_=>ac
noncomputable def vm(v:PV)(mu:Mu):ar Nat:=match v with
 |.t v=>Zn v
 |.m i=>mu[i]?.bind Zo
noncomputable def nZ:ag T->ar (ag bE)
 |[]=>aa []
 |.int i::r=>(nZ r).map (i::·)
 |_::_=>ac
noncomputable def codes:ag bE->ar (ag aj)
 |[]=>aa []
 |i::r=>if 0<=i/\i<256 then(codes r).map (i.toNat::·) else ac
noncomputable def tK:ag T->ar (ag (ag aj))
 |[]=>aa []
 |.str s::r=>(tK r).map (s::·)
 |_::_=>ac
noncomputable def O8:ag T->ar (ag (ag aj))
 |[]=>aa []
 |.bytes s::r=>(O8 r).map (s::·)
 |_::_=>ac
noncomputable def joined(sep:ag aj):ag (ag aj)->ag aj
 |[]=>[]
 |[x]=>x
 |x::r=>x++sep++joined sep r
noncomputable def pairs:ag T->ar (ag (T×T))
 |[]=>aa []
 |.tup [a,b]::r=>(pairs r).map ((a,b)::·)
 |_::_=>ac
noncomputable def iU:aj->aj->ag aj
 |0,_=>[]
 |f+1,n=>if n<10 then[48+n] else iU f (n/10)++[48+n%10]
noncomputable def digits(n:aj):ag Nat:=iU 64 n
noncomputable def eM(i:bE):ag Nat:=if i<0 then 45::digits i.natAbs else digits i.natAbs
noncomputable def fh:ag aj->ag aj->aW
 |[],_=>ae
 |_::_,[]=>af
 |a::as,b::bs=>if a<b then ae else if b<a then af else fh as bs
noncomputable def lI(x:ag aj):ag (ag aj)->ag (ag aj)
 |[]=>[x]
 |y::r=>if fh x y then x::y::r else y::lI x r
noncomputable def km:ag (ag aj)->ag (ag aj)
 |[]=>[]
 |x::r=>lI x (km r)
noncomputable def strKeys:ag (T×T)->ar (ag (ag aj))
 |[]=>aa []
 |(.str s,_)::r=>(strKeys r).map (s::·)
 |_::_=>ac
noncomputable def putAll:ag (T×T)->ag (T×T)->ag (T×T)
 |a8,[]=>a8
 |a8,(k,v)::r=>putAll (dput k v a8) r
noncomputable def xZ(as:ag PV)(f:PV->Res PV):Res PV:=match as with
 |[a]=>f a
 |_=>.aK
noncomputable def on2(as:ag PV)(f:PV->PV->Res PV):Res PV:=match as with
 |[a,b]=>f a b
 |_=>.aK
noncomputable def on3(as:ag PV)(f:PV->PV->PV->Res PV):Res PV:=match as with
 |[a,b,c]=>f a b c
 |_=>.aK
noncomputable def Ay(a:PV)(f:T->Res PV):Res PV:=match a with
 |.t v=>f v
 |.m _=>.aK
noncomputable def Jv(a:T)(f:bE->Res PV):Res PV:=match a with
 |.int i=>f i
 |_=>.aK
noncomputable def O9(a:ar T)(f:ag T->Res PV):Res PV:=match a with
 |some (.list l)=>f l
 |_=>.aK
noncomputable def onD(a:ar T)(f:ag (T×T)->Res PV):Res PV:=match a with
 |some (.dict l)=>f l
 |_=>.aK
noncomputable def Zp(as:ag PV)(f:bE->bE->Res PV):Res PV:=on2 as λa b=>Ay a λa=>Jv a λa=>Ay b λb=>Jv b λb=>f a b
noncomputable def Zq(mu:Mu):T->Res PV
 |.str [c]=>.ok (.t (.int c)) mu
 |_=>.aK
noncomputable def Zr(mu:Mu):T->Res PV
 |.int i=>.ok (.t (.int i)) mu
 |.bool b=>.ok (.t (.int (if b then 1 else 0))) mu
 |_=>.aK
noncomputable def Pa:PV->ar (ag aj)
 |.t (.bytes s)=>aa s
 |_=>ac
noncomputable def Pb(a:PV)(mu:Mu):Res PV:=match Pa a with
 |some s=>.ok (.t (.bytes s)) mu
 |none=>O9 (look a mu) λl=>dO ((nZ l).bind codes) λcs=>jL cs mu
noncomputable def Jw(mu:Mu):ar T->Res PV
 |some (.dict kvs)=>h9 (kvs.map (·.1)) mu
 |some (.list l)=>h9 l mu
 |_=>.aK
noncomputable def uf(f:B)(as:ag PV)(mu:Mu):Res PV:=match f with
 |.len=>xZ as λa=>dO (vm a mu) λn=>if n<=bp then .ok (.t (.int n)) mu else .aK
 |.min=>Zp as λa b=>.ok (.t (.int (if b<a then b else a))) mu
 |.max=>Zp as λa b=>.ok (.t (.int (if a<b then b else a))) mu
 |.chr=>xZ as λa=>Ay a λa=>Jv a λa=>if 0<=a/\a<1114112 then .ok (.t (.str [a.toNat])) mu else .aK
 |.ord=>xZ as λa=>Ay a (Zq mu)
 |.bytes=>xZ as λa=>Pb a mu
 |.str=>xZ as λa=>Ay a λa=>Jv a λi=>if i.natAbs<10^60 then .ok (.t (.str (eM i))) mu else .aK
 |.abs=>xZ as λa=>Ay a λa=>Jv a λi=>.ok (.t (.int i.natAbs)) mu
 |.int=>xZ as λa=>Ay a (Zr mu)
 |.sorted=>xZ as λa=>onD (look a mu) λkvs=>dO (strKeys kvs) λks=>if ks.length<64 then h9 ((km ks).map .str) mu else .aK
 |.list=>xZ as λa=>Jw mu (look a mu)
 |.tuple=>xZ as λa=>O9 (look a mu) λl=>vk l mu
 |.dict=>xZ as λa=>O9 (look a mu) λl=>dO (pairs l) λkvs=>if(strKeys kvs).isSome/\kvs.length<=bp then .ok (.t (.dict (putAll [] kvs))) mu else .aK
noncomputable def mL(v:T)(k:aj):ar Bool:=match v with
 |.bool _=>if k=10\/k=11 then aa ae else ac
 |.int _=>if k=10 then aa af else if k=11 then aa ae else ac
 |.list _=>if k=12 then aa ae else if k=10\/k=11\/k<6 then aa af else ac
 |.dict _=>if k=13 then aa ae else if k=10\/k=11\/k=12\/k<6 then aa af else ac
 |.inst c _=>if c<6 then(if k<6 then aa (c==k) else if k=10\/k=11\/k=12\/k=13 then aa af else ac) else ac
 |_=>ac
noncomputable def n6(l w:ag aj)(b:aj):aj->aj->ar aj
 |0,_=>ac
 |f+1,a=>if a+w.length<=b then(if(l.drop a).take w.length==w then aa a else n6 l w b f (a+1)) else ac
noncomputable def EM(o:PV)(mu:Mu)(f:aj->ag PV->Res PV):Res PV:=match o with
 |.m i=>dO (listAt mu i) (f i)
 |.t _=>.aK
noncomputable def items:T->ar (ag PV)
 |.list l=>aa (l.map .t)
 |.bytes l=>aa (l.map λx:aj=>.t (.int (x:bE)))
 |_=>ac
noncomputable def EN(l w:ag aj)(a b:bE)(mu:Mu):Res PV:=
 if 0<=a/\a<qp/\0<=b/\b<=l.length/\0<w.length then .ok (.t (.int (match n6 l w b.toNat (l.length+1) a.toNat with |some k=>(k:bE) |none=>-1))) mu else .aK
noncomputable def ST(mu:Mu)(l:ag T):T->Res PV
 |.str s=>if s.isEmpty then dO (tK l) λss=>xY (joined [] ss) mu else .aK
 |.bytes sep=>dO (O8 l) λss=>if sep.length<=100 then jL (joined sep ss) mu else .aK
 |_=>.aK
noncomputable def Jx(mu:Mu):T->T->Res PV
 |.str l,.str [w]=>dO (l.findIdx? (· ==w)) λk=>.ok (.t (.int k)) mu
 |_,_=>.aK
noncomputable def U4(mu:Mu)(o:PV)(as:ag PV):Res PV:=on3 as λw a b=>dO (Pa o) λl=>dO (Pa w) λw=>Ay a λa=>Jv a λa=>Ay b λb=>Jv b λb=>EN l w a b mu
noncomputable def Jy(o:PV)(n:aj)(as:ag PV)(mu:Mu):Res PV:=
 if n=30 then xZ as λv=>EM o mu λi xs=>if xs.length<bp then .ok (.t .none) (mu.set i (.list (xs++[v]))) else .aK
 else if n=31 then xZ as λv=>Ay v λv=>dO (items v) λl=>EM o mu λi xs=>if xs.length+l.length<bp then .ok (.t .none) (mu.set i (.list (xs++l))) else .aK
 else if n=32 then(if as.isEmpty then EM o mu λi xs=>dO xs.getLast? λv=>if xs.length<=bp then .ok v (mu.set i (.list xs.dropLast)) else .aK else .aK)
 else if n=33 then U4 mu o as
 else if n=34 then xZ as λa=>Ay o λo=>O9 (look a mu) λl=>ST mu l o
 else if n=35 then xZ as λa=>Ay o λo=>Ay a λa=>Jx mu o a
 else .aK
noncomputable def Zs(i f:aj)(v:PV)(mu:Mu):MO->ar Mu
 |.inst c fs=>
  (pd c f).bind λk=>
   if k<fs.length then aa (mu.set i (.inst c (fs.set k v))) else if k=fs.length then aa (mu.set i (.inst c (fs++[v]))) else ac
 |_=>ac
noncomputable def sr(o:PV)(f:aj)(v:PV)(mu:Mu):ar Mu:=match o with
 |.m i=>mu[i]?.bind (Zs i f v mu)
 |_=>ac
noncomputable def AQ(j:aj)(k v:T)(mu:Mu)(kvs:ag (T×T)):Res Unit:=if pe k kvs/\kvs.length<bp then .ok () (mu.set j (.dict (dput k v kvs))) else .aK
noncomputable def setM(j:aj)(i:bE)(v:PV)(mu:Mu):MO->Res fP
 |.list xs=>if 0<=i/\i<qp/\i<xs.length then .ok () (mu.set j (.list (xs.set i.toNat v))) else .aK
 |.dict kvs=>dO v.t? λv=>AQ j (.int i) v mu kvs
 |_=>.aK
noncomputable def afg(j:aj)(v:PV)(mu:Mu):T->Res fP
 |.int i=>dO mu[j]? (setM j i v mu)
 |.str k=>(lu (Cq v mu)).bind λv mu=>dO (mu[j]?.bind MO.d?) (AQ j (.str k) v mu)
 |_=>.aK
noncomputable def xo(o i v:PV)(mu:Mu):Res Unit:=match o with
 |.m j=>dO i.t? (afg j v mu)
 |.t _=>.aK
noncomputable def n7(a:bE):Bool:=decide (-2305843009213693952<a/\a<2305843009213693952)
noncomputable def EO:ag PV->ar (ag bE)
 |[]=>aa []
 |v::r=>(v.t?.bind T.i?).bind λi=>(EO r).map (i::·)
noncomputable def G2(a b c:bE):ag T:=(be (if a<b then(b-a-1)/c+1 else 0).toNat).map λj:aj=>.int (a+j*c)
noncomputable def Jz(a b c:bE):ar (ag T):=if b-a<=bp/\n7 a=ae/\n7 b=ae/\0<c/\n7 c=ae then aa (G2 a b c) else ac
noncomputable def rng:ag bE->ar (ag T)
 |[b]=>Jz 0 b 1
 |[a,b]=>Jz a b 1
 |[a,b,c]=>Jz a b c
 |_=>ac
noncomputable def gi(as:ag PV):ar (ag T):=(EO as).bind rng
noncomputable def lJ:T->ar (ag T)
 |.list l=>aa l
 |.tup l=>aa l
 |.bytes l=>aa (l.map λx=>T.int (x:aj))
 |.str l=>aa (l.map λx=>.str [x])
 |.dict l=>aa (l.map (·.1))
 |_=>ac
abbrev Calls:=aj->ag PV->Mu->Res PV
noncomputable def upd(au:Loc)(i:aj)(v:PV):Loc:=au.set i (aa v)
noncomputable def d0(v:PV)(mu:Mu):Res T:=lu (Cq v mu)
noncomputable def yW:ag (aj×aj×aj):=[(0,40,5),(0,41,6),(0,42,7),(0,43,8),(0,44,9),(0,45,10),(0,46,11),(0,47,12),(0,33,15),(1,5,29),(1,49,30),(4,50,81),(5,51,55)]
noncomputable def yX(c n:aj):ar Nat:=Jt yW c n
noncomputable def tabAt(j:aj)(mu:Mu):Bool:=match mu[j]? with
 |some (.tab i)=>i==j
 |_=>af
noncomputable def gV(au:Loc)(i:aj):ar PV:=(au[i]?).join
noncomputable def dS(body:Loc->Mu->Res fP)(slot:aj)(au:Loc):ag T->Mu->Res fP
 |[],mu=>.ok () mu
 |x::r,mu=>(body (upd au slot (.t x)) mu).bind λZ mu=>dS body slot au r mu
noncomputable def n8(j:aj)(t:T)(mu:Mu):Res Unit:=dO (listAt mu j) λxs=>if xs.length<bp then .ok () (mu.set j (.list (xs++[.t t]))) else .aK
noncomputable def JA(j:aj)(k v:T)(mu:Mu):Res Unit:=dO (mu[j]?.bind MO.d?) (AQ j k v mu)
noncomputable def PV.closed(n:aj):PV->aW
 |.t _=>ae
 |.m i=>decide (i<n)
noncomputable def MO.closed(n:aj):MO->aW
 |.list xs=>xs.all (PV.closed n)
 |.inst _ fs=>fs.all (PV.closed n)
 |_=>ae
noncomputable def mM(n:aj)(mu:Mu):Bool:=mu.all (MO.closed n)
noncomputable def d7(n:aj)(mu:Mu):ar Mu:=if mM n (mu.take n) then aa (mu.take n) else ac
noncomputable def bS{α:Type}(o:ar α)(mu:Mu):Res α:=match o with
 |some a=>.ok a mu
 |none=>.aK
noncomputable def eh{α:Type}(n:aj)(a:α)(mu:Mu):Res α:=(bS (d7 n mu) mu).bind λmu Z=>.ok a mu
noncomputable def vn(j:aj)(mu:Mu):MO->Res PV
 |.list xs=>dO (eB xs) λts=>eh j (.t (.list ts)) mu
 |.dict kvs=>eh j (.t (.dict kvs)) mu
 |_=>.aK
noncomputable def eD(j:aj)(mu:Mu):Res PV:=if mu.length=j+1 then dO mu[j]? (vn j mu) else .aK
noncomputable def AR(c:aj):Bool:=c==1||c==2||c==3||c==4
noncomputable def MO.i?:MO->ar (aj×ag PV) |.inst c fs=>aa (c,fs) |_=>ac
noncomputable def sealed(j c:aj)(mu:Mu):Res PV:=dO (mu[j]?.bind MO.i?) λo=>if o.1=c/\mu.length=j+1 then dO (d7 j mu) λmu=>(lu (kK o.2 mu)).bind λts mu=>.ok (.t (.inst c ts)) mu else .aK
noncomputable def mN(c:aj):ar Nat:=match c with
 |0=>aa 4 |1=>aa 19 |2=>aa 44 |3=>aa 45 |4=>aa 80 |5=>aa 54 |_=>ac
noncomputable def fm(C:Calls)(k:aj)(as:ag PV)(mu:Mu):Res PV:=match mN k with
 |none=>.aK
 |some f=>
  (C f (.m mu.length::as) (mu++[.inst k []])).bind λv d9=>match v with
   |.t .none=>if AR k then sealed mu.length k d9 else .ok (.m mu.length) d9
   |_=>.aK
noncomputable def EP:MO->aj
 |.list _=>3
 |.inst c _=>c+10
 |_=>0
noncomputable def EQ:T->aj
 |.str _=>1
 |.bytes _=>2
 |.inst c _=>c+10
 |_=>0
noncomputable def kindOf(v:PV)(mu:Mu):Nat:=match v with
 |.t t=>EQ t
 |.m i=>(mu[i]?.map EP).getD 0
noncomputable def lZ(k n:aj):Bool:=(k==3&&(n==30||n==31||n==32))||(k==2&&(n==33||n==34))||(k==1&&(n==34||n==35))
noncomputable def fq(k n:aj):ar (ar aj):=if 10<=k then(yX (k-10) n).map aa else if lZ k n then aa ac else ac
noncomputable def ei(C:Calls)(o:PV)(n:aj)(c:ar aj)(as:ag PV)(mu:Mu):Res PV:=match c with
 |some f=>C f (o::as) mu
 |none=>Jy o n as mu
noncomputable def mO(v:ar PV):ar (ar bE):=match v with
 |none=>aa ac
 |some (.t (.int i))=>aa (aa i)
 |_=>ac
mutual
noncomputable def ev(C:Calls):E->Loc->Mu->Res PV
 |.c v,_,mu=>.ok (.t v) mu
 |.au i,au,mu=>bS (gV au i) mu
 |.attr e f,au,mu=>(ev C e au mu).bind λv mu=>bS (qq v f mu) mu
 |.bin op a b,au,mu=>(ev C a au mu).bind λx mu=>(ev C b au mu).bind λy mu=>k9 op x y mu
 |.neg a,au,mu=>(ev C a au mu).bind λx mu=>dO (x.t?.bind T.i?) λi=>.ok (.t (.int (-i))) mu
 |.not a,au,mu=>(ev C a au mu).bind λx mu=>(bS (truth x mu) mu).bind λt mu=>.ok (.t (.bool (!t))) mu
 |.and a b,au,mu=>(ev C a au mu).bind λx mu=>(bS (truth x mu) mu).bind λt mu=>if t then ev C b au mu else .ok x mu
 |.or a b,au,mu=>(ev C a au mu).bind λx mu=>(bS (truth x mu) mu).bind λt mu=>if t then .ok x mu else ev C b au mu
 |.cmp op a b,au,mu=>(ev C a au mu).bind λx mu=>(ev C b au mu).bind λy mu=>(bS (eC op x y mu) mu).bind λr mu=>.ok (.t (.bool r)) mu
 |.si op uD a b d,au,mu=>
  (ev C a au mu).bind λx mu=>(ev C b au mu).bind λy mu=>(bS (eC op x y mu) mu).bind λr mu=>
   if r then(ev C d au mu).bind λz mu=>(bS (eC uD y z mu) mu).bind λr mu=>.ok (.t (.bool r)) mu else .ok (.t (.bool af)) mu
 |.qK t a b,au,mu=>(ni C t au mu).bind λx mu=>if x then ev C a au mu else ev C b au mu
 |.sub a i,au,mu=>(ev C a au mu).bind λx mu=>(ev C i au mu).bind λy mu=>bS (mK x y mu) mu
 |.slice a lo hi,au,mu=>
  (ev C a au mu).bind λx mu=>(SU C lo au mu).bind λl mu=>(SU C hi au mu).bind λh mu=>
   dO x.t? λx=>dO (mO l) λl=>dO (mO h) λh=>bS ((lH x l h).map .t) mu
 |.call f as,au,mu=>(su C as au mu).bind λvs mu=>C f vs mu
 |.qo f as _ k,au,mu=>(su C as au mu).bind λvs mu=>(ev C k au mu).bind λv mu=>C f (vs++[v]) mu
 |.new k as,au,mu=>(su C as au mu).bind λvs mu=>fm C k vs mu
 |.cR o n as,au,mu=>(ev C o au mu).bind λx mu=>(bS (fq (kindOf x mu) n) mu).bind λc mu=>(su C as au mu).bind λvs mu=>ei C x n c vs mu
 |.bi f as,au,mu=>(su C as au mu).bind λvs mu=>uf f vs mu
 |.hZ a k,au,mu=>(ev C a au mu).bind λx mu=>dO x.t? λv=>(bS (mL v k) mu).bind λb mu=>.ok (.t (.bool b)) mu
 |.tup as,au,mu=>(su C as au mu).bind λvs mu=>(lu (kK vs mu)).bind λts mu=>vk ts mu
 |.list as,au,mu=>(su C as au mu).bind λvs mu=>(lu (kK vs mu)).bind λts mu=>h9 ts mu
 |.newList as,au,mu=>(su C as au mu).bind λvs mu=>if vs.length<=bp then .ok (.m mu.length) (mu++[.list vs]) else .aK
 |.newDict kvs,au,mu=>(Pd C kvs au (mu++[.dict []])).bind λps d9=>if gD d9 mu.length then .ok (.m mu.length) (d9.set mu.length (.dict ps)) else .aK
 |.sj a b,au,mu=>(ev C a au mu).bind λx mu=>(ev C b au mu).bind λy mu=>dO ((look x mu).bind T.l?) λl=>dO ((look y mu).bind T.l?) λl'=>if l.length+l'.length<=bp then .ok (.m mu.length) (mu++[.list ((l++l').map .t)]) else .aK
 |.comp elt slot it dN,au,mu=>
  (io C it au mu).bind λp mu=>
   (dS (λau d9=>(i6 C dN au d9).bind λb d9=>if b then(ev C elt au d9).bind λv d9=>(d0 v d9).bind λt d9=>n8 mu.length t d9 else .ok () d9) slot p.2 p.1 (mu++[.list []])).bind λZ d9=>eD mu.length d9
 |.qS k v slot it dN,au,mu=>
  (io C it au mu).bind λp mu=>
   (dS (λau d9=>(i6 C dN au d9).bind λb d9=>if b then(ev C k au d9).bind λx d9=>(ev C v au d9).bind λy d9=>dO (x.t?.bind T.s?) λs=>(d0 y d9).bind λy d9=>JA mu.length (.str s) y d9 else .ok () d9) slot p.2 p.1 (mu++[.dict []])).bind λZ d9=>eD mu.length d9
 |.refused j e,au,mu=>
  if tabAt j mu then(match ev C e au mu with
   |.ok _ mu=>.ok (.t (.bool af)) mu
   |.exc mu=>.ok (.t (.bool ae)) mu
   |.aK=>.aK) else .aK
noncomputable def SU(C:Calls):ar E->Loc->Mu->Res (ar PV)
 |none,_,mu=>.ok ac mu
 |some e,au,mu=>(ev C e au mu).bind λv mu=>.ok (aa v) mu
noncomputable def su(C:Calls):ag E->Loc->Mu->Res (ag PV)
 |[],_,mu=>.ok [] mu
 |e::r,au,mu=>(ev C e au mu).bind λv mu=>(su C r au mu).bind λvs mu=>.ok (v::vs) mu
noncomputable def Pd(C:Calls):ag (E×E)->Loc->Mu->Res (ag (T×T))
 |[],_,mu=>.ok [] mu
 |(k,v)::r,au,mu=>(ev C k au mu).bind λx mu=>(ev C v au mu).bind λy mu=>dO (x.t?.bind T.s?) λs=>(d0 y mu).bind λy mu=>(Pd C r au mu).bind λvs mu=>.ok ((.str s,y)::vs) mu
noncomputable def i6(C:Calls):ag E->Loc->Mu->Res aW
 |[],_,mu=>.ok ae mu
 |e::r,au,mu=>(ni C e au mu).bind λb mu=>if b then i6 C r au mu else .ok af mu
noncomputable def io(C:Calls):It->Loc->Mu->Res (ag T×Loc)
 |.range as,au,mu=>(su C as au mu).bind λvs mu=>bS ((gi vs).map λl=>(l,au)) mu
 |.name i,au,mu=>(bS (gV au i) mu).bind λv mu=>(d0 v mu).bind λt mu=>bS ((lJ t).map λl=>(l,upd au i (.t t))) mu
 |.val e,au,mu=>(ev C e au mu).bind λv mu=>(d0 v mu).bind λt mu=>bS ((lJ t).map λl=>(l,au)) mu
 |.rev e,au,mu=>(ev C e au mu).bind λv mu=>dO (v.t?.bind T.l?) λl=>.ok (l.reverse,au) mu
noncomputable def ni(C:Calls):E->Loc->Mu->Res aW
 |.not a,au,mu=>(ni C a au mu).bind λx mu=>.ok (!x) mu
 |.and a b,au,mu=>(ni C a au mu).bind λx mu=>if x then ni C b au mu else .ok af mu
 |.or a b,au,mu=>(ni C a au mu).bind λx mu=>if x then .ok ae mu else ni C b au mu
 |.qK t a b,au,mu=>(ni C t au mu).bind λx mu=>if x then ni C a au mu else ni C b au mu
 |.cmp op a b,au,mu=>(ev C a au mu).bind λx mu=>(ev C b au mu).bind λy mu=>bS (eC op x y mu) mu
 |.si op uD a b d,au,mu=>
  (ev C a au mu).bind λx mu=>(ev C b au mu).bind λy mu=>(bS (eC op x y mu) mu).bind λr mu=>
   if r then(ev C d au mu).bind λz mu=>bS (eC uD y z mu) mu else .ok af mu
 |.c v,au,mu=>bS (truth (.t v) mu) mu
 |.au i,au,mu=>(bS (gV au i) mu).bind λx mu=>bS (truth x mu) mu
 |.attr e f,au,mu=>(ev C e au mu).bind λv mu=>(bS (qq v f mu) mu).bind λx mu=>bS (truth x mu) mu
 |.call f as,au,mu=>(su C as au mu).bind λvs mu=>(C f vs mu).bind λx mu=>bS (truth x mu) mu
 |.cR o n as,au,mu=>(ev C o au mu).bind λx mu=>(bS (fq (kindOf x mu) n) mu).bind λc mu=>(su C as au mu).bind λvs mu=>(ei C x n c vs mu).bind λx mu=>bS (truth x mu) mu
 |.hZ a k,au,mu=>(ev C a au mu).bind λx mu=>dO x.t? λv=>bS (mL v k) mu
 |.refused j e,au,mu=>
  if tabAt j mu then(match ev C e au mu with
   |.ok _ mu=>.ok af mu
   |.exc mu=>.ok ae mu
   |.aK=>.aK) else .aK
 |_,_,_=>.aK
end
noncomputable def n9{α:Type}(r:Res α):Res α:=match r with
 |.exc _=>.aK
 |r=>r
noncomputable def oa(p:cB×Loc)(mu:Mu)(go:Loc->Mu->Res (cB×Loc)):Res (cB×Loc):=match p.1 with
 |.ret v=>.ok (.ret v,p.2) mu
 |_=>go p.2 mu
noncomputable def sx:aj->(Loc->Mu->Res aW)->(Loc->Mu->Res (cB×Loc))->Loc->Mu->Res (cB×Loc)
 |0,_,_,_,_=>.aK
 |n+1,t,b,au,mu=>(n9 (t au mu)).bind λx mu=>if x then(n9 (b au mu)).bind λp mu=>oa p mu (sx n t b) else .ok (.next,au) mu
noncomputable def forL(slot:aj)(b:Loc->Mu->Res (cB×Loc)):ag T->Loc->Mu->Res (cB×Loc)
 |[],au,mu=>.ok (.next,au) mu
 |x::r,au,mu=>(n9 (b (upd au slot (.t x)) mu)).bind λp mu=>oa p mu (forL slot b r)
noncomputable def j0:ag aj->ag PV->Loc->ar Loc
 |[],[],au=>aa au
 |i::r,v::vs,au=>j0 r vs (upd au i v)
 |_,_,_=>ac
noncomputable def vp:Nat:=2000000
mutual
noncomputable def exec(C:Calls):S->Loc->Mu->Res (cB×Loc)
 |.asg i e,au,mu=>(ev C e au mu).bind λv mu=>.ok (.next,upd au i v) mu
 |.dH o f e,au,mu=>(ev C e au mu).bind λv mu=>(ev C o au mu).bind λx mu=>(bS (sr x f v mu) mu).bind λmu Z=>.ok (.next,au) mu
 |.iX o i e,au,mu=>(ev C e au mu).bind λv mu=>(ev C o au mu).bind λx mu=>(ev C i au mu).bind λy mu=>(xo x y v mu).bind λZ mu=>.ok (.next,au) mu
 |.unpack is e,au,mu=>(ev C e au mu).bind λv mu=>dO (v.t?.bind T.qr) λl=>(bS (j0 is (l.map .t) au) mu).bind λau mu=>.ok (.next,au) mu
 |.expr e,au,mu=>(ev C e au mu).bind λZ mu=>.ok (.next,au) mu
 |.ret e,au,mu=>(ev C e au mu).bind λv mu=>.ok (.ret v,au) mu
 |.G0,au,mu=>.ok (.ret (.t .none),au) mu
 |.ifs t a b,au,mu=>(ni C t au mu).bind λx mu=>if x then execs C a au mu else execs C b au mu
 |.while t b,au,mu=>sx vp (ni C t) (execs C b) au mu
 |.for i it b,au,mu=>(io C it au mu).bind λp mu=>forL i (execs C b) p.1 p.2 mu
 |.cont,au,mu=>.ok (.cont,au) mu
 |.raise es,au,mu=>(su C es au mu).bind λvs mu=>dO (((oneOf vs).bind PV.t?).bind T.s?) λZ=>.exc mu
 |.try b _,au,mu=>n9 (execs C b au mu)
noncomputable def execs(C:Calls):ag S->Loc->Mu->Res (cB×Loc)
 |[],au,mu=>.ok (.next,au) mu
 |s::r,au,mu=>
  (exec C s au mu).bind λp mu=>match p with
   |(.next,au)=>execs C r au mu
   |p=>.ok p mu
end
structure Fn where
 (slots jj:aj) (dflt:ag T) (body:ag S) (init:aW) (vq:aW)
noncomputable def PV.isNone:PV->aW
 |.t v=>v.qt
 |.m _=>af
noncomputable def Zt(n:aj)(mu:Mu):PV->Res PV
 |.m i=>if n<=i then dO (listAt mu i) λxs=>if(eB xs).isSome=ae then dO (d7 n mu) λmu=>.ok (.m n) (mu++[.list xs]) else .aK else .aK
 |.t _=>.aK
noncomputable def qT(f:Fn)(n:aj)(v:PV)(mu:Mu):Res PV:=
 if f.init=ae then(if v.isNone=ae then .ok v mu else .aK) else if f.vq=ae then Zt n mu v else(d0 v mu).bind λt mu=>eh n (.t t) mu
noncomputable def G3(p:cB×Loc):PV:=match p.1 with
 |.ret v=>v
 |_=>.t .none
noncomputable def exO:ar Mu->Res PV
 |some mu=>.exc mu
 |none=>.aK
noncomputable def ends(f:Fn)(n:aj)(r:Res (cB×Loc)):Res PV:=match r with
 |.ok p mu=>qT f n (G3 p) mu
 |.exc mu=>exO (d7 n mu)
 |.aK=>.aK
noncomputable def kM(f:Fn)(as:ag PV):ag PV:=as++(f.dflt.drop (f.dflt.length-(f.jj-as.length))).map .t
noncomputable def og(f:Fn)(args:ag PV):Loc:=args.map aa++cj (f.slots-f.jj) ac
noncomputable def vr(C:Calls)(f:Fn)(as:ag PV)(mu:Mu):Res PV:=
 if as.length<=f.jj/\(kM f as).length=f.jj/\f.jj<=f.slots then ends f mu.length (execs C f.body (og f (kM f as)) mu) else .aK
noncomputable def JB(FT:aj->ar Fn)(C:Calls)(f:aj)(as:ag PV)(mu:Mu):Res PV:=dO (FT f) λfn=>vr C fn as mu
noncomputable def vA(FT:aj->ar Fn):aj->Calls
 |0=>λZ Z Z=>.aK
 |n+1=>JB FT (vA FT n)
structure Cx where
 (names:ag (bQ×iz)) (sl:ag (bQ×aj)) (n:aj) (fn:ar Nat:=ac)
noncomputable def p4:ag (ag aj×aj):=[([105,115,95,119,104,105,116,101],1),([105,115,95,114,101,103,117,108,97,114],2),([105,115,95,102,105,103,117,114,101],3),([115,105,103,110,95,116,101,120,116],31),([114,101,97,100,95,100,101,99,105,109,97,108],32),([104,101,120,95,119,111,114,116,104],33),([112,108,97,105,110,95,101,115,99,97,112,101],34),([110,97,109,101,95,116,101,120,116],35),
 ([111,99,116,97,108],36),([101,115,99,97,112,101,100,95,99,111,100,101,115],37),([108,105,116,101,114,97,108],38),([104,101,120,95,115,116,114,105,110,103],39),([114,117,110,95,116,111,107,101,110],40),([100,101,108,105,109,105,116,101,100,95,116,111,107,101,110],41),([110,101,120,116,95,116,111,107,101,110],42),([105,115,95,115,105,103,110],43),([107,105,110,100,95,111,102],49),([116,111,108,100,95,112,108,97,105,110],50),
 ([116,111,108,100],51),([116,111,108,100,95,111,98,106,101,99,116,115],51),([112,97,114,116,115,95,111,102],52),([100,101,112,116,104,95,111,102],53),([105,115,95,119,104,111,108,101],56),([116,97,107,101,95,114,101,102,101,114,101,110,99,101],57),([119,111,114,100,95,118,97,108,117,101],58),([112,108,97,105,110,95,118,97,108,117,101],59),([100,105,99,116,95,111,102],60),([99,108,111,115,101,95,102,114,97,109,101],61),
 ([111,98,106,101,99,116,95,102,114,111,109],62),([116,101,120,116,95,111,99,116,101,116,115],63),([104,101,120,95,112,97,105,114],64),([110,97,109,101,95,111,99,116,101,116,115],65),([119,104,111,108,101,95,111,99,116,101,116,115],66),([100,101,99,105,109,97,108,95,111,99,116,101,116,115],67),([108,111,110,101,95,98,114,97,99,107,101,116,115],68),([108,105,116,101,114,97,108,95,111,99,116,101,116,115],69),([104,101,120,95,111,99,116,101,116,115],70),
 ([115,116,114,105,110,103,95,111,99,116,101,116,115],71),([112,108,97,105,110,95,112,97,114,116],72),([108,97,121,95,114,101,102,101,114,101,110,99,101],73),([108,97,121,95,100,105,99,116],74),([108,97,121,95,112,97,114,116,115],75),([114,117,110,95,116,111,103,101,116,104,101,114],76),([106,111,105,110,101,100,95,112,97,114,116,115],77),([115,116,114,101,97,109,95,104,101,97,100],78),([119,114,105,116,101,95,111,98,106,101,99,116],79),
 ([105,115,95,111,112,101,114,97,116,111,114],82),([119,111,114,100,95,116,101,120,116],83),([105,109,97,103,101,95,104,101,97,100],84),([101,110,100,115,95,105,109,97,103,101],85),([105,109,97,103,101,95,111,99,116,101,116,115],86),([114,101,97,100,95,105,109,97,103,101],87),([114,101,97,100,95,99,111,110,116,101,110,116],88),([111,112,101,114,97,116,111,114,95,111,99,116,101,116,115],89),([105,109,97,103,101,95,112,105,101,99,101,115],90),
 ([111,112,101,114,97,116,105,111,110,95,111,99,116,101,116,115],91),([119,114,105,116,101,95,99,111,110,116,101,110,116],92),([95,108,97,119,95,112,101,110],93),([95,108,97,119,95,100,114,97,119],94),([95,108,97,119,95,112,105,99,107],95),([95,108,97,119,95,111,99,116,101,116,115],96),([95,108,97,119,95,112,108,97,105,110],97),([95,108,97,119,95,118,97,108,117,101],98),([95,108,97,119,95,105,109,97,103,101],99),
 ([95,108,97,119,95,111,112,101,114,97,116,105,111,110],100),([95,108,97,119,95,116,111,108,100],101),([95,108,97,119,95,98,97,99,107],102),([95,108,97,119,95,105,109,97,103,101,95,114,105,103,104,116],104),([108,97,119],105)]
noncomputable def tL:ag (ag aj×aj):=[([67,117,114,115,111,114],0),([68,101,99,105,109,97,108],1),([78,97,109,101],2),([83,116,114,105,110,103],3),([79,112,101,114,97,116,105,111,110],4),([70,114,97,109,101],5),([83,116,114,101,97,109],6),([82,101,102,101,114,101,110,99,101],7)]
noncomputable def AS:ag (ag aj×aj):=tL++[([98,111,111,108],10),([105,110,116],11),([108,105,115,116],12),([100,105,99,116],13)]
noncomputable def AU:ag (ag aj×B):=[([108,101,110],.len),([109,105,110],.min),([109,97,120],.max),([99,104,114],.chr),([111,114,100],.ord),([98,121,116,101,115],.bytes),([115,116,114],.str),([97,98,115],.abs),([105,110,116],.int),([115,111,114,116,101,100],.sorted),
 ([108,105,115,116],.list),([116,117,112,108,101],.tuple),([100,105,99,116],.dict)]
noncomputable def p5:ag (ag aj×aj):=[([100,97,116,97],0),([97,116],1),([101,110,100],2),([116,111,112],3),([112,108,97,99,101,115],4),([116,101,120,116],5),([111,99,116,101,116,115],6),([105,115,95,104,101,120],7),([119,111,114,100],8),([111,112,101,114,97,110,100,115],9),([109,97,114,107],10),([105,116,101,109,115],11),([104,101,97,100],12),([110,117,109,98,101,114],13),([103,101,110,101,114,97,116,105,111,110],14),
 ([97,112,112,101,110,100],30),([101,120,116,101,110,100],31),([112,111,112],32),([102,105,110,100],33),([106,111,105,110],34),([105,110,100,101,120],35),([105,115,95,100,111,110,101],40),([112,101,101,107],41),([116,97,107,101],42),([115,116,97,114,116,115],43),([115,107,105,112],44),([115,107,105,112,95,119,104,105,116,101],45),
 ([116,97,107,101,95,114,101,103,117,108,97,114],46),([115,107,105,112,95,108,105,110,101,95,101,110,100],47),([108,101,97,115,116,95,116,101,120,116],49),([116,111,108,100],50),([119,97,110,116,115,95,107,101,121],51)]
noncomputable def iT(l:ag bE):T:=.tup (l.map λn=>.int n)
noncomputable def bL(s:eS):ag Nat:=s.toList.map nM
noncomputable def AV:ag (ag aj×T):=[([87,72,73,84,69],iT [0,9,10,12,13,32]),([68,69,76,73,77,73,84,69,82,83],iT [40,41,60,62,91,93,123,125,47,37]),([76,73,78,69,95,70,69,69,68],.int 10),([82,69,84,85,82,78],.int 13),([67,79,77,77,69,78,84],.int 37),
 ([77,79,83,84,95,70,73,71,85,82,69,83,95,99,117,114,115,111,114],.int 20),([77,79,83,84,95,70,73,71,85,82,69,83,95,100,101,99,105,109,97,108,115],.int 40),([80,76,85,83],.int 43),([77,73,78,85,83],.int 45),([80,79,73,78,84],.int 46),([90,69,82,79],.int 48),([80,65,82,69,78],.int 40),([67,76,79,83,69,95,80,65,82,69,78],.int 41),
 ([76,69,83,83],.int 60),([71,82,69,65,84,69,82],.int 62),([83,76,65,83,72],.int 47),([66,65,67,75,83,76,65,83,72,95,108,101,120,101,114],.int 92),([72,65,83,72],.int 35),([83,73,71,78,83],iT [91,93,123,125]),([77,79,83,84,95,68,69,80,84,72],.int 40),([77,79,83,84,95,78,69,83,84,69,68],.int 40),
 ([77,79,83,84,95,78,85,77,66,69,82],.int 40),([66,65,67,75,83,76,65,83,72,95,119,114,105,116,101,114],.int 92),([79,80,69,78,95,66,82,65,67,75,69,84],.int 40),([67,76,79,83,69,95,66,82,65,67,75,69,84],.int 41),([67,65,82,82,73,65,71,69],.int 13),([78,85,77,66,69,82,95,83,73,71,78],.int 35),
 ([72,69,88,95,70,73,71,85,82,69,83],.bytes (bL "0123456789ABCDEF")),([86,65,76,85,69,95,87,79,82,68,83],.tup [.bytes (bL "true"),.bytes (bL "false"),.bytes (bL "null")])]
noncomputable def JC:ag (ag aj):=[[115,105,103,110,115],[99,111,100,101,115],[104,97,108,118,101,115],[102,111,117,110,100],[111,112,101,110,95,111,110,101,115],[108,111,110,101],[112,97,114,116,115],[112,105,101,99,101,115],[111,112,101,114,97,110,100,115],[105,116,101,109,115],[108,105,110,101],[104,101,97,100],[102,114,97,109,101,115]]
noncomputable def xp(l:ag aj):Str:=⟨l.toArray⟩
noncomputable def qt(s:bQ)(l:ag aj):Bool:=s.cps.toList==l
noncomputable def lk{α:Type}(l:ag (ag aj×α))(s:bQ):ar α:=(l.find? λp=>qt s p.1).map (·.2)
noncomputable def Zu(s:bQ):Bool:=JC.any λp=>qt s p
noncomputable def CF:Const->ar T
 |.none=>aa .none
 |.bool b=>aa (.bool b)
 |.int i=>aa (.int i)
 |.str s=>aa (.str s.cps.toList)
 |.bytes b=>aa (.bytes (b.map bh))
 |_=>ac
noncomputable def SV:So->ar O5
 |.Add=>aa .add |.Sub=>aa .sub |.Mult=>aa .mul |.FloorDiv=>aa .fdiv |.Mod=>aa .mod |.Pow=>aa .pow |_=>ac
noncomputable def ER:pS->ar Js
 |.Eq=>aa .eq |.NotEq=>aa .ne |.Lt=>aa .lt |.LtE=>aa .le |.Gt=>aa .gt |.GtE=>aa .ge |.Is=>aa .is |.IsNot=>aa .kf |.In=>aa .isIn |.NotIn=>aa .pZ
noncomputable def glob(cx:Cx)(x:bQ):Bool:=cx.names.lookup x==aa .globalImplicit
noncomputable def jc(cx:Cx)(sc:fQ)(x:bQ):Cx:=
 {names:=sc.names,sl:=(x,cx.n)::cx.sl.filter (λp=>sc.names.lookup p.1==aa .free),n:=cx.n+1,fn:=cx.fn}
noncomputable def JD(x:bQ):Bool:=!qt x [95,95,100,101,98,117,103,95,95]&&!qt x [95,95,99,108,97,115,115,100,105,99,116,95,95]
noncomputable def vC(o:ar iz):Bool:=o==aa .cell||o==aa .free
noncomputable def lK(cx:Cx)(sc:fQ)(x:bQ):Bool:=
 sc.kind==.function&&JD x&&sc.names.lookup x==aa .local&&sc.names.all (λp=>p.2 != .cell&&(p.2 != .local||sc.names.lookup p.1==aa .local)&&(p.2 != .free||vC (cx.names.lookup p.1)))
noncomputable def JE(cx:Cx)(sc:fQ):Bool:=
 sc.kind==.function&&!sc.isCoroutine&&!sc.isGenerator&&sc.names.all (λp=>p.2 != .cell&&p.2 != .local&&(p.2 != .free||vC (cx.names.lookup p.1)))
noncomputable def bOp:Em->E->E->E
 |.And=>.and
 |.Or=>.or
noncomputable def Zv:bV->aW
 |.List _ _=>ae
 |_=>af
noncomputable def ES(l:ag bQ):aj->ag (bQ×aj)
 :=λn=>match l with |[]=>[] |a::r=>(a,n)::ES r (n+1)
noncomputable def jk(ps:ag bQ)(sc:fQ):ag Str:=ps++(sc.names.filterMap λp=>if p.2 != .globalImplicit&&!ps.contains p.1 then aa p.1 else ac)
noncomputable def tabOf(n:bQ):ar Nat:=if qt n [95,108,97,119,95,105,109,97,103,101,95,114,105,103,104,116] then aa 0 else if qt n [108,97,119] then aa 1 else ac
end
section
open PySem PySem.W PyProof.Rows
@[irreducible] noncomputable def prog:Program:=aR
def PB(w:fA):Prop:=WalkO (qP aR) loose (λZ Z=>rV) (λw' h=>w'=w/\YP1 w' h) aV.row.toRowW (qm aR) [] (λf vs=>IE f vs)
@[irreducible] noncomputable def w:World:=@Classical.epsilon fA ⟨aWorld 0⟩ (λw=>¬PB w)
theorem Zw(h:PB w)(w':fA):PB w':=Classical.byContradiction λn=>aQ h (by rw[w];exact @Classical.epsilon_spec fA (λw=>¬PB w) ⟨w',n⟩)
noncomputable def gone:Obj:=⟨.none,ac,.freed,⟨[]⟩⟩
noncomputable def Zx(P:aS):ag Obj:=objs P (x2 P 2) (x3 P (sv 8 1285) 118) (yT 240) (lY [.ref 189])
noncomputable def BH(P:aS):Heap:=⟨⟨((Zx P).set 858 gone).set 863 gone⟩,{}⟩
theorem AW{l:ag fE}{n:aj}{b:aN}{o:fE}(h:(⟨⟨l.set n gone⟩,{}⟩ :dK).get? b=aa o):(⟨⟨l⟩,{}⟩ :dK).get? b=aa o:=by
 by_cases e:n=b
 ·have:(⟨⟨l.set n gone⟩,{}⟩ :dK).get? b=none:=by
   unfold dK.get?;simp only[dw];rw[ag.getElem?_set,aA e]
   by_cases k:n<l.length
   ·rw[aA k];rfl
   ·rw[aL k]
  rw[this] at h;cases h
 ·unfold dK.get? at h ⊢
  simp only[dw] at h ⊢;rwa[cn e] at h
theorem U5(P:aS){b:aN}{o:fE}(h:(BH P).get? b=aa o):(H1 P).get? b=aa o:=AW (AW h)
abbrev Pl:=ag (aN×aN)
noncomputable def mP:aj->aN
 |0=>858 |_=>863
noncomputable def dU:aj->aN
 |0=>860 |_=>865
noncomputable abbrev JF(ps:cE ao):Obj:={cls:=.none,data:=.fields ps}
structure U6(h:dK)(X:aN->Prop)(c:aN)(o:fE)(vs:cE ao)(q:bQ)(t:Tok):Prop where
 (nx:¬X c) (at_:h.get? c=aa o) (cls:o.cls=.type "code") (data:o.data=.fields vs) (nm:vs[1]? =aa (.str q t))
def uE(h:dK)(X:aN->Prop)(v:ao):Prop:=∃c o vs q t,v=.ref c/\U6 h X c o vs q t
def x9:MO->aN×aN->aN->Prop
 |.dead,_,_=>pT
 |.inst ..,q,a=>a=q.1\/a=q.2
 |_,q,a=>a=q.1
def Az(mu:Mu)(p:Pl)(i:aj)(a:aN):Prop:=∃o q,mu[i]? =aa o/\p[i]? =aa q/\x9 o q a
structure W where (s:aG) (mu:Mu) (p:Pl) (fs:ag aN)
noncomputable abbrev W.h(σ:W):Heap:=σ.s.heap
def MA(σ:W)(a:aN):Prop:=∃i,Az σ.mu σ.p i a
def X(σ:W)(a:aN):Prop:=MA σ a\/a∈σ.fs
noncomputable def cJ:aj->aN
 |0=>147 |1=>285 |2=>397 |3=>419 |4=>717 |5=>527 |_=>0
noncomputable def vD:aj->ag bQ
 |0=>["data","at","end"] |1=>["top","places"] |2=>["text"] |3=>["octets","is_hex"] |4=>["word","operands"] |5=>["mark","items"] |_=>[]
noncomputable def oh(c:aj)(vs:ag ao):bQ->ar Value:=λy=>((vD c).zip vs).lookup y
structure Zy(h:dK)(x dx C:aN)(m:bQ->ar ao)(o:fE):Prop where
 (at_:h.get? x=aa o) (cls:o.cls=.ref C) (data:∀c,o.data≠.cls c) (dict:o.dict=aa dx) (ne:dx≠x) (ns:h.Ns1 dx m)
def gQ(h:dK)(x dx C:aN)(m:bQ->ar ao):Prop:=∃o,Zy h x dx C m o
theorem gQ.inst{h:dK}{x dx C:aN}{m:bQ->ar ao}:gQ h x dx C m->h.Inst x C m:=λq9=>fJ q9 λo i=>⟨o,i.at_,i.cls,i.data,.inr ⟨dx,i.dict,i.ne,i.ns⟩⟩
inductive fR(h:dK)(a:aN):ag T->ag ao->Prop
 |str (ss:ag bQ) (vs:ag ao) (l:ss.length=vs.length) (d:h.DictOf (strKind prog w) a (ss.zip vs)):fR h a (ss.map λs=>.str s.cps.toList) vs
 |int (ss:ag bE) (vs:ag ao) (l:ss.length=vs.length) (d:h.DictOf (intKind prog w) a (ss.zip vs)):fR h a (ss.map .int) vs
def bF{α β:Type}(R:α->β->Prop):ag α->ag β->Prop
 |[],[]=>rV
 |a::l,b::m=>R a b/\bF R l m
 |_,_=>pT
mutual
noncomputable def bK(h:dK)(X:aN->Prop):T->ao->Prop
 |.none,v=>v=.none
 |.bool b,v=>v=.bool b
 |.int i,v=>∃k,v=.int i k
 |.str s,v=>∃k,v=.str ⟨s.toArray⟩ k
 |.bytes s,v=>∃b k,v=.bytes b k/\b.toList.map bh=s
 |.list ts,v=>∃a vs n,v=.ref a/\¬X a/\IsL h a vs.toArray n/\i7 h X ts vs
 |.tup ts,v=>∃a vs n,v=.ref a/\¬X a/\IsT h a vs.toArray n/\i7 h X ts vs
 |.dict kvs,v=>∃a vs,v=.ref a/\¬X a/\(BH w.params).get? a=ac/\fR h a (kvs.map (·.1)) vs/\qU h X kvs vs
 |.inst c ts,v=>∃x dx vs,v=.ref x/\¬X x/\¬X dx/\gQ h x dx (cJ c) (oh c vs)/\i7 h X ts vs
noncomputable def i7(h:dK)(X:aN->Prop):ag T->ag ao->Prop
 |[],[]=>rV
 |t::ts,v::vs=>bK h X t v/\i7 h X ts vs
 |_,_=>pT
noncomputable def qU(h:dK)(X:aN->Prop):ag (T×T)->ag ao->Prop
 |[],[]=>rV
 |(_,t)::ts,v::vs=>bK h X t v/\qU h X ts vs
 |_,_=>pT
end
section
variable{h:dK}{X:aN->Prop}{v:ao}{P:ao->Prop}
theorem i7.all:∀{ts:ag T}{vs:ag ao},i7 h X ts vs↔bF (bK h X) ts vs
 |[],[]=>.rfl
 |[],_::_=>.rfl
 |_::_,[]=>.rfl
 |_::_,_::_=>ael λZ=>i7.all
theorem qU.all:∀{ts:ag (T×T)}{vs:ag ao},qU h X ts vs↔bF (λp=>bK h X p.2) ts vs
 |[],[]=>.rfl
 |[],_::_=>.rfl
 |_::_,[]=>.rfl
 |_::_,_::_=>ael λZ=>qU.all
@[elab_as_elim] theorem jm{i:bE}(r:bK h X (.int i) v)(k:∀t,P (.int i t)):P v:=bD (show ∃k,v=.int i k from r) λt e=>e▸k t
@[elab_as_elim] theorem ir{i:ag aj}(r:bK h X (.str i) v)(k:∀t,P (.str ⟨i.toArray⟩ t)):P v:=bD (show ∃k,v=.str ⟨i.toArray⟩ k from r) λt e=>e▸k t
@[elab_as_elim] theorem eP{i:ag aj}(r:bK h X (.bytes i) v)(k:∀b t,b.toList.map bh=i->P (.bytes b t)):P v:=bD (show ∃b k,v=.bytes b k/\b.toList.map bh=i from r) λb e=>e.elim λt e=>e.1▸k b t e.2
@[elab_as_elim] theorem gj{ts:ag T}(r:bK h X (.list ts) v)(k:∀a vs n,¬X a->IsL h a vs.toArray n->bF (bK h X) ts vs->P (.ref a)):P v:=
 xm (show ∃a vs n,v=.ref a/\¬X a/\IsL h a vs.toArray n/\i7 h X ts vs from r) λa vs n e x l q=>e▸k a vs n x l (i7.all.mp q)
@[elab_as_elim] theorem iY{ts:ag T}(r:bK h X (.tup ts) v)(k:∀a vs n,¬X a->IsT h a vs.toArray n->bF (bK h X) ts vs->P (.ref a)):P v:=
 xm (show ∃a vs n,v=.ref a/\¬X a/\IsT h a vs.toArray n/\i7 h X ts vs from r) λa vs n e x l q=>e▸k a vs n x l (i7.all.mp q)
@[elab_as_elim] theorem kn{kvs:ag (T×T)}(r:bK h X (.dict kvs) v)(k:∀a vs,¬X a->(BH w.params).get? a=ac->fR h a (kvs.map (·.1)) vs->bF (λp=>bK h X p.2) kvs vs->P (.ref a)):P v:=
 Ji (show ∃a vs,v=.ref a/\¬X a/\(BH w.params).get? a=ac/\fR h a (kvs.map (·.1)) vs/\qU h X kvs vs from r) λa vs e x b l q=>e▸k a vs x b l (qU.all.mp q)
@[elab_as_elim] theorem qV{c:aj}{ts:ag T}(r:bK h X (.inst c ts) v)(k:∀x dx vs,¬X x->¬X dx->gQ h x dx (cJ c) (oh c vs)->bF (bK h X) ts vs->P (.ref x)):P v:=
 UP (show ∃x dx vs,v=.ref x/\¬X x/\¬X dx/\gQ h x dx (cJ c) (oh c vs)/\i7 h X ts vs from r) λa dx vs e x y l q=>e▸k a dx vs x y l (i7.all.mp q)
theorem ly{ts:ag T}{a:aN}{vs:ag ao}{n:aj}(x:¬X a)(l:IsL h a vs.toArray n)(q:bF (bK h X) ts vs):bK h X (.list ts) (.ref a):=
 show ∃a' vs n,dz a=.ref a'/\¬X a'/\IsL h a' vs.toArray n/\i7 h X ts vs from⟨a,vs,n,rfl,x,l,i7.all.mpr q⟩
theorem sy{ts:ag T}{a:aN}{vs:ag ao}{n:aj}(x:¬X a)(l:IsT h a vs.toArray n)(q:bF (bK h X) ts vs):bK h X (.tup ts) (.ref a):=
 show ∃a' vs n,dz a=.ref a'/\¬X a'/\IsT h a' vs.toArray n/\i7 h X ts vs from⟨a,vs,n,rfl,x,l,i7.all.mpr q⟩
theorem uF{kvs:ag (T×T)}{a:aN}{vs:ag ao}(x:¬X a)(b:(BH w.params).get? a=ac)(l:fR h a (kvs.map (·.1)) vs)(q:bF (λp=>bK h X p.2) kvs vs):bK h X (.dict kvs) (.ref a):=
 show ∃a' vs,dz a=.ref a'/\¬X a'/\(BH w.params).get? a'=ac/\fR h a' (kvs.map (·.1)) vs/\qU h X kvs vs from⟨a,vs,rfl,x,b,l,qU.all.mpr q⟩
theorem ET{c:aj}{ts:ag T}{x dx:aN}{vs:ag ao}(n:¬X x)(n':¬X dx)(i:gQ h x dx (cJ c) (oh c vs))(q:bF (bK h X) ts vs):bK h X (.inst c ts) (.ref x):=
 show ∃y dx vs,dz x=.ref y/\¬X y/\¬X dx/\gQ h y dx (cJ c) (oh c vs)/\i7 h X ts vs from⟨x,dx,vs,rfl,n,n',i,i7.all.mpr q⟩
end
theorem JG{α:Type}{a b:α}{m n:Mu}(h:Res.ok a m=.ok b n):a=b/\m=n:=by injection h with h1 h2;exact⟨h1,h2⟩
section
variable{α β:Type}{R R':α->β->Prop}
@[elab_as_elim] theorem bF.ind{P:ag α->ag β->Prop}{l:ag α}{m:ag β}(r:bF R l m)(n:P [] [])(c:∀a l b m,R a b->bF R l m->P l m->P (a::l) (b::m)):P l m:=by
 induction l generalizing m with
 |nil=>
  cases m with
   |nil=>exact n
   |cons b m=>exact r.elim
 |cons a l ih=>
  cases m with
   |nil=>exact r.elim
   |cons b m=>exact c a l b m r.1 r.2 (ih r.2)
theorem bF.jo{a:α}{l:ag α}{m:ag β}(h:bF R (a::l) m):∃b m',m=b::m'/\R a b/\bF R l m':=by
 cases m with
 |nil=>exact h.elim
 |cons b m=>exact⟨b,m,rfl,h⟩
theorem bF.oi{m:ag β}(h:bF R [] m):m=[]:=by
 cases m with
 |nil=>rfl
 |cons b m=>exact h.elim
@[elab_as_elim] theorem bF.two{P:ag β->Prop}{a b:α}{m:ag β}(r:bF R [a,b] m)(k:∀u v,R a u->R b v->P [u,v]):P m:=
 k8 (bF.jo r) λu m1 e h1 r1=>k8 (bF.jo r1) λv m2 e2 h2 r2=>e▸e2▸(bF.oi r2)▸k u v h1 h2
theorem bF.mono{l:ag α}{m:ag β}(f:∀a∈l,∀b,R a b->R' a b)(r:bF R l m):bF R' l m:=
 (r.ind (P:=λl m=>(∀a∈l,∀b,R a b->R' a b)->bF R' l m) (λf=>trivial) λa l b m h r k f=>⟨f a (.head _) b h,k λa m=>f a (.tail _ m)⟩) f
theorem bF.len{l:ag α}{m:ag β}(r:bF R l m):l.length=m.length:=
 r.ind rfl λa l b m h r k=>av (· +1) k
theorem bF.get{l:ag α}{m:ag β}{i:aj}{a:α}(r:bF R l m)(e:l[i]? =aa a):∃b,m[i]? =aa b/\R a b:=
 (r.ind (P:=λl m=>∀i,l[i]? =aa a->∃b,m[i]? =aa b/\R a b) (λi e=>aQ (show ac=aa a from e) (nomatch ·)) λx l y m h r k i=>aem (motive:=λi=>(x::l)[i]? =aa a->∃b,(y::m)[i]? =aa b/\R a b) i (λe=>⟨y,rfl,aM e▸h⟩) λi e=>k i e) i e
theorem bF.append{l l':ag α}{m m':ag β}(r:bF R l m)(q:bF R l' m'):bF R (l++l') (m++m'):=
 r.ind (P:=λl m=>bF R (l++l') (m++m')) q λa l b m h r k=>⟨h,k⟩
theorem bF.drop{l:ag α}{m:ag β}(n:aj)(r:bF R l m):bF R (l.drop n) (m.drop n):=by
 induction n generalizing l m with
 |zero=>exact r
 |succ n ih=>exact r.ind (P:=λl m=>bF R (l.drop (n+1)) (m.drop (n+1))) trivial λa l b m h r k=>ih r
theorem bF.take{l:ag α}{m:ag β}(n:aj)(r:bF R l m):bF R (l.take n) (m.take n):=by
 induction n generalizing l m with
 |zero=>trivial
 |succ n ih=>exact r.ind (P:=λl m=>bF R (l.take (n+1)) (m.take (n+1))) trivial λa l b m h r k=>⟨h,ih r⟩
theorem bF.set{l:ag α}{m:ag β}{k:aj}{a:α}{b:β}(r:bF R l m)(q:R a b):bF R (l.set k a) (m.set k b):=
 (r.ind (P:=λl m=>∀k,bF R (l.set k a) (m.set k b)) (λk=>trivial) λx l y m h r ih k=>aem (motive:=λk=>bF R ((x::l).set k a) ((y::m).set k b)) k ⟨q,r⟩ λk=>⟨h,ih k⟩) k
theorem bF.map{γ:Type}{f:γ->α}{l:ag γ}{m:ag β}(r:bF (λc=>R (f c)) l m):bF R (l.map f) m:=
 r.ind (P:=λl m=>bF R (l.map f) m) trivial λa l b m h r k=>⟨h,k⟩
end
section
variable{h h':dK}{X X':aN->Prop}{x dx C:aN}{m:bQ->ar ao}
theorem gQ.mono(i:gQ h x dx C m)(k:∀a o,a=x\/a=dx->h.get? a=aa o->h'.get? a=aa o):gQ h' x dx C m:=
 i.elim λo i=>⟨o,k x o (.inl rfl) i.at_,i.cls,i.data,i.dict,i.ne,i.ns.at λo e=>k dx o (.inr rfl) e⟩
theorem gQ.at(i:gQ h x dx C m):∃o,h.get? x=aa o:=i.imp λZ i=>i.at_
theorem gQ.at2(i:gQ h x dx C m):∃o,h.get? dx=aa o:=i.elim λZ i=>i.ns.elim λo q=>q.elim λZ q=>q.elim λZ q=>⟨o,q.1⟩
theorem fR.at{a:aN}{ks:ag T}{vs:ag ao}(r:fR h a ks vs):∃o es ep,h.get? a=aa o/\o.data=.dict es ep:=by
 cases r with
 |str _ _ _ x=>exact x.elim λo x=>x.elim λes x=>x.elim λep x=>⟨o,es,ep,x.1,x.2.2.1⟩
 |int _ _ _ x=>exact x.elim λo x=>x.elim λes x=>x.elim λep x=>⟨o,es,ep,x.1,x.2.2.1⟩
theorem fR.mono{a:aN}{ks:ag T}{vs:ag ao}(k:∀o,h.get? a=aa o->h'.get? a=aa o)(r:fR h a ks vs):fR h' a ks vs:=by
 cases r with
 |str ss vs l x=>exact .str ss vs l (x.imp λo x=>x.imp λes x=>x.imp λep x=>⟨k o x.1,x.2⟩)
 |int ss vs l x=>exact .int ss vs l (x.imp λo x=>x.imp λes x=>x.imp λep x=>⟨k o x.1,x.2⟩)
def Tb(o:fE):Prop:=(∃vs,o.data=.fields vs)/\(o.cls=.ref 189\/o.cls=.type "traceback")
abbrev HeldN(N:fE->Prop)(h:dK)(X:aN->Prop)(h':dK)(X':aN->Prop):Prop:=∀a o,¬X a->h.get? a=aa o->¬N o->¬X' a/\h'.get? a=aa o
abbrev Tame(N:fE->Prop):Prop:=∀o,N o->Tb o
theorem oj{N:fE->Prop}(t:Tame N){o:fE}{vs:cE ao}{n:aj}(e:o.data=.seq vs n):¬N o:=λz=>(t o z).1.elim λZ q=>by rw[e] at q;cases q
theorem pg{N:fE->Prop}(t:Tame N){o:fE}{es:cE Ai}{n:aj}(e:o.data=.dict es n):¬N o:=λz=>(t o z).1.elim λZ q=>by rw[e] at q;cases q
theorem ya{N:fE->Prop}(t:Tame N){o:fE}{c:aj}(e:o.cls=.ref (cJ c)):¬N o:=λz=>by
 rcases(t o z).2 with h |h<;>rw[e] at h
 ·have:cJ c=189:=by injection h
  unfold cJ at this;(repeat' split at this)<;>exact aQ this (by decide)
 ·cases h
theorem yb{N:fE->Prop}(t:Tame N){o:fE}{c:eS}(e:o.cls=.type c)(n:c≠"traceback"):¬N o:=λz=>by
 rcases(t o z).2 with h |h<;>rw[e] at h
 ·cases h
 ·exact n (by injection h)
theorem G4{N:fE->Prop}(t:Tame N){o:fE}(e:o.cls=.none):¬N o:=λz=>by
 rcases(t o z).2 with h |h<;>rw[e] at h<;>cases h
theorem cK:Tame λZ=>False:=λZ=>jV
abbrev ol:=HeldN λZ=>pT
variable{N:fE->Prop}(tm:Tame N)
include tm
theorem gQ.lz{c:aj}(i:gQ h x dx (cJ c) m)(k:∀a o,a=x\/a=dx->h.get? a=aa o->¬N o->h'.get? a=aa o):gQ h' x dx (cJ c) m:=
 i.elim λo i=>i.ns.elim λo' q=>q.elim λes q=>q.elim λep q=>⟨o,k x o (.inl rfl) i.at_ (ya tm i.cls),i.cls,i.data,i.dict,i.ne,⟨o',es,ep,k dx o' (.inr rfl) q.1 (pg tm q.2.1),q.2⟩⟩
theorem gQ.out{c:aj}(i:gQ h x dx (cJ c) m)(k:HeldN N h X h' X')(n:¬X x)(n':¬X dx):¬X' x/\¬X' dx:=
 i.elim λo i=>i.ns.elim λo' q=>q.elim λes q=>q.elim λep q=>⟨(k x o n i.at_ (ya tm i.cls)).1,(k dx o' n' q.1 (pg tm q.2.1)).1⟩
theorem fR.lz{a:aN}{ks:ag T}{vs:ag ao}(k:∀o,h.get? a=aa o->¬N o->h'.get? a=aa o)(d:fR h a ks vs):fR h' a ks vs:=
 d.mono λo e=>k o e (d.at.elim λo' q=>q.elim λes q=>q.elim λep q=>pg tm (aM (q.1.symm.trans e)▸q.2))
theorem bK.eQ(k:HeldN N h X h' X'){t:T}{v:ao}:bK h X t v->bK h' X' t v:=
 T.rec (motive_1:=λt=>∀v,bK h X t v->bK h' X' t v) (motive_2:=λts=>∀vs,bF (bK h X) ts vs->bF (bK h' X') ts vs) (motive_3:=λts=>∀vs,bF (λp=>bK h X p.2) ts vs->bF (λp=>bK h' X' p.2) ts vs) (motive_4:=λp=>∀v,bK h X p.2 v->bK h' X' p.2 v)
  (λv r=>r) (λb v r=>r) (λb v r=>r) (λb v r=>r) (λb v r=>r)
  (λts ih v r=>gj r λa vs n nx l q=>ly (k a _ nx l (oj tm rfl)).1 (k a _ nx l (oj tm rfl)).2 (ih vs q))
  (λts ih v r=>iY r λa vs n nx l q=>sy (k a _ nx l (oj tm rfl)).1 (k a _ nx l (oj tm rfl)).2 (ih vs q))
  (λts ih v r=>kn r λa vs nx nb l q=>uF (l.at.elim λo z=>z.elim λes z=>z.elim λep z=>(k a o nx z.1 (pg tm z.2)).1) nb (l.lz tm λo e n=>(k a o nx e n).2) (ih vs q))
  (λc ts ih v r=>qV r λx dx vs nx nd i q=>ET (i.out tm k nx nd).1 (i.out tm k nx nd).2 (i.lz tm λa o m e n=>(k a o (m.elim (λq=>q▸nx) λq=>q▸nd) e n).2) (ih vs q))
  (λvs r=>bF.oi r▸trivial) (λa l h t vs r=>(bF.jo r).elim λv z=>z.elim λm z=>z.1▸⟨h v z.2.1,t m z.2.2⟩)
  (λvs r=>bF.oi r▸trivial) (λa l h t vs r=>(bF.jo r).elim λv z=>z.elim λm z=>z.1▸⟨h v z.2.1,t m z.2.2⟩)
  (λa b h1 h2=>h2) t v
end
def gL(σ:W):PV->ao->Prop
 |.t t,v=>bK σ.h (X σ) t v
 |.m i,v=>∃q,σ.p[i]? =aa q/\v=.ref q.1
abbrev RV(a:PV)(v:ao)(σ:W):Prop:=gL σ a v
abbrev qL(a:ag PV)(v:ag ao)(σ:W):Prop:=bF (gL σ) a v
def vE(σ:W):MO->aN×aN->Prop
 |.dead,_=>rV
 |.tab j,q=>q.1=mP j/\∃ps:cE ao,σ.h.get? q.1=aa (JF ps)/\acN ps.toList/\∀pos v,t6 pos ps.toList=aa v->uE σ.h (X σ) v
 |.list xs,q=>∃vs n,IsL σ.h q.1 vs.toArray n/\bF (gL σ) xs vs
 |.dict kvs,q=>∃vs,fR σ.h q.1 (kvs.map (·.1)) vs/\bF (λp=>bK σ.h (X σ) p.2) kvs vs
 |.inst c xs,q=>∃vs,gQ σ.h q.1 q.2 (cJ c) (oh c vs)/\bF (gL σ) xs vs
section
variable{σ τ:W}{N:fE->Prop}
theorem gL.eQ(tm:Tame N)(k:HeldN N σ.h (X σ) τ.h (X τ)):∀{a:PV}{v:ao},(∀(i:aj) q,a=.m i->σ.p[i]? =aa q->τ.p[i]? =aa q)->gL σ a v->gL τ a v
 |.t _,_,_,r=>bK.eQ tm k r
 |.m i,_,p,⟨q,e,z⟩=>⟨q,p i q rfl e,z⟩
theorem uE.move(tm:Tame N)(k:HeldN N σ.h (X σ) τ.h (X τ)){v:ao}:uE σ.h (X σ) v->uE τ.h (X τ) v:=λq9=>UR q9 λc o vs q t e z=>
 ⟨c,o,vs,q,t,e,(k c o z.nx z.at_ (yb tm z.cls (by decide))).1,(k c o z.nx z.at_ (yb tm z.cls (by decide))).2,z.cls,z.data,z.nm⟩
theorem vE.eQ(tm:Tame N)(k:HeldN N σ.h (X σ) τ.h (X τ)):∀{o:MO}{q:aN×aN},(∀a ob,x9 o q a->σ.h.get? a=aa ob->¬N ob->τ.h.get? a=aa ob)->
 (∀xs,(o=.list xs\/∃c,o=.inst c xs)->∀(i:aj) q,.m i∈xs->σ.p[i]? =aa q->τ.p[i]? =aa q)->vE σ o q->vE τ o q
 |.dead,_,_,_,_=>trivial
 |.tab j,q,f,_,⟨e,ps,l,t,z⟩=>⟨e,ps,f _ _ rfl l (G4 tm rfl),t,λpos v m=>(z pos v m).move tm k⟩
 |.list xs,q,f,p,⟨vs,n,l,z⟩=>⟨vs,n,f _ _ rfl l (oj tm rfl),z.mono λa m v r=>r.eQ tm k λi q e=>p xs (.inl rfl) i q (e▸m)⟩
 |.dict kvs,q,f,_,⟨vs,l,z⟩=>⟨vs,l.lz tm λo e=>f _ _ rfl e,z.mono λa Z v r=>r.eQ tm k⟩
 |.inst c xs,q,f,p,⟨vs,l,z⟩=>⟨vs,l.lz tm λa o m e=>f a o m e,z.mono λa m v r=>r.eQ tm k λi q e=>p xs (.inr ⟨c,rfl⟩) i q (e▸m)⟩
structure Ok(σ:W):Prop where
 len:σ.mu.length=σ.p.length
 dj:∀i j a,Az σ.mu σ.p i a->Az σ.mu σ.p j a->i=j
 rep:∀(i:aj) o q,σ.mu[i]? =aa o->σ.p[i]? =aa q->vE σ o q
 base:∀b o,(BH w.params).get? b=aa o->σ.h.get? b=aa o
 off:∀a,MA σ a->(BH w.params).get? a=ac
 gens:σ.s.gens=#[]
 gE:∀a∈σ.fs,¬MA σ a/\(BH w.params).get? a=ac/\∃o,σ.h.get? a=aa o
theorem Ok.at(S:Ok σ){a:aN}:MA σ a->∃o,σ.h.get? a=aa o:=λq9=>ue q9 λi o q e1 e2 m=>by
 have r:=S.rep i o q e1 e2;cases o with
 |dead=>exact m.elim
 |tab j=>obtain⟨_,ps,l,_⟩:=r;exact⟨_,m▸l⟩
 |list xs=>obtain⟨vs,n,l,_⟩:=r;exact⟨_,m▸l⟩
 |dict xs=>obtain⟨vs,l,_⟩:=r;obtain⟨o,_,_,e,_⟩:=l.at;exact⟨o,m▸e⟩
 |inst c xs=>obtain⟨vs,l,_⟩:=r;exact m.elim (λm=>m▸l.at) λm=>m▸l.at2
theorem Ok.SW(S:Ok σ){a:aN}(m:X σ a):∃o,σ.h.get? a=aa o:=m.elim S.at λm=>(S.gE a m).2.2
theorem Ok.afh(S:Ok σ){a:aN}(m:X σ a):(BH w.params).get? a=none:=m.elim (S.off a) λm=>(S.gE a m).2.1
theorem Ok.Pe(S:Ok σ){a:aN}{o:fE}(e:(BH w.params).get? a=aa o):¬X σ a:=λm=>by rw[S.afh m] at e;cases e
theorem Ok.newX(S:Ok σ){a:aN}(e:σ.h.get? a=ac):¬X σ a:=λm=>(S.SW m).elim λo z=>by rw[e] at z;cases z
theorem Ok.lz(S:Ok σ)(tm:Tame N)(len:τ.mu.length=τ.p.length)(k:HeldN N σ.h (X σ) τ.h (X τ))(base:∀b o,(BH w.params).get? b=aa o->τ.h.get? b=aa o)
 (own:∀i a,Az τ.mu τ.p i a->Az σ.mu σ.p i a\/(i=σ.mu.length/\σ.h.get? a=ac))
 (old:∀(i:aj) o q,τ.mu[i]? =aa o->τ.p[i]? =aa q->vE τ o q\/(σ.mu[i]? =aa o/\σ.p[i]? =aa q/\(∀a ob,x9 o q a->σ.h.get? a=aa ob->¬N ob->τ.h.get? a=aa ob)/\
  ∀xs,(o=.list xs\/∃c,o=.inst c xs)->∀(i:aj) q,.m i∈xs->σ.p[i]? =aa q->τ.p[i]? =aa q))
 (gens:τ.s.gens=σ.s.gens) (fr:∀a∈τ.fs,(a∈σ.fs\/(σ.h.get? a=ac/\∀i,¬Az τ.mu τ.p i a))/\∃o,τ.h.get? a=aa o):Ok τ where
 len:=len
 dj i j a m m':=by
  rcases own i a m with h |⟨h,e⟩<;>rcases own j a m' with h' |⟨h',e'⟩
  ·exact S.dj i j a h h'
  ·exact(S.at ⟨i,h⟩).elim λo z=>by rw[e'] at z;cases z
  ·exact(S.at ⟨j,h'⟩).elim λo z=>by rw[e] at z;cases z
  ·exact h.trans h'.symm
 rep i o q e1 e2:=(old i o q e1 e2).elim id λq9=>ud q9 λh1 h2 h3 h4=>(S.rep i o q h1 h2).eQ tm k h3 h4
 base:=base
 off a:=λq9=>fJ q9 λi m=>(own i a m).elim (λh=>S.off a ⟨i,h⟩) λh=>by
  cases z:(BH w.params).get? a with
  |none=>rfl
  |some o=>have:=S.base a o z;rw[h.2] at this;cases this
 gens:=gens.trans S.gens
 gE a m:=by
  refine gf (fr a m) λh o=>?_;rcases h with h |⟨h,n⟩
  ·exact⟨λq9=>fJ q9 λi m'=>(own i a m').elim (λz=>(S.gE a h).1 ⟨i,z⟩) λz=>(S.gE a h).2.2.elim λo e=>(by rw[z.2] at e;cases e),(S.gE a h).2.1,o⟩
  ·refine⟨λq9=>fJ q9 λi m'=>n i m',?_,o⟩
   cases z:(BH w.params).get? a with
   |none=>rfl
   |some o=>have:=S.base a o z;rw[h] at this;cases this
end
def tM(o:fE):Prop:=∃es ep,o.data=.dict es ep/\StrKeys es
structure Ob(c:Prop)(o o':fE):Prop where
 (same:¬c->o'.data=o.data/\o'.cls=o.cls/\(¬tM o->o'=o)) (Zz:tM o->tM o')
theorem Ob.rfl{c:Prop}{o:fE}:Ob c o o:=⟨λZ=>⟨Eq.refl _,Eq.refl _,λZ=>Eq.refl _⟩,id⟩
theorem Ob.trans{c:Prop}{o o' SX:fE}(a:Ob c o o')(b:Ob c o' SX):Ob c o SX:=
 ⟨λn=>⟨(b.same n).1.trans (a.same n).1,(b.same n).2.1.trans (a.same n).2.1,λd=>have e:=(a.same n).2.2 d;((b.same n).2.2 (e▸d)).trans e⟩,λd=>b.Zz (a.Zz d)⟩
structure ib(O:aN->Prop)(σ τ:W):Prop where
 fs:τ.fs=σ.fs
 keep:∀a o,σ.h.get? a=aa o->¬X σ a->¬O a->τ.h.get? a=aa o
 gE:∀a o,σ.h.get? a=aa o->a∈σ.fs->∃o',τ.h.get? a=aa o'/\Ob (O a) o o'
 ext:∀a o,σ.h.get? a=aa o->∃o',τ.h.get? a=aa o'
 CG:∀a o,σ.h.get? a=aa o->MA τ a->MA σ a
 pre:∀(i:aj) q,σ.p[i]? =aa q->τ.p[i]? =aa q
 os:τ.s.os=σ.s.os
abbrev none_:aN->Prop:=λZ=>pT
abbrev Le:=ib none_
section
variable{σ τ υ:W}{O O':aN->Prop}
theorem ib.refl:ib O σ σ:=⟨rfl,λZ Z e Z Z=>e,λZ o e Z=>⟨o,e,.rfl⟩,λZ o e=>⟨o,e⟩,λZ Z Z m=>m,λZ Z e=>e,rfl⟩
theorem ib.SW(a:ib O σ τ){x:aN}{o:fE}(e:σ.h.get? x=aa o)(m:X τ x):X σ x:=m.elim (λm=>.inl (a.CG x o e m)) λm=>.inr (a.fs▸m)
theorem ib.trans(a:ib O σ τ)(b:ib O τ υ):ib O σ υ where
 fs:=b.fs.trans a.fs
 keep x o e n m:=b.keep x o (a.keep x o e n m) (λz=>n (a.SW e z)) m
 gE x o e m:=(a.gE x o e m).elim λo' z=>(b.gE x o' z.1 (a.fs▸m)).elim λSX y=>⟨SX,y.1,z.2.trans y.2⟩
 ext x o e:=(a.ext x o e).elim λo' e'=>b.ext x o' e'
 CG x o e m:=(a.ext x o e).elim λo' e'=>a.CG x o e (b.CG x o' e' m)
 pre i p e:=b.pre i p (a.pre i p e)
 os:=b.os.trans a.os
theorem ib.wide(a:ib O σ τ)(k:∀x o,σ.h.get? x=aa o->O x->O' x):ib O' σ τ:=
 ⟨a.fs,λx o e n m=>a.keep x o e n λz=>m (k x o e z),λx o e m=>(a.gE x o e m).imp λo' z=>⟨z.1,λn=>z.2.same λy=>n (k x o e y),z.2.Zz⟩,a.ext,a.CG,a.pre,a.os⟩
theorem ib.any(a:Le σ τ):ib O σ τ:=ib.wide a λZ Z Z=>jV
theorem ib.EU(a:ib O σ τ)(k:∀x,O x->X σ x):ol σ.h (X σ) τ.h (X τ):=λx o n e Z=>⟨λm=>n (a.SW e m),a.keep x o e n λz=>n (k x z)⟩
theorem ib.held(a:Le σ τ):ol σ.h (X σ) τ.h (X τ):=ib.EU a λZ=>jV
theorem bK.to(a:Le σ τ){t:T}{v:ao}(r:bK σ.h (X σ) t v):bK τ.h (X τ) t v:=r.eQ cK a.held
theorem gL.to(a:Le σ τ){t:PV}{v:ao}(r:gL σ t v):gL τ t v:=r.eQ cK a.held λi q Z=>a.pre i q
theorem JH(a:Le σ τ){t:ag PV}{v:ag ao}(r:qL t v σ):qL t v τ:=r.mono λZ Z Z r=>r.to a
noncomputable abbrev W.to(σ:W)(s:aG):W:={σ with s:=s}
abbrev Grows(h h':dK):Prop:=∀a o,h.get? a=aa o->h'.get? a=aa o
theorem Ok.grow(S:Ok σ){s:aG}(k:Grows σ.h s.heap)(g:s.gens=σ.s.gens):Ok (σ.to s):=
 S.lz cK S.len (λa o n e Z=>⟨n,k a o e⟩) (λb o e=>k b o (S.base b o e)) (λZ Z=>.inl) (λi o q h1 h2=>.inr ⟨h1,h2,λa ob Z e Z=>k a ob e,λZ Z Z Z Z=>id⟩) g
  λa m=>⟨.inl m,(S.gE a m).2.2.imp λo e=>k a o e⟩
theorem ib.grow{s:aG}(k:Grows σ.h s.heap)(os:s.os=σ.s.os):ib O σ (σ.to s):=
 ⟨rfl,λa o e Z Z=>k a o e,λa o e Z=>⟨o,k a o e,.rfl⟩,λa o e=>⟨o,k a o e⟩,λZ Z Z m=>m,λZ Z e=>e,os⟩
noncomputable abbrev W.tok(σ:W)(t:aj):W:=σ.to {σ.s with toks:=t}
noncomputable abbrev W.push(σ:W)(o:fE):W:=σ.to {σ.s with heap:=σ.s.heap.push o}
theorem du{h:dK}(o:fE):Grows h (h.push o):=λZ Z e=>aI o e
theorem d8{h:dK}:h.get? h.objs.size=none:=by
 cases e:h.get? h.objs.size with
 |none=>rfl
 |some o=>exact aQ (fW e) (cL _)
theorem EV{i:aj}{o o':MO}{j:aj}{a:aN}(he:σ.mu[i]? =aa o)(k:∀q,σ.p[i]? =aa q->x9 o' q a->x9 o q a)(m:Az (σ.mu.set i o') σ.p j a):Az σ.mu σ.p j a:=by
 refine k8 m λx q h1 h2 h3=>?_
 by_cases ij:i=j
 ·subst ij
  rw[cC (ay.mp he).1] at h1;exact⟨o,q,he,h2,k q h2 (aM h1▸h3)⟩
 ·rw[cn ij] at h1;exact⟨x,q,h1,h2,h3⟩
theorem Ok.upd{i:aj}{o o':MO}{q:aN×aN}{s:aG}(S:Ok σ)(he:σ.mu[i]? =aa o)(hq:σ.p[i]? =aa q)(ad:∀a,x9 o' q a->x9 o q a)
 (keep:∀a ob,σ.h.get? a=aa ob->¬x9 o q a->s.heap.get? a=aa ob) (ext:∀a,x9 o q a->∃ob,s.heap.get? a=aa ob) (g:s.gens=σ.s.gens) (os:s.os=σ.s.os)
 (rep:ol σ.h (X σ) s.heap (X ⟨s,σ.mu.set i o',σ.p,σ.fs⟩)->vE ⟨s,σ.mu.set i o',σ.p,σ.fs⟩ o' q):Ok ⟨s,σ.mu.set i o',σ.p,σ.fs⟩/\Le σ ⟨s,σ.mu.set i o',σ.p,σ.fs⟩:=by
 have own:∀j a,Az (σ.mu.set i o') σ.p j a->Az σ.mu σ.p j a:=λj a=>EV he λq' e=>(aM (hq.symm.trans e))▸ad a;have ZA:∀a,x9 o q a->MA σ a:=λa m=>⟨i,o,q,he,hq,m⟩;have hX:∀a,X ⟨s,σ.mu.set i o',σ.p,σ.fs⟩ a->X σ a:=λa m=>m.imp_left λq9=>fJ q9 λj m=>⟨j,own j a m⟩;have held:ol σ.h (X σ) s.heap (X ⟨s,σ.mu.set i o',σ.p,σ.fs⟩):=λa ob n e Z=>⟨λm=>n (hX a m),keep a ob e λm=>n (.inl (ZA a m))⟩;have fr:∀a ob,σ.h.get? a=aa ob->a∈σ.fs->s.heap.get? a=aa ob:=λa ob e m=>keep a ob e λz=>(S.gE a m).1 (ZA a z);refine⟨S.lz cK (by show(σ.mu.set i o').length=_;rw[bG];exact S.len) held (λb ob e=>(held b ob (S.Pe e) (S.base b ob e) id).2) (λj a m=>.inl (own j a m)) (λj x y h1 h2=>?_) g λa m=>⟨.inl m,(S.gE a m).2.2.imp λob e=>fr a ob e m⟩,
  rfl,λa ob e n Z=>(held a ob n e id).2,λa ob e m=>⟨ob,fr a ob e m,.rfl⟩,λa ob e=>?_,λa ob e q9=>fJ q9 λj m=>⟨j,own j a m⟩,λZ Z e=>e,os⟩
 ·by_cases ij:i=j
  ·subst ij
   have h1:(σ.mu.set i o')[i]? =aa x:=h1;rw[cC (ay.mp he).1] at h1;cases h1;rw[show y=q from aM (h2.symm.trans hq)]
   exact .inl (rep held)
  ·have h1:(σ.mu.set i o')[j]? =aa x:=h1
   rw[cn ij] at h1;exact .inr ⟨h1,h2,λa ob m e Z=>keep a ob e λz=>ij (S.dj i j a ⟨o,q,he,hq,z⟩ ⟨x,y,h1,h2,m⟩),λZ Z Z Z Z=>id⟩
 ·by_cases m:x9 o q a
  ·exact ext a m
  ·exact⟨ob,keep a ob e m⟩
noncomputable abbrev W.G5(σ:W)(i:aj):W:={σ with mu:=σ.mu.set i .dead}
theorem Ok.G5{i:aj}{o:MO}{q:aN×aN}(S:Ok σ)(he:σ.mu[i]? =aa o)(hq:σ.p[i]? =aa q):Ok (σ.G5 i)/\Le σ (σ.G5 i)/\∀a,x9 o q a->¬X (σ.G5 i) a:=by
 have u:=S.upd (s:=σ.s) (o':=.dead) he hq (λZ=>jV) (λZ Z e Z=>e) (λa m=>S.at ⟨i,o,q,he,hq,m⟩) rfl rfl λZ=>trivial;refine⟨u.1,u.2,λa m z=>z.elim (λq9=>fJ q9 λj z=>?_) λz=>(S.gE a z).1 ⟨i,o,q,he,hq,m⟩⟩;have e:=S.dj i j a ⟨o,q,he,hq,m⟩ (EV he (λZ Z=>jV) z);subst e;refine k8 z λx y h1 Z h3=>?_;have h1:(σ.mu.set i .dead)[i]? =aa x:=h1;rw[cC (ay.mp he).1] at h1;cases h1;exact h3
theorem qW{α:Type}{l:ag α}{a b:α}{i:aj}(h:(l++[a])[i]? =aa b):l[i]? =aa b\/(i=l.length/\b=a):=by
 by_cases q:i<l.length
 ·exact .inl ((bo q).symm.trans h)
 ·have e:[a][i-l.length]? =aa b:=(aZ (cH q)).symm.trans h
  have z:i-l.length=0:=XX.mp (ay.mp e).1;exact .inr ⟨gy (aj.le_of_sub_eq_zero z) (cH q),by rw[z] at e;exact(aM e).symm⟩
theorem qX{α:Type}{l:ag α}{a b:α}{i:aj}(h:l[i]? =aa b):(l++[a])[i]? =aa b:=by rw[bo (ay.mp h).1];exact h
theorem ph{α:Type}{l:ag α}{a:α}:(l++[a])[l.length]? =aa a:=by rw[aZ (aP _),dA];rfl
noncomputable abbrev W.more(σ:W)(s:aG)(o:MO)(q:aN×aN):W:=⟨s,σ.mu++[o],σ.p++[q],σ.fs⟩
theorem Ok.more{o:MO}{q:aN×aN}{s:aG}(S:Ok σ)(k:Grows σ.h s.heap)(nw:∀a,x9 o q a->σ.h.get? a=ac)(g:s.gens=σ.s.gens)(os:s.os=σ.s.os)
 (rep:ol σ.h (X σ) s.heap (X (σ.more s o q))->vE (σ.more s o q) o q):Ok (σ.more s o q)/\Le σ (σ.more s o q):=by
 have own:∀j a,Az (σ.mu++[o]) (σ.p++[q]) j a->Az σ.mu σ.p j a\/(j=σ.mu.length/\σ.h.get? a=ac):=λj a q9=>k8 q9 λx y h1 h2 h3=>by
  rcases qW h1 with h1 |⟨e,rfl⟩<;>rcases qW h2 with h2 |⟨e',rfl⟩
  ·exact .inl ⟨x,y,h1,h2,h3⟩
  ·have:=(ay.mp h1).1;rw[e', <-S.len] at this;omega
  ·have:=(ay.mp h2).1;rw[e,S.len] at this;omega
  ·exact .inr ⟨e,nw a h3⟩
 have hM:∀a ob,σ.h.get? a=aa ob->MA (σ.more s o q) a->MA σ a:=λa ob e q9=>fJ q9 λj m=>(own j a m).elim (λm=>⟨j,m⟩) λz=>by rw[z.2] at e;cases e
 have held:ol σ.h (X σ) s.heap (X (σ.more s o q)):=λa ob n e Z=>⟨λm=>n (m.imp_left (hM a ob e)),k a ob e⟩;refine⟨S.lz cK ?_ held (λb ob e=>k b ob (S.base b ob e)) own (λj x y h1 h2=>?_) g λa m=>⟨.inl m,(S.gE a m).2.2.imp λob e=>k a ob e⟩,
  rfl,λa ob e Z Z=>k a ob e,λa ob e Z=>⟨ob,k a ob e,.rfl⟩,λa ob e=>⟨ob,k a ob e⟩,hM,λi p e=>qX e,os⟩
 ·show(σ.mu++[o]).length=(σ.p++[q]).length
  rw[ah,ah,S.len];rfl
 ·have g1:(σ.mu++[o])[j]? =aa x:=h1
  have g2:(σ.p++[q])[j]? =aa y:=h2;rcases qW g1 with g1 |⟨e,rfl⟩
  ·rcases qW g2 with g2 |⟨e',rfl⟩
   ·exact .inr ⟨g1,g2,λa ob Z e Z=>k a ob e,λZ Z i p Z e=>qX e⟩
   ·exact aQ (ay.mp g1).1 (by rw[e', <-S.len];exact cL _)
  ·have:(σ.p++[q])[j]? =aa y:=h2
   rw[e,S.len,ph] at this;cases this;exact .inl (rep held)
end
structure JI(s:aG)(ea:aN)(h:dK)(oe:fE)(vs:cE ao):Prop where
 (new:s.heap.get? ea=ac) (at_:h.get? ea=aa oe) (cls:oe.cls=.ref 189) (data:oe.data=.fields vs) (size:1<vs.size)
structure TbO(s:aG)(ea:aN)(h:dK)(vs:cE ao)(T:aN)(oT:fE)(ts:cE ao):Prop where
 (is:vs[1]? =aa (.ref T)) (new:s.heap.get? T=ac) (ne:T≠ea) (at_:h.get? T=aa oT) (cls:oT.cls=.type "traceback") (data:oT.data=.fields ts) (size:3<ts.size)
inductive CH(s:aG)(ea:aN)(h:dK):Prop
 |bare (oe:fE) (vs:cE ao) (e:JI s ea h oe vs) (n:vs[1]? =aa .none)
 |head (oe:fE) (vs:cE ao) (e:JI s ea h oe vs) (T:aN) (oT:fE) (ts:cE ao) (t:TbO s ea h vs T oT ts) (f:ts[3]? =aa .none\/∃F:aN,ts[3]? =aa (rawInt F))
def SY(s:aG)(e:ao)(s':aG):Prop:=∃ea,e=.ref ea/\CH s ea s'.heap
theorem SY.pre{s₀ s s':aG}{e:ao}(k:∀a o,s₀.heap.get? a=aa o->∃o',s.heap.get? a=aa o'):SY s e s'->SY s₀ e s':=λq9=>bH q9 λea h r=>
 have fr:∀a,s.heap.get? a=ac->s₀.heap.get? a=none:=λa h=>by
  cases e:s₀.heap.get? a with
  |none=>rfl
  |some o=>obtain⟨o',e'⟩:=k a o e;rw[h] at e';cases e'
 ⟨ea,h,match r with
  |.bare oe vs e n=>.bare oe vs {e with new:=fr _ e.new} n
  |.head oe vs e T oT ts t f=>.head oe vs {e with new:=fr _ e.new} T oT ts {t with new:=fr _ t.new} f⟩
abbrev PT(β:Type):=(β->aG->Prop)->(ao->aG->Prop)->aG->Prop
abbrev wq{β:Type}(A:bW)(q:Sem β):PT β:=λQ E s=>aX (bP prog w) A q Q E s
section
variable{α β γ δ:Type}{T T':PT β}{O:aN->Prop}{σ τ:W}{r:Res α}{R R':α->β->W->Prop}{Q:β->aG->Prop}{E:ao->aG->Prop}{A:bW}{q:Sem β}
def KO(O:aN->Prop)(σ:W)(r:Res α)(R:α->β->W->Prop)(Q:β->aG->Prop):Prop:=∀a b τ,r=.ok a τ.mu->Ok τ->ib O σ τ->R a b τ->Q b τ.s
def KE(O:aN->Prop)(σ:W)(r:Res α)(E:ao->aG->Prop):Prop:=∀e τ,r=.exc τ.mu->Ok τ->ib O σ τ->SY σ.s e τ.s->E e τ.s
def Gp(T:PT β)(O:aN->Prop)(σ:W)(r:Res α)(R:α->β->W->Prop):Prop:=∀Q E,KO O σ r R Q->KE O σ r E->r≠.aK->Ok σ->T Q E σ.s
theorem KO.pre(P:ib O σ τ)(k:KO O σ r R Q):KO O τ r R Q:=λa b υ e S p=>k a b υ e S (P.trans p)
theorem KE.pre(P:ib O σ τ)(k:KE O σ r E):KE O τ r E:=λe υ h S p f=>k e υ h S (P.trans p) (f.pre P.ext)
theorem Gp.sim(g:Gp T O σ r R)(k:∀Q E,T Q E σ.s->T' Q E σ.s):Gp T' O σ r R:=λQ E ko ke ns S=>k Q E (g Q E ko ke ns S)
theorem Gp.aK:Gp T O σ (.aK:Res α) R:=λZ Z Z Z ns=>aQ rfl ns
theorem Gp.of(h:Ok σ->Gp T O σ r R):Gp T O σ r R:=λQ E ko ke ns S=>h S Q E ko ke ns S
theorem Gp.mono(g:Gp T O σ r R)(k:∀a b τ,R a b τ->R' a b τ):Gp T O σ r R':=λQ E ko=>g Q E λa b τ e S p x=>ko a b τ e S p (k a b τ x)
theorem Gp.to(g:Gp T none_ σ r R):Gp T O σ r R:=λQ E ko ke=>g Q E (λa b τ e S p=>ko a b τ e S p.any) λe τ h S p=>ke e τ h S p.any
theorem Gp.pre(S:Ok τ)(P:ib O σ τ)(g:Gp T O τ r R)(k:∀Q E,T Q E τ.s->T' Q E σ.s):Gp T' O σ r R:=λQ E ko ke ns Z=>k Q E (g Q E (ko.pre P) (ke.pre P) ns S)
theorem Gp.l0{T:PT β}{T₂:β->PT δ}{T':PT δ}{g:α->Mu->Res γ}{R':γ->δ->W->Prop}(h:Gp T O σ r R)(hT:∀Q E,T (λb s'=>T₂ b Q E s') E σ.s->T' Q E σ.s)(k:∀a b τ,ib O σ τ->R a b τ->Gp (T₂ b) O τ (g a τ.mu) R'):Gp T' O σ (r.bind g) R':=λQ E ko ke ns S=>
 hT Q E (h _ E (λa b τ e S' P x=>k a b τ P x Q E (λc d υ e' JJ P'=>ko c d υ (by rw[e];exact e') JJ (P.trans P')) (λv υ e' JJ P' F=>ke v υ (by rw[e];exact e') JJ (P.trans P') (F.pre P.ext)) (λz=>ns (by rw[e];exact z)) S')
  (λv τ e=>ke v τ (by rw[e];rfl)) (λz=>ns (by rw[z];rfl)) S)
theorem Gp.bind{f:β->Sem δ}{g:α->Mu->Res γ}{R':γ->δ->W->Prop}(h:Gp (wq A q) O σ r R)(k:∀a b τ,ib O σ τ->R a b τ->Gp (wq A (f b)) O τ (g a τ.mu) R'):Gp (wq A (q >>= f)) O σ (r.bind g) R':=h.l0 (λZ Z=>ak) k
theorem Gp.Yi{f:β->δ}{g:α->γ}{R':γ->δ->W->Prop}{T':PT δ}(h:Gp T O σ r R)(k:∀Q E,T (λb s'=>Q (f b) s') E σ.s->T' Q E σ.s)(kr:∀a b τ,R a b τ->R' (g a) (f b) τ):Gp T' O σ (r.bind λa mu=>.ok (g a) mu) R':=λQ E ko ke ns S=>
 k Q E (h _ E (λa b τ e S' P x=>ko (g a) (f b) τ (by rw[e];rfl) S' P (kr a b τ x)) (λv τ e=>ke v τ (by rw[e];rfl)) (λz=>ns (by rw[z];rfl)) S)
theorem Gp.pure{a:α}{b:β}(x:R a b σ):Gp (wq A (ff b)) O σ (.ok a σ.mu) R:=λQ E ko Z Z S=>aB (ko a b σ rfl S .refl x)
theorem Gp.hold{vs:ag ao}(h:Gp (wq A q) O σ r R):Gp (wq A (cN vs q)) O σ r R:=h.sim λZ Z=>bu
theorem Gp.operate{vs:ag ao}{q:Sem ao}{R:α->ao->W->Prop}(h:Gp (wq A q) O σ r R):Gp (wq A (operate vs q)) O σ r R:=h.sim λZ Z=>aeo
theorem Gp.eR{pos:Pos}{f:fP->Sem β}(h:Gp (wq A (f ())) O σ r R):Gp (wq A (dy pos >>= f)) O σ r R:=h.sim λZ Z x=>ak (eN x)
theorem Res.Cr{f:α->Mu->Res β}{g:β->Mu->Res γ}:(r.bind λa m=>(f a m).bind g)=(r.bind f).bind g:=by cases r<;>rfl
theorem vF{o:ar γ}{f:γ->Res α}{g:α->Mu->Res β}:(dO o f).bind g=dO o λa=>(f a).bind g:=by cases o<;>rfl
theorem Res.yY(r:Res α):(r.bind λa mu=>.ok a mu)=r:=by cases r<;>rfl
theorem Gp.ret{f:β->Sem δ}{R':α->δ->W->Prop}(h:Gp (wq A q) O σ r R)(k:∀a b τ,ib O σ τ->R a b τ->Gp (wq A (f b)) O τ (.ok a τ.mu) R'):Gp (wq A (q >>= f)) O σ r R':=Res.yY r▸h.bind k
theorem Gp.opt{o:ar α}(h:∀a,o=aa a->Gp T O σ (.ok a σ.mu) R):Gp T O σ (bS o σ.mu) R:=by
 cases o with
 |none=>exact .aK
 |some a=>exact h a rfl
theorem Gp.dO{o:ar γ}{f:γ->Res α}(h:∀a,o=aa a->Gp T O σ (f a) R):Gp T O σ (dO o f) R:=by
 cases o with
 |none=>exact .aK
 |some a=>exact h a rfl
theorem Gp.if{c:Prop}[acO c](h:c->Gp T O σ r R):Gp T O σ (if c then r else .aK) R:=by
 by_cases c
 ·rw[aA ‹_›];exact h ‹_›
 ·rw[aL ‹_›];exact .aK
theorem Gp.step{a:α}{b:β}{s:aG}(k:Grows σ.h s.heap)(g:s.gens=σ.s.gens)(os:s.os=σ.s.os)(x:Ok σ->R a b (σ.to s))(h:∀Q E,Q b s->T Q E σ.s):Gp T O σ (.ok a σ.mu) R:=
 λQ E ko Z Z S=>h Q E (ko a b (σ.to s) rfl (S.grow k g) (.grow k os) (x S))
theorem Gp.tok{a:α}{b:β}(x:∀tk,R a b (σ.tok tk))(h:∀Q E,(∀tk,Q b {σ.s with toks:=tk})->T Q E σ.s):Gp T O σ (.ok a σ.mu) R:=
 λQ E ko Z Z S=>h Q E λtk=>ko a b (σ.tok tk) rfl (S.grow (λZ Z e=>e) rfl) (.grow (λZ Z e=>e) rfl) (x tk)
end
structure K where (A:bW) (l:ag Env) (env:Env) (cx:Cx) (d:aj)
noncomputable def qv(l:ag Env):ag Addr:=l.filterMap (·.frame)
structure Ctx(n:aj)(A:bW)(l:ag Env):Prop where
 depth:A.depth+n+8<recursionLimit
 units:A.units+20*n+120<cLine
 hd:A.handled=ac
 fr:A.frames=aa l
 env:∀env∈l,env.scope.kind≠.module/\∃L,env.frame=aa L
noncomputable def Yj(cx:Cx):Nat:=if cx.fn.isSome then 2 else 0
theorem U7(cx:Cx):Yj cx<=2:=by unfold Yj;split<;>omega
theorem Ctx.le{n m:aj}{A:bW}{l:ag Env}(c:Ctx n A l)(h:m<=n):Ctx m A l:=⟨ax (bN (bq h _) _) c.depth,ax (bN (bq (cm 20 h) _) 120) c.units,c.hd,c.fr,c.env⟩
theorem Ctx.u{n:aj}{A:bW}{l:ag Env}(c:Ctx n A l):A.units+60<cLine:=by have:=c.units;omega
inductive Binds(env:Env)(h:dK)(x:bQ)(v:ao):Prop
 |au (k:env.kindOf x=aa .local) (m:bQ->ar ao) (n:h.Ns env.locals m) (e:m x=aa v)
 |cell (k:env.kindOf x=aa .cell\/env.kindOf x=aa .free) (c:aN) (e:env.cells.lookup x=aa c) (i:h.IsCell c (aa v))
structure Kst(k:K):Prop where
 om:Ctx (k.d+Yj k.cx) k.A k.l
 kind:k.env.scope.kind=.function
 glob:k.env.globals=3
 blt:k.env.builtins=0
 top:∃f r,k.l=f::r/\f.frame=k.env.frame
 G6:∀x y c,k.env.cells.lookup x=aa c->k.env.cells.lookup y=aa c->x=y
 AX:∀x y i,k.cx.sl.lookup x=aa i->k.cx.sl.lookup y=aa i->x=y
 lt:∀x i,k.cx.sl.lookup x=aa i->i<k.cx.n
 gl:∀x,k.cx.names.lookup x=aa .globalImplicit->k.env.kindOf x=aa .globalImplicit
 sl:∀x i,k.cx.sl.lookup x=aa i->k.env.kindOf x=aa .local\/((k.env.kindOf x=aa .cell\/k.env.kindOf x=aa .free)/\∃c,k.env.cells.lookup x=aa c)
 nm:∀x i,k.cx.sl.lookup x=aa i->(x==("__debug__":bQ))=af/\(x==("__classdict__":bQ))=af
 EW:∀x,vC (k.cx.names.lookup x)=ae->(k.env.kindOf x=aa .cell\/k.env.kindOf x=aa .free)/\∃c,k.env.cells.lookup x=aa c
 U8:∀j,k.cx.fn=aa j->k.env.code=.ref (dU j)
structure Here(k:K)(au:Loc)(σ:W):Prop where
 st:Kst k
 ns:∃m,σ.h.Ns k.env.locals m
 cell:∀x c,k.env.cells.lookup x=aa c->(∃v,σ.h.IsCell c v)/\c∈σ.fs/\c≠k.env.locals
 sub:∀a∈qv k.l,a∈σ.fs
 JK:k.env.locals∈σ.fs
 AY:∀a∈qv k.l,∃o,σ.h.get? a=aa o/\tM o
 hi:∀i pv,gV au i=aa pv->i<k.cx.n
 val:∀x i pv,k.cx.sl.lookup x=aa i->gV au i=aa pv->∃v,Binds k.env σ.h x v/\gL σ pv v
section
variable{k:K}{au:Loc}{σ τ:W}{h h':dK}{O:aN->Prop}
theorem EX{a:aN}{m:bQ->ar ao}(k:∀o,h.get? a=aa o->∃o',h'.get? a=aa o'/\o'.data=o.data):h.Ns a m->h'.Ns a m:=λq9=>ue q9 λo es ep ho hd r=>
 (k o ho).elim λo' z=>⟨o',es,ep,z.1,z.2.trans hd,r⟩
theorem l4{c:aN}{v:ar ao}(k:∀o,h.get? c=aa o->∃o',h'.get? c=aa o'/\o'.data=o.data):h.IsCell c v->h'.IsCell c v:=λq9=>bH q9 λo ho hd=>(k o ho).elim λo' z=>⟨o',z.1,z.2.trans hd⟩
theorem Here.move(e:Here k au σ)(H:∀pv v,gL σ pv v->gL τ pv v)(up:∀a,a=k.env.locals\/a∈qv k.l\/(∃x,k.env.cells.lookup x=aa a)->a∈σ.fs->a∈τ.fs)
 (hl:∀o,σ.h.get? k.env.locals=aa o->∃o',τ.h.get? k.env.locals=aa o'/\o'.data=o.data) (hc:∀x c,k.env.cells.lookup x=aa c->∀o,σ.h.get? c=aa o->∃o',τ.h.get? c=aa o'/\o'.data=o.data)
 (hf:∀a∈qv k.l,∀o,σ.h.get? a=aa o->tM o->∃o',τ.h.get? a=aa o'/\tM o'):Here k au τ where
 st:=e.st
 ns:=e.ns.imp λm=>EX hl
 cell x c z:=⟨(e.cell x c z).1.imp λv=>l4 (hc x c z),up c (.inr (.inr ⟨x,z⟩)) (e.cell x c z).2.1,(e.cell x c z).2.2⟩
 sub a m:=up a (.inr (.inl m)) (e.sub a m)
 JK:=up _ (.inl rfl) e.JK
 AY a m:=(e.AY a m).elim λo z=>hf a m o z.1 z.2
 hi:=e.hi
 val x i pv h1 h2:=(e.val x i pv h1 h2).imp λv z=>⟨match z.1 with
  |.au k m n y=>.au k m (EX hl n) y
  |.cell k c y i=>.cell k c y (l4 (hc x c y) i),H pv v z.2⟩
theorem ib.data(P:Le σ τ){a:aN}{o:fE}(m:a∈σ.fs)(e:σ.h.get? a=aa o):∃o',τ.h.get? a=aa o'/\o'.data=o.data:=(P.gE a o e m).imp λZ z=>⟨z.1,(z.2.same id).1⟩
theorem ib.dict(P:ib O σ τ){a:aN}{o:fE}(m:a∈σ.fs)(e:σ.h.get? a=aa o)(d:tM o):∃o',τ.h.get? a=aa o'/\tM o':=(P.gE a o e m).imp λZ z=>⟨z.1,z.2.Zz d⟩
theorem Here.to(e:Here k au σ)(P:Le σ τ):Here k au τ:=
 e.move (λZ Z r=>r.to P) (λZ Z m=>P.fs▸m) (λZ z=>P.data e.JK z) (λx c z Z y=>P.data (e.cell x c z).2.1 y) λa m Z=>P.dict (e.sub a m)
theorem vG{M:lS}{A:bW}{E:ao->aG->Prop}{env:Env}{s:aG}{x:bQ}{v:ao}{Q:ao->aG->Prop}(hk:env.scope.kind=.function)(hn:(x==("__classdict__":bQ))=af)(h:Q v s):Binds env s.heap x v->
 aX M A (Sp env x) Q E s
 |.au b m n e=>Sq hk b n e h
 |.cell (.inl b) c e i=>wpAny_loadName_cell hk b e i h
 |.cell (.inr b) c e i=>wpAny_loadName_free hk b e i h hn
end
def GE{α β:Type}(k:K)(au:Loc)(q:Sem β)(σ:W)(r:Res α)(R:α->β->W->Prop):Prop:=Here k au σ->Gp (wq k.A q) none_ σ r R
section
variable{α β γ δ:Type}{k:K}{au:Loc}{q:Sem β}{σ τ:W}{r:Res α}{R:α->β->W->Prop}
theorem GE.bind{f:β->Sem δ}{g:α->Mu->Res γ}{R':γ->δ->W->Prop}(h:GE k au q σ r R)(z:∀a b τ,Le σ τ->R a b τ->GE k au (f b) τ (g a τ.mu) R'):GE k au (q >>= f) σ (r.bind g) R':=
 λc=>(h c).bind λa b τ P x=>z a b τ P x (c.to P)
theorem GE.ret{f:β->Sem δ}{R':α->δ->W->Prop}(h:GE k au q σ r R)(z:∀a b τ,Le σ τ->R a b τ->GE k au (f b) τ (.ok a τ.mu) R'):GE k au (q >>= f) σ r R':=
 λc=>(h c).ret λa b τ P x=>z a b τ P x (c.to P)
theorem GE.hold{vs:ag ao}(h:GE k au q σ r R):GE k au (cN vs q) σ r R:=λc=>(h c).hold
theorem GE.eR{pos:Pos}{f:fP->Sem β}(h:GE k au (f ()) σ r R):GE k au (dy pos >>= f) σ r R:=λc=>(h c).eR
end
theorem qY{t:T}{l:ag T}(h:t.l? =aa l):t=.list l:=by cases t<;>cases h;rfl
theorem EY{t:T}{l:ag T}(h:t.p? =aa l):t=.tup l:=by cases t<;>cases h;rfl
theorem jp{t:T}{l:bE}(h:t.i? =aa l):t=.int l:=by cases t<;>cases h;rfl
theorem qZ{t:T}{l:ag aj}(h:t.s? =aa l):t=.str l:=by cases t<;>cases h;rfl
theorem EZ{t:T}{l:ag aj}(h:t.b? =aa l):t=.bytes l:=by cases t<;>cases h;rfl
theorem fK{v:PV}{t:T}(h:v.t? =aa t):v=.t t:=by cases v<;>cases h;rfl
theorem bj{α β:Type}{o:ar α}{f:α->ar β}{b:β}{G:Prop}(h:o.bind f=aa b)(k:∀a,o=aa a->f a=aa b->G):G:=by
 cases o with
 |none=>cases h
 |some a=>exact k a rfl h
@[elab_as_elim] theorem cM{α β:Type}{o:ar α}{f:α->β}{b:β}{P:β->Prop}(h:o.map f=aa b)(k:∀a,o=aa a->P (f a)):P b:=by
 cases o with
 |none=>cases h
 |some a=>cases h;exact k a rfl
theorem cO{α:Type}{c:Prop}{d:acO c}{a b:ar α}{x:α}{G:Prop}(h:(if c then a else b)=aa x)(t:c->a=aa x->G)(f:¬c->b=aa x->G):G:=by
 by_cases z:c
 ·rw[aA z] at h;exact t z h
 ·rw[aL z] at h;exact f z h
theorem pj{σ:W}{xs:ag PV}{ts:ag T}{vs:ag ao}(e:eB xs=aa ts)(q:bF (gL σ) xs vs):bF (bK σ.h (X σ)) ts vs:=
 (q.ind (P:=λxs vs=>∀ts,eB xs=aa ts->bF (bK σ.h (X σ)) ts vs) (λts e=>aM e▸trivial) λa xs v vs h q ih ts e=>by
  cases a with
  |t x=>exact cM (P:=λts=>bF _ ts _) e λkq e=>⟨h,ih kq e⟩
  |m i=>exact lX e) ts e
theorem yc:∀{xs:ag PV}{ts:ag T},eB xs=aa ts->xs=ts.map .t
 |[],ts,e=>by cases e;rfl
 |.t v::r,ts,e=>cM (P:=λts=>PV.t v::r=ts.map .t) e λkq e=>av (PV.t v::·) (yc e)
section
variable{σ τ:W}{O:aN->Prop}{h:dK}{x:PV}{v:ao}{a b t:T}{P:ao->Prop}{T':PT ao}
@[elab_as_elim] theorem Ok.nC(S:Ok σ){i:aj}{o:MO}(r:gL σ (.m i) v)(e:σ.mu[i]? =aa o)(k:∀q,σ.p[i]? =aa q->vE σ o q->P (.ref q.1)):P v:=bD r λq z=>z.2▸k q z.1 (S.rep i o q e z.1)
def jA(σ:W):T->ao->Prop
 |.list ts,v=>∃a vs n,v=.ref a/\IsL σ.h a vs.toArray n/\bF (bK σ.h (X σ)) ts vs
 |.dict kvs,v=>∃a vs,v=.ref a/\(BH w.params).get? a=ac/\fR σ.h a (kvs.map (·.1)) vs/\bF (λp=>bK σ.h (X σ) p.2) kvs vs
 |t,v=>bK σ.h (X σ) t v
@[elab_as_elim] theorem jM{ts:ag T}(r:jA σ (.list ts) v)(k:∀a vs n,IsL σ.h a vs.toArray n->bF (bK σ.h (X σ)) ts vs->P (.ref a)):P v:=bD r λa r=>bD r λvs r=>bD r λn r=>r.1▸k a vs n r.2.1 r.2.2
@[elab_as_elim] theorem E0{ts:ag (T×T)}(r:jA σ (.dict ts) v)(k:∀a vs,(BH w.params).get? a=ac->fR σ.h a (ts.map (·.1)) vs->bF (λp=>bK σ.h (X σ) p.2) ts vs->P (.ref a)):P v:=bD r λa r=>bD r λvs r=>r.1▸k a vs r.2.1 r.2.2.1 r.2.2.2
@[elab_as_elim] theorem qw{i:bE}(r:jA σ (.int i) v)(k:∀t,P (.int i t)):P v:=jm (h:=σ.h) (X:=X σ) r k
@[elab_as_elim] theorem CI{i:ag aj}(r:jA σ (.str i) v)(k:∀t,P (.str ⟨i.toArray⟩ t)):P v:=ir (h:=σ.h) (X:=X σ) r k
@[elab_as_elim] theorem AZ{i:ag aj}(r:jA σ (.bytes i) v)(k:∀b t,b.toList.map bh=i->P (.bytes b t)):P v:=eP (h:=σ.h) (X:=X σ) r k
@[elab_as_elim] theorem iu{i:bE}(r:RV (.t (.int i)) v σ)(k:∀t,P (.int i t)):P v:=jm (h:=σ.h) (X:=X σ) r k
@[elab_as_elim] theorem sA{i:ag aj}(r:RV (.t (.str i)) v σ)(k:∀t,P (.str ⟨i.toArray⟩ t)):P v:=ir (h:=σ.h) (X:=X σ) r k
@[elab_as_elim] theorem q5{ts:ag T}(r:RV (.t (.list ts)) v σ)(k:∀a vs n,¬X σ a->IsL σ.h a vs.toArray n->bF (bK σ.h (X σ)) ts vs->P (.ref a)):P v:=gj (show bK σ.h (X σ) (.list ts) v from r) k
theorem Pf:∀{t:T},bK σ.h (X σ) t v->jA σ t v
 |.list ts,r=>gj (P:=jA σ (.list ts)) r λa vs n Z l q=>⟨a,vs,n,rfl,l,q⟩
 |.dict ts,r=>kn (P:=jA σ (.dict ts)) r λa vs Z b l q=>⟨a,vs,rfl,b,l,q⟩
 |.none,r=>r
 |.bool _,r=>r
 |.int _,r=>r
 |.str _,r=>r
 |.bytes _,r=>r
 |.tup _,r=>r
 |.inst _ _,r=>r
theorem kN(S:Ok σ)(r:RV x v σ)(e:look x σ.mu=aa t):jA σ t v:=by
 cases x with
 |t t'=>cases e;exact Pf r
 |m i=>
  exact bj e λo he e=>by
   cases o with
   |list xs=>exact cM (P:=λt=>jA σ t v) e λts e=>S.nC (P:=jA σ _) r he λq Z m=>bD m λvs m=>bD m λn m=>⟨q.1,vs,n,rfl,m.1,pj e m.2⟩
   |dict kvs=>cases e;exact S.nC (P:=jA σ _) r he λq hq m=>bD m λvs m=>⟨q.1,vs,rfl,S.off _ ⟨i,_,q,he,hq,rfl⟩,m.1,m.2⟩
   |_=>cases e
theorem i8{i:bE}(k:∀Q E,(∀t tk,Q (.int i t) {σ.s with toks:=tk})->T' Q E σ.s):Gp T' O σ (.ok (.t (.int i)) σ.mu) RV:=
 λQ E ko Z Z S=>k Q E λt tk=>ko _ _ (σ.tok tk) rfl (S.grow (λZ Z e=>e) rfl) (.grow (λZ Z e=>e) rfl) ⟨t,rfl⟩
theorem vH{i:ag aj}(k:∀Q E,(∀t tk,Q (.str ⟨i.toArray⟩ t) {σ.s with toks:=tk})->T' Q E σ.s):Gp T' O σ (.ok (.t (.str i)) σ.mu) RV:=
 λQ E ko Z Z S=>k Q E λt tk=>ko _ _ (σ.tok tk) rfl (S.grow (λZ Z e=>e) rfl) (.grow (λZ Z e=>e) rfl) ⟨t,rfl⟩
theorem uG{i:ag aj}(b:cE iq)(hb:b.toList.map bh=i)(k:∀Q E,(∀t tk,Q (.bytes b t) {σ.s with toks:=tk})->T' Q E σ.s):Gp T' O σ (.ok (.t (.bytes i)) σ.mu) RV:=
 λQ E ko Z Z S=>k Q E λt tk=>ko _ _ (σ.tok tk) rfl (S.grow (λZ Z e=>e) rfl) (.grow (λZ Z e=>e) rfl) ⟨b,t,rfl,hb⟩
theorem q6{a:PV}(r:RV a v σ)(k:∀Q E,Q v σ.s->T' Q E σ.s):Gp T' O σ (.ok a σ.mu) RV:=λQ E ko Z Z S=>k Q E (ko a v σ rfl S .refl r)
theorem CJ{a:PV}(r:RV a v σ)(k:∀Q E,(∀tk,Q v {σ.s with toks:=tk})->T' Q E σ.s):Gp T' O σ (.ok a σ.mu) RV:=
 .tok (λtk=>r.to (τ:=σ.tok tk) (.grow (λZ Z e=>e) rfl)) k
theorem A0(o:fE):ol σ.h (X σ) (σ.h.push o) (X σ):=λZ Z n e Z=>⟨n,aI o e⟩
theorem CK{ts:ag T}{vs:ag ao}(n:aj)(r:bF (bK σ.h (X σ)) ts vs)(k:∀Q E,Q (.ref σ.h.objs.size) (σ.push {cls:=.type "list",data:=.seq vs.toArray n}).s->T' Q E σ.s):Gp T' O σ (.ok (.t (.list ts)) σ.mu) RV:=
 .step (s:=(σ.push {cls:=.type "list",data:=.seq vs.toArray n}).s) (du _) rfl rfl (λS=>ly (X:=X σ) (S.newX d8) (ck _ rfl) (r.mono λZ Z Z r=>r.eQ cK (A0 _))) k
theorem Ta{ts:ag T}{vs:ag ao}(n:aj)(r:bF (bK σ.h (X σ)) ts vs)(k:∀Q E,Q (.ref σ.h.objs.size) (σ.push {cls:=.type "tuple",data:=.seq vs.toArray n}).s->T' Q E σ.s):Gp T' O σ (.ok (.t (.tup ts)) σ.mu) RV:=
 .step (s:=(σ.push {cls:=.type "tuple",data:=.seq vs.toArray n}).s) (du _) rfl rfl (λS=>sy (X:=X σ) (S.newX d8) (ck _ rfl) (r.mono λZ Z Z r=>r.eQ cK (A0 _))) k
theorem eo{n:aj}(h:n<=bp):n<=sizeLine:=ai h (by decide)
noncomputable def mop:O5->So
 |.add=>.Add |.sub=>.Sub |.mul=>.Mult |.fdiv=>.FloorDiv |.mod=>.Mod |.pow=>.Pow
theorem yZ{a b:bE}(h:b.natAbs<2^8000):uu a b=false:=by
 unfold uu;dsimp only;have:(if(b==0)=ae then 0 else b.natAbs.log2/30+1)<=300:=by
  by_cases z:b=0
  ·rw[z];decide
  ·have h0:b.natAbs.log2<8000:=(xj (λq=>z (tC.mp q))).mpr h
   rw[aL (λq=>z (eq_of_beq q))];exact fx (bA h0 (by decide))
 rw[aW.and_eq_false_imp];intro q;rw[xF] at q;exact aQ q (eO.mpr this)
end
section
variable{A:bW}{σ:W}{O:aN->Prop}{x y:PV}{vx vy v:ao}{a b t:T}{P:ao->Prop}
theorem vJ(a:ag aj):∀n,(ji a n).length=a.length*n
 |0=>rfl
 |n+1=>by unfold ji;rw[ah,vJ a n,oZ,bB]
theorem vK(a:cE aj):∀(n:aj)(a8:cE aj),(cj n a).foldl (· ++·) a8=a8++(ji a.toList n).toArray
 |0,a8=>by simp[ji]
 |n+1,a8=>
  by
   rw[kU,gr,vK a n];apply cE.ext';simp[ji]
theorem vL:∀n,ji [] n=[]
 |0=>rfl
 |n+1=>vL n
theorem Pg(x:ag aj)(n:bE):Txt.mul ⟨x.toArray⟩ n=⟨(ji x n.toNat).toArray⟩:=by
 unfold Txt.mul
 by_cases h:n<1
 ·rw[aA h,bE.toNat_of_nonpos (by omega)];rfl
 ·rw[aL h]
  by_cases h2:(n==1||(⟨x.toArray⟩ :bQ).length==0)=ae
  ·rw[aA h2]
   rcases fT.mp h2 with h2 |h2
   ·rw[eq_of_beq h2];show _=bQ.mk (ji x 1).toArray;unfold ji ji;rw[aH]
   ·have h3:x=[]:=ey (eq_of_beq h2)
    rw[h3,vL]
  ·rw[aL h2,vK];simp
theorem ZC{a b:bE}(h:(mJ a||mJ b)=ae):IntMulOk a b:=by
 have k:∀{a:bE},mJ a=ae->nG a<=64:=λh=>by unfold mJ at h;rw[xF] at h;exact intBits_le_64 (o4 (by decide) h.1) (by omega)
 exact(fT.mp h).elim (λh=>.of_left (k h)) λh=>.of_right (k h)
theorem Ph(a b:ag aj):(⟨(a++b).toArray⟩ :bQ)=(⟨a.toArray⟩ :bQ)++(⟨b.toArray⟩ :bQ):=by
 show _=bQ.append _ _;unfold bQ.append;rw[<-IF]
theorem y0{α:Type}(a b:ag α):a.toArray++b.toArray=(a++b).toArray:=IF a b
theorem CL{α:Type}{l:ag α}(h:l≠[]):¬l.toArray.isEmpty=true:=by cases l with
 |nil=>exact aQ rfl h
 |cons=>exact dM
theorem map_append{b c:cE iq}{i j:ag aj}(h:b.toList.map bh=i)(k:c.toList.map bh=j):(b++c).toList.map bh=i++j:=by rw[qG,br,h,k]
theorem y9{f:bE->bE->Res PV}{T':ao->ao->PT ao}(ra:jA σ a vx)(rb:jA σ b vy)(k:∀i j t u,Gp (T' (.int i t) (.int j u)) O σ (f i j) RV):Gp (T' vx vy) O σ (Ju a b f) RV:=
 .dO λi hi=>.dO λj hj=>by
  cases jp hi;cases jp hj;exact qw ra λt=>qw rb λu=>k i j t u
theorem size_le{α β:Type}{R:α->β->Prop}{l l':ag α}{vs ws:ag β}(r:bF R l vs)(r':bF R l' ws)(h:(l++l').length<=bp):vs.toArray.size+ws.toArray.size<=sizeLine:=by rw[ah,r.len,r'.len] at h;exact eo h
theorem Pj{ts us:ag T}(ra:bK σ.h (X σ) (.tup ts) vx)(rb:bK σ.h (X σ) (.tup us) vy):Gp (wq A (pU .Add vx vy)) O σ (vk (ts++us) σ.mu) RV:=.if λhl=>by
 refine iY ra λa vs n nx h1 h2=>iY rb λb ws n' nx' IX Cs=>?_
 by_cases e1:vs=[]
 ·obtain rfl:ts=[]:=ey (h2.len.trans (e1▸rfl))
  exact q6 (a:=.t (.tup us)) (sy nx' IX Cs) λQ E q=>concat_meets ⟨_,h1,rfl⟩ ⟨_,IX,rfl⟩ acP seq_tuple_add Ak yN (xG _ _)
   (tuple_addW0 a b vs.toArray ws.toArray n n' ac ac #[] #[] (by rw[e1];rfl)) ⟨h1,IX,q⟩
 by_cases e2:ws=[]
 ·obtain rfl:us=[]:=ey (Cs.len.trans (e2▸rfl))
  rw[aH];exact q6 (a:=.t (.tup ts)) (sy nx h1 h2) λQ E q=>concat_meets ⟨_,h1,rfl⟩ ⟨_,IX,rfl⟩ acP seq_tuple_add Ak yN (xG _ _)
   (tuple_addW1 a b vs.toArray ws.toArray n n' ac ac #[] #[] (CL e1) (by rw[e2];rfl)) ⟨h1,IX,q⟩
 exact Ta 0 (h2.append Cs) λQ E q=>P.add_tuple h1 IX (CL e1) (CL e2) (by rw[y0];exact q) (size_le h2 Cs hl)
theorem JL(ra:jA σ a vx)(rb:jA σ b vy):Gp (wq A (pU .Add vx vy)) O σ (Zl a b σ.mu) RV:=by
 cases a with
 |int a=>exact .dO λj hj=>by cases jp hj;exact qw ra λt=>qw rb λu=>i8 λQ E q=>add_int (q _ _)
 |str a=>
  exact .dO λj hj=>by
   cases qZ hj;exact .if λhl=>CI ra λt=>CI rb λu=>vH λQ E q=>
    add_str (λt' tk=>by rw[<-Ph];exact q _ _) (by rw[ah] at hl;exact eo hl)
 |bytes a=>
  exact .dO λj hj=>by
   cases EZ hj;exact .if λhl=>AZ ra λb t hb=>AZ rb λc u hc=>uG (b++c) (map_append hb hc) λQ E q=>
    KBy.add_bytes (by rw[<-hb, <-hc,ah,aq,aq] at hl;exact ai (m:=bp) hl (by decide)) λt' k=>q t' k
 |list a=>
  exact .dO λj hj=>by
   cases qY hj;exact .if λhl=>jM ra λa vs n h1 h2=>jM rb λb us n' IX Cs=>CK 0 (h2.append Cs) λQ E q=>
    P.add_list h1 IX (by rw[y0];exact q) (size_le h2 Cs hl)
 |tup a=>exact .dO λj hj=>by cases EY hj;exact Pj ra rb
 |_=>exact .aK
theorem JM(ra:jA σ a vx)(rb:jA σ b vy):Gp (wq A (pU .Mult vx vy)) O σ (Zm a b σ.mu) RV:=by
 cases a with
 |int a=>exact .dO λj hj=>by cases jp hj;exact .if λh=>qw ra λt=>qw rb λu=>i8 λQ E q=>mul_int (q _ _) (ZC h)
 |str i=>
  exact .dO λj hj=>by
   cases jp hj;refine .if λh=>.if λhl=>CI ra λt=>qw rb λu=>vH λQ E q=>SB.mul ?_ λt' tk=>by rw[Pg];exact q _ _
   rw[vJ] at hl;have pK:i.length*j.toNat<=1000000:=hl;refine⟨?_,λh1 h2=>?_,λh1 h2=>?_⟩
   ·rw[df];exact⟨aY (by omega),aY (by omega)⟩
   ·refine jw.mpr ((bE.le_ediv_iff_mul_le (by omega)).mpr (lg (b:=1000000) ?_ (by decide)))
    show(i.length:bE)*j<=1000000;rw[<-k6 (show 0<=j by omega), <-UE];exact dm.mpr pK
   ·show yO _=af
    unfold yO;exact aY (eO.mpr (ai pK (by decide)))
 |_=>exact .aK
theorem JN{i:bE}(h:0<=i/\i<=100):(nG i:bE)<=7:=by
 unfold nG
 by_cases z:i=0
 ·rw[z];decide
 ·have:i.natAbs.log2<7:=(xj (λq=>z (tC.mp q))).mpr (cf.mp ((iM h.1).symm▸tD h.2 (by decide)))
  rw[aL (λq=>z (eq_of_beq q))];omega
theorem JO{op:O5}(rx:RV x vx σ)(ry:RV y vy σ):Gp (wq A (pU (mop op) vx vy)) O σ (k9 op x y σ.mu) RV:=.of λS=>.dO λa ha=>.dO λb hb=>by
 have la:=kN S rx ha;have lb:=kN S ry hb;cases op with
 |add=>exact JL la lb
 |mul=>exact JM la lb
 |sub=>exact y9 (T':=λu v=>wq A (pU .Sub u v)) la lb λi j t u=>i8 λQ E q=>sub_int (q _ _)
 |fdiv=>
  exact y9 (T':=λu v=>wq A (pU .FloorDiv u v)) la lb λi j t u=>.if λh=>by
   rw[<-bE.fdiv_eq_ediv_of_nonneg _ (iR h.1)];exact i8 λQ E q=>floordiv_int (by omega) (q _ _) (.inl (yZ (bw (m:=4611686018427387904) (cf.mp ((iM (iR h.1)).symm▸h.2)) (by decide+kernel))))
 |mod=>
  exact y9 (T':=λu v=>wq A (pU .Mod u v)) la lb λi j t u=>.if λh=>by
   rw[<-bE.fmod_eq_emod_of_nonneg _ (iR h)];exact i8 λQ E q=>mod_int' (by omega) (q _ _)
 |pow=>exact y9 (T':=λu v=>wq A (pU .Pow u v)) la lb λi j t u=>.if λh=>i8 λQ E q=>pow_int h.1 (lg (bE.mul_le_mul (JN h.2.2) h.2.1 h.1 (by omega)) (by decide)) (q _ _)
end
end
section
open PySem PySem.W PyProof.Rows PySem.SeqAt
section
variable{A:bW}{σ:W}{O:aN->Prop}{x y:PV}{vx vy v u:ao}{a b t:T}{P:ao->Prop}{r:aW}{h:dK}{X':aN->Prop}{s:aG}{E:ao->aG->Prop}
noncomputable def CM:Js->pS
 |.eq=>.Eq |.ne=>.NotEq |.lt=>.Lt |.le=>.LtE |.gt=>.Gt |.ge=>.GtE |.is=>.Is |.kf=>.IsNot |.isIn=>.In |.pZ=>.NotIn
theorem map_inj{α β:Type}{f:α->β}(k:∀a b,f a=f b->a=b):∀{a b:ag α},a.map f=b.map f->a=b
 |[],[],_=>rfl
 |x::a,y::b,e=>
  by
   rw[bX,bX,GI] at e;rw[k _ _ e.1,map_inj k e.2]
theorem toNat_inj{a b:ag iq}(h:a.map bh=b.map bh):a=b:=map_inj (λZ Z=>Oz.mp) h
theorem yd{a b:cE iq}:(a.toList==b.toList)=(a.toList.map bh==b.toList.map bh):=by
 rw[eV,bT,bT];exact⟨av _,toNat_inj⟩
theorem str_beq(a b:ag aj):((⟨a.toArray⟩ :bQ)==⟨b.toArray⟩)=(a==b):=by
 rw[eV,bT,bT];exact⟨λe=>av (λs:bQ=>s.cps.toList) e,λe=>e▸rfl⟩
theorem vM{b c:cE iq}{t u:Tok}{r:aW}(e:decide (b.toList=c.toList)=r):EqAt A s (.bytes b t) (.bytes c u) r:=λprog w E Q h=>PySem.W.eqBool_bytes (e▸h)
theorem IsT.tup{t:aN}{items:cE ao}{n:aj}(x:IsT h t items n):h.IsTuple t items:=⟨_,x,rfl,_,rfl⟩
theorem all_true(l:ag aj):l.all (λZ=>ae)=true:=aE.mpr λZ Z=>rfl
theorem bF.both{α β:Type}{R R':α->β->Prop}{ts:ag α}{vs us:ag β}(r:bF R ts vs)(q:bF R' ts us)(j:aj)(h1:j<vs.length)(h2:j<us.length):∃t∈ts,R t vs[j]/\R' t us[j]:=by
 have h:j<ts.length:=r.len▸h1;refine bH (r.get (bz h)) λb e z=>?_;refine bH (q.get (bz h)) λc e' z'=>?_;rw[bz h1] at e;rw[bz h2] at e';exact⟨_,OA h,aM e▸z,aM e'▸z'⟩
theorem JP(n:aj){t:T}{A:bW}{v u:ao}(f:T.flat n t=ae)(hu:A.units+n<cLine)(r:bK s.heap X' t v)(q:bK s.heap X' t u):EqAt A s v u true:=by
 induction n generalizing t A v u with
 |zero=>exact aQ f dM
 |succ n ih=>
  have each:∀{ts:ag T}{vs us:ag ao},ts.all (T.flat n)=ae->bF (bK s.heap X') ts vs->bF (bK s.heap X') ts us->∀(j:aj)(h1:j<vs.length)(h2:j<us.length),EqAt A.in1 s vs[j] us[j] true:=λf r q j h1 h2=>
   (r.both q j h1 h2).elim λt z=>ih (aE.mp f t z.1) (by rw[I9];omega) z.2.1 z.2.2
  cases t with
  |none=>cases r;cases q;exact .same _
  |bool b=>cases r;cases q;exact .same _
  |int i=>exact jm r λk=>jm q λk'=>(show(i==i)=ae from dJ i)▸EqAt.int_int i k i k'
  |str i=>exact ir r λk=>ir q λk'=>(show((⟨i.toArray⟩ :bQ)==⟨i.toArray⟩)=ae from dJ _)▸EqAt.str_str _ k _ k'
  |bytes i=>exact eP r λb k hb=>eP q λc k' hc=>vM (bc (toNat_inj (hb.trans hc.symm)))
  |list ts=>
   refine gj r λa vs m Z l1 r=>gj q λb us m' Z l2 q=>?_
   by_cases e:a=b
   ·rw[e];exact .same _
   ·exact .of_refs e (all_true _▸aep (A:=A) (e:=λZ=>ae) l1.isList l2.isList (r.len.symm.trans q.len) (by omega) λj h1 h2=>each f r q j h1 h2)
  |tup ts=>
   refine iY r λa vs m Z l1 r=>iY q λb us m' Z l2 q=>?_
   by_cases e:a=b
   ·rw[e];exact .same _
   ·have e2:vs.toArray.size=us.toArray.size:=r.len.symm.trans q.len
    have z:=RcAt.tuples (A:=A) (e:=λZ=>ae) (IsT.tup l1) (IsT.tup l2) (by omega) λj h1 h2=>each f r q j h1 h2
    rw[all_true,e2,dJ] at z;exact .of_refs e z
  |dict _=>exact aQ f dM
  |inst _ _=>exact aQ f dM
def l5(A:bW)(s:aG)(o o':pS)(v u:ao)(r:aW):Prop:=
 (∀Q E,(∀tk,Q (.bool r) {s with toks:=tk})->aX (bP prog w) A (fX o v u) Q E s)/\(∀Q E,(∀tk,Q (.bool (!r)) {s with toks:=tk})->aX (bP prog w) A (fX o' v u) Q E s)
theorem here{Q:ao->aG->Prop}{v:ao}(h:∀tk,Q v {s with toks:=tk}):Q v s:=h s.toks
theorem Tc{a b:ao}(x:RcAt A s a b r)(y:RcNeAt A s a b (!r)):l5 A s .Eq .NotEq a b r:=⟨λQ E h=>cmp_ofEq (x prog w E Q (here h)),λQ E h=>y prog w E Q (here h)⟩
theorem ku{α:Type}{l:ag α}:l.isEmpty=(l.length==0):=by cases l<;>rfl
theorem vN{i j:aN}{vs ws:ag ao}{n m:aj}(l1:IsL s.heap i vs.toArray n)(l2:IsL s.heap j ws.toArray m)(hu:A.units+60<cLine)(hs:vs.length=ws.length)(he:∀j (h1:j<vs.length) (h2:j<ws.length),EqAt A.in1 s vs[j] ws[j] ae):l5 A s .Eq .NotEq (.ref i) (.ref j) true:=
 Tc (all_true _▸aep (A:=A) (e:=λZ=>ae) l1.isList l2.isList hs (by omega) he) (by have z:=RcNeAt.lists (A:=A) (e:=λZ=>ae) l1.isList l2.isList hs (by omega) he;rwa[all_true] at z)
theorem Td{i j:aN}{vs ws:ag ao}{n m:aj}(l1:IsL s.heap i vs.toArray n)(l2:IsL s.heap j ws.toArray m)(hu:A.units+60<cLine)(h:vs.length≠ws.length):l5 A s .Eq .NotEq (.ref i) (.ref j) false:=
 Tc (RcAt.lists_lengths l1.isList l2.isList (m9.mpr h) (by omega)) (RcNeAt.lists_lengths l1.isList l2.isList (m9.mpr h) (by omega))
theorem JQ(hu:A.units+60<cLine)(ra:bK s.heap X' a vx)(rb:bK s.heap X' b vy)(e:eqT a b=aa r):l5 A s .Eq .NotEq vx vy r:=by
 cases a with
 |int a=>exact cM (P:=λr=>l5 A s .Eq .NotEq vx vy r) e λj hj=>by cases jp hj;exact jm ra λk=>jm rb λk'=>⟨λQ E q=>eq_int (here q),λQ E q=>ne_int (here q)⟩
 |str a=>exact cM (P:=λr=>l5 A s .Eq .NotEq vx vy r) e λj hj=>by cases qZ hj;exact ir ra λk=>ir rb λk'=>⟨λQ E q=>eq_str (by rw[str_beq];exact here q),λQ E q=>ne_str (by rw[bne,str_beq];exact here q)⟩
 |bytes a=>
  exact cM (P:=λr=>l5 A s .Eq .NotEq vx vy r) e λj hj=>by
   cases EZ hj;exact eP ra λb k hb=>eP rb λc k' hc=>⟨λQ E q=>PySem.W.eq_bytes (by rw[yd,hb,hc];exact here q),λQ E q=>PySem.W.ne_bytes (by rw[bne,yd,hb,hc];exact here q)⟩
 |list ts=>
  refine bj e λus hu' e=>?_;cases qY hu';refine cO e (λhb e=>?_) λhb e=>cO e (λha e=>?_) λZ e=>cO e (λhc e=>?_) λZ e=>by cases e
  ·cases e
   rw[ku,ku,m9] at hb;exact gj ra λi vs n Z l1 r1=>gj rb λj ws m Z l2 r2=>Td l1 l2 hu λz=>hb (by rw[r1.len,r2.len,z])
  ·cases e
   cases ts with
   |cons=>cases ha
   |nil=>
    cases us with
    |cons=>exact aQ rfl hb
    |nil=>exact gj ra λi vs n Z l1 r1=>gj rb λj ws m Z l2 r2=>vN l1 l2 hu (r1.len.symm.trans r2.len) λj h1 Z=>aQ h1 (r1.len▸UG j)
  ·cases e
   cases hc.1;exact gj ra λi vs n Z l1 r1=>gj rb λj ws m Z l2 r2=>vN l1 l2 hu (r1.len.symm.trans r2.len) λj h1 h2=>(r1.both r2 j h1 h2).elim λt z=>JP 19 (aE.mp hc.2 t z.1) (by rw[I9];omega) z.2.1 z.2.2
 |_=>cases e
theorem U9:tI y=ae->y=.t (.list [])
 |h=>
  by cases y with
   |m _=>cases (h)
   |t t=>
    cases t with
     |list l=>
      cases l with
       |nil=>rfl
       |cons=>cases (h)
     |_=>cases (h)
theorem Pm{o:MO}{l:ag PV}(h:o.l? =aa l):o=.list l:=by cases o<;>cases h;rfl
theorem Po{o:MO}{l:ag (T×T)}(h:o.d? =aa l):o=.dict l:=by cases o<;>cases h;rfl
theorem jS{mu:Mu}{i:aj}{l:ag PV}(h:listAt mu i=aa l):mu[i]? =aa (.list l):=bj h λo he e=>Pm e▸he
theorem oq{mu:Mu}{i:aj}{l:ag (T×T)}(h:mu[i]?.bind MO.d? =aa l):mu[i]? =aa (.dict l):=bj h λo he e=>Po e▸he
theorem A1(S:Ok σ)(hu:A.units+60<cLine)(rx:RV x vx σ)(ry:RV y vy σ)(e:Yg x y σ.mu=aa r):l5 A σ.s .Eq .NotEq vx vy r:=by
 cases x with
 |t a=>exact bj e λb hb e=>by cases fK hb;exact JQ hu rx ry e
 |m i=>
  refine cO e (λhy e=>?_) λZ e=>by cases e
  cases U9 hy;refine cM (P:=λr=>l5 A σ.s .Eq .NotEq vx vy r) e λxs he=>S.nC rx (jS he) λq hq m=>q5 ry λb ws n' Z l2 r2=>?_;refine dZ m λvs n l1 r1=>?_;cases xs with
  |nil=>exact vN l1 l2 hu (r1.len.symm.trans r2.len) λj h1 Z=>aQ h1 (r1.len▸UG j)
  |cons x xs=>exact Td l1 l2 hu (by rw[<-r1.len, <-r2.len];exact dW _)
noncomputable def ZD(a:bE):ao->aW |.int b _=>b==a |_=>af
noncomputable def ZE(a:bQ):ao->aW |.str b _=>b==a |_=>af
noncomputable def ZF(a:ag aj):ao->aW |.bytes b _=>b.toList.map bh==a |_=>af
theorem hits{hit:ao->aW}{test eqt:T->aW}(k:∀t v,test t=ae->bK h X' t v->EqAt A s v u (hit v)/\hit v=eqt t){ts:ag T}{vs:ag ao}(f:ts.all test=ae)(r:bF (bK h X') ts vs):(∀y∈vs,EqAt A s y u (hit y))/\vs.any hit=ts.any eqt:=
 (r.ind (P:=λts vs=>ts.all test=ae->(∀y∈vs,EqAt A s y u (hit y))/\vs.any hit=ts.any eqt) (λf=>⟨λy m=>aQ m ny,rfl⟩) λt ts v vs h r ih f=>
  have f:=aF.mp f;have z:=k t v f.1 h
  ⟨λy m=>(aJ.mp m).elim (λe=>e▸z.1) ((ih f.2).1 y),(congr (av or z.2) (ih f.2).2)⟩) f
theorem Va{t:T}(h:t.SR=ae):∃i,t=.int i:=by cases t<;>first |exact⟨_,rfl⟩ |cases h
theorem Vb{t:T}(h:t.Yh=ae):∃i,t=.str i:=by cases t<;>first |exact⟨_,rfl⟩ |cases h
theorem Vc{t:T}(h:t.isB=ae):∃i,t=.bytes i:=by cases t<;>first |exact⟨_,rfl⟩ |cases h
theorem ZG{a:bE}{k:Tok}{ts:ag T}{vs:ag ao}:ts.all T.SR=ae->bF (bK h X') ts vs->(∀y∈vs,EqAt A s y (.int a k) (ZD a y))/\vs.any (ZD a)=ts.any (T.SS a):=
 hits λt v f r=>by obtain⟨i,rfl⟩:=Va f;exact jm r λt=>⟨EqAt.int_int _ _ _ _,rfl⟩
theorem ZH{a:ag aj}{k:Tok}{ts:ag T}{vs:ag ao}:ts.all T.Yh=ae->bF (bK h X') ts vs->(∀y∈vs,EqAt A s y (.str ⟨a.toArray⟩ k) (ZE ⟨a.toArray⟩ y))/\vs.any (ZE ⟨a.toArray⟩)=ts.any (T.eqS a):=
 hits λt v f r=>by obtain⟨i,rfl⟩:=Vb f;exact ir r λt=>⟨EqAt.str_str _ _ _ _,str_beq _ _⟩
theorem ZI{c:cE iq}{k:Tok}{ts:ag T}{vs:ag ao}:ts.all T.isB=ae->bF (bK h X') ts vs->(∀y∈vs,EqAt A s y (.bytes c k) (ZF (c.toList.map bh) y))/\vs.any (ZF (c.toList.map bh))=ts.any (T.eqB (c.toList.map bh)):=
 hits λt v f r=>by
  obtain⟨i,rfl⟩:=Vc f;exact eP r λb t hb=>⟨vM (by rw[eV,cb];exact⟨λe=>by show(_==_)=ae;rw[e];exact dJ _,λe=>toNat_inj (eq_of_beq e)⟩),by show(b.toList.map bh==_)=(i==_);rw[hb]⟩
theorem fR.nil{K:Type}[eF K]{knd:KeyKind prog w K}{K':Type}[eF K'](afn:KeyKind prog w K'){a:aN}:h.DictOf knd a []->h.DictOf afn a []:=λq9=>aeJ q9 λo es ep ho hc hd hk hp hn=>by
 have he:es.toList=[]:=by cases hq:es.toList with |nil=>rfl |cons x r=>rw[hq] at hp;cases hp
 exact⟨o,es,ep,ho,hc,hd,λe m=>(by rw[<-En,he] at m;cases m),by rw[he];exact .nil,jF⟩
theorem fR.ints{a:aN}{ks:ag T}{vs:ag ao}(d:fR h a ks vs)(f:ks.all T.SR=ae):∃is:ag bE,ks=is.map T.int/\is.length=vs.length/\h.DictOf (intKind prog w) a (is.zip vs):=by
 cases d with
 |int is _ l d=>exact⟨is,rfl,l,d⟩
 |str ss _ l d=>
  cases ss with
   |nil=>exact⟨[],rfl,l,fR.nil _ d⟩
   |cons=>cases f
theorem fR.strs{a:aN}{ks:ag T}{vs:ag ao}(d:fR h a ks vs)(f:ks.all T.Yh=ae):∃ss:ag bQ,ks=ss.map (λs=>T.str s.cps.toList)/\ss.length=vs.length/\h.DictOf (strKind prog w) a (ss.zip vs):=by
 cases d with
 |str is _ l d=>exact⟨is,rfl,l,d⟩
 |int ss _ l d=>
  cases ss with
   |nil=>exact⟨[],rfl,l,fR.nil _ d⟩
   |cons=>cases f
theorem vO{K:Type}[eF K](k:K){is:ag K}{vs:ag ao}(e:is.length=vs.length):(t7 (is.zip vs) k).isSome=is.any (· ==k):=by
 induction is generalizing vs with
 |nil=>rfl
 |cons i is ih=>
  cases vs with
   |nil=>exact aQ e (dW _)
   |cons v vs=>
    have ih:=ih (vs:=vs) (jf e);unfold t7 at ih ⊢;rw[jg,o6,AE]
    by_cases q:i=k
    ·rw[bc q,bT.mpr q];rfl
    ·rw[aY q,aD.mpr q];exact ih
theorem pk{d:aN}(nb:(BH w.params).get? d=ac):(d==sysModules)=false:=by
 rw[aD];intro e;rw[e,show(BH w.params).get? sysModules=aa (b0 w.params 1) by kernel_rfl] at nb
 cases nb
theorem A2{α:Type}{l:ag α}{a:α}(h:oneOf l=aa a):l=[a]:=by
 match l,h with
 |[_],h=>cases h;rfl
theorem CO{a:aN}{vs:ag ao}{n:aj}{hit:ao->aW}{r:aW}(l:IsT s.heap a vs.toArray n)(z:(∀y∈vs,EqAt A.in1 s y v (hit y))/\vs.any hit=r):l5 A s .In .NotIn v (.ref a) r:=
 have he:∀y,y∈vs.toArray->EqAt A.in1 s y v (hit y):=λy m=>z.1 y (ag.mem_toArray.mp m)
 ⟨λQ E q=>in_tupleAt _ (IsT.tup l) he (by rw[OB,z.2];exact here q),λQ E q=>notIn_tupleAt _ (IsT.tup l) he (by rw[OB,z.2];exact here q)⟩
theorem q7{c:Prop}{dc:acO c}{x r:aW}{P:aW->Prop}(h:(if c then aa x else ac)=aa r)(k:c->P x):P r:=cO h (λz e=>aM e▸k z) λZ e=>by cases e
theorem JR(ra:bK s.heap X' a vx)(rb:bK s.heap X' b vy)(e:U3 a b=aa r):l5 A s .In .NotIn vx vy r:=by
 cases a with
 |int a=>
  cases b with
   |tup ts=>exact q7 (P:=λr=>l5 A s .In .NotIn vx vy r) e λf=>jm ra λk=>iY rb λc vs n Z l r=>CO l (ZG f r)
   |dict l=>
    exact q7 (P:=λr=>l5 A s .In .NotIn vx vy r) e λf=>jm ra λk=>kn rb λc vs Z nb d Z=>by
     refine nB (d.ints f) λis e1 e2 d=>?_;have z:(t7 (is.zip vs) a).isSome=(l.map (·.1)).any (T.SS a):=by rw[vO a e2,e1,ag.any_map];rfl
     exact⟨λQ E q=>wpAny_in_of (XY prog w a k) (pk nb) d.mapOf (by rw[z];exact q _),λQ E q=>wpAny_notIn_of (XY prog w a k) (pk nb) d.mapOf (by rw[z];exact q _)⟩
   |_=>cases e
 |str a=>
  cases b with
   |tup ts=>exact q7 (P:=λr=>l5 A s .In .NotIn vx vy r) e λf=>ir ra λk=>iY rb λc vs n Z l r=>CO l (ZH f r)
   |str l=>
    exact cM (P:=λr=>l5 A s .In .NotIn vx vy r) e λc hc=>ir ra λk=>ir rb λk'=>by
     cases A2 hc;have z:(!(uY (⟨l.toArray⟩ :bQ) ⟨#[c]⟩ 0 (⟨l.toArray⟩ :bQ).length 1).isEmpty)=l.any (· ==c):=by
      rw[in_meets,eV,cb,countIn_signs];simp
     exact⟨λQ E q=>aeq (by rw[show(⟨[c].toArray⟩ :bQ)=⟨#[c]⟩ from rfl,z];exact here q),λQ E q=>PySem.P.notIn_str (by rw[show(⟨[c].toArray⟩ :bQ)=⟨#[c]⟩ from rfl,z];exact here q)⟩
   |_=>cases e
 |bytes a=>
  refine bj e λts ht e=>?_;cases EY ht;exact q7 (P:=λr=>l5 A s .In .NotIn vx vy r) e λf=>eP ra λb k hb=>iY rb λc vs n Z l r=>CO l (hb▸ZI f r)
 |_=>cases e
def RB(b:aW)(v:ao)(_:W):Prop:=v=.bool b
def Rb(b b':aW)(_:W):Prop:=b'=b
theorem g_bool{T':PT ao}{b:aW}(k:∀Q E,(∀tk,Q (.bool b) {σ.s with toks:=tk})->T' Q E σ.s):Gp T' O σ (.ok b σ.mu) RB:=.tok (λZ=>rfl) k
theorem Pp{op:pS}{f:bE->bE->aW}(rx:RV x vx σ)(ry:RV y vy σ)(k:∀a b t u Q E,Q (.bool (f a b)) σ.s->aX (bP prog w) A (fX op (.int a t) (.int b u)) Q E σ.s):
 Gp (wq A (fX op vx vy)) O σ (bS (ltV x y f) σ.mu) RB:=.opt λr e=>bj e λa ha e=>bj e λb hb e=>by
 cases fK ha;cases fK hb;refine cM (P:=λr=>Gp (wq A (fX op vx vy)) O σ (.ok r σ.mu) RB) e λp hp=>bj hp λi hi e=>cM (P:=λp=>Gp (wq A (fX op vx vy)) O σ (.ok (f p.1 p.2) σ.mu) RB) e λj hj=>?_;cases jp hi;cases jp hj;exact iu rx λt=>iu ry λu=>g_bool λQ E q=>k i j t u Q E (here q)
theorem JS(n:a.qt=af)(r:bK h X' a v):(v==jd)=false:=by
 cases a with
 |none=>cases n
 |bool _=>cases r;rfl
 |int _=>exact jm r λZ=>rfl
 |str _=>exact ir r λZ=>rfl
 |bytes _=>exact eP r λZ Z Z=>rfl
 |list _=>exact gj r λZ Z Z Z Z Z=>rfl
 |tup _=>exact iY r λZ Z Z Z Z Z=>rfl
 |dict _=>exact kn r λZ Z Z Z Z Z=>rfl
 |inst _ _=>exact qV r λZ Z Z Z Z Z Z=>rfl
theorem JT(n:a.qt=ae):a=.none:=by cases a<;>first |rfl |cases n
theorem Te(rx:RV x vx σ)(ry:RV y vy σ)(e:isV x y=aa r):l5 A σ.s .Is .IsNot vx vy r:=bj e λa ha e=>bj e λb hb e=>by
 cases fK ha;cases fK hb;refine cO e (λhn e=>?_) λZ e=>by cases e
 cases JT hn;cases ry;have e:aa a.qt=aa r:=e;have z:(vx==jd)=r:=by
  cases h:a.qt with
  |true=>rw[h] at e;cases e;cases JT h;cases rx;rfl
  |false=>rw[h] at e;cases e;exact JS h rx
 exact⟨λQ E q=>is_none (by rw[z];exact q _),λQ E q=>isNot_none (by rw[z];exact q _)⟩
theorem Tf(rx:RV x vx σ)(ry:RV y vy σ)(e:(x.t?.bind λa=>y.t?.bind (U3 a))=aa r):l5 A σ.s .In .NotIn vx vy r:=bj e λa ha e=>bj e λb hb e=>by
 cases fK ha;cases fK hb;exact JR rx ry e
theorem Vd{o o':pS}{c:ar aW}(k:∀r,c=aa r->l5 A σ.s o o' vx vy r):Gp (wq A (fX o vx vy)) O σ (bS c σ.mu) RB:=.opt λr e=>g_bool (k r e).1
theorem Ve{o o':pS}{c:ar aW}(k:∀r,c=aa r->l5 A σ.s o o' vx vy r):Gp (wq A (fX o' vx vy)) O σ (bS (c.map (!·)) σ.mu) RB:=.opt λr e=>cM (P:=λr=>Gp (wq A (fX o' vx vy)) O σ (.ok r σ.mu) RB) e λb hb=>g_bool (k b hb).2
theorem A3{op:Js}(hu:A.units+60<cLine)(rx:RV x vx σ)(ry:RV y vy σ):Gp (wq A (fX (CM op) vx vy)) O σ (bS (eC op x y σ.mu) σ.mu) RB:=.of λS=>by
 cases op
 ·exact Vd λr=>A1 S hu rx ry
 ·exact Ve λr=>A1 S hu rx ry
 ·exact Pp rx ry λZ Z Z Z Z Z q=>lt_int q
 ·exact Pp rx ry λZ Z Z Z Z Z q=>le_int q
 ·exact Pp rx ry λZ Z Z Z Z Z q=>gt_int q
 ·exact Pp rx ry λZ Z Z Z Z Z q=>ge_int q
 ·exact Vd λr=>Te rx ry
 ·exact Ve λr=>Te rx ry
 ·exact Vd λr=>Tf rx ry
 ·exact Ve λr=>Tf rx ry
theorem q8{b:aW}(k:∀Q E,(∀tk,Q b {σ.s with toks:=tk})->aX (bP prog w) A (truthy v) Q E σ.s):Gp (wq A (truthy v)) O σ (.ok b σ.mu) Rb:=.tok (λZ=>rfl) k
theorem qx(rx:RV x v σ):Gp (wq A (truthy v)) O σ (bS (truth x σ.mu) σ.mu) Rb:=by
 cases x with
 |t t=>
  cases t with
   |none=>cases rx;exact q8 λQ E q=>truthy_none (q _)
   |bool b=>cases rx;exact q8 λQ E q=>xH (q σ.s.toks)
   |int i=>exact iu rx λt=>q8 λQ E q=>aer (by rw[show(i != 0)=decide (i≠0) by rw[eV,m9,cb]];exact q σ.s.toks)
   |_=>exact .aK
 |m i=>
  exact .of λS=>.opt λb e=>bj e λxs he e=>q7 (P:=λb=>Gp _ O σ (.ok b σ.mu) Rb) e λhl=>S.nC rx (jS he) λq hq m=>bD m λvs m=>bD m λn m=>
   q8 λQ E q=>wpAny_truthy_list m.1.isList (by have:=m.2.len;unfold bp at hl;rw[bb];omega) (by rw[ag.isEmpty_toArray,ku, <-m.2.len, <-ku];exact q _)
end
end
section
open PySem PySem.W PyProof.Rows
section
variable{A:bW}{σ:W}{O:aN->Prop}{x y:PV}{vx vy v u:ao}{a b t:T}{P:ao->Prop}{G:Prop}{h:dK}{X':aN->Prop}{s:aG}{E:ao->aG->Prop}
noncomputable def ot:bV->aW
 |.Slice ..=>ae
 |_=>af
theorem l6{i:bV}(h:ot i=af)(o v:ao):subscripted i af o v=operate [o,v] (NS o v):=by
 have r:=@rfl _ (operate [o,v] (NS o v));cases i<;>first |exact r |cases h
theorem ou{α:Type}{value slice:bV}{o i:ao}{ops:ag ao}{T id:eS}{r:Res α}{R:α->ao->W->Prop}(hT:σ.s.TypeIs o T)(hl:gX (.type T) "__getitem__"=pure (aa (.builtin id)))
 (hs:subscripted slice af o i=operate ops (NS o i)) (g:Gp (wq A (NS o i)) O σ r R):Gp (wq A (iC value slice o i)) O σ r R:=g.sim λQ E q=>tail_any hT hl q hs
theorem JU{α β:Type}{l:ag α}{f:α->β}{i:bE}{b:β}(h:idx l f i=aa b){G:Prop}(k:-2^63<=i/\i<2^63->∀k a,Oa i l.length=aa k->l[k]? =aa a->f a=b->G):G:=
 cO h (λz e=>bj e λn hn e=>cM (P:=λb'=>b'=b->G) e (λa ha eb=>k (by rwa[show(qp:bE)=2^63 by decide] at z) n a hn ha eb) rfl) λZ e=>by cases e
theorem E1{i:bE}{n:aj}:Oa i n=seqIndex? i n:=by
 unfold Oa seqIndex?;dsimp only
 by_cases h0:0<=i
 ·rw[aA h0,aL (by omega:¬i<0)]
  by_cases h2:i<n
  ·rw[aA h2,aA (by rw[cZ,cb,cb];exact⟨h0,h2⟩)]
  ·rw[aL h2,aL (by rw[cZ,cb,cb];exact λz=>h2 z.2)]
 ·rw[aL h0,aA (by omega:i<0)]
  by_cases h2:0<=i+n
  ·rw[aA h2,aA (by rw[cZ,cb,cb];omega)]
  ·rw[aL h2,aL (by rw[cZ,cb,cb];exact λz=>h2 z.1)]
theorem rf{a:aN}{vs:ag ao}{n:aj}{i:bE}{k:aj}{u:Tok}{v:ao}{Q:ao->aG->Prop}(hl:IsL s.heap a vs.toArray n)(hb:-2^63<=i/\i<2^63)(hk:Oa i vs.length=aa k)(hv:vs[k]? =aa v)(q:Q v s):
 aX (bP prog w) A (NS (.ref a) (.int i u)) Q E s:=by
 have hv':vs.toArray[k]? =aa v:=by rw[dw];exact hv
 unfold Oa at hk;refine cO hk (λh hk=>cO hk (λZ e=>?_) λZ e=>by cases e) λh hk=>cO hk (λh' e=>?_) λZ e=>by cases e
 ·cases e;exact wpAny_getItem_list hl.isList h hb.2 hv' q
 ·cases e;exact wpAny_getItem_list_neg hl.isList (by omega) (by rw[bb];omega) hb.1 hv' q
theorem JV{kvs:ag (T×T)}{ss:ag bQ}{vs:ag ao}{k:ag aj}{t:T}(e1:kvs.map (·.1)=ss.map (λs=>T.str s.cps.toList))(q:bF (λp=>bK h X' p.2) kvs vs)(e:CE (.str k) kvs=aa t):
 ∃v,t7 (ss.zip vs) ⟨k.toArray⟩=aa v/\bK h X' t v:=
 (q.ind (P:=λkvs vs=>∀ss:ag bQ,kvs.map (·.1)=ss.map (λs=>T.str s.cps.toList)->CE (.str k) kvs=aa t->∃v,t7 (ss.zip vs) ⟨k.toArray⟩=aa v/\bK h X' t v)
  (λss e1 e=>lX e) λab r v vs hv q ih ss e1 e=>by
  cases ss with
  |nil=>exact aQ e1 (bf _ _)
  |cons s ss=>
   have e1:=cg e1;have e:(if tJ ab.1 (T.str k)=ae then aa ab.2 else CE (T.str k) r)=aa t:=e
   have e2:ab.1=T.str s.cps.toList:=e1.1;rw[e2] at e;have vz:t7 ((s::ss).zip (v::vs)) ⟨k.toArray⟩=if s=⟨k.toArray⟩ then aa v else t7 (ss.zip vs) ⟨k.toArray⟩:=by
    unfold t7;rw[jg,o6]
    by_cases hk:s=⟨k.toArray⟩
    ·rw[bc hk,aA hk];rfl
    ·rw[aY hk,aL hk]
   by_cases hk:s.cps.toList=k
   ·exact⟨v,vz.trans (aA (hk▸rfl)),aM ((aA (bT.mpr hk)).symm.trans e)▸hv⟩
   ·exact(ih ss e1.2 ((aL λz=>hk (eq_of_beq z)).symm.trans e)).imp λv' z=>⟨(vz.trans (aL λz:s=⟨k.toArray⟩=>hk (av (λs:bQ=>s.cps.toList) z))).trans z.1,z.2⟩) ss e1 e
theorem JW{value slice:bV}{d:aN}{kvs:ag (T×T)}{vs:ag ao}{k:ag aj}{tk:Tok}(hs:ot slice=af)(dr:fR σ.h d (kvs.map (·.1)) vs)(r:bF (λp=>bK σ.h (X σ) p.2) kvs vs)(e:key kvs k=aa t):
 Gp (wq A (iC value slice (.ref d) (.str ⟨k.toArray⟩ tk))) O σ (.ok (.t t) σ.mu) RV:=cO e (λhk e=>by
 refine nB (dr.strs hk) λss e1 e2 d=>?_;refine bH (JV e1 r e) λv z1 z2=>?_;exact ou (T:="dict") d.typeIs PySem.F.slot_dict_getitem.lookup (l6 hs _ _) (CJ (a:=.t t) z2 λQ E q=>wpAny_getItem_of (XZ prog w ⟨k.toArray⟩ tk) d.mapOf z1 (q _))) λZ e=>by cases e
theorem JX{value slice:bV}(hs:ot slice=af)(rx:RV x vx σ)(ry:RV y vy σ):Gp (wq A (iC value slice vx vy)) O σ (bS (mK x y σ.mu) σ.mu) RV:=.of λS=>.opt λpv e=>bj e λi hi e=>by
 cases fK hi;have int:∀{α:Type}{l:ag α}{f:α->PV}{G:Prop},i.i?.bind (idx l f)=aa pv->(∀j u,i=.int j->vy=.int j u->-2^63<=j/\j<2^63->∀k a,Oa j l.length=aa k->l[k]? =aa a->f a=pv->G)->G:=λe k=>bj e λj hj e=>by
  cases jp hj;exact iu (P:=λv=>vy=v->_) ry (λu ev=>JU e λh1 n a h2 h3 h4=>k j u rfl ev h1 n a h2 h3 h4) rfl
 have str:∀{d:aN}{kvs:ag (T×T)}{vs:ag ao},(i.s?.bind (key kvs)).map PV.t=aa pv->fR σ.h d (kvs.map (·.1)) vs->bF (λp=>bK σ.h (X σ) p.2) kvs vs->Gp (wq A (iC value slice (.ref d) vy)) O σ (.ok pv σ.mu) RV:=λe dr r=>
  cM (P:=λpv=>Gp (wq A (iC value slice (.ref _) vy)) O σ (.ok pv σ.mu) RV) e λt e=>bj e λk hk e=>by
   cases qZ hk;exact sA ry λu=>JW hs dr r e
 cases x with
 |t t=>
  cases t with
   |list ts=>
    refine int e λj u Z ev hb k a hk ha ep=>q5 rx λd vs n Z l1 r1=>?_;refine bH (r1.get ha) λv hv rv=>?_;rw[ev, <-ep];exact ou (T:="list") ⟨_,l1,rfl⟩ uv (l6 hs _ _) (q6 (a:=.t a) rv λQ E q=>rf l1 hb (r1.len▸hk) hv q)
   |tup ts=>
    refine int e λj u Z ev hb k a hk ha ep=>iY (show bK σ.h (X σ) (.tup ts) vx from rx) λd vs n Z l1 r1=>?_
    refine bH (r1.get ha) λv hv rv=>?_;rw[ev, <-ep];exact ou (T:="tuple") ⟨_,l1,rfl⟩ slot_tuple_getitem.lookup (l6 hs _ _) (q6 (a:=.t a) rv λQ E q=>aes (IsTup.keeps (h:=σ.h) ⟨_,l1,rfl,_,rfl⟩ λZ Z e=>e) hb.1 hb.2 (by rw[<-E1,bb, <-r1.len];exact hk) (by rw[dw];exact hv) q)
   |bytes ts=>
    refine int e λj u Z ev hb k a hk ha ep=>eP (show bK σ.h (X σ) (.bytes ts) vx from rx) λb tk eb=>?_
    rw[ev, <-ep];rw[<-eb,dh] at ha;refine cM (P:=λa=>Gp _ O σ (.ok (.t (.int (a:aj))) σ.mu) RV) ha λc hc=>ou (T:="bytes") (xI _ _ _) j7.lookup (l6 hs _ _) (i8 λQ E q=>getItem_gives (xI σ.s _ _) (by decide) j7 GJ (Eo _ _) (gives_bytes_getitem _ j _ u c ?_ ?_) (q _ _))
    ·unfold acQ;rw[cZ,cb,cb];exact hb
    ·rw[<-E1,show b.size=ts.length by rw[<-eb,aq];rfl,hk];rwa[eZ] at hc
   |dict kvs=>exact kn (show bK σ.h (X σ) (.dict kvs) vx from rx) λd vs Z nb dr r1=>str e dr r1
   |_=>cases e
 |m j=>
  refine bj (show σ.mu[j]?.bind (O7 i)=aa pv from e) λo he e=>?_
  cases o with
  |list ts=>
   refine int e λj u Z ev hb k a hk ha ep=>S.nC rx he λq hq m=>?_;refine dZ m λvs n l1 r1=>?_;refine bH (r1.get ha) λv hv rv=>?_;rw[ev, <-ep];exact ou (T:="list") ⟨_,l1,rfl⟩ uv (l6 hs _ _) (q6 (a:=a) rv λQ E q=>rf l1 hb (r1.len▸hk) hv q)
  |dict kvs=>exact S.nC rx he λq hq m=>bD m λvs m=>str e m.1 m.2
  |_=>cases e
end
noncomputable def xq:aj->bQ×aN×Tok×Tok
 |0=>(fG 24,146,243,251) |1=>(fG 32,284,446,454) |2=>(fG 54,396,703,711) |3=>(fG 55,418,732,740) |4=>(fG 99,716,1157,1165) |_=>(fG 65,526,876,884)
noncomputable def CQ(P:aS)(a:aN):cE DictEntry:=match (BH P).get? a with
 |some ⟨_,_,.dict es _,_⟩=>es
 |_=>#[]
noncomputable def za(P:aS)(c:aj):bQ->ar Value:=Ep (CQ P (xq c).2.1)
noncomputable abbrev ZJ(c:aj):Obj:=excClassObj (xq c).1 (xq c).1 (cJ c) (xq c).2.1 [.type "object"] [.type "object"] ae [] [] af ac ac ac ac (aa (.str (xq c).1 (xq c).2.2.1)) (aa (.str (xq c).1 (xq c).2.2.2)) (aa (.bool ae)) "object.__new__"
noncomputable def vP(P:aS)(a:aN):Bool:=match (BH P).get? a with
 |some ⟨_,_,.dict es _,_⟩=>es.toList.all λe=>match e.key with |.str _ _=>ae |_=>af
 |_=>af
set_option tactic.hygienic true in
theorem ye{P:aS}{a:aN}(k:vP P a=ae):(BH P).Ns a (Ep (CQ P a)):=by
 unfold vP at k;unfold CQ;split at k
 ·rename_i c d es ep sl e
  refine⟨_,es,ep,e,rfl,λx hx=>?_,λZ=>rfl⟩;have:=aE.mp k x (En.mpr hx)
  split at this
  ·rename_i n t q;exact⟨n,t,q⟩
  ·cases this
 ·cases k
noncomputable def methsOf:aj->ag (bQ×aN)
 |0=>[("__init__",59),("is_done",66),("peek",74),("take",81),("starts",88),("skip",95),("skip_white",102),("take_regular",109),("skip_line_end",116),("find",137)]
 |1=>[("__init__",205),("text",275),("least_text",282)]
 |2=>[("__init__",394)]
 |3=>[("__init__",416)]
 |4=>[("__init__",709),("told",714)]
 |_=>[("__init__",517),("wants_key",524)]
noncomputable def rg:ag Str:=["__getattribute__","__getattr__","__setattr__"]
theorem map_eq{α β:Type}{f g:α->β}{l:ag α}(e:l.map f=l.map g){x:α}(h:x∈l):f x=g x:=NT.mp e x h
theorem six{c:aj}(h:c<6):c∈be 6:=iE.mpr h
theorem JY(P:aS):(be 6).map (λc=>(BH P).get? (cJ c))=(be 6).map (λc=>aa (ZJ c)):=by kernel_rfl
theorem JZ(P:aS):(be 6).map (λc=>vP P (xq c).2.1)=(be 6).map (λZ=>ae):=by kernel_rfl
theorem Vf(P:aS):(be 6).map (λc=>(rg++vD c).map (za P c))=(be 6).map (λc=>(rg++vD c).map λZ=>ac):=by kernel_rfl
theorem G7(P:aS):(be 6).map (λc=>(methsOf c).map λx=>za P c x.1)=(be 6).map (λc=>(methsOf c).map λx=>aa (.ref x.2)):=by kernel_rfl
section
variable{A:bW}{σ:W}{O:aN->Prop}{x y:PV}{vx vy v u:ao}{h:dK}{X':aN->Prop}{s:aG}{E:ao->aG->Prop}{c f k:aj}
theorem Ok.cls(S:Ok σ)(h:c<6):σ.h.get? (cJ c)=aa (ZJ c):=S.base _ _ (map_eq (JY w.params) (six h))
theorem Ok.cns(S:Ok σ)(h:c<6):σ.h.Ns (xq c).2.1 (za w.params c):=(ye (map_eq (JZ w.params) (six h))).keeps S.base
theorem ZK(h:c<6){n:bQ}(m:n∈rg++vD c):za w.params c n=none:=map_eq (map_eq (Vf w.params) (six h)) m
theorem Vg(h:c<6){n:bQ×aN}(m:n∈methsOf c):za w.params c n.1=aa (.ref n.2):=map_eq (map_eq (G7 w.params) (six h)) m
noncomputable def rh:ag Str:=["data","at","end","top","places","text","octets","is_hex","word","operands","mark","items"]
theorem Pq:rh.map (λn=>X0 "object" n)=rh.map (λZ=>aa ac):=by kernel_rfl
theorem J0{n:bQ}(m:n∈rh):gX (.type "object") n=pure none:=by rw[iA,fk,map_eq Pq m]
noncomputable def iO(i:aj):Str:=((p5.find? λp=>p.2==i).map λp=>xp p.1).getD bQ.empty
theorem mQ{s:bQ}{l:ag aj}(h:qt s l=ae):s=xp l:=by unfold qt at h;rw[<-eq_of_beq h];rfl
theorem ow{α:Type}{l:ag (ag aj×α)}{s:bQ}{a:α}(h:lk l s=aa a):∃p∈l,p.2=a/\s=xp p.1:=
 cM (P:=λa=>∃p∈l,p.2=a/\s=xp p.1) h λp hp=>⟨p,Al hp,rfl,mQ (have z:=Sr hp;z)⟩
theorem ZL:p5.map (λp=>xp p.1)=p5.map (λp=>iO p.2):=by kernel_rfl
theorem J1{s:bQ}{i:aj}(h:lk p5 s=aa i):s=iO i:=by obtain⟨p,hp,rfl,rfl⟩:=ow h;exact map_eq ZL hp
theorem J2{l:ag (aj×aj×aj)}(h:Jt l c f=aa k):(c,f,k)∈l:=cM (P:=λk=>(c,f,k)∈l) h λp hp=>by
 have e:=Sr hp;have e:=aF.mp e;rw[<-eq_of_beq e.1, <-eq_of_beq e.2];exact Al hp
theorem G8:vj.map (λx=>(decide (x.1<6),(vD x.1)[x.2.2]?,rh.contains (iO x.2.1)))=vj.map (λx=>(ae,aa (iO x.2.1),ae)):=by kernel_rfl
structure ZM(c f k:aj):Prop where (lt:c<6) (nm:(vD c)[k]? =aa (iO f)) (all:iO f∈rh)
theorem fld(h:pd c f=aa k):ZM c f k:=
 have e:=map_eq G8 (J2 h)
 ⟨bO (av dQ e),av (λx=>x.2.1) e,Er.mp (av (λx=>x.2.2) e)⟩
theorem ZM.no(z:ZM c f k):za w.params c (iO f)=none:=ZK z.lt (cU _ (cp z.nm))
theorem E2(h:c<6){n:bQ}(m:n∈rg):za w.params c n=none:=ZK h (bY _ m)
theorem E3:∀c,(vD c).Nodup
 |0=>by decide+kernel
 |1=>by decide+kernel
 |2=>by decide+kernel
 |3=>by decide+kernel
 |4=>by decide+kernel
 |5=>by decide+kernel
 |_+6=>jF
theorem cq{β:Type}{y n:bQ}{b:β}{l:ag (bQ×β)}:((n,b)::l).lookup y=if y=n then aa b else l.lookup y:=by
 by_cases q:y=n
 ·exact(av (λz:aW=>match z with |true=>aa b |false=>l.lookup y) (bT.mpr q)).trans (aA q).symm
 ·exact(av (λz:aW=>match z with |true=>aa b |false=>l.lookup y) (aD.mpr q)).trans (aL q).symm
theorem CR{fs:ag bQ}{vs:ag ao}{k:aj}{n:bQ}(nd:fs.Nodup)(h:fs[k]? =aa n):(fs.zip vs).lookup n=vs[k]?:=by
 induction fs generalizing vs k with
 |nil=>exact lX h
 |cons f fs ih=>
  cases vs with
   |nil=>rfl
   |cons v vs=>
    cases k with
     |zero=>exact cq.trans (aA (aM h).symm)
     |succ k=>exact cq.trans ((aL λe:n=f=>(eJ.mp nd).1 (e▸cp h)).trans (ih (eJ.mp nd).2 h))
theorem ZM.get(z:ZM c f k)(vs:ag ao):oh c vs (iO f)=vs[k]?:=CR (E3 c) z.nm
theorem J3{y:bQ}:∀{fs:ag bQ}{vs:ag ao},(fs.zip vs).lookup y≠ac->y∈fs
 |[],_,h=>aQ rfl h
 |_::_,[],h=>aQ (by rw[r8];rfl) h
 |f::fs,v::vs,h=>
  by
   by_cases q:y=f
   ·rw[q];exact fg
   ·rw[jg,OC,aD.mpr q] at h
    exact iG _ (J3 h)
noncomputable def put{α:Type}(vs:ag α)(k:aj)(v:α):ag α:=if k<vs.length then vs.set k v else vs++[v]
theorem Pt{v:ao}{n:bQ}{fs:ag bQ}{vs:ag ao}{k:aj}(nd:fs.Nodup)(h:fs[k]? =aa n)(hl:k<=vs.length)(y:bQ):(fs.zip (put vs k v)).lookup y=if y=n then aa v else(fs.zip vs).lookup y:=by
 induction fs generalizing vs k with
 |nil=>exact lX h
 |cons f fs ih=>
  cases vs with
   |nil=>
    cases k with
     |zero=>exact cq.trans (aM h▸av (λz=>if y=f then aa v else z) (av (acR y) r8))
     |succ k=>exact aQ hl (fy k)
   |cons u vs=>
    have hu:((f,u)::fs.zip vs).lookup y=_:=cq;cases k with
    |zero=>
     refine cq.trans (aM h▸?_)
     by_cases q:y=f
     ·exact(aA q).trans (aA q).symm
     ·exact(aL q).trans ((aL q).trans (hu.trans (aL q))).symm
    |succ k=>
     have e:put (u::vs) (k+1) v=u::put vs k v:=by
      unfold put
      by_cases z:k<vs.length
      ·exact(aA (aj.succ_lt_succ z)).trans (av (u::·) (aA z).symm)
      ·exact(aL λq=>z (Et q)).trans (av (u::·) (aL z).symm)
     refine(av (λz=>acR y ((f::fs).zip z)) e).trans (cq.trans ?_)
     by_cases q:y=f
     ·exact(aA q).trans ((aL λz:y=n=>(eJ.mp nd).1 (q.symm.trans z▸cp h)).trans (hu.trans (aA q))).symm
     ·exact(aL q).trans ((ih (eJ.mp nd).2 h (bU hl)).trans (av (λz=>if y=n then aa v else z) (hu.trans (aL q)).symm))
theorem CS{t:T}(r:bK h X' t v):handedOut v=pure v:=by
 apply handedOut_of;cases t with
 |none=>cases r;rfl
 |bool _=>cases r;rfl
 |int _=>exact jm r λZ=>rfl
 |str _=>exact ir r λZ=>rfl
 |bytes _=>exact eP r λZ Z Z=>rfl
 |list _=>exact gj r λZ Z Z Z Z Z=>rfl
 |tup _=>exact iY r λZ Z Z Z Z Z=>rfl
 |dict _=>exact kn r λZ Z Z Z Z Z=>rfl
 |inst _ _=>exact qV r λZ Z Z Z Z Z Z=>rfl
theorem handed(r:RV x v σ):handedOut v=pure v:=by
 cases x with
 |t t=>exact CS (h:=σ.h) (X':=X σ) r
 |m i=>exact bD r λq z=>z.2▸handedOut_of rfl
theorem rj{a dx:aN}{vs:ag ao}{pv:PV}(I:gQ σ.h a dx (cJ c) (oh c vs))(hk:pd c f=aa k)(hv:vs[k]? =aa v)(r:RV pv v σ):Gp (wq A (getAttr (.ref a) (iO f) ae)) O σ (.ok pv σ.mu) RV:=.of λS=>
 have z:=fld hk
 CJ r λQ E q=>load_attr (S.cls z.lt) (S.cns z.lt) (E2 z.lt (by decide)) z.no (J0 z.all) I.inst (by rw[z.get];exact hv) (handed r) (q _)
theorem G9(rx:RV x vx σ):Gp (wq A (getAttr vx (iO f) ae)) O σ (bS (qq x f σ.mu) σ.mu) RV:=.of λS=>.opt λpv e=>by
 cases x with
 |t t=>
  exact cM (P:=λpv=>Gp _ O σ (.ok pv σ.mu) RV) e λu e=>by
   cases t with
   |inst c ts=>exact bj e λk hk ht=>qV (show bK σ.h (X σ) (.inst c ts) vx from rx) λa dx vs Z Z I r1=>(r1.get ht).elim λv z=>rj (pv:=.t u) I hk z.1 z.2
   |_=>cases e
 |m i=>
  exact bj e λo he e=>by
   cases o with
   |inst c ts=>exact bj e λk hk e=>S.nC rx he λq hq m=>bD m λvs m=>(m.2.get e).elim λv z=>rj m.1 hk z.1 z.2
   |_=>cases e
theorem zb(rx:RV x vx σ)(rv:RV y vy σ):Gp (wq A (NU vx (iO f) vy)) O σ ((bS (sr x f y σ.mu) σ.mu).bind λmu Z=>.ok () mu) (λZ Z Z=>rV):=λQ E ko Z ns S=>by
 cases x with
 |t _=>exact aQ rfl ns
 |m i=>
  cases hm:sr (.m i) f y σ.mu with
  |none=>rw[hm] at ns;exact aQ rfl ns
  |some d9=>
   rw[hm] at ko;refine bj hm λo he hm=>?_
   ·cases o with
    |inst c ts=>
     refine bj hm λk hk hm=>S.nC rx he λq hq m=>bD m λvs m=>?_;have z:=fld hk;have len:=m.2.len;have hle:k<=vs.length/\d9=σ.mu.set i (.inst c (put ts k y)):=by
      unfold put;refine cO hm (λh e=>?_) λh hm=>cO hm (λh' e=>?_) λZ e=>by cases e
      ·rw[aA h];exact⟨by omega,(aM e).symm⟩
      ·rw[aL h];exact⟨by omega,(aM e).symm⟩
     have r2:bF (gL σ) (put ts k y) (put vs k vy):=by
      unfold put;rw[<-len]
      by_cases h:k<ts.length
      ·rw[aA h,aA h];exact m.2.set rv
      ·rw[aL h,aL h];exact m.2.append ⟨rv,trivial⟩
     have hx:q.1≠cJ c:=λe=>S.Pe (map_eq (JY w.params) (six z.lt)) (.inl ⟨i,_,q,he,hq,.inl e.symm⟩);refine fJ m.1 λo I=>?_;have Vh:(oh c (put vs k vy))=λy=>if y=iO f then aa vy else oh c vs y:=funext (Pt (E3 c) z.nm hle.1)
     refine store_attr (ns:=vD c) F.store_object (S.cls z.lt) (S.cns z.lt) (E2 z.lt (by decide)) z.no (J0 z.all) hx m.1.inst (λh' A4 b1 b2 b3=>?_) (λy hy=>J3 hy) ?_
     ·refine OV (b3 o I.at_) λJ4 c1 c2 c3 c4 c5=>?_
      have c6:=c5 q.2 I.dict;have keep:∀b ob,σ.h.get? b=aa ob->¬x9 (.inst c ts) q b->h'.get? b=aa ob:=λb ob e n=>b2 b ob (λz=>n (.inl z)) (λky dx e1 e2 z=>n (.inr (by rw[I.at_] at e1;cases e1;rw[I.dict] at e2;cases e2;exact z))) e
      have I':gQ h' q.1 q.2 (cJ c) (oh c (put vs k vy)):=by
       refine CB b1 λo' d1 d2 d3 d4=>?_;rw[c1] at d1;cases d1;refine⟨J4,c1,d2,d3,c6,I.ne,?_⟩;rcases d4 with⟨d4,_⟩ |⟨dx,d4,d5,d6⟩
       ·rw[c6] at d4;cases d4
       ·rw[c6] at d4;cases d4;rw[Vh];exact d6
      have U:=S.upd (s:=⟨h',σ.s.gens,σ.s.drawn,A4,σ.s.os⟩) (o':=.inst c (put ts k y)) he hq (λZ=>id) keep (λa m=>m.elim (λe=>e▸I'.at) λe=>e▸I'.at2) rfl rfl λH=>
       ⟨_,I',r2.mono λZ Z Z r=>r.eQ cK H λZ Z Z=>id⟩
      exact ko () () ⟨⟨h',σ.s.gens,σ.s.drawn,A4,σ.s.os⟩,_,σ.p,σ.fs⟩ (by rw[hle.2];rfl) U.1 U.2.any trivial
     ·have:∀c<6,(vD c).length<=3:=by decide+kernel
      exact ai (this c z.lt) (by decide)
    |_=>cases hm
end
section
variable{A:bW}{σ:W}{O:aN->Prop}{vx vl vu v:ao}{t:T}{lo hi:ar bE}{h:dK}
theorem Vi(lo hi:ar bE)(n:aj):jW lo hi 1 n=(be (hi.elim n (NV n)-lo.elim 0 (NV n))).map (lo.elim 0 (NV n)+·):=by
 have:jW lo hi 1 n=sliceRange ((lo.elim 0 (NV n):aj):bE) ((hi.elim n (NV n):aj):bE) 1:=by
  cases lo<;>cases hi<;>simp[jW,clipAt_cast]
 rw[this,sliceRange_one]
theorem Tg{o:ar bE}(p:IsPart v o):∃q:ar (bE×Tok),v=partValue q/\q.map (·.1)=o:=by
 cases p with
 |none=>exact⟨ac,rfl,rfl⟩
 |int i t=>exact⟨aa (i,t),rfl,rfl⟩
theorem Pu{α:Type}{xs:ag α}{a b:aj}(h:b-a=xs.length)(hb:b<=xs.length):(xs.drop a).take (b-a)=xs:=by
 rw[h];rcases aj.eq_zero_or_pos a with rfl |h0
 ·rw[jE];exact fY (aP _)
 ·have:xs=[]:=ey (by omega)
  rw[this,ag.drop_nil,rW]
theorem Pw(n:aj)(hi:ar bE):hi.elim n (NV n)<=n:=by
 cases hi with
 |none=>exact aP _
 |some i=>exact dm.mp (clipAt_cast n i▸bE.max_le.mpr ⟨bR n,bE.min_le_right _ _⟩)
theorem Py{α:Type}(l:ag α)(lo hi:ar bE):(cut l lo hi).length<=l.length:=by
 unfold cut;rw[f9,dD];exact ai (Su _ _) (lQ _ _)
theorem Ha{q r:ar (bE×Tok)}(eq:q.map (·.1)=lo)(er:r.map (·.1)=hi)(cs:ag aj):slicePicked ⟨cs.toArray⟩ q r ac=(be (hi.elim cs.length (clip cs.length)-lo.elim 0 (clip cs.length))).map (lo.elim 0 (clip cs.length)+·):=by
 unfold slicePicked;rw[eq,er];exact Vi lo hi cs.length
theorem CT{value:bV}{lo' Pz:ar bV}{p:Pos}{sa:aN}(rx:bK σ.h (X σ) t vx)(sl:σ.h.IsSliceOf sa vl vu .none)(pl:IsPart vl lo)(pu:IsPart vu hi):
 Gp (wq A (iC value (.Slice lo' Pz ac p) vx (.ref sa))) O σ (bS ((lH t lo hi).map .t) σ.mu) RV:=.opt λpv e=>cM (P:=λpv=>Gp (wq A (iC value (.Slice lo' Pz ac p) vx (.ref sa))) O σ (.ok pv σ.mu) RV) e λu e=>by
 cases t with
 |bytes bs=>
  refine cO e (λhl e=>?_) λZ e=>by cases e
  cases e;refine eP rx λb k hb=>?_;have hp:(KBy.picked b lo hi).toList.map bh=cut bs lo hi:=by
   rw[<-hb];unfold cut;rw[KBc.picked_eq,aq,AF,X1];rfl
  exact ou (T:="bytes") (xI _ _ _) j7.lookup rfl (uG (KBy.picked b lo hi) hp λQ E q=>
   getItem_meets (xI _ _ _) (by decide) j7 GJ (Eo _ _) (KBc.meets_slice2 b k _ pl pu)
    ⟨sl,ai (KBc.size_picked_le b lo hi) (eo (by rw[<-hb,aq] at hl;exact hl)),λt' k=>q _ _⟩)
 |str cs=>
  refine cO e (λhl e=>?_) λZ e=>by cases e
  cases e;refine ir rx λk=>?_;refine bH (Tg pl) λql z0 el=>?_;subst z0;refine bH (Tg pu) λqu z0 eu=>?_;subst z0;refine ou (T:="str") (w7 _ _ _) PySem.F.slot_str_getitem.lookup rfl (vH λQ E q=>wpAny_getItem_str_slice (l:=ql) (u:=qu) (st:=ac) sl rfl ?_);unfold sliceMade;rw[Ha el eu,pick_run,aq,fF]
  by_cases hw:(((ac:ar (bE×Tok)).map (·.1)).getD 1==1&&hi.elim cs.length (clip cs.length)-lo.elim 0 (clip cs.length)==(⟨cs.toArray⟩ :bQ).length)=ae
  ·rw[aA hw]
   have hc:cut cs lo hi=cs:=Pu (eq_of_beq (aF.mp hw).2) (Pw _ _);rw[hc] at q;exact q _ _
  ·rw[aL hw]
   exact⟨ai (Py cs lo hi) (eo hl),q _ _⟩
 |list ts=>
  refine cO e (λhl e=>?_) λZ e=>by cases e
  cases e;refine gj rx λa vs n Z l1 r1=>?_;have e:slicePick vs.toArray lo hi ac=(cut vs lo hi).toArray:=by rw[slicePick_plain];rfl
  have rc:bF (bK σ.h (X σ)) (cut ts lo hi) (cut vs lo hi):=by unfold cut;rw[r1.len];exact(r1.drop _).take _
  exact ou (T:="list") ⟨_,l1,rfl⟩ uv rfl (CK 0 rc λQ E q=>wpAny_getItem_list_slice l1.isList sl pl pu .none (by decide) (by rw[e];exact q) (by rw[bb, <-r1.len];exact eo hl))
 |_=>cases e
end
end
section
open PySem
noncomputable def bC:E:=.au 0
noncomputable def c9:E:=.au 1
noncomputable def eA:E:=.au 2
noncomputable def fM:E:=.au 3
noncomputable def jN:E:=.au 4
noncomputable def xg:E:=.au 5
noncomputable def CU:E:=.au 6
noncomputable def E4:E:=.au 7
noncomputable def Oc:E:=.au 8
noncomputable def lv9:E:=.au 9
noncomputable def ki(i:bE):E:=.c (.int i)
noncomputable def ks(l:ag aj):E:=.c (.str l)
noncomputable def b1:ag S:=[.ret (.cmp .isIn bC (.c (.tup [.int 0,.int 9,.int 10,.int 12,.int 13,.int 32])))]
noncomputable def fn1:Fn:=⟨4,1,[],b1,af,af⟩
noncomputable def b2:ag S:=[.ret (.and (.cmp .ge bC (ki 0)) (.and (.cmp .pZ bC (.c (.tup [.int 0,.int 9,.int 10,.int 12,.int 13,.int 32]))) (.cmp .pZ bC (.c (.tup [.int 40,.int 41,.int 60,.int 62,.int 91,.int 93,.int 123,.int 125,.int 47,.int 37])))))]
noncomputable def fn2:Fn:=⟨4,1,[],b2,af,af⟩
noncomputable def b3:ag S:=[.ret (.si .le .le (ki 48) bC (ki 57))]
noncomputable def fn3:Fn:=⟨4,1,[],b3,af,af⟩
noncomputable def b4:ag S:=[.dH bC 0 c9,.dH bC 1 eA,.dH bC 2 (.qK (.cmp .lt fM (ki 0)) (.bi .len [c9]) (.bi .min [fM,.bi .len [c9]]))]
noncomputable def fn4:Fn:=⟨7,4,[.int 0,.int (-1)],b4,ae,af⟩
noncomputable def b5:ag S:=[.ret (.cmp .ge (.attr bC 1) (.attr bC 2))]
noncomputable def fn5:Fn:=⟨4,1,[],b5,af,af⟩
noncomputable def b6:ag S:=[.asg 2 (.bin .add (.attr bC 1) c9),.ret (.qK (.cmp .lt eA (.attr bC 2)) (.sub (.attr bC 0) eA) (.neg (ki 1)))]
noncomputable def fn6:Fn:=⟨6,2,[.int 0],b6,af,af⟩
noncomputable def b7:ag S:=[.ifs (.cmp .ge (.attr bC 1) (.attr bC 2)) [.ret (.neg (ki 1))] [],.asg 1 (.sub (.attr bC 0) (.attr bC 1)),.dH bC 1 (.bin .add (.attr bC 1) (ki 1)),.ret c9]
noncomputable def fn7:Fn:=⟨5,1,[],b7,af,af⟩
noncomputable def b8:ag S:=[.ret (.and (.cmp .le (.bin .add (.attr bC 1) (.bi .len [c9])) (.attr bC 2)) (.cmp .eq (.slice (.attr bC 0) (aa (.attr bC 1)) (aa (.bin .add (.attr bC 1) (.bi .len [c9])))) c9))]
noncomputable def fn8:Fn:=⟨5,2,[],b8,af,af⟩
noncomputable def b9:ag S:=[.ifs (.not (.cR bC 43 [c9])) [.ret (.c (.bool af))] [],.dH bC 1 (.bin .add (.attr bC 1) (.bi .len [c9])),.ret (.c (.bool ae))]
noncomputable def fn9:Fn:=⟨5,2,[],b9,af,af⟩
noncomputable def ZN:ag S:=[.while (.cmp .lt (.attr bC 1) (.attr bC 2)) [.asg 1 (.sub (.attr bC 0) (.attr bC 1)),.ifs (.cmp .eq c9 (ki 37)) [.while (.and (.cmp .lt (.attr bC 1) (.attr bC 2)) (.cmp .pZ (.sub (.attr bC 0) (.attr bC 1)) (.tup [ki 10,ki 13]))) [.dH bC 1 (.bin .add (.attr bC 1) (ki 1))]] [.ifs (.cmp .isIn c9 (.c (.tup [.int 0,.int 9,.int 10,.int 12,.int 13,.int 32]))) [.dH bC 1 (.bin .add (.attr bC 1) (ki 1))] [.G0]]]]
noncomputable def afo:Fn:=⟨5,1,[],ZN,af,af⟩
noncomputable def ZO:ag S:=[.asg 1 (.attr bC 1),.while (.and (.cmp .lt (.attr bC 1) (.attr bC 2)) (.call 2 [.sub (.attr bC 0) (.attr bC 1)])) [.dH bC 1 (.bin .add (.attr bC 1) (ki 1))],.ret (.slice (.attr bC 0) (aa c9) (aa (.attr bC 1)))]
noncomputable def afp:Fn:=⟨5,1,[],ZO,af,af⟩
noncomputable def b12:ag S:=[.ifs (.cmp .eq (.cR bC 41 []) (ki 13)) [.dH bC 1 (.bin .add (.attr bC 1) (ki 1)),.ifs (.cmp .eq (.cR bC 41 []) (ki 10)) [.dH bC 1 (.bin .add (.attr bC 1) (ki 1))] [],.ret (.c (.bool ae))] [],.ifs (.cmp .eq (.cR bC 41 []) (ki 10)) [.dH bC 1 (.bin .add (.attr bC 1) (ki 1)),.ret (.c (.bool ae))] [],.ret (.c (.bool af))]
noncomputable def afq:Fn:=⟨4,1,[],b12,af,af⟩
noncomputable def b14:ag S:=[.asg 1 (.attr bC 1),.asg 2 (ki 0),.while (.call 3 [.cR bC 41 []]) [.asg 2 (.bin .sub (.bin .add (.bin .mul eA (ki 10)) (.cR bC 42 [])) (ki 48))],.ifs (.or (.cmp .eq (.attr bC 1) c9) (.cmp .gt (.bin .sub (.attr bC 1) c9) (ki 20))) [.dH bC 1 c9,.ret (.c .none)] [],.ret eA]
noncomputable def afr:Fn:=⟨6,1,[],b14,af,af⟩
noncomputable def b15:ag S:=[.ret (.cR (.attr bC 0) 33 [c9,.bi .max [eA,ki 0],.attr bC 2])]
noncomputable def afs:Fn:=⟨6,3,[],b15,af,af⟩
noncomputable def ZP:ag S:=[.while (.and (.cmp .gt eA (ki 0)) (.cmp .eq (.bin .mod c9 (ki 10)) (ki 0))) [.asg 1 (.bin .fdiv c9 (ki 10)),.asg 2 (.bin .sub eA (ki 1))],.dH bC 3 c9,.dH bC 4 eA]
noncomputable def aft:Fn:=⟨6,3,[],ZP,ae,af⟩
noncomputable def b28:ag S:=[.ret (.tup [.attr bC 3,.attr bC 4])]
noncomputable def afu:Fn:=⟨4,1,[],b28,af,af⟩
noncomputable def b29:ag S:=[.asg 1 (.bi .str [.bi .abs [.attr bC 3]]),.ifs (.cmp .gt (.attr bC 4) (ki 0)) [.asg 1 (.bin .add (.bin .mul (ks [48]) (.bin .sub (.bin .add (.attr bC 4) (ki 1)) (.bi .len [c9]))) c9),.asg 1 (.bin .add (.bin .add (.slice c9 ac (aa (.neg (.attr bC 4)))) (ks [46])) (.slice c9 (aa (.neg (.attr bC 4))) ac))] [],.ret (.bin .add (.call 31 [.attr bC 3]) c9)]
noncomputable def afv:Fn:=⟨5,1,[],b29,af,af⟩
noncomputable def b30:ag S:=[.asg 1 (.cR bC 5 []),.ifs (.or (.cmp .ge (.bi .abs [.attr bC 3]) (.bin .pow (ki 10) (.attr bC 4))) (.cmp .eq (.attr bC 3) (ki 0))) [.ret c9] [],.ret (.bin .add (.call 31 [.attr bC 3]) (.slice c9 (aa (.cR c9 35 [ks [46]])) ac))]
noncomputable def afw:Fn:=⟨5,1,[],b30,af,af⟩
noncomputable def b31:ag S:=[.ret (.qK (.cmp .lt bC (ki 0)) (ks [45]) (ks []))]
noncomputable def afx:Fn:=⟨4,1,[],b31,af,af⟩
noncomputable def ug:ag S:=[.asg 1 (ki 0),.ifs (.and (.cmp .gt (.bi .len [bC]) (ki 0)) (.or (.cmp .eq (.sub bC (ki 0)) (ki 43)) (.cmp .eq (.sub bC (ki 0)) (ki 45)))) [.asg 1 (ki 1)] [],.asg 2 (ki 0),.asg 3 (ki 0),.asg 4 (.neg (ki 1)),.for 5 (.val (.slice bC (aa c9) ac)) [.ifs (.and (.cmp .eq xg (ki 46)) (.cmp .lt jN (ki 0))) [.asg 4 (ki 0)] [.ifs (.si .le .le (ki 48) xg (.bin .add (ki 48) (ki 9))) [.asg 2 (.bin .sub (.bin .add (.bin .mul (ki 10) eA) xg) (ki 48)),.asg 3 (.bin .add fM (ki 1)),.ifs (.cmp .ge jN (ki 0)) [.asg 4 (.bin .add jN (ki 1))] []] [.ret (.c .none)]]],.ifs (.or (.cmp .eq fM (ki 0)) (.cmp .gt fM (ki 40))) [.ret (.c .none)] [],.ifs (.cmp .eq (.sub bC (ki 0)) (ki 45)) [.asg 2 (.neg eA)] [],.ret (.qK (.cmp .lt jN (ki 0)) eA (.new 1 [eA,jN]))]
noncomputable def afy:Fn:=⟨9,1,[],ug,af,af⟩
noncomputable def b33:ag S:=[.ifs (.si .le .le (ki 48) bC (ki 57)) [.ret (.bin .sub bC (ki 48))] [],.ifs (.si .le .le (ki 65) bC (ki 70)) [.ret (.bin .sub bC (ki 55))] [],.ifs (.si .le .le (ki 97) bC (ki 102)) [.ret (.bin .sub bC (ki 87))] [],.ret (.neg (ki 1))]
noncomputable def afz:Fn:=⟨4,1,[],b33,af,af⟩
noncomputable def b34:ag S:=[.ifs (.cmp .eq bC (ki 110)) [.ret (ki 10)] [],.ifs (.cmp .eq bC (ki 114)) [.ret (ki 13)] [],.ifs (.cmp .eq bC (ki 116)) [.ret (ki 9)] [],.ifs (.cmp .eq bC (ki 98)) [.ret (ki 8)] [],.ifs (.cmp .eq bC (ki 102)) [.ret (ki 12)] [],.ret bC]
noncomputable def afA:Fn:=⟨4,1,[],b34,af,af⟩
noncomputable def ZQ:ag S:=[.asg 2 (.newList []),.asg 3 (ki 0),.while (.cmp .lt fM (.bi .len [bC])) [.asg 4 (.sub bC fM),.asg 3 (.bin .add fM (ki 1)),.ifs (.and (.cmp .eq jN (ki 35)) (.cmp .lt (.bin .add fM (ki 1)) (.bi .len [bC]))) [.asg 5 (.call 33 [.sub bC fM]),.asg 6 (.call 33 [.sub bC (.bin .add fM (ki 1))]),.ifs (.and (.cmp .ge xg (ki 0)) (.cmp .ge CU (ki 0))) [.asg 4 (.bin .add (.bin .mul (ki 16) xg) CU),.asg 3 (.bin .add fM (ki 2))] []] [],.ifs (.cmp .eq jN (ki 0)) [.raise [ks [97,32,110,97,109,101,32,119,105,116,104,32,116,104,101,32,99,111,100,101,32,48],c9]] [],.expr (.cR eA 30 [.bi .chr [jN]])],.ret (.cR (ks []) 34 [eA])]
noncomputable def afB:Fn:=⟨10,2,[.int (-1)],ZQ,af,af⟩
noncomputable def b36:ag S:=[.asg 2 (.bin .sub c9 (ki 48)),.asg 3 (ki 1),.while (.and (.cmp .lt fM (ki 3)) (.si .le .le (ki 48) (.cR bC 41 []) (ki 55))) [.asg 2 (.bin .sub (.bin .add (.bin .mul (ki 8) eA) (.cR bC 42 [])) (ki 48)),.asg 3 (.bin .add fM (ki 1))],.ret (.bin .mod eA (ki 256))]
noncomputable def afC:Fn:=⟨7,2,[],b36,af,af⟩
noncomputable def b37:ag S:=[.ifs (.cR bC 40 []) [.ret (.list [])] [],.ifs (.cR bC 47 []) [.ret (.list [])] [],.asg 1 (.cR bC 42 []),.ifs (.si .le .le (ki 48) c9 (ki 55)) [.ret (.list [.call 36 [bC,c9]])] [],.ret (.list [.call 34 [c9]])]
noncomputable def afD:Fn:=⟨5,1,[],b37,af,af⟩
noncomputable def Th:ag S:=[.asg 1 (.bin .sub (.attr bC 1) (ki 1)),.asg 2 (.newList []),.asg 3 (ki 1),.while (.not (.cR bC 40 [])) [.ifs (.cR bC 47 []) [.expr (.cR eA 30 [ki 10]),.cont] [],.asg 4 (.cR bC 42 []),.ifs (.cmp .eq jN (ki 92)) [.expr (.cR eA 31 [.call 37 [bC]]),.cont] [],.ifs (.cmp .eq jN (ki 40)) [.asg 3 (.bin .add fM (ki 1))] [],.ifs (.cmp .eq jN (ki 41)) [.asg 3 (.bin .sub fM (ki 1)),.ifs (.cmp .eq fM (ki 0)) [.ret (.bi .bytes [eA])] []] [],.expr (.cR eA 30 [jN])],.raise [ks [97,32,115,116,114,105,110,103,32,119,105,116,104,111,117,116,32,105,116,115,32,101,110,100],c9]]
noncomputable def afE:Fn:=⟨8,1,[],Th,af,af⟩
noncomputable def b39:ag S:=[.asg 1 (.bin .sub (.attr bC 1) (ki 1)),.asg 2 (.newList []),.while (.not (.cR bC 40 [])) [.asg 3 (.cR bC 42 []),.ifs (.cmp .eq fM (ki 62)) [.ifs (.cmp .eq (.bin .mod (.bi .len [eA]) (ki 2)) (ki 1)) [.expr (.cR eA 30 [ki 0])] [],.ret (.bi .bytes [.comp (.bin .add (.bin .mul (ki 16) (.sub eA xg)) (.sub eA (.bin .add xg (ki 1)))) 5 (.range [ki 0,.bi .len [eA],ki 2]) []])] [],.asg 4 (.call 33 [fM]),.ifs (.cmp .ge jN (ki 0)) [.expr (.cR eA 30 [jN])] [.ifs (.not (.call 1 [fM])) [.raise [ks [97,32,115,105,103,110,32,116,104,97,116,32,105,115,32,110,111,32,104,101,120,32,102,105,103,117,114,101],.bin .sub (.attr bC 1) (ki 1)]] []]],.raise [ks [97,32,104,101,120,32,115,116,114,105,110,103,32,119,105,116,104,111,117,116,32,105,116,115,32,101,110,100],c9]]
noncomputable def afF:Fn:=⟨8,1,[],b39,af,af⟩
noncomputable def b40:ag S:=[.asg 2 (.cR bC 46 []),.asg 3 (.call 32 [eA]),.ifs (.cmp .is fM (.c .none)) [.ret (.tup [ks [119,111,114,100],eA,c9])] [],.ifs (.hZ fM 11) [.ret (.tup [ks [105,110,116],fM,c9])] [],.ret (.tup [ks [114,101,97,108],fM,c9])]
noncomputable def afG:Fn:=⟨7,2,[],b40,af,af⟩
noncomputable def b41:ag S:=[.ifs (.cmp .eq c9 (ki 47)) [.expr (.cR bC 42 []),.ret (.tup [ks [110,97,109,101],.call 35 [.cR bC 46 [],eA],eA])] [],.ifs (.cmp .eq c9 (ki 40)) [.expr (.cR bC 42 []),.ret (.tup [ks [115,116,114,105,110,103],.call 38 [bC],eA])] [],.ifs (.cR bC 44 [.c (.bytes [60,60])]) [.ret (.tup [ks [115,105,103,110],.c (.bytes [60,60]),eA])] [],.ifs (.cR bC 44 [.c (.bytes [62,62])]) [.ret (.tup [ks [115,105,103,110],.c (.bytes [62,62]),eA])] [],.ifs (.cmp .eq c9 (ki 60)) [.expr (.cR bC 42 []),.ret (.tup [ks [104,101,120],.call 39 [bC],eA])] [],.ifs (.cmp .isIn c9 (.c (.tup [.int 91,.int 93,.int 123,.int 125]))) [.expr (.cR bC 42 []),.ret (.tup [ks [115,105,103,110],.bi .bytes [.list [c9]],eA])] [],.raise [ks [97,32,99,108,111,115,105,110,103,32,115,105,103,110,32,119,105,116,104,111,117,116,32,105,116,115,32,111,112,101,110,105,110,103,32,111,110,101],eA]]
noncomputable def afH:Fn:=⟨6,3,[],b41,af,af⟩
noncomputable def b42:ag S:=[.expr (.cR bC 45 []),.asg 1 (.attr bC 1),.asg 2 (.cR bC 41 []),.ifs (.cmp .eq eA (.neg (ki 1))) [.ret (.tup [ks [101,110,100],.c (.bytes []),c9])] [],.ifs (.or (.cmp .eq eA (ki 47)) (.or (.cmp .eq eA (ki 40)) (.or (.cmp .eq eA (ki 41)) (.or (.cmp .eq eA (ki 60)) (.or (.cmp .eq eA (ki 62)) (.cmp .isIn eA (.c (.tup [.int 91,.int 93,.int 123,.int 125])))))))) [.ret (.call 41 [bC,eA,c9])] [],.ret (.call 40 [bC,c9])]
noncomputable def afI:Fn:=⟨6,1,[],b42,af,af⟩
noncomputable def b43:ag S:=[.ret (.and (.cmp .eq (.sub bC (ki 0)) (ks [115,105,103,110])) (.cmp .eq (.sub bC (ki 1)) c9))]
noncomputable def afJ:Fn:=⟨5,2,[],b43,af,af⟩
noncomputable def b44:ag S:=[.dH bC 5 c9]
noncomputable def afK:Fn:=⟨5,2,[],b44,ae,af⟩
noncomputable def b45:ag S:=[.dH bC 6 c9,.dH bC 7 eA]
noncomputable def afL:Fn:=⟨6,3,[.bool af],b45,ae,af⟩
noncomputable def b46:ag S:=[.dH bC 12 c9,.dH bC 6 eA]
noncomputable def afM:Fn:=⟨6,3,[],b46,ae,af⟩
noncomputable def b47:ag S:=[.dH bC 13 c9,.dH bC 14 eA]
noncomputable def afN:Fn:=⟨6,3,[],b47,ae,af⟩
noncomputable def b49:ag S:=[.ifs (.cmp .is bC (.c .none)) [.ret (ks [110,117,108,108])] [],.ifs (.hZ bC 10) [.ret (ks [116,114,117,116,104])] [],.ifs (.hZ bC 11) [.ret (ks [105,110,116])] [],.ifs (.hZ bC 1) [.ret (ks [114,101,97,108])] [],.ifs (.hZ bC 2) [.ret (ks [110,97,109,101])] [],.ifs (.hZ bC 3) [.ret (ks [115,116,114,105,110,103])] [],.ifs (.hZ bC 12) [.ret (ks [97,114,114,97,121])] [],.ifs (.hZ bC 13) [.ret (ks [100,105,99,116])] [],.ifs (.hZ bC 6) [.ret (ks [115,116,114,101,97,109])] [],.ifs (.hZ bC 7) [.ret (ks [114,101,102])] [],.raise [.sub (.c .none) (.c .none)]]
noncomputable def afO:Fn:=⟨4,1,[],b49,af,af⟩
noncomputable def b50:ag S:=[.ifs (.cmp .eq bC (ks [110,117,108,108])) [.ret (.tup [ks [110,117,108,108]])] [],.ifs (.cmp .eq bC (ks [116,114,117,116,104])) [.ret (.tup [ks [116,114,117,116,104],.qK c9 (ki 1) (ki 0)])] [],.ifs (.cmp .eq bC (ks [105,110,116])) [.ret (.tup [ks [105,110,116],c9])] [],.ifs (.cmp .eq bC (ks [114,101,97,108])) [.ret (.tup [ks [114,101,97,108],.attr c9 3,.attr c9 4])] [],.ifs (.cmp .eq bC (ks [110,97,109,101])) [.ret (.tup [ks [110,97,109,101],.attr c9 5])] [],.ifs (.cmp .eq bC (ks [115,116,114,105,110,103])) [.ret (.tup [ks [115,116,114,105,110,103],.bi .bytes [.attr c9 6]])] [],.ret (.tup [ks [114,101,102],.attr c9 13,.attr c9 14])]
noncomputable def afP:Fn:=⟨5,2,[],b50,af,af⟩
noncomputable def b51:ag S:=[.asg 1 (.call 49 [bC]),.ifs (.cmp .eq c9 (ks [97,114,114,97,121])) [.ret (.bin .add (.tup [ks [97,114,114,97,121]]) (.bi .tuple [.comp (.call 51 [eA]) 2 (.name 0) []]))] [],.ifs (.cmp .eq c9 (ks [100,105,99,116])) [.ret (.bin .add (.tup [ks [100,105,99,116]]) (.bi .tuple [.comp (.tup [eA,.call 51 [.sub bC eA]]) 2 (.val (.bi .sorted [bC])) [.cmp .kf (.sub bC eA) (.c .none)]]))] [],.ifs (.cmp .eq c9 (ks [115,116,114,101,97,109])) [.ret (.tup [ks [115,116,114,101,97,109],.call 51 [.attr bC 12],.bi .bytes [.attr bC 6]])] [],.ret (.call 50 [c9,bC])]
noncomputable def afQ:Fn:=⟨5,1,[],b51,af,af⟩
noncomputable def b52:ag S:=[.asg 1 (.call 49 [bC]),.ifs (.cmp .eq c9 (ks [97,114,114,97,121])) [.ret (.bi .list [bC])] [],.ifs (.cmp .eq c9 (ks [100,105,99,116])) [.ret (.comp (.sub bC eA) 2 (.val (.bi .sorted [bC])) [])] [],.ifs (.cmp .eq c9 (ks [115,116,114,101,97,109])) [.ret (.call 52 [.attr bC 12])] [],.ret (.list [])]
noncomputable def afR:Fn:=⟨5,1,[],b52,af,af⟩
noncomputable def Od:ag S:=[.asg 1 (ki 0),.asg 2 (.newList [.tup [bC,ki 0]]),.while eA [.unpack [3,4] (.cR eA 32 []),.ifs (.cmp .isIn (.call 49 [fM]) (.tup [ks [97,114,114,97,121],ks [100,105,99,116],ks [115,116,114,101,97,109]])) [.asg 1 (.bi .max [c9,.bin .add jN (ki 1)]),.for 5 (.val (.call 52 [fM])) [.expr (.cR eA 30 [.tup [xg,.bin .add jN (ki 1)]])]] []],.ret c9]
noncomputable def afS:Fn:=⟨9,1,[],Od,af,af⟩
noncomputable def b54:ag S:=[.dH bC 10 c9,.dH bC 11 (.newList [])]
noncomputable def afT:Fn:=⟨5,2,[],b54,ae,af⟩
noncomputable def b55:ag S:=[.ret (.and (.cmp .eq (.attr bC 10) (.c (.bytes [60,60]))) (.cmp .eq (.bin .mod (.bi .len [.attr bC 11]) (ki 2)) (ki 0)))]
noncomputable def afU:Fn:=⟨4,1,[],b55,af,af⟩
noncomputable def b56:ag S:=[.ret (.and (.hZ bC 11) (.and (.not (.hZ bC 10)) (.cmp .ge bC (ki 0))))]
noncomputable def afV:Fn:=⟨4,1,[],b56,af,af⟩
noncomputable def b58:ag S:=[.ifs (.cmp .eq bC (.c (.bytes [116,114,117,101]))) [.ret (.c (.bool ae))] [],.ifs (.cmp .eq bC (.c (.bytes [102,97,108,115,101]))) [.ret (.c (.bool af))] [],.ifs (.cmp .eq bC (.c (.bytes [110,117,108,108]))) [.ret (.c .none)] [],.raise [ks [97,110,32,117,110,107,110,111,119,110,32,119,111,114,100],c9]]
noncomputable def afW:Fn:=⟨5,2,[],b58,af,af⟩
noncomputable def b59:ag S:=[.unpack [3,4,5] c9,.ifs (.and (.cmp .eq fM (ks [105,110,116])) (.and (.cmp .ge jN (ki 0)) eA)) [.ret (.call 57 [bC,jN])] [],.ifs (.or (.cmp .eq fM (ks [105,110,116])) (.cmp .eq fM (ks [114,101,97,108]))) [.ret jN] [],.ifs (.cmp .eq fM (ks [110,97,109,101])) [.ret (.new 2 [jN])] [],.ifs (.cmp .eq fM (ks [115,116,114,105,110,103])) [.ret (.new 3 [jN])] [],.ifs (.cmp .eq fM (ks [104,101,120])) [.ret (.new 3 [jN,.c (.bool ae)])] [],.ifs (.cmp .eq fM (ks [119,111,114,100])) [.ret (.call 58 [jN,xg])] [],.ifs (.cmp .eq fM (ks [101,110,100])) [.raise [ks [116,104,101,32,111,99,116,101,116,115,32,101,110,100,32,119,105,116,104,105,110,32,97,110,32,111,98,106,101,99,116],xg]] [],.raise [ks [97,32,115,105,103,110,32,116,104,97,116,32,99,97,110,110,111,116,32,115,116,97,110,100,32,104,101,114,101],xg]]
noncomputable def afX:Fn:=⟨9,3,[],b59,af,af⟩
noncomputable def b60:ag S:=[.asg 1 (.newDict []),.for 2 (.range [ki 0,.bi .len [bC],ki 2]) [.iX c9 (.attr (.sub bC eA) 5) (.sub bC (.bin .add eA (ki 1)))],.ret (.qS fM (.sub c9 fM) 3 (.name 1) [.cmp .kf (.sub c9 fM) (.c .none)])]
noncomputable def afY:Fn:=⟨6,1,[],b60,af,af⟩
noncomputable def b61:ag S:=[.asg 3 (.qK (.cmp .eq c9 (.c (.bytes [93]))) (.c (.bytes [91])) (.c (.bytes [60,60]))),.ifs (.or (.cmp .eq bC (.list [])) (.cmp .ne (.attr (.sub bC (.neg (ki 1))) 10) fM)) [.raise [ks [97,32,115,105,103,110,32,99,108,111,115,101,115,32,119,104,97,116,32,105,115,32,110,111,116,32,111,112,101,110],eA]] [],.asg 4 (.cR bC 32 []),.ifs (.cmp .eq fM (.c (.bytes [91]))) [.ret (.attr jN 11)] [],.ifs (.not (.cR jN 51 [])) [.raise [ks [97,32,107,101,121,32,104,97,115,32,110,111,32,118,97,108,117,101],eA]] [],.ret (.call 60 [.attr jN 11])]
noncomputable def Vj:Fn:=⟨8,3,[],b61,af,af⟩
noncomputable def r6:ag S:=[.asg 3 (.newList []),.while (.c (.bool ae)) [.unpack [4,5,6] c9,.asg 7 (.and (.cmp .eq jN (ks [115,105,103,110])) (.cmp .isIn xg (.tup [.c (.bytes [91]),.c (.bytes [60,60])]))),.ifs (.and (.cmp .ne fM (.list [])) (.and (.cR (.sub fM (.neg (ki 1))) 51 []) (.and (.cmp .ne jN (ks [110,97,109,101])) (.not (.call 43 [c9,.c (.bytes [62,62])]))))) [.raise [ks [97,32,107,101,121,32,105,115,32,110,111,32,110,97,109,101],CU]] [],.ifs E4 [.ifs (.cmp .eq (.bi .len [fM]) (ki 40)) [.raise [ks [110,101,115,116,101,100,32,116,111,111,32,100,101,101,112],CU]] [],.expr (.cR fM 30 [.new 5 [xg]])] [.ifs (.and (.cmp .eq jN (ks [115,105,103,110])) (.cmp .isIn xg (.tup [.c (.bytes [93]),.c (.bytes [62,62])]))) [.asg 8 (.call 61 [fM,xg,CU])] [.asg 8 (.call 59 [bC,c9,eA])],.ifs (.cmp .eq fM (.list [])) [.ret Oc] [],.expr (.cR (.attr (.sub fM (.neg (ki 1))) 11) 30 [Oc])],.asg 1 (.call 42 [bC])]]
noncomputable def afZ:Fn:=⟨12,3,[.bool ae],r6,af,af⟩
noncomputable def b63:ag S:=[.ret (.bi .bytes [.comp (.bi .ord [c9]) 1 (.name 0) []])]
noncomputable def af0:Fn:=⟨4,1,[],b63,af,af⟩
noncomputable def b64:ag S:=[.ret (.list [.sub (.c (.bytes [48,49,50,51,52,53,54,55,56,57,65,66,67,68,69,70])) (.bin .fdiv bC (ki 16)),.sub (.c (.bytes [48,49,50,51,52,53,54,55,56,57,65,66,67,68,69,70])) (.bin .mod bC (ki 16))])]
noncomputable def af1:Fn:=⟨4,1,[],b64,af,af⟩
noncomputable def PA:ag S:=[.asg 1 (.newList [ki 47]),.for 2 (.name 0) [.asg 3 (.bi .ord [eA]),.ifs (.or (.cmp .eq fM (ki 0)) (.cmp .gt fM (ki 255))) [.raise [.sub (.c .none) (.c .none)]] [],.ifs (.or (.cmp .lt fM (ki 33)) (.or (.cmp .gt fM (ki 126)) (.or (.cmp .eq fM (ki 35)) (.not (.call 2 [fM]))))) [.expr (.cR c9 30 [ki 35]),.expr (.cR c9 31 [.call 64 [fM]])] [.expr (.cR c9 30 [fM])]],.ret (.bi .bytes [c9])]
noncomputable def af2:Fn:=⟨7,1,[],PA,af,af⟩
noncomputable def b66:ag S:=[.ifs (.cmp .ge (.bi .abs [bC]) (.bin .pow (ki 10) (ki 40))) [.raise [.sub (.c .none) (.c .none)]] [],.ret (.call 63 [.bi .str [bC]])]
noncomputable def af3:Fn:=⟨4,1,[],b66,af,af⟩
noncomputable def PC:ag S:=[.ifs (.or (.cmp .ge (.bi .abs [.attr bC 3]) (.bin .pow (ki 10) (ki 40))) (.cmp .gt (.attr bC 4) (ki 40))) [.raise [.sub (.c .none) (.c .none)]] [],.ifs (.cmp .eq (.attr bC 4) (ki 0)) [.asg 2 (.bin .add (.bi .str [.attr bC 3]) (.qK c9 (ks [46]) (ks [46,48])))] [.asg 2 (.qK c9 (.cR bC 49 []) (.cR bC 5 []))],.ifs (.cmp .gt (.bi .len [.comp fM 3 (.name 2) [.cmp .pZ fM (ks [45,46])]]) (ki 40)) [.raise [.sub (.c .none) (.c .none)]] [],.ret (.call 63 [eA])]
noncomputable def af4:Fn:=⟨6,2,[],PC,af,af⟩
noncomputable def PE:ag S:=[.asg 1 (.newList []),.asg 2 (.newDict []),.for 3 (.range [.bi .len [bC]]) [.ifs (.cmp .eq (.sub bC fM) (ki 40)) [.expr (.cR c9 30 [fM])] [.ifs (.cmp .eq (.sub bC fM) (ki 41)) [.ifs c9 [.expr (.cR c9 32 [])] [.iX eA fM (.c (.bool ae))]] []]],.for 3 (.name 1) [.iX eA fM (.c (.bool ae))],.ret eA]
noncomputable def ZR:Fn:=⟨7,1,[],PE,af,af⟩
noncomputable def Yk:ag S:=[.asg 1 (.call 68 [bC]),.asg 2 (.newList [ki 40]),.for 3 (.range [.bi .len [bC]]) [.asg 4 (.sub bC fM),.ifs (.cmp .eq jN (ki 13)) [.expr (.cR eA 31 [.c (.bytes [92,114])])] [.ifs (.or (.cmp .eq jN (ki 92)) (.cmp .isIn fM c9)) [.expr (.cR eA 31 [.list [ki 92,jN]])] [.expr (.cR eA 30 [jN])]]],.expr (.cR eA 30 [ki 41]),.ret (.bi .bytes [eA])]
noncomputable def af5:Fn:=⟨8,1,[],Yk,af,af⟩
noncomputable def b70:ag S:=[.asg 1 (.newList [ki 60]),.for 2 (.name 0) [.expr (.cR c9 31 [.call 64 [eA]])],.expr (.cR c9 30 [ki 62]),.ret (.bi .bytes [c9])]
noncomputable def af7:Fn:=⟨6,1,[],b70,af,af⟩
noncomputable def b71:ag S:=[.ifs c9 [.asg 2 (.call 69 [.attr bC 6]),.asg 3 (.call 70 [.attr bC 6]),.ret (.qK (.cmp .le (.bi .len [eA]) (.bi .len [fM])) eA fM)] [],.ret (.qK (.attr bC 7) (.call 70 [.attr bC 6]) (.call 69 [.attr bC 6]))]
noncomputable def af8:Fn:=⟨7,2,[],b71,af,af⟩
noncomputable def b72:ag S:=[.ifs (.cmp .eq bC (ks [110,117,108,108])) [.ret (.c (.bytes [110,117,108,108]))] [],.ifs (.cmp .eq bC (ks [116,114,117,116,104])) [.ret (.qK c9 (.c (.bytes [116,114,117,101])) (.c (.bytes [102,97,108,115,101])))] [],.ifs (.cmp .eq bC (ks [105,110,116])) [.ret (.call 66 [c9])] [],.ifs (.cmp .eq bC (ks [114,101,97,108])) [.ret (.call 67 [c9,eA])] [],.ifs (.cmp .eq bC (ks [110,97,109,101])) [.ret (.call 65 [.attr c9 5])] [],.ifs (.cmp .eq bC (ks [115,116,114,105,110,103])) [.ret (.call 71 [c9,eA])] [],.raise [.sub (.c .none) (.c .none)]]
noncomputable def af9:Fn:=⟨6,3,[],b72,af,af⟩
noncomputable def b73:ag S:=[.ifs (.or (.cmp .lt (.attr c9 13) (ki 0)) (.cmp .lt (.attr c9 14) (ki 0))) [.raise [.sub (.c .none) (.c .none)]] [],.expr (.cR bC 30 [.call 66 [.attr c9 13]]),.expr (.cR bC 30 [.call 66 [.attr c9 14]]),.expr (.cR bC 30 [.c (.bytes [82])])]
noncomputable def aga:Fn:=⟨5,2,[],b73,af,af⟩
noncomputable def b74:ag S:=[.expr (.cR bC 30 [.c (.bytes [60,60])]),.for 3 (.val (.qK eA (.bi .sorted [c9]) c9)) [.ifs (.cmp .kf (.sub c9 fM) (.c .none)) [.expr (.cR bC 30 [.call 65 [fM]]),.expr (.call 75 [bC,.sub c9 fM,eA])] []],.expr (.cR bC 30 [.c (.bytes [62,62])])]
noncomputable def agc:Fn:=⟨7,3,[],b74,af,af⟩
noncomputable def b75:ag S:=[.asg 3 (.call 49 [c9]),.ifs (.cmp .eq fM (ks [97,114,114,97,121])) [.expr (.cR bC 30 [.c (.bytes [91])]),.for 4 (.name 1) [.expr (.call 75 [bC,jN,eA])],.expr (.cR bC 30 [.c (.bytes [93])])] [.ifs (.cmp .eq fM (ks [100,105,99,116])) [.expr (.call 74 [bC,c9,eA])] [.ifs (.cmp .eq fM (ks [114,101,102])) [.expr (.call 73 [bC,c9])] [.expr (.cR bC 30 [.call 72 [fM,c9,eA]])]]]]
noncomputable def age:Fn:=⟨8,3,[],b75,af,af⟩
noncomputable def b76:ag S:=[.ret (.and (.call 2 [.sub c9 (ki 0)]) (.or (.call 2 [.sub bC (.neg (ki 1))]) (.cmp .eq bC (.c (.bytes [47])))))]
noncomputable def agf:Fn:=⟨5,2,[],b76,af,af⟩
noncomputable def b77:ag S:=[.ifs (.not c9) [.ret (.cR (.c (.bytes [32])) 34 [bC])] [],.asg 2 (.newList [.sub bC (ki 0)]),.for 3 (.range [ki 1,.bi .len [bC]]) [.ifs (.call 76 [.sub bC (.bin .sub fM (ki 1)),.sub bC fM]) [.expr (.cR eA 30 [.c (.bytes [32])])] [],.expr (.cR eA 30 [.sub bC fM])],.ret (.cR (.c (.bytes [])) 34 [eA])]
noncomputable def agg:Fn:=⟨7,2,[],b77,af,af⟩
noncomputable def b78:ag S:=[.asg 1 (.newDict []),.for 2 (.val (.attr bC 12)) [.iX c9 eA (.sub (.attr bC 12) eA)],.iX c9 (ks [76,101,110,103,116,104]) (.bi .len [.attr bC 6]),.ret c9]
noncomputable def agh:Fn:=⟨6,1,[],b78,af,af⟩
noncomputable def b79:ag S:=[.ifs (.cmp .gt (.call 53 [bC]) (ki 40)) [.raise [.sub (.c .none) (.c .none)]] [],.asg 2 (.newList []),.ifs (.cmp .ne (.call 49 [bC]) (ks [115,116,114,101,97,109])) [.expr (.call 75 [eA,bC,c9]),.ret (.call 77 [eA,c9])] [],.expr (.call 74 [eA,.call 78 [bC],c9]),.asg 3 (.qK c9 (.c (.bytes [115,116,114,101,97,109,10])) (.c (.bytes [10,115,116,114,101,97,109,10]))),.ret (.bin .add (.bin .add (.bin .add (.call 77 [eA,c9]) fM) (.bi .bytes [.attr bC 6])) (.c (.bytes [10,101,110,100,115,116,114,101,97,109])))]
noncomputable def agi:Fn:=⟨7,2,[],b79,af,af⟩
noncomputable def b80:ag S:=[.dH bC 8 c9,.dH bC 9 eA]
noncomputable def agj:Fn:=⟨6,3,[],b80,ae,af⟩
noncomputable def b81:ag S:=[.ret (.tup [.attr bC 8,.bi .tuple [.comp (.call 51 [c9]) 1 (.val (.attr bC 9)) []]])]
noncomputable def agk:Fn:=⟨4,1,[],b81,af,af⟩
noncomputable def b82:ag S:=[.ret (.and (.cmp .eq (.sub bC (ki 0)) (ks [119,111,114,100])) (.cmp .pZ (.sub bC (ki 1)) (.c (.tup [.bytes [116,114,117,101],.bytes [102,97,108,115,101],.bytes [110,117,108,108]]))))]
noncomputable def agl:Fn:=⟨4,1,[],b82,af,af⟩
noncomputable def b83:ag S:=[.ret (.cR (ks []) 34 [.comp (.bi .chr [c9]) 1 (.name 0) []])]
noncomputable def agm:Fn:=⟨4,1,[],b83,af,af⟩
noncomputable def Vk:ag S:=[.asg 1 (.newList []),.asg 2 (.call 42 [bC]),.while (.not (.call 82 [eA])) [.ifs (.and (.cmp .eq (.bin .mod (.bi .len [c9]) (ki 2)) (ki 0)) (.cmp .ne (.sub eA (ki 0)) (ks [110,97,109,101]))) [.raise [ks [97,32,107,101,121,32,105,115,32,110,111,32,110,97,109,101],.sub eA (ki 2)]] [],.expr (.cR c9 30 [.call 62 [bC,eA,.c (.bool af)]]),.asg 2 (.call 42 [bC])],.ifs (.or (.cmp .ne (.sub eA (ki 1)) (.c (.bytes [73,68]))) (.cmp .eq (.bin .mod (.bi .len [c9]) (ki 2)) (ki 1))) [.raise [ks [73,68,32,105,115,32,109,105,115,115,105,110,103],.sub eA (ki 2)]] [],.ret (.call 60 [c9])]
noncomputable def agn:Fn:=⟨6,1,[],Vk,af,af⟩
noncomputable def b85:ag S:=[.ifs (.not (.call 1 [.sub (.attr bC 0) (.bin .sub c9 (ki 1))])) [.ret (.c (.bool af))] [],.ret (.or (.cmp .eq (.bin .add c9 (ki 2)) (.attr bC 2)) (.call 1 [.sub (.attr bC 0) (.bin .add c9 (ki 2))]))]
noncomputable def ago:Fn:=⟨5,2,[],b85,af,af⟩
noncomputable def ZS:ag S:=[.ifs (.not (.call 1 [.cR bC 41 []])) [.raise [ks [119,104,105,116,101,32,105,115,32,109,105,115,115,105,110,103,32,98,101,104,105,110,100,32,73,68],.attr bC 1]] [],.expr (.cR bC 42 []),.asg 1 (.attr bC 1),.asg 2 (.cR bC 33 [.c (.bytes [69,73]),.bin .add c9 (ki 1)]),.while (.and (.cmp .ge eA (ki 0)) (.not (.call 85 [bC,eA]))) [.asg 2 (.cR bC 33 [.c (.bytes [69,73]),.bin .add eA (ki 1)])],.ifs (.cmp .lt eA (ki 0)) [.raise [ks [97,110,32,105,109,97,103,101,32,104,97,115,32,110,111,32,101,110,100],c9]] [],.dH bC 1 (.bin .add eA (ki 2)),.ret (.slice (.attr bC 0) (aa c9) (aa (.bin .sub eA (ki 1))))]
noncomputable def agp:Fn:=⟨6,1,[],ZS,af,af⟩
noncomputable def b87:ag S:=[.asg 1 (.call 84 [bC]),.ret (.new 4 [ks [66,73],.list [c9,.new 3 [.call 86 [bC]]]])]
noncomputable def agq:Fn:=⟨5,1,[],b87,af,af⟩
noncomputable def E5:ag S:=[.asg 1 (.new 0 [bC]),.asg 2 (.newList []),.asg 3 (.newList []),.asg 4 (.call 42 [c9]),.while (.cmp .ne (.sub jN (ki 0)) (ks [101,110,100])) [.ifs (.not (.call 82 [jN])) [.expr (.cR fM 30 [.call 62 [c9,jN,.c (.bool af)]])] [.ifs (.cmp .ne (.sub jN (ki 1)) (.c (.bytes [66,73]))) [.expr (.cR eA 30 [.new 4 [.call 83 [.sub jN (ki 1)],fM]]),.asg 3 (.newList [])] [.ifs (.cmp .eq fM (.list [])) [.expr (.cR eA 30 [.call 87 [c9]])] [.raise [ks [66,73,32,104,97,115,32,111,112,101,114,97,110,100,115],.sub jN (ki 2)]]]],.asg 4 (.call 42 [c9])],.ifs (.cmp .ne fM (.list [])) [.raise [ks [111,112,101,114,97,110,100,115,32,119,105,116,104,111,117,116,32,97,110,32,111,112,101,114,97,116,111,114],.sub jN (ki 2)]] [],.ret eA]
noncomputable def ZT:Fn:=⟨8,1,[],E5,af,af⟩
noncomputable def b89:ag S:=[.asg 1 (.bi .bytes [.comp (.bi .ord [fM]) 3 (.name 0) [.cmp .lt (.bi .ord [fM]) (ki 256)]]),.asg 2 (.new 0 [c9]),.ifs (.and (.cmp .eq (.bi .len [c9]) (.bi .len [bC])) (.and (.call 82 [.call 42 [eA]]) (.cmp .eq (.attr eA 1) (.bi .len [bC])))) [.ret c9] [],.raise [.bin .add (ks [110,111,32,111,112,101,114,97,116,111,114,58,32]) bC]]
noncomputable def agr:Fn:=⟨6,1,[],b89,af,af⟩
noncomputable def b90:ag S:=[.unpack [2,3] (.attr bC 9),.asg 4 (.newList [.c (.bytes [66,73])]),.for 5 (.val (.qK c9 (.bi .sorted [eA]) eA)) [.asg 4 (.sj jN (.list [.call 79 [.new 2 [xg],c9],.call 79 [.sub eA xg,c9]]))],.expr (.cR jN 30 [.c (.bytes [73,68])]),.asg 6 (.call 77 [jN,c9]),.asg 7 (.bin .add (.bin .add (.bin .add CU (.c (.bytes [32]))) (.attr fM 6)) (.c (.bytes [10,69,73,10]))),.asg 8 (.new 0 [E4,.bi .len [CU]]),.ifs (.cmp .ne (.call 86 [Oc]) (.attr fM 6)) [.raise [ks [116,104,101,32,111,99,116,101,116,115,32,111,102,32,97,110,32,105,109,97,103,101,32,104,97,118,101,32,97,110,32,101,110,100,32,119,105,116,104,105,110]]] [],.ret E4]
noncomputable def agt:Fn:=⟨12,2,[],b90,af,af⟩
noncomputable def b91:ag S:=[.ifs (.cmp .eq (.attr bC 8) (ks [66,73])) [.ret (.call 90 [bC,c9])] [],.asg 2 (.sj (.comp (.call 79 [jN,c9]) 4 (.val (.attr bC 9)) []) (.list [.call 89 [.attr bC 8]])),.asg 3 (.call 77 [eA,c9]),.ret (.qK c9 fM (.bin .add fM (.c (.bytes [10]))))]
noncomputable def agu:Fn:=⟨7,2,[],b91,af,af⟩
noncomputable def b92:ag S:=[.asg 2 (.comp (.call 91 [fM,c9]) 3 (.name 0) []),.ifs (.and c9 (.cmp .ne eA (.list []))) [.ret (.call 77 [eA,.c (.bool ae)])] [],.ret (.cR (.c (.bytes [])) 34 [eA])]
noncomputable def agv:Fn:=⟨6,2,[.bool af],b92,af,af⟩
noncomputable def b93:ag S:=[.asg 1 (ki 41),.for 2 (.val (.slice bC ac (aa (ki 63)))) [.asg 1 (.bin .add (.bin .add (.bin .mul c9 (ki 1061)) (.bin .mul (ki 2) (.bi .abs [.bi .int [eA]]))) (.bi .int [.cmp .lt eA (ki 0)]))],.ret (.newList [c9,ki 0])]
noncomputable def agx:Fn:=⟨6,1,[],b93,af,ae⟩
noncomputable def b94:ag S:=[.ifs (.cmp .eq (.sub bC (ki 0)) (ki 0)) [.iX bC (ki 1) (.bin .add (.sub bC (ki 1)) (ki 1)),.iX bC (ki 0) (.bin .add (.bin .mul (ki 1061) (.sub bC (ki 1))) (ki 8311))] [],.asg 2 (.bin .mod (.sub bC (ki 0)) c9),.iX bC (ki 0) (.bin .fdiv (.sub bC (ki 0)) c9),.ret eA]
noncomputable def agy:Fn:=⟨6,2,[],b94,af,af⟩
noncomputable def b95:ag S:=[.ret (.sub c9 (.call 94 [bC,.bi .len [c9]]))]
noncomputable def agz:Fn:=⟨5,2,[],b95,af,af⟩
noncomputable def b96:ag S:=[.ret (.bi .bytes [.comp (.call 95 [bC,.list [ki 40,ki 41,ki 92,ki 13,ki 10,ki 65,.call 94 [bC,ki 256]]]) 2 (.range [.call 94 [bC,c9]]) []])]
noncomputable def agA:Fn:=⟨5,2,[],b96,af,af⟩
noncomputable def b97:ag S:=[.asg 1 (.call 94 [bC,ki 7]),.ifs (.cmp .eq c9 (ki 0)) [.ret (.new 2 [.cR (ks []) 34 [.comp (.bi .chr [.call 95 [bC,.list [ki 65,ki 35,ki 32,ki 47,.bin .add (ki 1) (.call 94 [bC,ki 255])]]]) 2 (.range [.call 94 [bC,ki 4]]) []]])] [],.ifs (.cmp .eq c9 (ki 1)) [.ret (.bin .sub (.call 94 [bC,.bin .pow (ki 10) (ki 6)]) (.bin .mul (ki 5) (.bin .pow (ki 10) (ki 5))))] [],.ifs (.cmp .eq c9 (ki 2)) [.ret (.new 1 [.bin .sub (.call 94 [bC,.bin .pow (ki 10) (ki 4)]) (ki 5000),.call 94 [bC,ki 6]])] [],.ifs (.cmp .eq c9 (ki 3)) [.ret (.new 3 [.call 96 [bC,ki 7],.cmp .eq (.call 94 [bC,ki 2]) (ki 1)])] [],.ret (.sub (.list [.c .none,.c (.bool ae),.c (.bool af)]) (.bin .sub c9 (ki 4)))]
noncomputable def agB:Fn:=⟨5,1,[],b97,af,af⟩
noncomputable def b98:ag S:=[.asg 2 (.qK (.cmp .lt c9 (ki 2)) (.call 94 [bC,ki 4]) (ki 3)),.ifs (.cmp .eq eA (ki 0)) [.ret (.comp (.call 98 [bC,.bin .add c9 (ki 1)]) 6 (.range [.call 94 [bC,ki 3]]) [])] [],.ifs (.cmp .eq eA (ki 1)) [.asg 4 (.newDict []),.for 3 (.range [.call 94 [bC,ki 3]]) [.asg 5 (.call 95 [bC,.list [ks [65],ks [],ks [97,32,98],ks [35]]]),.iX jN xg (.call 98 [bC,.bin .add c9 (ki 1)])],.ret (.bi .dict [.comp (.tup [CU,.sub jN CU]) 6 (.name 4) [.cmp .kf (.sub jN CU) (.c .none)]])] [],.ret (.call 97 [bC])]
noncomputable def agD:Fn:=⟨9,2,[],b98,af,af⟩
noncomputable def b99:ag S:=[.asg 1 (.newList [.c (.bytes [69]),.c (.bytes [73]),.c (.bytes [32]),.c (.bytes [10]),.c (.bytes [120]),.c (.bytes [69,73]),.c (.bytes [32,69,73])]),.asg 2 (.cR (.c (.bytes [])) 34 [.comp (.call 95 [bC,c9]) 7 (.range [.call 94 [bC,ki 7]]) []]),.asg 3 (.bin .add eA (.c (.bytes [10,69,73,10]))),.asg 4 (.tup [.c (.bytes [32]),.c (.bytes [10])]),.asg 5 (.comp E4 7 (.range [.bin .sub (.bi .len [fM]) (ki 3)]) [.and (.cmp .isIn (.slice fM (aa E4) (aa (.bin .add E4 (ki 1)))) jN) (.and (.cmp .eq (.slice fM (aa (.bin .add E4 (ki 1))) (aa (.bin .add E4 (ki 3)))) (.c (.bytes [69,73]))) (.cmp .isIn (.slice fM (aa (.bin .add E4 (ki 3))) (aa (.bin .add E4 (ki 4)))) jN))]),.asg 6 (.newDict [(ks [87],.call 94 [bC,ki 9])]),.ifs (.cmp .eq (.call 94 [bC,ki 2]) (ki 1)) [.iX CU (ks [70]) (.list [.new 2 [ks [65,72,120]]])] [],.ret (.tup [.new 4 [ks [66,73],.list [CU,.new 3 [eA]]],.cmp .ne (.sub xg (ki 0)) (.bi .len [eA])])]
noncomputable def agE:Fn:=⟨10,1,[],b99,af,af⟩
noncomputable def agF:ag S:=[.asg 1 (.call 95 [bC,.list [ks [103,115],ks [84,106],ks [39],ks [34],ks [84,42],ks [113],ks [122,122],ks [82],ks [102,42]]]),.ret (.new 4 [c9,.comp (.call 98 [bC,ki 0]) 2 (.range [.call 94 [bC,ki 4]]) []])]
noncomputable def ZU:Fn:=⟨5,1,[],agF,af,af⟩
noncomputable def agG:ag S:=[.ret (.comp (.cR c9 50 []) 1 (.name 0) [])]
noncomputable def ZV:Fn:=⟨4,1,[],agG,af,af⟩
noncomputable def agH:ag S:=[.try [.ret (.call 101 [.call 88 [bC]])] [.ret (.c .none)]]
noncomputable def ZW:Fn:=⟨4,1,[],agH,af,af⟩
noncomputable def vQ:ag S:=[.unpack [1,2] (.call 99 [bC]),.asg 8 (.list [.new 4 [ks [113],.list []],c9,.new 4 [ks [103,115],.list [.new 2 [ks []]]]]),.for 7 (.val (.tup [.c (.bool af),.c (.bool ae)])) [.ifs eA [.ifs (.not (.refused 0 (.call 92 [Oc,E4]))) [.ret (.c (.bool af))] []] [.ifs (.cmp .ne (.call 102 [.call 92 [Oc,E4]]) (.call 101 [Oc])) [.ret (.c (.bool af))] []]],.unpack [3,4] (.attr c9 9),.asg 5 (.bi .dict [.comp (.tup [lv9,.sub fM lv9]) 9 (.rev (.bi .list [fM])) []]),.asg 6 (.list [.sub Oc (ki 0),.new 4 [ks [66,73],.list [xg,jN]],.sub Oc (ki 2)]),.ret (.or eA (.or (.cmp .eq (.bi .len [fM]) (ki 1)) (.and (.cmp .eq (.call 92 [CU,.c (.bool ae)]) (.call 92 [Oc,.c (.bool ae)])) (.cmp .ne (.call 92 [CU]) (.call 92 [Oc])))))]
noncomputable def ZX:Fn:=⟨12,1,[],vQ,af,af⟩
noncomputable def PF:ag S:=[.asg 1 (.call 93 [bC]),.asg 2 (.comp (.comp (.call 100 [c9]) 9 (.range [.call 94 [c9,ki 4]]) []) 8 (.range [ki 2]) []),.for 3 (.name 2) [.unpack [4,5] (.tup [.call 92 [fM],.call 92 [fM,.c (.bool ae)]]),.ifs (.or (.cmp .ne (.call 102 [jN]) (.call 101 [fM])) (.cmp .ne (.call 102 [xg]) (.call 101 [fM]))) [.ret (.c (.bool af))] [],.ifs (.or (.cmp .gt (.bi .len [xg]) (.bi .len [jN])) (.cmp .ne (.qo 92 [fM] [105,115,95,108,101,97,115,116] (.c (.bool af))) jN)) [.ret (.c (.bool af))] []],.asg 6 (.bin .add (.call 92 [.sub eA (ki 0)]) (.call 92 [.sub eA (ki 1)])),.ifs (.or (.cmp .ne (.call 102 [CU]) (.call 101 [.bin .add (.sub eA (ki 0)) (.sub eA (ki 1))])) (.or (.not (.call 104 [c9])) (.not (.call 104 [c9])))) [.ret (.c (.bool af))] [],.asg 7 (.call 95 [c9,.list [ks [],ks [49],ks [116,114,117,101],ks [97,32,98],ks [40,97,41],ks [47,97],ks [110,117,108,108],ks [91],ks [97,37],ks [45,50,46,53],.bi .chr [ki 300]]]),.ret (.and (.refused 1 (.call 92 [.list [.new 4 [E4,.list []]]])) (.refused 1 (.call 92 [.list [.new 4 [E4,.list []]],.c (.bool ae)])))]
noncomputable def ZY:Fn:=⟨11,1,[],PF,af,af⟩
noncomputable def FTl:ag (ar Fn):=[ac,aa fn1,aa fn2,aa fn3,aa fn4,aa fn5,aa fn6,aa fn7,aa fn8,aa fn9,aa afo,aa afp,aa afq,ac,aa afr,aa afs,ac,ac,ac,aa aft,ac,ac,ac,ac,ac,ac,ac,ac,aa afu,aa afv,aa afw,aa afx,aa afy,aa afz,aa afA,aa afB,aa afC,aa afD,aa afE,aa afF,aa afG,aa afH,aa afI,aa afJ,aa afK,aa afL,aa afM,aa afN,ac,aa afO,aa afP,aa afQ,aa afR,aa afS,aa afT,aa afU,aa afV,ac,aa afW,aa afX,aa afY,aa Vj,aa afZ,aa af0,aa af1,aa af2,aa af3,aa af4,aa ZR,aa af5,aa af7,aa af8,aa af9,aa aga,aa agc,aa age,aa agf,aa agg,aa agh,aa agi,aa agj,aa agk,aa agl,aa agm,aa agn,aa ago,aa agp,aa agq,aa ZT,aa agr,aa agt,aa agu,aa agv,aa agx,aa agy,aa agz,aa agA,aa agB,aa agD,aa agE,aa ZU,aa ZV,aa ZW,ac,aa ZX,aa ZY]
noncomputable def FT(i:aj):ar Fn:=(FTl[i]?).join
end
section
open PySem PySem.W PyProof.Rows
noncomputable def PG:ag Addr:=[21,30,37,44,59,66,74,81,88,95,102,109,116,123,130,137,144,166,173,205,212,219,226,233,240,247,254,261,268,275,282,296,303,311,318,326,333,340,347,352,
 359,366,373,380,394,416,437,458,465,479,486,491,496,503,517,524,538,545,552,559,564,571,579,584,591,598,605,610,617,624,631,638,645,652,659,666,673,680,687,694,709,714,728,733,
 740,747,754,761,768,773,780,785,791,798,805,812,817,822,827,832,837,842,849,856,861,866]
noncomputable def fv(i:aj):Addr:=PG.getD i 0
noncomputable def mG(P:aS):bQ->ar Value:=Ep (CQ P 3)
noncomputable def mB(P:aS):bQ->ar Value:=Ep (CQ P 0)
theorem ns3(P:aS):(BH P).Ns 3 (mG P):=ye (by kernel_rfl)
theorem ns0(P:aS):(BH P).Ns 0 (mB P):=ye (by kernel_rfl)
noncomputable def bOf:B->ao
 |.len=>.builtin "len" |.min=>.builtin "min" |.max=>.builtin "max" |.chr=>.builtin "chr" |.ord=>.builtin "ord" |.abs=>.builtin "abs" |.sorted=>.builtin "sorted"
 |.bytes=>.type "bytes" |.str=>.type "str" |.int=>.type "int" |.list=>.type "list" |.tuple=>.type "tuple" |.dict=>.type "dict"
noncomputable def vInt(v:ao)(f:bE->aW):Bool:=match v with |.int j _=>f j |_=>af
noncomputable def J5(v:ao)(f:cE iq->aW):Bool:=match v with |.bytes j _=>f j |_=>af
noncomputable def ZZ(v:ao)(f:aN->aW):Bool:=match v with |.ref j=>f j |_=>af
noncomputable def Z0(v:Data)(f:cE ao->aW):Bool:=match v with |.seq j _=>f j |_=>af
theorem PH{v:ao}{f:bE->aW}(h:vInt v f=ae):∃j t,v=.int j t/\f j=true:=by
 cases v with
 |int j t=>exact⟨j,t,rfl,h⟩
 |_=>exact Yf h
theorem Hb{v:ao}{f:cE iq->aW}(h:J5 v f=ae):∃j t,v=.bytes j t/\f j=true:=by
 cases v with
 |bytes j t=>exact⟨j,t,rfl,h⟩
 |_=>exact Yf h
theorem PI{v:ao}{f:aN->aW}(h:ZZ v f=ae):∃j,v=.ref j/\f j=true:=by
 cases v with
 |ref j=>exact⟨j,rfl,h⟩
 |_=>exact Yf h
theorem PJ{v:Data}{f:cE ao->aW}(h:Z0 v f=ae):∃j t,v=.seq j t/\f j=true:=by
 cases v with
 |seq j t=>exact⟨j,t,rfl,h⟩
 |_=>exact Yf h
theorem Vm{α:Type}{v:ar α}{f:α->aW}(h:v.elim af f=ae):∃j,v=aa j/\f j=true:=by
 cases v with
 |some j=>exact⟨j,rfl,h⟩
 |_=>cases h
mutual
noncomputable def PK(P:aS):T->ao->aW
 |.none,v=>v==.none
 |.bool i,v=>v==.bool i
 |.int i,v=>vInt v (i==·)
 |.bytes s,v=>J5 v λb=>b.toList.map bh==s
 |.tup ts,v=>ZZ v λa=>((BH P).get? a).elim af λo=>o.cls==.type "tuple"&&(o.dict==ac&&(o.slots.size==0&&Z0 o.data λvs=>yf P ts vs.toList))
 |_,_=>af
noncomputable def yf(P:aS):ag T->ag ao->aW
 |[],[]=>ae
 |t::ts,v::vs=>PK P t v&&yf P ts vs
 |_,_=>af
end
theorem Vn{o:fE}{c:ao}{d:ar aN}{x:Data}(h1:o.cls=c)(h2:o.dict=d)(h3:o.slots.size=0)(h4:o.data=x):o=⟨c,d,x,#[]⟩:=by
 cases o with
 |mk a b c d=>exact h1▸h2▸h4▸cE.eq_empty_of_size_eq_zero h3▸rfl
section
variable{h:dK}{X':aN->Prop}
theorem A5(k:Grows (BH w.params) h)(nx:∀b o,(BH w.params).get? b=aa o->¬X' b){t:T}{v:ao}:PK w.params t v=ae->bK h X' t v:=
 T.rec (motive_1:=λt=>∀v,PK w.params t v=ae->bK h X' t v) (motive_2:=λts=>∀vs,yf w.params ts vs=ae->bF (bK h X') ts vs) (motive_3:=λZ=>rV) (motive_4:=λZ=>rV)
  (λv e=>eq_of_beq e) (λb v e=>eq_of_beq e) (λi v e=>dZ (PH e) λj t e h=>⟨t,e.trans (av (aet · t) (eq_of_beq h).symm)⟩) (λb v=>nofun) (λs v e=>dZ (Hb e) λj t e h=>⟨j,t,e,eq_of_beq h⟩) (λts ih v=>nofun)
  (λts ih v e=>bH (PI e) λa e h=>bH (Vm h) λo ho h=>
   have h1:=aF.mp h;have h2:=aF.mp h1.2;have h3:=aF.mp h2.2
   dZ (PJ h3.2) λvs n hd hr=>e▸sy (vs:=vs.toList) (n:=n) (nx _ _ ho) ((k _ _ ho).trans (av aa (Vn (eq_of_beq h1.1) (eq_of_beq h2.1) (eq_of_beq h3.1) hd))) (ih vs.toList hr))
  (λts ih v=>nofun) (λc ts ih v=>nofun)
  (λvs e=>by
   cases vs with
   |nil=>exact trivial
   |cons v vs=>cases e)
  (λt ts h ih vs e=>by
   cases vs with
   |nil=>cases e
   |cons v vs=>exact⟨h v (aF.mp e).1,ih vs (aF.mp e).2⟩)
  trivial (λa b c d=>trivial) (λa b c d=>trivial) t v
theorem Hc(k:Grows (BH w.params) h)(nx:∀b o,(BH w.params).get? b=aa o->¬X' b){t:ag T}{v:ag ao}(e:yf w.params t v=ae):bF (bK h X') t v:=by
 induction t generalizing v with
 |nil=>
  cases v with
   |nil=>exact trivial
   |cons v vs=>cases e
 |cons t ts ih=>
  cases v with
   |nil=>cases e
   |cons v vs=>exact⟨A5 k nx (aF.mp e).1,ih (aF.mp e).2⟩
end
noncomputable def jT(P:aS)(x:bQ):ar Value:=if x==("__debug__":bQ) then ac else(mG P x).or (mB P x)
theorem PL(P:aS):p4.map (λp=>jT P (xp p.1))=p4.map (λp=>aa (.ref (fv p.2))):=by kernel_rfl
theorem PM(P:aS):(tL.take 6).map (λp=>jT P (xp p.1))=(tL.take 6).map (λp=>aa (.ref (cJ p.2))):=by kernel_rfl
theorem PN(P:aS):AU.map (λp=>jT P (xp p.1))=AU.map (λp=>aa (bOf p.2)):=by kernel_rfl
theorem PO(P:aS):AV.map (λp=>match jT P (xp p.1) with |some v=>PK P p.2 v |none=>af)=AV.map (λZ=>ae):=by kernel_rfl
section
variable{A:bW}{σ:W}{k:K}{au:Loc}{x:bQ}{v:ao}
theorem J6{i:aj}(h:lk p4 x=aa i):jT w.params x=aa (.ref (fv i)):=by obtain⟨p,hp,rfl,rfl⟩:=ow h;exact map_eq (PL w.params) hp
theorem Vo{i:aj}(h:lk (tL.take 6) x=aa i):jT w.params x=aa (.ref (cJ i)):=by obtain⟨p,hp,rfl,rfl⟩:=ow h;exact map_eq (PM w.params) hp
theorem Vp{i:B}(h:lk AU x=aa i):jT w.params x=aa (bOf i):=by obtain⟨p,hp,rfl,rfl⟩:=ow h;exact map_eq (PN w.params) hp
theorem sD{env:Env}{x:bQ}(hk:env.scope.kind=.function)(hg:env.kindOf x=aa .globalImplicit):Sp env x=Eu env x:=by
 unfold Sp YC;rw[hk,hg];rfl
theorem He{M:lS}{E:ao->aG->Prop}{Q:ao->aG->Prop}(e:Kst k)(S:Ok σ)(hg:k.env.kindOf x=aa .globalImplicit)(hv:(mG w.params x).or (mB w.params x)=aa v)(q:Q v σ.s):aX M A (Sp k.env x) Q E σ.s:=by
 rw[sD e.kind hg];unfold Eu;rw[e.glob,e.blt];refine ak (nO ((ns3 w.params).keeps S.base) ?_);cases h:mG w.params x with
 |some u=>rw[h] at hv;cases hv;exact aB q
 |none=>rw[h] at hv;exact ak (nO ((ns0 w.params).keeps S.base) (by rw[show mB w.params x=aa v from hv];exact aB q))
theorem gF{M:lS}{E:ao->aG->Prop}{Q:ao->aG->Prop}{pos:Pos}(e:Kst k)(S:Ok σ)(hg:glob k.cx x=ae)(hv:jT w.params x=aa v)(q:Q v σ.s):aX M A (eval (.Name x pos) k.env) Q E σ.s:=
 cO hv (λZ z=>by cases z) λn z=>qH (He e S (e.gl x (eq_of_beq hg)) z q) (NW.mpr n)
theorem J7{t:T}{pos:Pos}(hg:glob k.cx x=ae)(h:lk AV x=aa t):GE k au (eval (.Name x pos) k.env) σ (.ok (.t t) σ.mu) RV:=λe=>.of λS=>by
 refine nB (ow h) λp hp z0 z1=>?_;subst z0;subst z1;have h2:=map_eq (PO w.params) hp;cases hv:jT w.params (xp p.1) with
 |none=>rw[hv] at h2;cases h2
 |some v=>rw[hv] at h2;exact q6 (a:=.t p.2) (A5 S.base (λb o e=>S.Pe e) h2) λQ E q=>gF e.st S hg hv q
end
end
section
open PySem PySem.W PyProof.Rows PySem.SeqAt
structure At(d:aj)(cx:Cx)(k:K):Prop where (cx:k.cx=cx) (d:k.d=d)
structure fb(C:Calls)(d:aj)(cx:Cx)(e:bV)(X:E):Prop where
 v:∀{k au σ},At d cx k->GE k au (eval e k.env) σ (ev C X au σ.mu) RV
 b:∀{k au σ},At d cx k->GE k au (isTrue e k.env (eval e k.env)) σ (ni C X au σ.mu) Rb
 star:∀env rest,ig (e::rest) env=(af,eval e env)::ig rest env
 base:∀attr env,IG e attr env (eval e env)=eval e env
structure sE(C:Calls)(d:aj)(cx:Cx)(es:ag bV)(Es:ag E):Prop where
 v:∀{k au σ pos},At d cx k->GE k au (t8 (nc pos (ig es k.env))) σ (su C Es au σ.mu) qL
 plain:∀env pos,(nc pos (ig es env)).any (·.1)=af
section
variable{C:Calls}{d:aj}{cx:Cx}{a b e i o:bV}{es:ag bV}{X Y:E}{Es:ag E}{pos:Pos}{k:K}{au:Loc}{σ τ:W}{A:bW}
theorem vR:sE C d cx [] []:=⟨λZ Z=>.pure (a:=[]) trivial,λZ Z=>rfl⟩
theorem pn(h:fb C d cx e X)(t:sE C d cx es Es):sE C d cx (e::es) (X::Es) where
 v {k au σ pos} z:=by
  have q:t8 (nc pos (ig (e::es) k.env))=(do let v <-eval e k.env;let here <-(ff [v]:Sem (ag ao));return here++(<-cN here (t8 (nc pos (ig es k.env))))):=by rw[h.star];rfl
  rw[q];exact(h.v z).bind λpv v τ P r c=>((t.v z c).hold.bind λf7 vs υ P' r'=>Gp.pure (b:=[v]++vs) (R:=qL) (show qL (pv::f7) (v::vs) υ from⟨r.to P',r'⟩)).sim λQ E x=>ak (aB x)
 plain env pos:=by rw[h.star];exact t.plain env pos
theorem gp(v:∀{k au σ},At d cx k->GE k au (eval e k.env) σ (ev C X au σ.mu) RV)(he:∀env,isTrue e env (eval e env)=(do let v <-eval e env;dy e.pos;cN [v] (truthy v)))
 (hb:∀au mu,ni C X au mu=((ev C X au mu).bind λx mu=>bS (truth x mu) mu)\/ni C X au mu=.aK) (star:∀env rest,ig (e::rest) env=(af,eval e env)::ig rest env) (base:∀attr env,IG e attr env (eval e env)=eval e env):fb C d cx e X:=
 ⟨v,λ{k au σ} z=>by
  rcases hb au σ.mu with h |h
  ·rw[h,he];exact(v z).bind λx u τ P r c=>(qx r).hold.eR
  ·rw[h];exact λZ=>.aK,star,base⟩
theorem A6{c:Const}{t:T}(h:CF c=aa t){env:Env}:Gp (wq A (constValue env c)) none_ σ (.ok (.t t) σ.mu) RV:=by
 cases c with
 |none=>cases h;exact .pure (a:=PV.t .none) rfl
 |bool b=>cases h;exact .pure (a:=PV.t (.bool b)) rfl
 |int i=>cases h;exact i8 λQ E q=>Sv (q _ _)
 |str s=>cases h;exact vH λQ E q=>wpAny_mkText (q _ _)
 |bytes b=>cases h;exact uG b.toArray rfl λQ E q=>ak (wpAny_fresh (aB (q _ _)))
 |_=>cases h
theorem PP{c:Const}{t:T}{kd:aj}(h:CF c=aa t):fb C d cx (.Constant c kd pos) (.c t):=
 gp (λZ Z=>A6 h) (λZ=>rfl) (λZ Z=>.inl rfl) (λZ Z=>rfl) λZ Z=>rfl
theorem Z1{x:bQ}{i:aj}(h:cx.sl.lookup x=aa i):fb C d cx (.Name x pos) (.au i):=
 gp (λ{k au σ} z c=>.opt λpv hg=>(c.val x i pv (z.cx▸h) hg).elim λv y=>q6 y.2 λQ E q=>qH (vG c.st.kind (c.st.nm x i (z.cx▸h)).2 q y.1) (c.st.nm x i (z.cx▸h)).1)
  (λZ=>rfl) (λZ Z=>.inl rfl) (λZ Z=>rfl) λZ Z=>rfl
theorem J8{x:bQ}{t:T}(hg:glob cx x=ae)(h:lk AV x=aa t):fb C d cx (.Name x pos) (.c t):=
 gp (λz=>J7 (z.cx▸hg) h) (λZ=>rfl) (λZ Z=>.inl rfl) (λZ Z=>rfl) λZ Z=>rfl
theorem Z2{op:So}{o:O5}(ho:mop o=op)(ha:fb C d cx a X)(hb:fb C d cx b Y):fb C d cx (.BinOp a op b pos) (.bin o X Y):=
 gp (λ{k au σ} z=>by
  rw[arm_eval_BinOp, <-ho];exact(ha.v z).bind λx vx τ P r=>(hb.v z).hold.bind λy vy υ P' r'=>.eR λZ=>(JO (r.to P') r').operate)
  (λZ=>rfl) (λZ Z=>.inr rfl) (λZ Z=>rfl) λZ Z=>rfl
theorem Z3(ha:fb C d cx a X):fb C d cx (.UnaryOp .USub a pos) (.neg X):=
 gp (λ{k au σ} z=>by
  rw[acS];exact(ha.v z).bind λx vx τ P r=>.eR (.hold λZ=>.dO λj hj=>bj hj λt ht hj=>by
   cases fK ht;cases jp hj;exact iu r λt=>i8 λQ E q=>neg_int (q _ _)))
  (λZ=>rfl) (λZ Z=>.inr rfl) (λZ Z=>rfl) λZ Z=>rfl
theorem Z4(ha:fb C d cx a X):fb C d cx (.UnaryOp .Not a pos) (.not X) where
 v {k au σ} z:=by
  rw[acS];exact(ha.v z).bind λx vx τ P r=>.eR (.hold λZ=>(qx r).Yi (f:=λb=>ao.bool (!b)) (g:=λt=>PV.t (.bool (!t))) (λQ E q=>not_value q) λa b τ e=>by rw[e];rfl)
 b {k au σ} z:=by
  rw[arm_isTrue_UnaryOp];exact(ha.b z).bind λb b' τ P r=>by cases r;exact λZ=>.pure rfl
 star _ _:=rfl
 base _ _:=rfl
theorem Z5{t:bV}{T':E}(ht:fb C d cx t T')(ha:fb C d cx a X)(hb:fb C d cx b Y):fb C d cx (.IfExp t a b pos) (.qK T' X Y) where
 v {k au σ} z:=by
  rw[arm_eval_IfExp];exact(ht.b z).bind λx vx τ P r=>by
   cases (r);cases x with
   |true=>exact ha.v z
   |false=>exact hb.v z
 b {k au σ} z:=by
  rw[arm_isTrue_IfExp];exact(ht.b z).bind λx vx τ P r=>by
   cases (r);cases x with
   |true=>exact ha.b z
   |false=>exact hb.b z
 star _ _:=rfl
 base _ _:=rfl
end
noncomputable def J9(op:Em)(t:aW)(v:ao)(rest:Sem ao):Sem Value:=match op,t with
 |.And,af |.Or,ae=>ff v
 |_,_=>rest
structure Ka(C:Calls)(d:aj)(cx:Cx)(op:Em)(vs:ag bV)(V:E):Prop where
 v:∀{k au σ pos},At d cx k->GE k au (X2 pos op (Ew vs k.env)) σ (ev C V au σ.mu) RV
 b:∀{k au σ},At d cx k->GE k au (allTrue op vs k.env) σ (ni C V au σ.mu) Rb
section
variable{C:Calls}{d:aj}{cx:Cx}{a b e i o:bV}{es vs:ag bV}{X Y fG V:E}{pos:Pos}{k:K}{au:Loc}{σ τ:W}{A:bW}{op:Em}{x y:PV}{vx vy v:ao}
theorem Kb(h:fb C d cx a X):Ka C d cx op [a] X where
 v z:=by rw[j8,Am];exact h.v z
 b z:=by
  rw[acT];exact(h.b z).ret λb b' τ P r c=>by cases (r);cases (op)<;>cases (b)<;>exact .pure rfl
theorem Hf(h:fb C d cx a X)(t:Ka C d cx op (b::es) V):Ka C d cx op (a::b::es) (bOp op X V) where
 v {k au σ pos} z:=by
  have q:X2 pos op (Ew (a::b::es) k.env)=(do let v <-eval a k.env;dy pos;let t <-cN [v] (truthy v);J9 op t v (X2 pos op (Ew (b::es) k.env))):=by
   rw[j8,j8];rfl
  rw[q];have go:∀{g:PV->aW->Mu->Res PV},(∀x v τ,RV x v τ->∀t,GE k au (J9 op t v (X2 pos op (Ew (b::es) k.env))) τ (g x t τ.mu) RV)->
   GE k au (do let v <-eval a k.env;dy pos;let t <-cN [v] (truthy v);J9 op t v (X2 pos op (Ew (b::es) k.env))) σ ((ev C X au σ.mu).bind λx mu=>(bS (truth x mu) mu).bind λt mu=>g x t mu) RV:=λh'=>
   (h.v z).bind λx v τ P r=>.eR (GE.bind (R:=Rb) (.hold λZ=>qx r) λt t' υ P' e=>by cases (e);exact h' x v υ (r.to P') t)
  cases op with
  |And=>
   exact go λx v τ r t=>by
    cases t with
    |true=>exact t.v z
    |false=>exact λZ=>.pure r
  |Or=>
   exact go λx v τ r t=>by
    cases t with
    |true=>exact λZ=>.pure r
    |false=>exact t.v z
 b {k au σ} z:=by
  rw[acT];cases op with
  |And=>
   exact(h.b z).bind λb b' τ P e=>by
    cases (e);cases b with
    |true=>exact t.b z
    |false=>exact λZ=>.pure rfl
  |Or=>
   exact(h.b z).bind λb b' τ P e=>by
    cases (e);cases b with
    |true=>exact λZ=>.pure rfl
    |false=>exact t.b z
theorem s_bool(h:Ka C d cx op vs V):fb C d cx (.BoolOp op vs pos) V:=⟨λz=>h.v z,λz=>h.b z,λZ Z=>rfl,λZ Z=>rfl⟩
theorem PQ{o:Js}{op:pS}(ho:CM o=op)(hu:A.units+60<cLine)(rx:RV x vx σ)(ry:RV y vy σ):Gp (wq A (operate [vx,vy] (fX op vx vy))) none_ σ (bS (eC o x y σ.mu) σ.mu) RB:=by
 rw[<-ho];exact(A3 hu rx ry).operate
theorem Ti{r:Res aW}{q:Sem ao}(h:Gp (wq A q) none_ σ r RB):Gp (wq A q) none_ σ (r.bind λr mu=>.ok (.t (.bool r)) mu) RV:=h.Yi (f:=id) (g:=λr=>PV.t (.bool r)) (λZ Z q=>q) λa b τ e=>e
theorem Z6{r:Res aW}{q:Sem ao}(h:Gp (wq A q) none_ σ r RB):Gp (wq A (q >>=λv=>jZ [v] (truthy v))) none_ σ r Rb:=h.ret λb v τ P e=>by cases e;exact .hold (q8 λQ E q=>xH (q _))
theorem Z7{op:pS}{o:Js}(ho:CM o=op)(hm:gh op b=af)(ha:fb C d cx a X)(hb:fb C d cx b Y):fb C d cx (.Compare a [op] [b] pos) (.cmp o X Y) where
 v {k au σ} z:=by
  rw[eval_Compare1,jQ hm];exact(ha.v z).bind λx vx τ P r=>(hb.v z).hold.bind λy vy υ P' r'=>.eR λc=>Ti (PQ ho c.st.om.u (r.to P') r')
 b {k au σ} z:=by
  rw[isTrue_Compare1,jQ hm];exact(ha.v z).bind λx vx τ P r=>(hb.v z).hold.bind λy vy υ P' r'=>.eR λc=>Z6 (PQ ho c.st.om.u (r.to P') r')
 star _ _:=rfl
 base _ _:=rfl
theorem CV{op uD:pS}{whole:Sem ao}{env:Env}(hb:gh op b=af)(he:gh uD e=af):isTrue (.Compare a [op,uD] [b,e] pos) env whole=
 (do
  let x <-eval a env;let y <-cN [x] (eval b env);dy pos;let r <-cN [x,y] (fX op x y);nP [x,y] [r]
  if <-cN [r,y] (truthy r) then do
   let z <-cN [y] (eval e env);dy pos;let r <-operate [y,z] (fX uD y z);cN [r] (truthy r)
  else pure af):=by
 rw[arm_isTrue_Compare];simp only[j8,Am,markedEach,jQ he];rfl
theorem Hg{op uD:pS}{env:Env}(hb:gh op b=af)(he:gh uD e=af):eval (.Compare a [op,uD] [b,e] pos) env=
 (do
  let x <-eval a env;let y <-cN [x] (eval b env);dy pos;let r <-cN [x,y] (fX op x y);nP [x,y] [r]
  if <-cN [r,y] (truthy r) then do
   let z <-cN [y] (eval e env);dy pos;operate [y,z] (fX uD y z)
  else pure r):=by
 rw[arm_eval_Compare];simp only[j8,Am,markedEach,jQ he];rfl
theorem lC{M:lS}{E:ao->aG->Prop}{s:aG}{vs keep:ag ao}{Q:fP->aG->Prop}(h:Q () s):aX M A (nP vs keep) Q E s:=λΓ p hΓ=>by rw[Sem.wp_release];exact h
theorem Kc{β:Type}{op:pS}{o:Js}{q:ao->Sem β}{p:ao->Sem β}{f:PV->aW->Mu->Res β'}{R:β'->β->W->Prop}(ho:CM o=op)(ha:fb C d cx a X)(hb:fb C d cx b Y)(z:At d cx k)
 (h:∀y vy τ,RV y vy τ->∀r,GE k au (if r=ae then q vy else p (.bool r)) τ (f y r τ.mu) R):
 GE k au (do let x <-eval a k.env;let y <-cN [x] (eval b k.env);dy pos;let r <-cN [x,y] (fX op x y);nP [x,y] [r];if <-cN [r,y] (truthy r) then q y else p r) σ
  ((ev C X au σ.mu).bind λx mu=>(ev C Y au mu).bind λy mu=>(bS (eC o x y mu) mu).bind λr mu=>f y r mu) R:=
 (ha.v z).bind λx vx τ P r=>(hb.v z).hold.bind λy vy υ P' r'=>.eR (GE.bind (R:=RB) (.hold λc=>by rw[<-ho];exact A3 c.st.om.u (r.to P') r') λb v φ xr e c=>by
  cases e;exact(h y vy φ (r'.to xr) b c).sim λQ E q=>ak (lC (ak (bu (xH q)))))
theorem Vq{op uD:pS}{o o':Js}(ho:CM o=op)(E6:CM o'=uD)(PR:gh op b=af)(he':gh uD e=af)(ha:fb C d cx a X)(hb:fb C d cx b Y)(he:fb C d cx e fG):fb C d cx (.Compare a [op,uD] [b,e] pos) (.si o o' X Y fG) where
 v {k au σ} z:=by
  rw[Hg PR he'];exact Kc ho ha hb z λy vy τ r b=>by
   cases b with
   |true=>exact(he.v z).hold.bind λu vu υ P r'=>.eR λc=>Ti (PQ E6 c.st.om.u (r.to P) r')
   |false=>exact λZ=>.pure rfl
 b {k au σ} z:=by
  rw[CV PR he'];exact Kc (p:=λZ=>ff af) ho ha hb z λy vy τ r b=>by
   cases b with
   |true=>exact(he.v z).hold.bind λu vu υ P r'=>.eR λc=>Z6 (PQ E6 c.st.om.u (r.to P) r')
   |false=>exact λZ=>.pure rfl
 star _ _:=rfl
 base _ _:=rfl
theorem Vr{f:bQ}{fi:aj}(hf:lk p5 f=aa fi)(ho:fb C d cx o X):fb C d cx (.Attribute o f pos) (.attr X fi):=
 gp (λ{k au σ} z=>by
  rw[arm_eval_Attribute,ho.base,J1 hf];exact(ho.v z).bind λx vx τ P r=>.eR (GE.ret (R:=RV) (.hold λZ=>G9 r) λy vy υ P' r' Z=>(Gp.pure r').sim λQ E q=>ak (wpAny_letTemporaryGo q)))
  (λZ=>rfl) (λZ Z=>.inl Res.Cr) (λZ Z=>rfl) λZ Z=>rfl
theorem Z8(hs:ot i=af)(ha:fb C d cx a X)(hi:fb C d cx i Y):fb C d cx (.Subscript a i pos) (.sub X Y):=
 gp (λ{k au σ} z=>by
  rw[X3];exact(ha.v z).bind λx vx τ P r=>(hi.v z).hold.bind λy vy υ P' r'=>.eR λZ=>JX hs (r.to P') r')
  (λZ=>rfl) (λZ Z=>.inr rfl) (λZ Z=>rfl) λZ Z=>rfl
end
noncomputable abbrev W.at(σ:W)(mu:Mu):W:=⟨σ.s,mu,σ.p,σ.fs⟩
section
variable{C:Calls}{d:aj}{cx:Cx}{a b e i o:bV}{es vs:ag bV}{X' Y:E}{Es:ag E}{pos:Pos}{k:K}{au:Loc}{σ τ:W}{O:aN->Prop}{x y:PV}{vx vy v:ao}{α β:Type}{T':PT β}{R:α->β->W->Prop}{mu:Mu}
theorem vT{t:T}(S:Ok σ)(r:RV x v σ)(e:Cq x σ.mu=aa (t,mu)):Ok (σ.at mu)/\Le σ (σ.at mu)/\RV (.t t) v (σ.at mu):=by
 cases x with
 |t t'=>cases (e);exact⟨S,.refl,r⟩
 |m i=>
  exact bj e λo he e=>by
   cases o with
   |list xs=>
    exact cM (P:=λp=>p=(t,mu)->_) e (λts Oe ep=>by
     cases (ep);exact S.nC r he λq hq m=>by
      refine nY (S.G5 he hq) λS' P' N=>?_;refine dZ m λvs n q1 q2=>?_;exact⟨S',P',ly (N _ rfl) q1 ((pj Oe q2).mono λZ Z Z r=>r.to P')⟩) rfl
   |dict kvs=>
    cases (e);exact S.nC r he λq hq m=>by
     refine nY (S.G5 he hq) λS' P' N=>?_;refine bH m λvs q1 q2=>?_;exact⟨S',P',uF (N _ rfl) (S.off _ ⟨i,_,q,he,hq,rfl⟩) q1 (q2.mono λZ Z Z r=>r.to P')⟩
   |_=>cases (e)
theorem yg{vs:ag PV}:∀{ts:ag T}{xs:ag ao}{σ:W}{mu:Mu},Ok σ->qL vs xs σ->kK vs σ.mu=aa (ts,mu)->Ok (σ.at mu)/\Le σ (σ.at mu)/\bF (bK (σ.at mu).h (X (σ.at mu))) ts xs:=by
 induction vs with
 |nil=>
  intro ts xs σ mu S r e;cases (e);cases xs with
  |nil=>exact⟨S,.refl,trivial⟩
  |cons=>exact r.elim
 |cons v vs ih=>
  intro ts xs σ mu S r e;cases xs with
  |nil=>exact r.elim
  |cons x xs=>
   exact bj e λp h e=>cM (P:=λp'=>p'=(ts,mu)->_) e (λq hq eq=>by
    cases (eq);refine nY (vT (t:=p.1) (mu:=p.2) S r.1 h) λj1 pL CW=>?_;refine nY (ih j1 (JH pL r.2) hq) λkO j2 CX=>?_;exact⟨kO,pL.trans j2,gL.to (t:=.t p.1) j2 CW,CX⟩) rfl
theorem Gp.Cq{g:T->Mu->Res α}(r:RV x v σ)(k:∀t mu,Le σ (σ.at mu)->RV (.t t) v (σ.at mu)->Gp T' O (σ.at mu) (g t mu) R):Gp T' O σ ((d0 x σ.mu).bind g) R:=λQ E ko ke ns S=>by
 unfold d0 at ko ke ns;cases h:Mine.Cq x σ.mu with
 |none=>rw[h] at ns;exact aQ rfl ns
 |some p=>
  rw[h] at ns ko ke;refine nY (vT (t:=p.1) (mu:=p.2) S r h) λS' P r'=>?_;exact k p.1 p.2 P r' Q E (ko.pre P.any) (ke.pre P.any) ns S'
theorem Gp.kK{g:ag T->Mu->Res α}{xs:ag PV}{vs:ag ao}(r:qL xs vs σ)(k:∀ts mu,Le σ (σ.at mu)->bF (bK (σ.at mu).h (X (σ.at mu))) ts vs->Gp T' O (σ.at mu) (g ts mu) R):Gp T' O σ ((lu (Mine.kK xs σ.mu)).bind g) R:=λQ E ko ke ns S=>by
 cases h:Mine.kK xs σ.mu with
 |none=>rw[h] at ns;exact aQ rfl ns
 |some p=>
  rw[h] at ns ko ke;refine nY (yg (ts:=p.1) (mu:=p.2) S r h) λS' P r'=>?_;exact k p.1 p.2 P r' Q E (ko.pre P.any) (ke.pre P.any) ns S'
theorem Tj{m:aj}(h:sE C d cx es Es):fb C d cx (.Tuple es m pos) (.tup Es):=
 gp (λ{k au σ} z=>by
  rw[arm_eval_Tuple];exact .eR ((h.v z).bind λf7 vs τ P r Z=>.kK r λts mu P' r'=>.if λhl=>Ta 0 r' λQ E q=>wpAny_newTuple q (r'.len▸eo hl)))
  (λZ=>rfl) (λZ Z=>.inr rfl) (λZ Z=>rfl) λZ Z=>rfl
theorem Vs(h:sE C d cx es Es):fb C d cx (.List es pos) (.list Es):=
 gp (λ{k au σ} z=>by
  rw[arm_eval_List];exact .eR ((h.v z).bind λf7 vs τ P r Z=>.kK r λts mu P' r'=>.if λhl=>CK 0 r' λQ E q=>uZ q (r'.len▸eo hl)))
  (λZ=>rfl) (λZ Z=>.inr rfl) (λZ Z=>rfl) λZ Z=>rfl
theorem Kd{T':PT ao}{o:MO}{ob:fE}(ha:∀a,x9 o (σ.h.objs.size,0) a->a=σ.h.objs.size)(r:ol σ.h (X σ) (σ.push ob).h (X (σ.more (σ.push ob).s o (σ.h.objs.size,0)))->vE (σ.more (σ.push ob).s o (σ.h.objs.size,0)) o (σ.h.objs.size,0))
 (k:∀Q E,Q (.ref σ.h.objs.size) (σ.push ob).s->T' Q E σ.s):Gp T' O σ (.ok (.m σ.mu.length) (σ.mu++[o])) RV:=λQ E ko Z Z S=>
 have G:=S.more (s:=(σ.push ob).s) (o:=o) (q:=(σ.h.objs.size,0)) (du ob) (λa m=>by rw[ha a m];exact d8) rfl rfl r
 k Q E (ko (.m σ.mu.length) _ (σ.more (σ.push ob).s o (σ.h.objs.size,0)) rfl G.1 G.2.any ⟨(σ.h.objs.size,0),by rw[S.len];exact ph,rfl⟩)
theorem E7{xs:ag PV}{vs:ag ao}{s:aG}{o:MO}{q:aN×aN}(H:ol σ.h (X σ) s.heap (X (σ.more s o q)))(r:qL xs vs σ):qL xs vs (σ.more s o q):=r.mono λZ Z Z r=>r.eQ cK H λi p Z e=>qX e
theorem CY(h:sE C d cx es Es)(z:At d cx k):GE k au (eval (.List es pos) k.env) σ (ev C (.newList Es) au σ.mu) RV:=by
 rw[arm_eval_List];exact .eR ((h.v z).bind λf7 vs τ P r Z=>.if λhl=>Kd (λa m=>m) (λH=>⟨vs,0,ck _ rfl,E7 H r⟩) λQ E q=>uZ q (r.len▸eo hl))
theorem Hh(ha:fb C d cx a X')(hb:fb C d cx b Y)(z:At d cx k):GE k au (eval (.BinOp a .Add b pos) k.env) σ (ev C (.sj X' Y) au σ.mu) RV:=by
 rw[arm_eval_BinOp];exact(ha.v z).bind λx vx τ Z r=>(hb.v z).hold.bind λy vy υ P' r'=>.eR λZ=>.of λS=>.dO λl h1=>bj h1 λt h1 e1=>.dO λl' h2=>bj h2 λt' h2 e2=>.if λhl=>by
  cases qY e1;cases qY e2;exact jM (kN S (gL.to P' r) h1) λi vs n l1 r1=>jM (kN S r' h2) λj us m l2 r2=>
   Kd (ob:={cls:=.type "list",data:=.seq (vs++us).toArray 0}) (λa m=>m) (λH=>⟨vs++us,0,ck _ rfl,E7 (xs:=(l++l').map .t) H (bF.map (R:=gL υ) (r1.append r2))⟩) λQ E q=>
    aeo (P.add_list l1 l2 (by rw[y0];exact q) (size_le r1 r2 (by rw[ah];exact hl)))
def RO:ar PV->ao->W->Prop
 |none,v,_=>v=.none
 |some pv,v,σ=>RV pv v σ
theorem RO.to{o:ar PV}(P:Le σ τ)(r:RO o v σ):RO o v τ:=by
 cases o with
 |none=>exact r
 |some pv=>exact gL.to P r
theorem RO.part{o:ar PV}{p:ar bE}(r:RO o v σ)(e:mO o=aa p):IsPart v p:=by
 cases o with
 |none=>cases e;cases r;exact .none
 |some pv=>
  cases pv with
   |m i=>cases e
   |t t=>
    cases t with
     |int i=>cases e;exact iu (σ:=σ) r λt=>.int _ _
     |_=>cases e
structure Ke(C:Calls)(d:aj)(cx:Cx)(e:ar bV)(X:ar E):Prop where
 v:∀{k au σ},At d cx k->GE k au (valueOrNone (evalOpt e k.env)) σ (SU C X au σ.mu) RO
theorem Hi:Ke C d cx ac none:=⟨λZ Z=>.pure (a:=ac) rfl⟩
theorem Hj(h:fb C d cx e X'):Ke C d cx (aa e) (aa X'):=⟨λz c=>(h.v z c).Yi (f:=id) (g:=aa) (λZ Z q=>q) λZ Z Z r=>r⟩
theorem PS{lo hi:ar bV}{p:Pos}{L H:ar E}(ha:fb C d cx a X')(hl:Ke C d cx lo L)(hh:Ke C d cx hi H):fb C d cx (.Subscript a (.Slice lo hi ac p) pos) (.slice X' L H):=
 gp (λ{k au σ} z=>by
  have q:eval (.Subscript a (.Slice lo hi ac p) pos) k.env=(do
   let o <-eval a k.env
   let i <-cN [o] (do
    let l <-valueOrNone (evalOpt lo k.env)
    let u <-jZ [l] (valueOrNone (evalOpt hi k.env))
    let s <-cN [l,u] (valueOrNone (evalOpt ac k.env))
    newFields "slice" [l,u,s])
   dy pos
   iC a (.Slice lo hi ac p) o i):=by rw[X3];rfl
  rw[q];refine(ha.v z).bind λx vx τ P r=>?_;have e:∀G:ar PV->ar PV->Mu->Res PV,((SU C L au τ.mu).bind λl mu=>(SU C H au mu).bind λh mu=>G l h mu)=((SU C L au τ.mu).bind λl mu=>(SU C H au mu).bind λh mu=>.ok (l,h) mu).bind λlh mu=>G lh.1 lh.2 mu:=λG=>by rw[<-Res.Cr];congr 1;funext l mu;rw[<-Res.Cr];rfl
  rw[e];refine GE.bind (R:=λlh v τ=>∃vl vu sa,v=.ref sa/\τ.h.IsSliceOf sa vl vu .none/\RO lh.1 vl τ/\RO lh.2 vu τ) (.hold ((hl.v z).bind λl vl υ P' rl=>(hh.v z).hold.bind λu vu φ xr ru Z=>?_)) λlh v υ P' r'=>.eR ?_
  ·exact .step (b:=.ref φ.h.objs.size) (s:=(φ.push {cls:=.type "slice",data:=.fields #[vl,vu,.none]}).s) (du _) rfl rfl (λS=>have P:=ib.grow (σ:=φ) (s:=(φ.push {cls:=.type "slice",data:=.fields #[vl,vu,.none]}).s) (du _) rfl
    ⟨vl,vu,_,rfl,YE _ _ _ _,(rl.to xr).to P,ru.to P⟩) λQ E q=>ak (bu (aB (j9 q)))
  ·refine xm r' λvl vu sa z0 sl rl ru=>?_;subst z0
   exact λZ=>.dO λt ht=>.dO λl pK=>.dO λu hu'=>by cases fK ht;exact CT (bK.to P' r) sl (rl.part pK) (ru.part hu'))
  (λZ=>rfl) (λZ Z=>.inr rfl) (λZ Z=>rfl) λZ Z=>rfl
end
section
variable{C:Calls}{d:aj}{cx:Cx}{a b e i o:bV}{es vs:ag bV}{X' Y:E}{pos:Pos}{k:K}{au:Loc}{σ τ:W}{A:bW}{O:aN->Prop}{x y z:PV}{vx vy vz v:ao}{h:dK}{Xa:aN->Prop}
theorem A7{K':Type}[eF K']{p:K'×ao}{l:ag (K'×ao)}{key:K'}{v:ao}(n:p.1≠key):o7 (p::l) key v=p::o7 l key v:=by
 unfold o7;rw[AE,aY n,AG,bX,aL n]
 by_cases z:(l.any λp=>decide (p.1=key))=ae
 ·rw[aA z,aA z]
 ·rw[aL z,aL z];rfl
theorem CZ{K':Type}[eF K']{l:ag (K'×ao)}{key:K'}{u v:ao}(n:∀p∈l,p.1≠key):o7 ((key,u)::l) key v=(key,v)::l:=by
 unfold o7;rw[aA (by rw[AE,bc rfl];rfl),bX,aA rfl,show l.map (λkv=>if kv.1=key then(kv.1,v) else kv)=l from(IH (g:=id) λp m=>aL (n p m)).trans (acU l)]
structure Put{K':Type}[eF K'](h:dK)(Xa:aN->Prop)(tk:K'->T)(kvs:ag (T×T))(xs:ag (K'×ao))(ks:ag K')(vs:ag ao):Prop where
 (keys:kvs.map (·.1)=ks.map tk) (len:ks.length=vs.length) (zip:ks.zip vs=xs) (rep:bF (λp=>bK h Xa p.2) kvs vs)
theorem A8{K':Type}[eF K'](tk:K'->T)(hk:∀a b,tJ (tk a) (tk b)=decide (a=b)){key:K'}{t:T}{v:ao}(rt:bK h Xa t v){kvs:ag (T×T)}:
 ∀{ks:ag K'}{vs:ag ao},kvs.map (·.1)=ks.map tk->ks.length=vs.length->ks.Nodup->bF (λp=>bK h Xa p.2) kvs vs->∃Hk vs',Put h Xa tk (dput (tk key) t kvs) (o7 (ks.zip vs) key v) Hk vs':=by
 induction kvs with
 |nil=>
  intro ks vs e l nd r;cases ks with
  |cons=>cases e
  |nil=>
   cases vs with
    |cons=>cases l
    |nil=>exact⟨[key],[v],rfl,rfl,rfl,rt,trivial⟩
 |cons p kvs ih=>
  intro ks vs e l nd r;cases ks with
  |nil=>cases e
  |cons k0 ks=>
   cases vs with
    |nil=>cases l
    |cons u vs=>
     rw[bX,bX,GI] at e;have nd':=eJ.mp nd;have q:dput (tk key) t (p::kvs)=if tJ p.1 (tk key)=ae then(p.1,t)::kvs else p::dput (tk key) t kvs:=rfl
     rw[q,e.1,hk,jg]
     by_cases z:k0=key
     ·rw[aA (bc z),z,CZ λp m q=>nd'.1 (by rw[z, <-q];exact(xk m).1)]
      exact⟨key::ks,v::vs,by rw[bX,e.2];rfl,l,rfl,rt,r.2⟩
     ·rw[aL (by rw[aY z];exact dM),A7 z]
      refine gU (ih e.2 (jf l) nd'.2 r.2) λHk vs' P=>?_;exact⟨k0::Hk,u::vs',by rw[bX,bX,P.keys,e.1],av (· +1) P.len,by rw[jg,P.zip],r.1,P.rep⟩
theorem yh(a b:bQ):tJ (T.str a.cps.toList) (T.str b.cps.toList)=decide (a=b):=by
 rw[eV,cb];exact⟨λe=>av (λl=>(⟨l.toArray⟩ :bQ)) (eq_of_beq (show(a.cps.toList==b.cps.toList)=ae from e)),λe=>by rw[e];exact dJ b.cps.toList⟩
theorem Hl(a b:bE):tJ (T.int a) (T.int b)=decide (a=b):=by
 rw[eV,cb];exact⟨λe=>eq_of_beq e,λe=>by rw[e];exact dJ b⟩
theorem zc{K':Type}[eF K']{knd:KeyKind prog w K'}{a:aN}{ks:ag K'}{vs:ag ao}(e:ks.length=vs.length):h.DictOf knd a (ks.zip vs)->ks.Nodup:=λz=>z.elim λo z=>z.elim λes z=>z.elim λep z=>by
 have hn:=z.2.2.2.2.2;rwa[u4 (cX e)] at hn
abbrev PU(A:bW)(s:aG)(a:aN)(kv v:ao)(q:Sem fP):Prop:=∀{K':Type} [eF K'] (knd:KeyKind prog w K') (xs:ag (K'×ao)) (k:K'),knd.is k kv=ae->s.heap.DictOf knd a xs->xs.length<=jD->∀Q E,(∀h',h'.DictOf knd a (o7 xs k v)->nR a s.heap h'->Q () {s with heap:=h',toks:=s.toks+1})->aX (bP prog w) A q Q E s
theorem E8{K':Type}[eF K']{knd:KeyKind prog w K'}{tk:K'->T}(hk:∀a b,tJ (tk a) (tk b)=decide (a=b)){j:aj}{kvs:ag (T×T)}{q:aN×aN}{t:T}{kv:ao}{qs:Sem fP}
 (mk:∀(h:dK)(ks:ag K')(vs:ag ao),ks.length=vs.length->h.DictOf knd q.1 (ks.zip vs)->fR h q.1 (ks.map tk) vs)
 (he:σ.mu[j]? =aa (.dict kvs)) (hq:σ.p[j]? =aa q) (hl:kvs.length<bp) (rt:bK σ.h (X σ) t v) (go:PU A σ.s q.1 kv v qs)
 {ks:ag K'} {vs:ag ao} (e1:kvs.map (·.1)=ks.map tk) (e2:ks.length=vs.length) (dd:σ.h.DictOf knd q.1 (ks.zip vs)) (r:bF (λp=>bK σ.h (X σ) p.2) kvs vs) (key:K') (hi:knd.is key kv=ae):
 Gp (wq A qs) O σ (.ok () (σ.mu.set j (.dict (dput (tk key) t kvs)))) (λZ Z τ=>τ.p=σ.p):=λQ E ko Z Z S=>by
 refine gU (A8 tk hk rt (key:=key) e1 e2 (zc e2 dd) r) λHk vs' P=>?_;have el:kvs.length=ks.length:=by have:=av jx e1;rwa[aq,aq] at this
 refine go knd _ key hi dd (by rw[Sw];exact ai (xJ _ _) (eo (by omega))) _ _ λh' d' sb=>?_
 have dr:fR h' q.1 ((dput (tk key) t kvs).map (·.1)) vs':=by rw[P.keys];exact mk h' Hk vs' P.len (P.zip▸d')
 have U:=S.upd (s:={σ.s with heap:=h',toks:=σ.s.toks+1}) (o':=.dict (dput (tk key) t kvs)) he hq (λZ=>id) (λa ob e n=>(sb.2 a n).trans e) (λa m=>m▸dr.at.imp λo z=>z.elim λZ z=>z.elim λZ z=>z.1) rfl rfl λH=>
  ⟨vs',dr,P.rep.mono λZ Z Z r=>r.eQ cK H⟩
 exact ko () () _ rfl U.1 U.2.any rfl
theorem sG{j:aj}{kvs:ag (T×T)}{q:aN×aN}{kt t:T}{kv:ao}{qs:Sem fP}(he:σ.mu[j]? =aa (.dict kvs))(hq:σ.p[j]? =aa q)(hk:pe kt kvs=ae)(hl:kvs.length<bp)
 (rk:bK σ.h (X σ) kt kv) (rt:bK σ.h (X σ) t v) (go:PU A σ.s q.1 kv v qs):Gp (wq A qs) O σ (.ok () (σ.mu.set j (.dict (dput kt t kvs)))) (λZ Z τ=>τ.p=σ.p):=.of λS=>by
 refine bH (S.rep _ _ _ he hq) λvs dr r=>?_;cases kt with
 |str ks=>
  refine nB (dr.strs hk) λss e1 e2 dd=>?_;exact ir (P:=λv'=>PU A σ.s q.1 v' v qs->_) rk (λu go=>E8 (tk:=λs:bQ=>T.str s.cps.toList) yh (λh ks vs l d=>.str ks vs l d) he hq hl rt go e1 e2 dd r ⟨ks.toArray⟩ (XZ prog w _ u)) go
 |int i=>
  refine nB (dr.ints hk) λss e1 e2 dd=>?_;exact jm (P:=λv'=>PU A σ.s q.1 v' v qs->_) rk (λu go=>E8 (tk:=T.int) Hl (λh ks vs l d=>.int ks vs l d) he hq hl rt go e1 e2 dd r i (XY prog w _ u)) go
 |_=>cases hk
abbrev RT:fP->fP->W->Prop:=λZ Z Z=>rV
theorem yi{j:aj}{kt t:T}{kv:ao}{kvs:ag (T×T)}(rx:RV (.m j) vx σ)(he:σ.mu[j]? =aa (.dict kvs))(rk:bK σ.h (Mine.X σ) kt kv)(rt:bK σ.h (Mine.X σ) t v):Gp (wq A (NX vx kv v)) O σ (AQ j kt t σ.mu kvs) RT:=
 .of λS=>.if λhk=>S.nC rx he λq hq Z=>(sG he hq hk.1 hk.2 rk rt λknd xs k a b c Q E q=>wpAny_setItem_pairs a b q c).mono λZ Z Z Z=>trivial
theorem Ok.PW{j:aj}{xs xs':ag PV}{q:aN×aN}{vs vs':ag ao}{n:aj}{F:cE ao->cE ao}(S:Ok σ)(he:σ.mu[j]? =aa (.list xs))(hq:σ.p[j]? =aa q)(l:IsL σ.h q.1 vs.toArray n)(e:F vs.toArray=vs'.toArray)(r:bF (gL σ) xs' vs'):
 Ok ⟨{σ.s with heap:=σ.h.update q.1 (An F)},σ.mu.set j (.list xs'),σ.p,σ.fs⟩/\Le σ ⟨{σ.s with heap:=σ.h.update q.1 (An F)},σ.mu.set j (.list xs'),σ.p,σ.fs⟩:=
 have l2:=l.update F;have sb:nR q.1 σ.h (σ.h.update q.1 (An F)):=aeu ..
 S.upd (s:={σ.s with heap:=σ.h.update q.1 (An F)}) he hq (λZ=>id) (λa ob e n=>(sb.2 a n).trans e) (λa m=>by rw[show a=q.1 from m];exact⟨_,l2⟩) rfl rfl λH=>⟨vs',_,e▸l2,r.mono λZ Z Z r=>r.eQ cK H λZ Z Z=>id⟩
theorem Hm{j:aj}{ii:bE}{u:Tok}{xs:ag PV}(rx:RV (.m j) vx σ)(he:σ.mu[j]? =aa (.list xs))(rv:RV z vz σ):Gp (wq A (NX vx (.int ii u) vz)) O σ (if 0<=ii/\ii<qp/\ii<xs.length then .ok () (σ.mu.set j (.list (xs.set ii.toNat z))) else .aK) RT:=
 .of λS=>.if λhb=>S.nC rx he λq hq m=>bD m λvs m=>bD m λn m=>λQ E ko Z Z S=>by
  have U:=S.PW he hq m.1 (F:=(·.setIfInBounds ii.toNat vz)) (vs':=vs.set ii.toNat vz) (by simp) (m.2.set (k:=ii.toNat) rv)
  exact ki_setAt m.1 hb.1 (tE hb.2.1 (by decide)) (by rw[bb, <-m.2.len];exact hb.2.2) (ko () () _ rfl U.1 U.2.any trivial)
theorem Hn(rx:RV x vx σ)(ri:RV y vy σ)(rv:RV z vz σ):Gp (wq A (NX vx vy vz)) O σ (xo x y z σ.mu) RT:=by
 cases x with
 |t _=>exact .aK
 |m j=>
  refine .dO λt ht=>?_;cases fK ht;cases t with
  |int i=>
   refine .dO λo he=>iu ri λu=>?_;cases o with
   |list xs=>exact Hm rx he rv
   |dict kvs=>exact .dO λv hv=>by cases fK hv;exact yi rx he (bK.to .refl (t:=.int i) ⟨u,rfl⟩) rv
   |_=>exact .aK
  |str ks=>exact .Cq rv λt mu P r=>.dO λkvs hk=>yi (σ:=σ.at mu) (gL.to P rx) (oq hk) (bK.to P (t:=.str ks) ri) r
  |_=>exact .aK
theorem A9(z:At d cx k):GE k au (eval (.Dict [] [] pos) k.env) σ (ev C (.newDict []) au σ.mu) RV:=by
 have e:ev C (.newDict []) au σ.mu=.ok (.m σ.mu.length) (σ.mu++[.dict []]):=by
  show(if gD (σ.mu++[MO.dict []]) σ.mu.length=ae then Res.ok (PV.m σ.mu.length) ((σ.mu++[MO.dict []]).set σ.mu.length (MO.dict [])) else .aK)=_
  rw[aA (by unfold gD;rw[ph];rfl),cy _ _ (aP _),dA];rfl
 rw[show eval (.Dict [] [] pos) k.env=(do dy pos;newDict) by rw[arm_eval_Dict];rfl,e]
 exact .eR λZ=>Kd (ob:={cls:=.type "dict",data:=.dict #[]}) (λZ m=>m) (λH=>⟨[],.str [] [] rfl (lT _),trivial⟩) λQ E q=>by unfold newDict;exact j9 q
theorem Kf(kt vt:Sem ao):subDict [(kt,vt)]=(do
 let d <-alloc {cls:=.type "dict",data:=.dict #[]}
 cN [.ref d] (do
  let kv <-kt
  let vv <-cN [kv] vt
  let vs <-cN [kv,vv] (pure [])
  jZ (((kv,vv)::vs).flatMap λp=>[p.1,p.2]) (do
   for (k,v) in ((kv,vv)::vs) do xK d k v
   pure acV))
 pure d):=by
 unfold subDict;simp only[ci,show(1<=15)=rV from by simp,if_true,evalPairs,bind_assoc,pure_bind]
theorem C0{mu:Mu}{j:aj}(h:gD mu j=ae):mu[j]? =aa (.dict []):=by
 unfold gD at h;cases e:mu[j]?.bind MO.d? with
 |none=>rw[e] at h;cases h
 |some l=>
  rw[e] at h;cases l with
  |nil=>exact oq e
  |cons=>cases h
theorem Gp.agK{α β γ:Type}{T':PT β}{r:Res α}{g:α->Mu->Res γ}{R:γ->β->W->Prop}{r':Res γ}(e:r'=r.bind g)(h:Gp T' O σ (r.bind g) R):Gp T' O σ r' R:=e▸h
theorem Ba(ha:fb C d cx a X')(hb:fb C d cx b Y)(z:At d cx k):GE k au (eval (.Dict [aa a] [b] pos) k.env) σ (ev C (.newDict [(X',Y)]) au σ.mu) RV:=by
 have q:eval (.Dict [aa a] [b] pos) k.env=(do dy pos;let d <-subDict [(eval a k.env,do let x <-eval b k.env;dy pos;pure x)];pure (.ref d)):=by
  rw[arm_eval_Dict, <-dictDisplay_pairs _ (by simp) (by simp)];rfl
 rw[q,Kf];refine .eR λc=>.of λS=>?_;have G:=S.more (s:=(σ.push {cls:=.type "dict",data:=.dict #[]}).s) (o:=.dict []) (q:=(σ.h.objs.size,0)) (du _) (λa m=>by rw[show a=σ.h.objs.size from m];exact d8) rfl rfl λH=>⟨[],.str [] [] rfl (lT _),trivial⟩
 have hq:(σ.more (σ.push {cls:=.type "dict",data:=.dict #[]}).s (.dict []) (σ.h.objs.size,0)).p[σ.mu.length]? =aa (σ.h.objs.size,0):=by rw[S.len];exact ph
 refine .pre G.1 G.2.any (T:=wq k.A (do
  cN [.ref σ.h.objs.size] (do
   let kv <-eval a k.env
   let vv <-cN [kv] (do let x <-eval b k.env;dy pos;pure x)
   let vs <-cN [kv,vv] (pure [])
   jZ (((kv,vv)::vs).flatMap λp=>[p.1,p.2]) (do
    for (k,v) in ((kv,vv)::vs) do xK σ.h.objs.size k v
    pure acV))
  pure (.ref σ.h.objs.size))) ?_ λQ E q=>by rw[bind_assoc];exact ak (wpAny_alloc (by simpa only[bind_assoc,pure_bind] using q))
 have c₀:=c.to G.2;have e:ev C (.newDict [(X',Y)]) au σ.mu=((ev C X' au (σ.mu++[.dict []])).bind λx mu=>(ev C Y au mu).bind λy mu=>dO (x.t?.bind T.s?) λs=>(d0 y mu).bind λt mu=>
  if gD mu σ.mu.length=ae then Res.ok () (mu.set σ.mu.length (.dict [(.str s,t)])) else .aK).bind λZ mu=>.ok (PV.m σ.mu.length) mu:=by
  show((ev C X' au (σ.mu++[.dict []])).bind λx mu=>(ev C Y au mu).bind λy mu=>dO (x.t?.bind T.s?) λs=>(d0 y mu).bind λy mu=>Res.ok [(T.str s,y)] mu).bind _=_;rw[<-Res.Cr, <-Res.Cr];congr 1;funext x mu;rw[<-Res.Cr, <-Res.Cr];congr 1;funext y mu;rw[vF,vF];congr 1;funext s;rw[<-Res.Cr, <-Res.Cr];congr 1;funext t mu;show(if gD mu σ.mu.length=ae then _ else _)=_
  by_cases h:gD mu σ.mu.length=ae
  ·rw[aA h,aA h];rfl
  ·rw[aL h,aL h];rfl
 rw[e];refine .Yi (R:=λZ Z τ=>τ.p[σ.mu.length]? =aa (σ.h.objs.size,0)) (f:=λZ=>dz σ.h.objs.size) (g:=λZ=>PV.m σ.mu.length) (.hold ((ha.v z).bind (λx vx τ P r=>GE.bind (R:=RV) (.hold ((hb.v z).ret λy vy υ P' r'=>.eR λZ=>.pure r')) λy vy υ P' r' Z=>?_) c₀))
  (λQ E q=>ak (e9 q (λZ Z x=>aB x) λZ Z x=>x)) λZ Z τ e=>⟨_,e,rfl⟩
 refine Gp.sim (T:=wq k.A (xK σ.h.objs.size vx vy)) ?_ λQ E q=>ak (bu (aB (bu (by
  simp only[gu,qg,bind_assoc,pure_bind];exact ak (e9 q (λZ Z x=>aB x) λZ Z x=>x)))))
 refine .dO λs hs=>bj hs λt ht hs=>?_;cases fK ht;cases qZ hs;exact .Cq r' λt mu xr Z9=>.if λhn=>(sG (σ:=υ.at mu) (kt:=.str s) (C0 hn) (xr.pre _ _ (P'.pre _ _ (P.pre _ _ hq))) rfl (by decide) (bK.to xr (t:=.str s) (bK.to P' (t:=.str s) r)) Z9 λknd xs k a b c Q E q=>uw a b q c).mono λZ Z τ e=>by rw[e];exact xr.pre _ _ (P'.pre _ _ (P.pre _ _ hq))
end
theorem PX(P:aS):(be 106).map (λi=>match (BH P).get? (fv i) with |some ⟨.type c,_,.func _,_⟩=>c=="function" |_=>af)=(be 106).map (λZ=>ae):=by kernel_rfl
set_option tactic.hygienic true in
theorem zd{i:aj}(h:i<106):∃o fd,(BH w.params).get? (fv i)=aa o/\o.data=.func fd/\o.cls=.type "function":=by
 have e:=map_eq (PX w.params) (iE.mpr h);split at e
 ·rename_i c d fd sl z;exact⟨_,fd,z,rfl,by rw[show c="function" from eq_of_beq e]⟩
 ·cases e
theorem Ho:p4.map (λp=>decide (p.2<106))=p4.map (λZ=>ae):=by kernel_rfl
theorem Bb{x:bQ}{i:aj}(h:lk p4 x=aa i):i<106:=by obtain⟨p,hp,rfl,_⟩:=ow h;exact bO (map_eq Ho hp)
theorem Kg:yW.map (λx=>(decide (x.1<6),decide (x.2.2<106),(methsOf x.1).contains (iO x.2.1,fv x.2.2),(vD x.1).contains (iO x.2.1),X0 "object" (iO x.2.1)))=yW.map (λZ=>(ae,ae,ae,af,aa ac)):=by kernel_rfl
structure Mth(c n f:aj):Prop where (lc:c<6) (lf:f<106) (at_:(iO n,fv f)∈methsOf c) (fl:(vD c).contains (iO n)=af) (no:gX (.type "object") (iO n)=pure ac)
theorem mth{c n f:aj}(h:yX c n=aa f):Mth c n f:=
 have e:=map_eq Kg (J2 h)
 ⟨bO (av (·.1) e),bO (av (·.2.1) e),Er.mp (av (·.2.2.1) e),av (·.2.2.2.1) e,by rw[iA,fk,show X0 "object" (iO n)=_ from av (·.2.2.2.2) e]⟩
theorem Kh{n:bQ}:∀{fs:ag bQ}{vs:ag ao},fs.contains n=af->(fs.zip vs).lookup n=ac
 |[],_,_=>rfl
 |_::_,[],_=>rfl
 |f::fs,v::vs,h=>
  by
   have h:=df.mp (show(n==f||fs.contains n)=af from h)
   show(match n==f with |true=>aa v |false=>(fs.zip vs).lookup n)=ac
   rw[h.1];exact Kh h.2
section
variable{C:Calls}{d n:aj}{cx:Cx}{o:bV}{es:ag bV}{Es:ag E}{p pos ap:Pos}{k:K}{au:Loc}{σ τ:W}{A:bW}{O:aN->Prop}{l:ag Env}{x nm:bQ}{s:aG}{E':ao->aG->Prop}{f ov:ao}{first:ag ao}{args:ag (aW×Sem ao)}{M:lS}
structure xt(d:aj)(A:bW)(l:ag Env)(σ:W):Prop where
 om:Ctx d A l
 sub:∀a∈qv l,a∈σ.fs
 AY:∀a∈qv l,∃o,σ.h.get? a=aa o/\tM o
theorem Here.room(e:Here k au σ):xt k.d k.A k.l σ:=⟨e.st.om.le (aw ..),e.sub,e.AY⟩
def pM(C:Calls)(d:aj):Prop:=∀{f f7 vs A l σ},f<106->xt d A l σ->qL f7 vs σ->Gp (wq A (call (.ref (fv f)) vs)) none_ σ (C f f7 σ.mu) RV
theorem gg{Q:Args->aG->Prop}(hp:args.any (·.1)=af)(h:aX M A (t8 args) (λvs s'=>Q ⟨vs,[]⟩ s') E' s):aX M A (evalArgs f ae args []) Q E' s:=by
 cases args with
 |nil=>
  show aX M A (t8 [] >>= _) Q E' s;exact ak (e9 h (λvs di q=>ak (aB (bu (ak (aB (ak (aB (aB q)))))))) λZ Z x=>x)
 |cons a r=>
  obtain⟨b,x⟩:=a;obtain⟨rfl,_⟩:=df.mp (show(b||r.any (·.1))=af from hp)
  exact evalArgs_kw rfl (e9 h (λvs s' q=>aB q) λZ Z x=>x)
theorem cw{α γ:Type}{r:Res α}{R:α->ag ao->W->Prop}{g:α->Mu->Res γ}{R':γ->ao->W->Prop}(hp:args.any (·.1)=af)(hf:∀τ,Ok τ->∀Q E,Q jz τ.s->aX (bP prog w) A (xM f) Q E τ.s)
 (gv:Gp (wq A (t8 args)) O σ r R) (kk:∀f7 vs τ,ib O σ τ->R f7 vs τ->Gp (wq A (call f (first++vs))) O τ (g f7 τ.mu) R'):Gp (wq A (tF pos f first args [])) O σ (r.bind g) R':=
 gv.l0 (T₂:=λvs Q E s=>(∀Q E,Q jz s->aX (bP prog w) A (xM f) Q E s)/\aX (bP prog w) A (call f (first++vs)) Q E s)
  (λQ E h=>by
   unfold tF;refine ak (bu (gg hp (e9 h (λvs di gZ=>ak (eN ?_)) λZ Z x=>x)));rw[hp];exact ak (gZ.1 _ _ (ak (e9 gZ.2 (λr s₂ hr=>ak (bu (Sx (aB hr)))) λZ Z x=>x))))
  λf7 vs τ P x=>.of λS=>(kk f7 vs τ P x).sim λQ E q=>⟨hf τ S,q⟩
theorem Tn{i:aj}{r:Res (ag PV)}{g:ag PV->Mu->Res PV}(hp:args.any (·.1)=af)(hi:i<106)(gv:Gp (wq A (t8 args)) O σ r qL)
 (kk:∀f7 vs τ,ib O σ τ->qL f7 vs τ->Gp (wq A (call (.ref (fv i)) (first++vs))) O τ (g f7 τ.mu) RV):Gp (wq A (tF pos (.ref (fv i)) first args [])) O σ (r.bind g) RV:=
 have⟨o,fd,h1,h2,_⟩:=zd hi
 gv.l0 (T₂:=λvs Q E s=>(s.heap.get? (fv i)=aa o/\o.data=.func fd)/\aX (bP prog w) A (call (.ref (fv i)) (first++vs)) Q E s) (λQ E h=>li (o:=o) (fd:=fd) (gg hp h))
  λf7 vs τ P x=>.of λS=>(kk f7 vs τ P x).sim λQ E q=>⟨⟨S.base _ _ h1,h2⟩,q⟩
theorem pq{attr:bQ}{env:Env}{v:Sem ao}(h:x≠("super":bQ)):IG (.Call (.Name x p) es [] pos) attr env v=v:=by
 cases es with
 |cons=>rfl
 |nil=>exact aA (fT.mpr (.inl (fT.mpr (.inl (fT.mpr (.inl (m9.mpr h)))))))
theorem vU{α:Type}{t:ag (ag aj×α)}{a:α}(h:lk t x=aa a)(n:lk t ("super":bQ)=ac):x≠("super":bQ):=λe=>by rw[e,n] at h;cases h
theorem s_call{i:aj}(sC:pM C d)(hg:glob cx x=ae)(hf:lk p4 x=aa i)(h:sE C d cx es Es):fb C d cx (.Call (.Name x p) es [] pos) (.call i Es):=
 gp (λ{k au σ} z c=>.of λS=>(Tn (h.plain _ _) (Bb hf) (h.v z c) λf7 vs τ P r=>sC (Bb hf) (z.d▸(c.to P).room) r).sim λQ E q=>mH rfl (gF c.st S (z.cx▸hg) (J6 hf) q))
  (λZ=>rfl) (λZ Z=>.inl Res.Cr) (λZ Z=>rfl) λZ Z=>pq (vU hf (by kernel_rfl))
theorem Ki{c f:aj}{a dx:aN}{vs:ag ao}{pl:Sem aW}{Q:ao×ag ao->aG->Prop}{P:ao->aG->Prop}(S:Ok σ)(I:gQ σ.h a dx (cJ c) (oh c vs))(hm:yX c n=aa f)
 (q:Q (.ref (fv f),[.ref a]) σ.s):aX (bP prog w) A (t9 (.ref a) (iO n) pl) Q P σ.s:=
 have z:=mth hm;have⟨o,fd,g1,g2,g3⟩:=zd z.lf
 PySem.method_of (S.cls z.lc) (S.cns z.lc) (E2 z.lc (by decide)) (E2 z.lc (by decide)) (Vg (n:=(iO n,fv f)) z.lc z.at_) (S.base _ _ g1) g3 z.no I.inst (Kh z.fl) q
theorem Hp(hp:args.any (·.1)=af)(hn:n<20):Ex n args []=true:=by
 unfold Ex;have:args.all (λx=>!x.1)=true:=aE.mpr λx hx=>by rw[NW.mpr (mz.mp hp x hx)];rfl
 rw[this];have e:(decide (n<20))=true:=bc hn;simp[e];omega
theorem Kj{env:Env}{Q:ao->aG->Prop}{P:ao->aG->Prop}(hl:(ap.endLine==pos.line)=ae)(hn:es.length<20)(hp:(nc pos (ig es env)).any (·.1)=af)
 (h:∀pl,aX M A (t9 ov nm pl) (λp s'=>aX M A (tF pos p.1 p.2 (nc pos (ig es env)) []) Q P s') P s):
 aX M A (X4 o nm ap pos env ov (es.length+([]:ag NY).length) (nc pos (ig es env)) (backToKw pos (Sy [] env))) Q P s:=by
 unfold X4;rw[show Ex (es.length+([]:ag NY).length) (nc pos (ig es env)) (backToKw pos (Sy [] env))=ae from Hp hp hn,
  show methodCallPos ae o env ap pos=pure pos from(by unfold methodCallPos;rw[hl];rfl)]
 exact ak (bu (e9 (h _) (λp s' q=>ak (aB q)) λZ Z x=>x))
end
theorem vV{h:dK}{X:aN->Prop}{k:bQ}{v:ao}(e:(strKind prog w).is k v=ae):bK h X (.str k.cps.toList) v:=by obtain⟨t,rfl⟩:=ao.isStrOf_shape e;exact⟨t,rfl⟩
theorem C1{h:dK}{X:aN->Prop}{k:bE}{v:ao}(e:(intKind prog w).is k v=ae):bK h X (.int k) v:=by
 cases v with
 |int i t=>exact⟨t,by rw[show k=i from(eq_of_beq e).symm]⟩
 |_=>cases e
theorem fR.elim{h:dK}{a:aN}{ks:ag T}{vs:ag ao}{G:Prop}(d:fR h a ks vs)
 (k:∀(K:Type)(_:eF K)(knd:KeyKind prog w K)(tk:K->T)(l:ag K),ks=l.map tk->l.length=vs.length->h.DictOf knd a (l.zip vs)->(∀h X k v,knd.is k v=ae->bK h X (tk k) v)->G):G:=by
 cases d with
 |str ss _ l d=>exact k _ _ _ _ ss rfl l d λZ Z Z Z=>vV
 |int ss _ l d=>exact k _ _ _ _ ss rfl l d λZ Z Z Z=>C1
theorem uH{α β:Type}{l:ag α}{m:ag β}(e:l.length=m.length):(l.zip m).length=l.length:=by rw[Sw, <-e,aj.min_self]
theorem Kk{n:aj}(h:n<=bp):(n:bE)<2^63:=by
 have:bp=1000000:=rfl
 omega
section
variable{A:bW}{σ:W}{O:aN->Prop}{x:PV}{vx vy v u:ao}{a b t:T}{h:dK}{X':aN->Prop}{s:aG}{E:ao->aG->Prop}{ts:ag T}{vs:ag ao}{i j:bE}
theorem Kl(rx:RV x vx σ):Gp (wq A (call (.builtin "len") [vx])) O σ (dO (vm x σ.mu) λn=>if n<=bp then .ok (.t (.int n)) σ.mu else .aK) RV:=by
 refine .of λS=>.dO λn hz=>.if λhl=>?_;have Tp:∀{a:aN}{kvs:ag (T×T)}{vs:ag ao},kvs.length=n->fR σ.h a (kvs.map (·.1)) vs->(BH w.params).get? a=ac->Gp (wq A (call (.builtin "len") [.ref a])) O σ (.ok (.t (.int n)) σ.mu) RV:=λe dr nb=>i8 λQ E q=>dr.elim λK Z knd tk ks e1 e2 dd Z=>by
  have e3:=(uH e2).trans ((by rw[<-aq (f:=tk), <-e1,aq]:ks.length=_).trans e)
  exact call_len_dict (pk nb) dd (by rw[e3];exact Kk hl) (by rw[e3];exact q _ _)
 have seq:∀{α:Type}{R:α->ao->Prop}{xs:ag α}{vs:ag ao},xs.length=n->bF R xs vs->vs.toArray.size=n:=λe r=>(bb ..).trans (r.len.symm.trans e);cases x with
 |t t=>
  cases t with
  |str s=>cases hz;exact sA rx λu=>i8 λQ E q=>P.len_str (by have:=Kk hl;show ¬_;simp only[bQ.length,bb];omega) (q _ _)
  |bytes s=>
   cases hz;exact eP (show bK σ.h (X σ) (.bytes s) vx from rx) λb u hb=>by
    have e:b.size=s.length:=by rw[<-hb,aq,bJ]
    exact i8 λQ E q=>PySem.W.len_bytes (by rw[e];exact ai hl (by decide)) (by rw[e];exact q _ _)
  |list s=>
   cases hz;exact q5 rx λa vs m Z l r=>i8 λQ E q=>Calls.call_len_list l.isList (by rw[seq rfl r];exact Kk hl) (by rw[seq rfl r];exact q _ _)
  |tup s=>
   cases hz;exact iY (show bK σ.h (X σ) (.tup s) vx from rx) λa vs m Z l r=>i8 λQ E q=>PySem.P.len_tuple l (by rw[seq rfl r];have:=Kk hl;omega) (by rw[seq rfl r];exact q _ _)
  |dict s=>
   cases hz;exact kn (show bK σ.h (X σ) (.dict s) vx from rx) λa vs Z nb dr Z=>Tp rfl dr nb
  |_=>cases hz
 |m i=>
  refine bj hz λo he hz=>?_;cases o with
  |list xs=>
   cases hz;exact S.nC rx he λq Z m=>bD m λvs m=>bD m λk m=>i8 λQ E q=>Calls.call_len_list m.1.isList (by rw[seq rfl m.2];exact Kk hl) (by rw[seq rfl m.2];exact q _ _)
  |dict xs=>
   cases hz;exact S.nC rx he λq hq m=>bD m λvs m=>Tp rfl m.1 (S.off _ ⟨i,_,q,he,hq,rfl⟩)
  |_=>cases hz
theorem Km{ts:ag T}{ns:ag bE}{vs:ag ao}(e:nZ ts=aa ns)(r:bF (bK h X') ts vs):YF vs ns:=
 (r.ind (P:=λts vs=>∀ns,nZ ts=aa ns->YF vs ns) (λns e=>aM e▸.nil) λt ts v vs h r ih ns e=>by
  cases t with
  |int i=>exact cM (P:=λns=>YF (v::vs) ns) e λns' e=>jm (P:=λv=>YF (v::vs) (i::ns')) h λu=>.cons i u (ih ns' e)
  |_=>exact lX e) ns e
theorem Kn{ns:ag bE}{cs:ag aj}(e:codes ns=aa cs):(∀n∈ns,0<=n/\n<256)/\(byteArr ns).toList.map bh=cs:=by
 induction ns generalizing cs with
 |nil=>exact aM e▸⟨λZ m=>aQ m ny,rfl⟩
 |cons n ns ih=>
  exact cO e (λhn e=>cM (P:=λcs=>(∀m∈n::ns,0<=m/\m<256)/\(byteArr (n::ns)).toList.map bh=cs) e λcs' e=>
   have z:=ih e
   ⟨λm hm=>(aJ.mp hm).elim (λe=>e▸hn) (z.1 m),by
    have z2:=z.2;unfold byteArr at z2 ⊢;rw[II] at z2;rw[bX,II,bX,z2];congr 1;exact(iq.toNat_ofNat').trans (aj.mod_eq_of_lt ((bE.toNat_lt hn.1).mpr hn.2))⟩) λZ e=>by cases e
theorem Bc{f:bE}{q:Sem ao}(k:∀Q E,(∀h' t tk,Grows σ.h h'->Q (.int f t) {σ.s with heap:=h',toks:=tk})->aX (bP prog w) A q Q E σ.s):Gp (wq A q) O σ (.ok (.t (.int f)) σ.mu) RV:=
 λQ E ko Z Z S=>k Q E λh' t tk kp=>ko _ _ (σ.to {σ.s with heap:=h',toks:=tk}) rfl (S.grow kp rfl) (.grow kp rfl) ⟨t,rfl⟩
theorem Ko(hh:A.handled=ac)(ra:RV (.t (.int i)) vx σ)(rb:RV (.t (.int j)) vy σ):Gp (wq A (call (.builtin "min") [vx,vy])) O σ (.ok (.t (.int (if j<i then j else i))) σ.mu) RV:=
 iu ra λt=>iu rb λu=>Bc λQ E q=>min_two_ints hh λh' tk kp=>by
  by_cases z:j<i
  ·rw[aA z] at q ⊢;exact q h' u tk kp
  ·rw[aL z] at q ⊢;exact q h' t tk kp
theorem Kp(hh:A.handled=ac)(ra:RV (.t (.int i)) vx σ)(rb:RV (.t (.int j)) vy σ):Gp (wq A (call (.builtin "max") [vx,vy])) O σ (.ok (.t (.int (if i<j then j else i))) σ.mu) RV:=
 iu ra λt=>iu rb λu=>Bc λQ E q=>max_two_ints hh λh' tk kp=>by
  show Q (if i<j then .int j u else .int i t) _
  by_cases z:i<j
  ·rw[aA z] at q ⊢;exact q h' u tk kp
  ·rw[aL z] at q ⊢;exact q h' t tk kp
theorem Kq(ra:RV (.t (.int i)) vx σ):Gp (wq A (call (.builtin "chr") [vx])) O σ (if 0<=i/\i<1114112 then .ok (.t (.str [i.toNat])) σ.mu else .aK) RV:=
 .if λhr=>iu ra λt=>vH λQ E q=>P.chr_of_int (df.mpr ⟨aY (by omega),aY (by omega)⟩) (q _ _)
theorem Kr{c:aj}(ra:RV (.t (.str [c])) vx σ):Gp (wq A (call (.builtin "ord") [vx])) O σ (.ok (.t (.int c)) σ.mu) RV:=sA ra λt=>i8 λQ E q=>P.ord_of_char (q _ _)
theorem Ks(ra:RV (.t (.int i)) vx σ):Gp (wq A (call (.builtin "abs") [vx])) O σ (.ok (.t (.int i.natAbs)) σ.mu) RV:=iu ra λt=>i8 λQ E q=>call_abs_int λu tk=>by
 rw[show(if i<0 then -i else i)=(i.natAbs:bE) by split<;>rename_i h;exact(Ao (iR h)).symm;exact(iM (jw.mp h)).symm];exact q u tk
theorem Kt(ra:RV (.t (.int i)) vx σ):Gp (wq A (call (.type "int") [vx])) O σ (.ok (.t (.int i)) σ.mu) RV:=iu ra λt=>q6 ⟨t,rfl⟩ λQ E q=>call_int_int q
theorem Hq{b:aW}(ra:RV (.t (.bool b)) vx σ):Gp (wq A (call (.type "int") [vx])) O σ (.ok (.t (.int (if b then 1 else 0))) σ.mu) RV:=by
 rw[show vx=.bool b from ra];exact i8 λQ E q=>call_int_bool (q _ _)
theorem C2{cs:ag aj}{ns:ag bE}(hh:A.handled=ac)(r:jA σ (.list ts) vx)(hi:nZ ts=aa ns)(hc:codes ns=aa cs):Gp (wq A (call (.type "bytes") [vx])) O σ (jL cs σ.mu) RV:=
 .if λhl=>jM r λa vs n l r1=>λQ E ko Z Z S=>by
  have z:=Kn hc;have Pz:=Km hi r1;have e:ns.length=cs.length:=by rw[<-z.2,aq,bJ];exact(byteArr_size ns).symm
  exact call_bytes_ints l.isList Pz z.1 (by rw[Pz.length,e];exact eo hl) hh λh' t k kp=>ko _ _ (σ.to {σ.s with heap:=h',toks:=k}) rfl (S.grow kp rfl) (.grow kp rfl) ⟨_,t,rfl,z.2⟩
theorem C3(r:jA σ (.list ts) vx):Gp (wq A (call (.type "tuple") [vx])) O σ (vk ts σ.mu) RV:=
 .if λhl=>jM r λa vs n l r1=>λQ E ko Z Z S=>call_tuple_list l.isList (λh' kp=>by
  have S':=S.grow (s:={σ.s with heap:=h'}) kp rfl
  have kp2:Grows σ.h (h'.push {cls:=.type "tuple",data:=.seq vs.toArray 0}):=λa o e=>aI _ (kp a o e);exact ko _ _ (σ.to {σ.s with heap:=h'.push {cls:=.type "tuple",data:=.seq vs.toArray 0}}) rfl (S.grow kp2 rfl) (.grow kp2 rfl)
   (sy (vs:=vs) (S'.newX d8) (ck _ rfl) (r1.mono λZ Z Z r=>r.eQ cK λa o n e Z=>⟨n,kp2 a o e⟩))) (by rw[bb, <-r1.len];exact eo hl)
theorem Hr(r:jA σ (.list ts) vx):Gp (wq A (call (.type "list") [vx])) O σ (h9 ts σ.mu) RV:=
 .if λhl=>jM r λa vs n l r1=>λQ E ko Z Z S=>call_list_seq a (.inl rfl) l rfl rfl (λh' c kp e=>ko _ _ (σ.to {σ.s with heap:=h'}) rfl (S.grow kp rfl) (.grow kp rfl)
  (ly (vs:=vs) (S.newX d8) e (r1.mono λZ Z Z r=>r.eQ cK λa o n e Z=>⟨n,kp a o e⟩))) (by rw[bb, <-r1.len];exact eo hl)
theorem vW{K:Type}[eF K]{knd:KeyKind prog w K}{tk:K->T}(hk:∀k v,knd.is k v=ae->bK h X' (tk k) v){ks:ag K}:∀{vs a8:ag ao},ks.length=vs.length->a8.length=(ks.zip vs).length->(∀(j:aj)(v:ao),a8[j]? =aa v->∃k x,(ks.zip vs)[j]? =aa (k,x)/\knd.is k v=ae)->bF (bK h X') (ks.map tk) a8:=by
 induction ks with
 |nil=>
  intro vs a8 _ e _;cases a8 with
  |nil=>trivial
  |cons=>cases e
 |cons k ks ih=>
  intro vs a8 e e' g;cases vs with
  |nil=>cases e
  |cons v vs=>
   cases a8 with
   |nil=>cases e'
   |cons u a8=>exact⟨(g 0 u rfl).elim λk' z=>z.elim λx z=>(by cases z.1;exact hk _ _ z.2),ih (jf e) (jf e') λj v ej=>g (j+1) v ej⟩
theorem C4{kvs:ag (T×T)}(hh:A.handled=ac)(r:jA σ (.dict kvs) vx):Gp (wq A (call (.type "list") [vx])) O σ (h9 (kvs.map (·.1)) σ.mu) RV:=
 .if λhl=>E0 r λa vs nb dr Z=>λQ E ko Z Z S=>dr.elim λK Z knd tk ks e1 e2 dd hk=>bD dd.dictAt λep hat=>kdl_call (kdl_dict (knd:=knd) (kvs:=ks.zip vs) (ep:=ep) (pk nb)) hh hat
  (by rw[uH e2, <-aq (f:=tk), <-e1];exact eo hl) λh' A4 a8 c' kp e hi=>ko _ _ (σ.to {σ.s with heap:=h',toks:=A4}) rfl (S.grow kp rfl) (.grow kp rfl)
   (ly (vs:=a8.toList) (n:=c') (S.newX d8) e (e1▸vW (knd:=knd) (hk _ _) e2 (by rw[bJ];exact hi.1) λj v ej=>hi.2 j v (by rw[<-eZ];exact ej)))
end
theorem Bd:∀n<10,[48+n]=[(aj.digitChar n)].map nM:=by decide+kernel
theorem digits_eq:∀(f n:aj),n<10^f->iU (f+1) n=(acW 10 n).map nM
 |0,n,h=>by rw[show n=0 from XX.mp h];rfl
 |f+1,n,h=>
  by
   unfold iU
   by_cases q:n<10
   ·rw[aA q,aj.toDigits_of_lt_base q];exact Bd n q
   ·rw[aL q,aj.toDigits_of_base_le (by decide) (eO.mp q),digits_eq f (n/10) ((aj.div_lt_iff_lt_mul (by decide)).mpr (by rwa[aj.pow_succ] at h)),br,Bd _ (o8 _ (by decide))]
theorem PY{a:bE}(h:a.natAbs<10^60):(acX (toString a))=⟨(eM a).toArray⟩:=by
 have h':∀n:aj,n<10^60->digits n=(acW 10 n).map nM:=λn hn=>digits_eq 63 n (bw hn (qI (by decide) (by decide)))
 rw[bQ.ofString_eq_toList];congr 2;cases a with
 |ofNat m=>
  have hm:¬(kb m<0):=by show ¬((m:bE)<0);omega
  unfold eM;rw[aL hm,h' _ h];show(IJ m).toList.map nM=_;unfold IJ;rw[Cy];rfl
 |negSucc m=>
  have hm:(bE.negSucc m<0):=by omega
  unfold eM;rw[aA hm,h' _ h];show("-"++IJ (m+1)).toList.map nM=_;unfold IJ;simp only[String.toList_append,Cy];rfl
theorem i9:∀{a b:ag aj},fh a b=ae↔a<=b
 |[],b=>⟨λZ=>ag.nil_le b,λZ=>by unfold fh;rfl⟩
 |a::as,[]=>⟨λh=>(by cases h),λh=>(by simp at h)⟩
 |a::as,b::bs=>
  by
   rw[ag.cons_le_cons_iff, <-i9];show(if a<b then ae else if b<a then af else fh as bs)=ae↔_
   rcases OE a b with h |h |h
   ·rw[aA h];exact⟨λZ=>.inl h,λZ=>rfl⟩
   ·subst h;rw[aL (cL _),aL (cL _)];exact⟨λh=>.inr ⟨rfl,h⟩,λh=>h.elim (λh=>aQ h (cL _)) Sz⟩
   ·rw[aL (nH h),aA h];exact⟨λh=>(by cases h),λz=>z.elim (λz=>aQ z (nH h)) λz=>by omega⟩
theorem Be:∀a b:ag aj,fh a b=!Cz b a
 |[],[]=>rfl
 |[],_::_=>rfl
 |_::_,[]=>rfl
 |a::as,b::bs=>
  by
   show(if a<b then ae else if b<a then af else fh as bs)=!(decide (b<a)||(b==a&&Cz bs as))
   rw[Be as bs];rcases OE a b with h |h |h
   ·rw[aA h,aY (nH h),aD.mpr (jJ h)];rfl
   ·subst h;rw[aL (cL _),aL (cL _),aY (cL _),dJ];rfl
   ·rw[aL (nH h),aA h,bc h];rfl
theorem Bf(a b):fh a b=ae\/fh b a=true:=(ag.le_total a b).imp i9.mpr i9.mpr
theorem tN{a b c}(h:fh a b=ae)(h':fh b c=ae):fh a c=true:=i9.mpr (ag.le_trans (i9.mp h) (i9.mp h'))
theorem C5{a b}(h:fh a b=ae)(h':fh b a=ae):a=b:=ag.le_antisymm (i9.mp h) (i9.mp h')
theorem ox(x:ag aj):∀l,(lI x l).Perm (x::l)
 |[]=>.refl _
 |y::r=>
  by
   unfold lI;split
   ·exact .refl _
   ·exact(ag.Perm.cons y (ox x r)).trans (ag.Perm.swap x y r)
theorem rm:∀l,(km l).Perm l
 |[]=>.refl _
 |x::r=>(ox x _).trans (.cons x (rm r))
theorem p6(x:ag aj):∀{l},l.Pairwise (λa b=>fh a b=ae)->(lI x l).Pairwise (λa b=>fh a b=ae)
 |[],_=>by unfold lI;simp
 |y::r,h=>
  by
   unfold lI;have h':=jh.mp h;split
   ·rename_i q
    refine jh.mpr ⟨λz m=>?_,h⟩;rcases aJ.mp m with rfl |m
    ·exact q
    ·exact tN q (h'.1 z m)
   ·rename_i q
    refine jh.mpr ⟨λz m=>?_,p6 x h'.2⟩;rcases aJ.mp ((ox x r).mem_iff.mp m) with rfl |m
    ·rcases Bf z y with h |h
     ·rw[h] at q;exact aQ rfl q
     ·exact h
    ·exact h'.1 z m
theorem oy:∀l,(km l).Pairwise (λa b=>fh a b=ae)
 |[]=>acY
 |x::r=>p6 x (oy r)
theorem nj:∀{x:bQ}{l:ag bQ},risingS x l=ae->(∀y∈l,fh x.cps.toList y.cps.toList=ae)/\(l.map (·.cps.toList)).Pairwise (λa b=>fh a b=ae)
 |_,[],_=>⟨by simp,by simp⟩
 |p,x::r,h=>
  by
   unfold risingS at h;simp only[cZ] at h;obtain⟨h1,h2⟩:=h;rw[<-Be] at h1;obtain⟨i1,i2⟩:=nj h2;refine⟨λy m=>?_,?_⟩
   ·rcases aJ.mp m with rfl |m
    ·exact h1
    ·exact tN h1 (i1 y m)
   ·simp only[bX]
    exact jh.mpr ⟨λz m=>by obtain⟨y,my,rfl⟩:=aT.mp m;exact i1 y my,i2⟩
theorem Ht{ss E9:ag bQ}(hp:E9.Perm ss)(hs:sortedS E9=ae):E9.map (·.cps.toList)=km (ss.map (·.cps.toList)):=by
 refine ag.Perm.eq_of_pairwise (le:=λa b=>fh a b=ae) (λa b Z Z=>C5) ?_ (oy _) ((hp.map _).trans (rm _).symm);cases E9 with
 |nil=>simp
 |cons x r=>
  refine gf (nj (show risingS x r=ae from hs)) λh1 h2=>?_
  simp only[bX];exact jh.mpr ⟨λz m=>by obtain⟨y,my,rfl⟩:=aT.mp m;exact h1 y my,h2⟩
theorem vX:gX (.type "bytes") "__bytes__"=pure (aa (.builtin "bytes.__bytes__")):=by rw[iA,fk];kernel_rfl
theorem PZ{A:bW}{s:aG}{E:ao->aG->Prop}{x:cE iq}{t:Tok}{Q:ao->aG->Prop}(hQ:Q (.bytes x t) s):
 mA (bP prog w) A (.call (.builtin "bytes.__new__") ⟨[.type "bytes",.bytes x t],[]⟩) (wants Q E) s:=by
 refine Ck ?_;show aX _ A.in1 (do ik "bytes.__new__" ⟨[.type "bytes",.bytes x t],[]⟩;again (.builtin "bytes.__new__" ⟨[.type "bytes",.bytes x t],[]⟩)) _ _ s
 refine ak (eK (F.bm_newCall _) (aB ⟨plainId_quiet F.bm_plain _,codeAny_builtin F.bm_entry ?_⟩));rw[pH F.bm_plain _];unfold Builtin.«bytes.__new__»;refine ak (eK (a:=ae) rfl ?_);refine SA rfl ?_;refine ak (eK F.bm_sub ?_);refine SA rfl ?_;refine ak (eK (F.bm_bind _) ?_);refine ak (eK (a:=()) rfl ?_);refine ak (eK (a:=()) rfl ?_);refine SA rfl ?_;refine ak (Cm (dG _ _ _) vX ?_);refine ak (w8 ?_);refine ak (eK (a:=.type "bytes") rfl ?_);refine bm_if_true (by decide) ?_
 first
  |exact aB hQ
  |exact ak (aB (aB hQ))
section
variable{A:bW}{σ:W}{O:aN->Prop}{vx:ao}{i:bE}
theorem Ku(ra:RV (.t (.int i)) vx σ):Gp (wq A (call (.type "str") [vx])) O σ (if i.natAbs<10^60 then .ok (.t (.str (eM i))) σ.mu else .aK) RV:=
 .if λhl=>iu ra λt=>vH λQ E q=>P.str_of_int (by
  by_cases h0:i.natAbs=0
  ·rw[h0];decide
  ·rw[xj h0];exact bw hl (by decide+kernel)) (by show Q (.str (acX (toString i)) σ.s.toks) _;rw[PY hl];exact q _ _)
theorem Bg{b:ag aj}(ra:RV (.t (.bytes b)) vx σ):Gp (wq A (call (.type "bytes") [vx])) O σ (.ok (.t (.bytes b)) σ.mu) RV:=
 eP (show bK σ.h (X σ) (.bytes b) vx from ra) λx t hx=>q6 ⟨x,t,rfl,hx⟩ λQ E q=>callType_codes (Q₁:=λobj di=>obj=.bytes x t/\di=σ.s) F.bm_called (F.bm_typeCall _) F.entry_object_init (PZ ⟨rfl,rfl⟩) λobj di gZ=>by
  obtain⟨rfl,rfl⟩:=gZ;exact⟨dG _ _ _,F.args_object_init_2 _ _,object_init_meets F.bm_called.init.lookup F.bm_called.made (by decide) prog w A.in1 _ _ ⟨dG _ _ _,rfl,q⟩⟩
end
section
variable{A:bW}{σ:W}{O:aN->Prop}{x y:PV}{vx vy v u vv:ao}{a b t:T}{h:dK}{X':aN->Prop}{s:aG}{E:ao->aG->Prop}{ts:ag T}{vs:ag ao}{i:aj}{xs:ag PV}
theorem yj:∀{kvs:ag (T×T)}{ks:ag (ag aj)},strKeys kvs=aa ks->kvs.map (·.1)=ks.map T.str
 |[],_,e=>by cases e;rfl
 |(a,b)::r,ks,e=>
  by
   cases a with
   |str s=>exact cM (P:=λks=>T.str s::r.map (·.1)=ks.map T.str) e λHk e=>av (T.str s::·) (yj e)
   |_=>cases e
theorem Bh{vs:ag ao}{ss:ag bQ}(r:YG vs ss):bF (bK h X') (ss.map λs=>T.str s.cps.toList) vs:=
 StrsAre.rec (motive:=λvs ss r=>bF (bK h X') (ss.map λs:bQ=>T.str s.cps.toList) vs) trivial (λy t vs ss r ih=>⟨⟨t,rfl⟩,ih⟩) r
theorem Bi{ss:ag bQ}{vs:ag ao}(r:bF (bK h X') (ss.map λs=>T.str s.cps.toList) vs):YG vs ss:=by
 induction ss generalizing vs with
 |nil=>exact bF.oi r▸.nil
 |cons s ss ih=>exact k8 (bF.jo r) λv m e h q=>e▸ir (P:=λv=>YG (v::m) (s::ss)) h λt=>.cons s t (ih q)
theorem P7(ks:ag (ag aj)):(ks.map T.str).all T.Yh=true:=aE.mpr λt m=>by obtain⟨k,_,rfl⟩:=aT.mp m;rfl
theorem Ok.agO(S:Ok σ)(kp:Grows σ.h h):¬X σ h.objs.size:=λm=>(S.SW m).elim λo e=>aQ (fW (kp _ _ e)) (cL _)
theorem Bj{kvs:ag (T×T)}{ks:ag (ag aj)}(hh:A.handled=ac)(r:jA σ (.dict kvs) vx)(hk:strKeys kvs=aa ks)(hn:ks.length<64):Gp (wq A (call (.builtin "sorted") [vx])) O σ (h9 ((km ks).map .str) σ.mu) RV:=
 .if λZ=>E0 r λb vs nb dr Z=>λQ E ko Z Z S=>by
  have e0:=yj hk;refine nB (dr.strs (by rw[e0];exact P7 ks)) λss e1 e2 dd=>?_
  have ek:ss.map (·.cps.toList)=ks:=by
   have:ks.map T.str=(ss.map (·.cps.toList)).map T.str:=by rw[<-e0,e1,ba];rfl
   exact(Ja (by intro x y h;cases (h);rfl)).mp this.symm
  refine fJ dd.dictAt λep hat=>?_;have Of:(ss.zip vs).length=ss.length:=uH e2;have hss:ss.length<64:=by rw[<-ek,aq] at hn;exact hn
  have hle:(ss.zip vs).length<=sizeLine:=by rw[Of];exact ai (a9 hss) (by decide)
  refine Calls.call_function_entry kind_sorted plain_sorted entry_sorted (args_sorted1 _) ?_;unfold Builtin.«sorted»;refine ak (m:=checkCount "sorted" 1 1 _) (aB ?_);refine ak (kdu_collect (A:=A.in1) (kdl_dict (knd:=strKind prog w) (kvs:=ss.zip vs) (ep:=ep) (pk nb)) hh hat hle λh' tk a8 kp hi=>?_);have hS:YG a8.toList ss:=Bi (h:=h') (X':=X σ) (vW (knd:=strKind prog w) (λZ Z=>vV) e2 (by rw[bJ];exact hi.1) λj v ej=>hi.2 j v (by rw[<-eZ];exact ej))
  have hal:a8.toList.length=ss.length:=by rw[bJ,hi.1,Of]
  refine ak (uZ ?_ (by rw[hal, <-Of];exact hle))
  have hoL:(h'.push (Ap "list" a8.toList.toArray 0)).get? h'.objs.size=aa (Ap "list" a8.toList.toArray 0):=ck _ rfl;refine ak (bu (wpAny_call_entry slot_list_sort ⟨_,hoL,rfl⟩ entry_list_sort (list_sort_treeK strKind_oneLt hoL hS.keysOf (λalP alQ rest e=>keyKind_strs (by rw[<-e];exact hS)) (by rw[hal];exact hss) λP8 a1 a2=>⟨_,rfl,?_⟩) (args_list_sort _)))
  refine nB (sorted_out_str hS a1 a2) λE9 q1 q2 q3=>?_;refine aB ⟨_,rfl,?_⟩;have Vt:Grows σ.h (w9 (h'.push (Ap "list" a8.toList.toArray 0)) h'.objs.size a8.toList (qh (λx=>x.2) (YH P8))):=λc o e=>by
   have Bk:h'.objs.size≠c:=Ne.symm (dB (fW (kp _ _ e)));unfold w9;rw[fZ _ _ Bk];refine aI _ (aI _ ?_);rw[fZ _ _ Bk];exact aI _ (kp c o e)
  have ho3:=aev (aI (Ap "list" #[] 0) (aI (Ap "tuple" a8.toList.toArray 0) (aev hoL (λZ=>#[])))) (λZ=>qh (λx=>x.2) (YH P8));obtain⟨n',fin⟩ :∃n,(w9 (h'.push (Ap "list" a8.toList.toArray 0)) h'.objs.size a8.toList (qh (λx=>x.2) (YH P8))).get? h'.objs.size=aa (Ap "list" (qh (λx=>x.2) (YH P8)) n):=⟨_,ho3⟩;have q:=Ht q2 q3;rw[ek] at q;exact ko _ _ (σ.to {σ.s with heap:=w9 (h'.push (Ap "list" a8.toList.toArray 0)) h'.objs.size a8.toList (qh (λx=>x.2) (YH P8)),toks:=tk}) rfl (S.grow Vt rfl) (.grow Vt rfl)
   (ly (vs:=(qh (λx=>x.2) (YH P8)).toList) (n:=n') (S.agO kp) (by show(w9 _ _ _ _).get? _=_;rw[fin]) (by rw[<-q,ba];exact Bh q1))
theorem tO(rx:RV (.m i) vx σ)(rv:RV y vy σ)(he:σ.mu[i]? =aa (.list xs))(hl:xs.length<bp):Gp (wq A (call (.builtin "list.append") [vx,vy])) O σ (.ok (.t .none) (σ.mu.set i (.list (xs++[y])))) RV:=
 .of λS=>S.nC rx he λq hq m=>bD m λvs m=>bD m λn m=>λQ E ko Z Z S=>
  have U:=S.PW he hq m.1 (F:=(·.push vy)) (vs':=vs++[vy]) (by simp) (m.2.append (show bF (gL σ) [y] [vy] from⟨rv,trivial⟩))
  xa xN ⟨_,m.1,rfl⟩ PySem.F.entry_list_append (PySem.F.args_list_append_2 _ _) (PySem.list_append q.1 _ n vy (by rw[bb, <-m.2.len];exact eo (a9 hl))) ⟨m.1,ko (.t .none) _ _ rfl U.1 U.2.any rfl⟩
theorem Bl(rx:RV (.m i) vx σ)(rv:RV (.t (.list ts)) vy σ)(he:σ.mu[i]? =aa (.list xs))(hl:xs.length+ts.length<bp):Gp (wq A (call (.builtin "list.extend") [vx,vy])) O σ (.ok (.t .none) (σ.mu.set i (.list (xs++ts.map .t)))) RV:=
 .of λS=>S.nC rx he λq hq m=>bD m λvs m=>bD m λn m=>q5 rv λb ws n2 Z l2 r2=>λQ E ko Z Z S=>
  have U:=S.PW he hq m.1 (F:=(· ++ws.toArray)) (vs':=vs++ws) (by simp) (m.2.append (bF.map r2))
  have Of:vs.toArray.size+ws.toArray.size<=sizeLine:=by rw[bb,bb, <-m.2.len, <-r2.len];exact eo (a9 hl)
  xa iS ⟨_,m.1,rfl⟩ xl (xb _ _) (YI q.1 _ n b _ n2 (extend_door Of) (by omega) (by omega)) ⟨m.1,l2,ko (.t .none) _ _ rfl U.1 U.2.any rfl⟩
theorem ze{α β:Type}{R:α->β->Prop}{l:ag α}{m:ag β}(r:bF R l m):bF R l.dropLast m.dropLast:=by
 rw[Ey,Ey,r.len];exact r.take _
theorem Kv(rx:RV (.m i) vx σ)(he:σ.mu[i]? =aa (.list xs))(hv:xs.getLast? =aa y)(hl:xs.length<=bp):Gp (wq A (call (.builtin "list.pop") [vx])) O σ (.ok y (σ.mu.set i (.list xs.dropLast))) RV:=
 .of λS=>S.nC rx he λq hq m=>bD m λvs m=>bD m λn m=>λQ E ko Z Z S=>by
  rw[ag.getLast?_eq_getElem?] at hv;refine bH (m.2.get hv) λvv h1 h2=>?_;have U:=S.PW he hq m.1 (F:=λxs=>xs.eraseIdxIfInBounds (vs.toArray.size-1)) (vs':=vs.dropLast) (by
   apply nf.mp;rw[cE.toList_eraseIdxIfInBounds,bb,ag.eraseIdx_length_sub_one]) (ze m.2)
  exact xa AH ⟨_,m.1,rfl⟩ PySem.F.entry_list_pop (PySem.F.args_list_pop_1 _) (YJ q.1 _ n vv (by rw[bb,dw, <-m.2.len];exact h1) (by rw[bb, <-m.2.len];exact eo hl)) ⟨m.1,ko _ _ _ rfl U.1 U.2.any (gL.to U.2 h2)⟩
theorem C6{b:cE iq}{t:Tok}{Q:aW->aG->Prop}(h:Q af s):aX (bP prog w) A (rX (.bytes b t)) Q E s:=by
 have hT:=dG s b t;unfold rX;refine ak (Cm hT FB.slot_bytes_len.lookup ?_);generalize hid:("bytes.__len__":eS)=id0
 wp_delta
 rw[show splitId id0=aa ("bytes","__len__") from by subst hid;decide+kernel]
 subst hid;refine ak (wpAny_isInstance (T:="bytes") (b:=ae) hT (by rw[Ez];kernel_rfl) ?_)
 refine qM (λVu=>aQ Vu (by decide)) (λZ=>?_)
 refine qM (λZ=>?_) (λVu=>aQ (by decide+kernel) Vu)
 refine ak (kc hT ?_);exact aB h
theorem zf{I:aN}{fp wr:ag aN}{n:aj}{P:aj->ao->Prop}{St:aj->dK->Prop}(W:Walks prog w A I fp wr n P St)(a8:cE ao):
 Walks prog w A I fp wr (a8.size+n) (λi v=>(i<a8.size/\a8[i]? =aa v)\/(a8.size<=i/\P (i-a8.size) v)) (λi h=>a8.size<=i/\St (i-a8.size) h) where
 sub:=W.sub
 frame i h h' st e:=⟨st.1,W.frame _ h h' st.2 e⟩
 item i s Q E hi st hQ:=W.item (i-a8.size) s Q E (mC st.1 hi) st.2 λv h' tk hp Tq hb=>hQ v h' tk (.inr ⟨st.1,hp⟩) ⟨by have:=st.1;omega,by rw[show i+1-a8.size=i-a8.size+1 from EA st.1];exact Tq⟩ hb
 done s Q E st hQ:=W.done s Q E (by have:=st.2;rwa[aU] at this) hQ
 self i s Q E st hQ:=W.self _ s Q E st.2 hQ
theorem Bm:∀{ns:ag aj}{ws:ag ao},ws.length=ns.length->(∀(j:aj)(v:ao),ws[j]? =aa v->∃c u,ns[j]? =aa c/\v=aet ((c:aj):bE) u)->bF (gL σ) (ns.map λ(x:aj)=>PV.t (.int x)) ws:=by
 intro ns
 induction ns with
 |nil=>
  intro ws e g;cases ws with
   |nil=>trivial
   |cons _ _=>cases e
 |cons c ns ih=>
  intro ws e g;cases ws with
   |nil=>cases e
   |cons v ws=>exact⟨(g 0 v rfl).elim λc' z=>z.elim λu z=>by cases z.1;exact⟨u,z.2⟩,ih (jf e) λj v ej=>g (j+1) v ej⟩
theorem Hu{vs:ag ao}{a8:cE ao}(h:vs.length<=a8.size)(k:∀j v,j<vs.length->a8[j]? =aa v->vs[j]? =aa v):a8=(vs++a8.toList.drop vs.length).toArray:=by
 apply nf.mp;apply mD;intro j
 by_cases hj:j<vs.length
 ·have e:=yP (bw hj h)
  rw[bo hj,eZ,e];exact(k j _ hj e).symm
 ·rw[aZ (eO.mp hj),Jb,i5 (eO.mp hj)]
theorem zg{bs:ag aj}(hh:A.handled=ac)(rx:RV (.m i) vx σ)(rv:RV (.t (.bytes bs)) vy σ)(he:σ.mu[i]? =aa (.list xs))(hl:xs.length+bs.length<bp):
 Gp (wq A (call (.builtin "list.extend") [vx,vy])) O σ (.ok (.t .none) (σ.mu.set i (.list (xs++bs.map λ(x:aj)=>.t (.int x))))) RV:=
 .of λS=>S.nC rx he λq hq m=>bD m λvs m=>bD m λn m=>eP (show bK σ.h (X σ) (.bytes bs) vy from rv) λb t hb=>λQ E ko Z Z S=>by
  have P9:b.size=bs.length:=by rw[<-hb,aq,bJ]
  have hvl:vs.toArray.size=xs.length:=by rw[bb, <-m.2.len]
  have hpn:q.1≠σ.h.objs.size:=dB (fW m.1);refine kW (lj iS.plain xl (iS.check _ _ _ _ _ _ _ _ (T:="list") ⟨_,m.1,rfl⟩ (xb _ _) ?_));show aX _ A.in1 (rY (.ref q.1) (.bytes b t) .none) _ _ σ.s;unfold rY;refine ak (kc (dG σ.s b t) ?_);refine qM (λVu=>aQ Vu (by simp[aew])) (λZ=>?_)
  refine ak (SD ?_);refine ak (bu (C6 ?_));refine qM (λVu=>aQ Vu (by decide+kernel)) (λZ=>?_)
  have l2:(σ.h.push {cls:=.type "bytes_iterator",data:=.fields #[.bytes b t,.int 0 0]}).get? q.1=aa {cls:=.type "list",dict:=ac,data:=.seq vs.toArray n,slots:=#[]}:=aI _ m.1;have W:=(zf (KBw.walks (prog:=prog) (w:=w) (A:=A.in1) hh σ.h.objs.size b t) vs.toArray).toS;refine aB ⟨plainId_quiet PySem.F.plain_extend_loop _,codeAny_extend_loopS W (by rw[hvl,P9];exact eo (a9 hl)) q.1 (by simpa using hpn) .none _ vs.toArray.size _ vs.toArray n rfl (aw ..) ⟨aP _,by rw[dA];exact⟨_,ck _ rfl,rfl,rfl⟩⟩ l2 ⟨rfl,λj v e=>.inl ⟨(cE.getElem?_eq_some_iff.mp e).1,e⟩⟩ λs' Vv c' hm hS' Vw=>?_⟩
  have kp:∀a o,σ.h.get? a=aa o->a≠q.1->s'.heap.get? a=aa o:=λa o e ne=>
   hm.heap a o (by simp only[aJ,ny,or_false,not_or];exact⟨ne,dB (fW e)⟩) (aI _ e)
  have sz:Vv.size=vs.length+b.size:=by rw[Vw.1,bb]
  have sp:=Hu (vs:=vs) (a8:=Vv) (by rw[sz];exact aw ..) λj v hj e=>by
   rcases Vw.2 j v e with⟨_,h2⟩ |⟨h1,_⟩
   ·rwa[dw] at h2
   ·rw[bb] at h1;omega
  have ru:=Bm (σ:=σ) (ns:=bs) (ws:=Vv.toList.drop vs.length) (by rw[dD,bJ,sz, <-P9,aU]) λj v ej=>by
   rw[Jb,eZ] at ej;rcases Vw.2 _ _ ej with⟨h1,_⟩ |⟨_,c,u,h1,h2⟩
   ·rw[bb] at h1;omega
   ·refine⟨c.toNat,u,?_,h2⟩
    rw[bb,aU] at h1;rw[<-hb,dh,eZ,h1];rfl
  have U:=S.upd (s:=s') (o':=.list (xs++bs.map λ(x:aj)=>.t (.int x))) he hq (λZ=>id) (λa ob e n=>kp a ob e n) (λa m=>by rw[show a=q.1 from m];exact⟨_,hS'⟩) hm.gens hm.os λH=>
   ⟨_,c',(by rw[<-sp];exact hS'),(m.2.append ru).mono λZ Z Z r=>r.eQ cK H λZ Z Z=>id⟩
  exact ko (.t .none) _ _ rfl U.1 U.2.any rfl
end
end
section
open PySem PySem.W PyProof.Rows PySem.SeqAt PySem.Builtin
theorem Kw{id:eS}{b:cE iq}{t:Tok}:Bytes.takeBufferQuiet? id (.bytes b t) 0=pure (aa (b,ac)):=by
 unfold Bytes.takeBufferQuiet? Bytes.takeBuffer?;rw[KBy.special_eq KBy.look_buffer,KBy.own_buffer];rw[pure_bind,pure_bind];have:(0==Bytes.fullReadOnly)=false:=by decide
 rw[this];rw[YK]
 kernel_rfl
section
theorem Bn{M:lS}{A:bW}{E:ao->aG->Prop}{s:aG}{β:Type}{n:aj}{f:aj->β->Sem (Jc β)}(I:aj->β->Prop){b0:β}{Q:β->aG->Prop}
 (step:∀i b,i<n->I i b->∀Q E,(∀b',I (i+1) b'->Q (jX b') s)->aX M A (f i b) Q E s) (h0:I 0 b0) (h:∀b,I n b->Q b s):aX M A (forIn [:n] b0 f) Q E s:=by
 have go:∀(k i:aj)(b:β),i+k=n->I i b->aX M A (forIn (ew i k) b f) Q E s:=by
  intro k
  induction k with
  |zero=>intro i b e hi;simp only[ag.range'_zero,qg];exact aB (h b (by rw[<-e];exact hi))
  |succ k ih=>
   intro i b e hi;rw[u5,gu];exact ak (step i b (by omega) hi _ _ λb' PR=>ih (i+1) b' (by omega) PR)
 have:=go n 0 b0 (by omega) h0
 simpa [UH,UI] using this
theorem oz{M:lS}{A:bW}{E:ao->aG->Prop}{s:aG}{a:aN}{iP:cE ao}{n:aj}{Q:ar (cE ao)->aG->Prop}(hl:IsL s.heap a iP n)(q:Q (aa iP) s):aX M A (seqItems? (.ref a)) Q E s:=by
 unfold seqItems?;exact ak (wpAny_load hl (aB q))
theorem rn{M:lS}{A:bW}{E:ao->aG->Prop}{s:aG}{Q:fP->aG->Prop}(q:Q () s):∀(l:ag (ao×ar ao))(keep:ag ao),(∀p∈l,p.2=ac)->aX M A (Bytes.joinLetGo l keep) Q E s
 |[],_,_=>aB q
 |(x,w)::r,keep,h=>
  by
   have:w=none:=h (x,w) (by simp)
   subst this;unfold Bytes.joinLetGo;refine ak ?_;refine wpAny_letGo (rn q r keep λp m=>h p (iG _ m))
theorem tP(sep:cE iq):∀(ps:ag (cE iq))(k:aj)(a8:cE iq),
 (((ps.zipIdx (k+1)).foldl (λout x=>(if x.2>0 then out++sep else out)++x.1) a8).toList.map bh)=a8.toList.map bh++ps.flatMap λp=>sep.toList.map bh++p.toList.map bh
 |[],k,a8=>by simp
 |p::ps,k,a8=>
  by
   rw[OF,gr,tP sep ps (k+1)];simp
theorem lD(sep x:ag aj):∀(r:ag (ag aj)),Mine.joined sep (x::r)=x++r.flatMap λp=>sep++p
 |[]=>by simp[Mine.joined]
 |y::r=>
  by
   show x++sep++Mine.joined sep (y::r)=_;rw[lD sep y r];simp
theorem Hv(sep:cE iq)(ps:ag (cE iq)):(Bytes.joined sep ps).toList.map bh=Mine.joined (sep.toList.map bh) (ps.map λp=>p.toList.map bh):=by
 cases ps with
 |nil=>rfl
 |cons p r=>
  simp only[bX];rw[lD];unfold Bytes.joined;rw[OF,gr,tP sep r 0];simp[gS]
theorem vY(sep x:ag aj):∀(r:ag (ag aj))(a:aj),r.foldl (· +·.length) (a+x.length+sep.length*r.length)=a+(Mine.joined sep (x::r)).length
 |[],a=>by simp[Mine.joined]
 |y::r,a=>
  by
   have h1:=vY sep y r (a+x.length+sep.length);rw[gr];have e:a+x.length+sep.length*(y::r).length+y.length=a+x.length+sep.length+y.length+sep.length*r.length:=by
    rw[aO,aex,aey];omega
   rw[e,h1];show _=a+(x++sep++Mine.joined sep (y::r)).length;simp only[ah];omega
theorem aaa{γ:Type}{A:cE ao}{f:ao->γ}{g:γ}{P:γ->Prop}:(∀x,A=#[x]->P (f x))->P g->P (match A with |#[x]=>f x |_=>g):=by
 obtain⟨l⟩:=A;intro h1 h2;cases l with
 |nil=>exact h2
 |cons x r=>
  cases r with
   |nil=>exact h1 x rfl
   |cons=>exact h2
noncomputable def Tr(l:ag (cE iq×Tok)):ag Value:=l.map λp=>.bytes p.1 p.2
theorem Hw{l:ag (cE iq×Tok)}{i:aj}{b:cE (cE iq)×ag (ao×ar ao)}(hi:i<l.length)(e:b=(((l.take i).map (·.1)).toArray,(l.take i).map λp=>(lU p.1 p.2,ac))):
 ((Tr l).toArray.getD i .none=.bytes (l[i]?.getD (#[],0)).1 (l[i]?.getD (#[],0)).2)/\(b.2.any λx=>x.1.onHeap)=false:=by
 subst e;refine⟨?_,?_⟩
 ·have:l[i]? =aa l[i]:=bz hi
  simp[Tr,cE.getD,hi]
 ·rw[mz]
  intro x m;refine bH (aT.mp m) λp Z z=>?_;subst z;exact dM
theorem Qa(xs:ag (cE iq)){a b:aj}(h:a<=b):xs.foldl (· +·.size) a<=xs.foldl (· +·.size) b:=by
 induction xs generalizing a b with
 |nil=>exact h
 |cons x xs ih=>exact ih (bN h _)
theorem Qb{l:ag (cE iq×Tok)}{m:aj}(hz:(l.map (·.1)).foldl (· +·.size) (m*l.length)<=16777216):Bytes.tooLong (cE.foldl (· +·.size) (m*((l.map (·.1)).toArray.size-1)) (l.map (·.1)).toArray)=false:=by
 refine KBy.tooLong_not ?_;rw[bb,ag.foldl_toArray']
 ·refine ai (Qa _ ?_) hz
  rw[aq];exact cm _ (lQ _ _)
 ·rfl
theorem Kx{l:ag (cE iq×Tok)}{i:aj}(hi:i<l.length):(((l.take i).map (·.1)).toArray.push (l[i]?.getD (#[],0)).1,((l.take i).map λp=>(lU p.1 p.2,(ac:ar ao)))++[(lU (l[i]?.getD (#[],0)).1 (l[i]?.getD (#[],0)).2,ac)])=
 (((l.take (i+1)).map (·.1)).toArray,(l.take (i+1)).map λp=>(lU p.1 p.2,ac)):=by
 have:l[i]? =aa l[i]:=bz hi
 rw[ag.take_add_one,this];simp only[Jd,ar.toList_some,br,bX,YL,ag.push_toArray]
theorem Vx{α:Type}{l:ag α}(h:l.length=1):∃p,l=[p]:=by
 cases l with
 |nil=>exact aQ h (dW 0).symm
 |cons p l=>
  cases l with
   |nil=>exact⟨p,rfl⟩
   |cons q l=>exact aQ (jf h) (dW _)
theorem Qc{A:bW}{E:ao->aG->Prop}{s:aG}{sep:cE iq}{t:Tok}{a:aN}{l:ag (cE iq×Tok)}{n:aj}{Q:ao->aG->Prop}(hl:IsL s.heap a (Tr l).toArray n)
 (q:∀b t k,b=Bytes.joined sep (l.map (·.1))->Q (.bytes b t) {s with toks:=k}) (szl:(Bytes.joined sep (l.map (·.1))).size<=jD) (hz:(l.map (·.1)).foldl (· +·.size) (sep.size*l.length)<=16777216):
 aX (bP prog w) A (Builtin.«bytes.join» ⟨[.bytes sep t,.ref a],[]⟩) (λfin s'=>∃v,fin=.done (.ret v)/\Q v s') E s:=by
 unfold Builtin.«bytes.join» Bytes.joinM;refine ak (eK (a:=(.bytes sep t,.ref a)) rfl ?_);dsimp only;refine ak ?_;unfold Bytes.joinItems;refine ak (kc (T:="list") ⟨_,hl,rfl⟩ ?_);refine EB (by decide) ?_
 refine aB ?_;refine ak (oz hl ?_);dsimp only;refine EB (by decide) ?_
 have Of:(Tr l).toArray.size=l.length:=by rw[bb];exact aq _
 refine aaa (P:=λq=>aX (bP prog w) A q (λfin s'=>∃v,fin=Fin.done (.ret v)/\Q v s') E s) (λx hA=>?_) ?_
 ·refine fJ (Vx ((aq _).symm.trans (av cE.size hA))) λp z=>?_
  subst z;cases hA;refine ak (kc (dG s p.1 p.2) ?_);refine EB (by decide) ?_
  exact ak (w8 (aB ⟨_,rfl,q _ _ s.toks (by simp[Bytes.joined])⟩))
 ·refine ak (Bn (λi st=>st=(((l.take i).map (·.1)).toArray,(l.take i).map λp=>(lU p.1 p.2,ac))) (λi b hi hI Q E hq=>?_) (by simp) λb hb=>?_)
  ·rw[Of] at hi
   refine gf (Hw hi hI) λg1 g2=>?_;refine ak (oz hl ?_);dsimp only;refine Cn (aY (by rw[g2];decide)) ?_
   rw[g1];refine ak (bu (eK Kw ?_));dsimp only;refine ak (oz hl ?_);dsimp only;refine Cn (aY (by simp)) ?_
   refine aB (hq _ ?_);subst hI;exact Kx hi
  ·rw[Of,nz] at hb
   subst hb;dsimp only;refine ak (eK (a:=sep) rfl ?_);refine Cn (aY (by rw[Qb hz];exact dM)) ?_
   refine ak (wpAny_mkBytes ?_ szl);refine ak (bu (Sx ?_));refine ak (rn ?_ _ _ (by intro p m;obtain⟨x,_,rfl⟩:=aT.mp m;rfl))
   exact aB ⟨_,rfl,q _ _ _ rfl⟩
end
theorem nq:Slot "bytes" "find" "bytes.find":=
 .of (owner:="bytes") (n:="find") (by rw[iA,fk];kernel_rfl) (by decide+kernel) (by decide+kernel) (by decide+kernel)
  (by first |exact .inl (by decide+kernel) |exact .inr (by decide+kernel)) (by rw[Ez];kernel_rfl)
theorem uh:X5 (.builtin "bytes.find")=pure (.type "method_descriptor"):=by show builtinType _=_;rw[UJ];kernel_rfl
theorem sH:entryFor table "bytes.find"=aa Builtin.«bytes.find»:=acZ (by kernel_rfl)
theorem ro(a b c d:ao):argsOk "bytes.find" ⟨[a,b,c,d],[]⟩:=by
 unfold argsOk;rw[signature?_of (id:="bytes.find") (n:=['d','n','i','f']) (o:=['s','e','t','y','b']) (by kernel_rfl) YM];kernel_rfl
theorem j3:Slot "bytes" "join" "bytes.join":=
 .of (owner:="bytes") (n:="join") (by rw[iA,fk];kernel_rfl) (by decide+kernel) (by decide+kernel) (by decide+kernel)
  (by first |exact .inl (by decide+kernel) |exact .inr (by decide+kernel)) (by rw[Ez];kernel_rfl)
theorem ui:X5 (.builtin "bytes.join")=pure (.type "method_descriptor"):=by show builtinType _=_;rw[UJ];kernel_rfl
theorem sI:entryFor table "bytes.join"=aa Builtin.«bytes.join»:=acZ (by kernel_rfl)
theorem rp(a b:ao):argsOk "bytes.join" ⟨[a,b],[]⟩:=by
 unfold argsOk;rw[signature?_of (id:="bytes.join") (n:=['n','i','o','j']) (o:=['s','e','t','y','b']) (by kernel_rfl) YM];kernel_rfl
theorem Bo(s sub:bQ)(hi:aj):∀(l:ag aj)(st:cE aj×aj),1<=st.fst.size->(forIn l st (iW s sub hi 1)).run.fst=st.fst
 |[],st,_=>rfl
 |a::l,st,h=>
  by
   rw[gu];unfold iW;rw[aL (by rintro ⟨⟨⟨h1,_⟩,_⟩,_⟩;omega)]
   exact Bo s sub hi l _ h
theorem occ_first(s sub:bQ)(hi:aj):∀(l:ag aj)(free:aj),(∀i∈l,free<=i)->
 (forIn l ((#[]:cE aj),free) (iW s sub hi 1)).run.fst.toList=((l.find? λi=>decide (i+sub.length<=hi)&&gc s sub i).toList)
 |[],free,_=>rfl
 |a::l,free,hf=>
  by
   rw[gu];have ha:free<=a:=hf a (fg ..);rw[o6]
   by_cases hc:a+sub.length<=hi/\gc s sub a=ae
   ·have e:(decide (a+sub.length<=hi)&&gc s sub a)=true:=by simp[hc]
    rw[e];unfold iW;rw[aA ⟨⟨⟨by simp,ha⟩,hc.1⟩,hc.2⟩]
    show(forIn l ((#[]:cE aj).push a,a+sub.length) (iW s sub hi 1)).run.fst.toList=_;rw[Bo s sub hi l _ (by simp)];rfl
   ·have e:(decide (a+sub.length<=hi)&&gc s sub a)=false:=by
     rw[EC]
     by_cases h1:a+sub.length<=hi
     ·right;simpa [h1] using hc
     ·left;simp[h1]
    rw[e];unfold iW;rw[aL (λh=>hc ⟨h.1.2,h.2⟩)];exact occ_first s sub hi l free λi Pz=>hf i (iG _ Pz)
theorem Ky{x:ag aj}{c k:aj}(h:x.findIdx? (· ==c)=aa k):uY ⟨x.toArray⟩ ⟨#[c]⟩ 0 (⟨x.toArray⟩ :bQ).length 1=[k]:=by
 rw[StrLaws.occ_eq,occ_first _ _ _ _ _ (λZ Z=>cF _)];have:((ew 0 ((⟨x.toArray⟩ :bQ).length+1-0)).find? λi=>decide (i+(⟨#[c]⟩ :bQ).length<=(⟨x.toArray⟩ :bQ).length)&&gc ⟨x.toArray⟩ ⟨#[c]⟩ i)=aa k:=by
  have hp:∀i,(decide (i+(⟨#[c]⟩ :bQ).length<=(⟨x.toArray⟩ :bQ).length)&&gc ⟨x.toArray⟩ ⟨#[c]⟩ i)=(x[i]? ==aa c):=by
   intro i;have e1:(⟨#[c]⟩ :bQ).length=1:=rfl;have e2:(⟨x.toArray⟩ :bQ).length=x.length:=rfl;rw[e1,e2];unfold gc;rw[e1]
   by_cases hi:i+1<=x.length
   ·have hx:x[i]? =aa x[i]:=bz (by omega)
    have:x.toArray.extract i (i+1)=#[x[i]]:=by
     apply nf.mp;simp only[ED,Ar];rw[show i+1-i=1 by omega,ag.take_one,o9,hx];rfl
    rw[this,hx];simp[hi]
   ·have hx:x[i]? =none:=pI (by omega)
    rw[hx];simp[hi]
  simp only[hp];rw[ag.findIdx?_eq_some_iff_getElem] at h;obtain⟨h1,h2,h3⟩:=h;rw[ag.find?_eq_some_iff_append];refine⟨by rw[bz h1];simpa using h2,ew 0 k,ew (k+1) (x.length-k),?_,?_⟩
  ·have:(⟨x.toArray⟩ :bQ).length+1-0=k+(1+(x.length-k)):=((aj.add_left_comm k 1 _).trans ((av (1+·) (i5 (a9 h1))).trans (bB 1 _))).symm
   rw[this, <-ag.range'_append_1,bB 1,u5,bM]
  ·intro i m
   have hi:i<k:=by simp[ag.mem_range'] at m;omega
   have:=h3 i hi
   rw[bz (by omega)]
   simpa using this
 rw[this];rfl
theorem yk(l w:ag aj)(b:aj):∀(f a:aj),b+1-(a+w.length)<f->n6 l w b f a=((be (b+1-(a+w.length))).map (· +a)).find? (λi=>(l.drop i).take w.length==w)
 |0,a,h=>by omega
 |f+1,a,h=>
  by
   unfold n6
   by_cases hc:a+w.length<=b
   ·rw[aA hc]
    have e:b+1-(a+w.length)=(b+1-(a+1+w.length))+1:=(EA hc).trans (av (· +1) ((av (b+1- ·) (cS a 1 w.length)).trans (aj.succ_sub_succ b (a+w.length))).symm);rw[e,ag.range_succ_eq_map,bX,o6,bM]
    by_cases q:((l.drop a).take w.length==w)=ae
    ·rw[aA q,q]
    ·rw[aL q,(aW.not_eq_true _▸q:((l.drop a).take w.length==w)=af),yk l w b f (a+1) (Et (ax (cX e.symm) h)),ba]
     congr 2;funext i;show _=i+1+a;omega
   ·rw[aL hc,show b+1-(a+w.length)=0 from GK (gY hc)]
    rfl
section
variable{A:bW}{σ:W}{O:aN->Prop}{x y:PV}{va vb vo vw:ao}{s:aG}{E:ao->aG->Prop}
theorem yl{n:bE}{t:Tok}:Bytes.bound? (aa (.int n t))=pure (aa n):=by
 unfold Bytes.bound?;show(ac0 (.int n t) "__index__" >>= _)=_;have e:ac0 (.int n t) "__index__"=gX (.type "int") "__index__":=rfl;rw[e,F.slot_int_index.lookup]
 kernel_rfl
set_option tactic.hygienic true in
theorem C7(x y:cE iq)(t1 t2 t3 t4:Tok)(a b:bE)(h:0<=a/\0<=b/\b<=x.size/\0<y.size):
 Gives (Builtin.«bytes.find» ⟨[.bytes x t1,.bytes y t2,.int a t3,.int b t4],[]⟩) (.int (match Bytes.find? x y a.toNat b.toNat with |some k=>(k:bE) |none=>-1)):=by
 refine .of_wp λM A E s Q hq=>?_;unfold Builtin.«bytes.find» Bytes.searchM;refine ak ?_;unfold Bytes.searchArgs;refine ak (eK (a:=(.bytes x t1,[.bytes y t2,.int a t3,.int b t4])) rfl ?_);refine ak (eK (show Bytes.bound? (aa (.int a t3))=_ from yl) ?_)
 refine ak (eK (show Bytes.bound? (aa (.int b t4))=_ from yl) ?_)
 refine ak (eK (show Bytes.buffer? _ (.bytes y t2)=pure (aa y) from YK) ?_)
 refine ak (aB ?_);refine ak (eK (a:=x) rfl ?_);refine aB ?_;have w1:(if a<0 then Max.max 0 (a+(x.size:bE)) else a)=a:=aL (by omega)
 have w2:Min.min (x.size:bE) (if b<0 then Max.max 0 (b+(x.size:bE)) else b)=b:=by rw[aL (by omega)];exact bE.min_eq_right h.2.2.1
 simp only[Jd,w1,w2];have key:((if b-a< ↑y.size then ac else aa (a.toNat,b.toNat):ar (aj×aj)).bind λp=>Bytes.find? x y p.1 p.2)=Bytes.find? x y a.toNat b.toNat:=by
  split
  ·rename_i Oh
   unfold Bytes.find?;rw[show b.toNat+1-(a.toNat+y.size)=0 from GK (cf.mp (by rw[bE.natCast_add,k6 h.1,k6 h.2.1];exact bE.lt_add_of_sub_left_lt Oh))];rfl
  ·rfl
 simp only[hW,xO];rw[key];split
 ·rename_i k hk
  rw[hk] at hq;exact ak (Sv (aB ⟨_,rfl,hq⟩))
 ·rename_i hk
  rw[hk] at hq;refine ak (w8 ?_);exact ak (Sv (aB ⟨_,rfl,hq⟩))
theorem Vy{x y:cE iq}{i:aj}:(x.extract i (i+y.size)==y)=(((x.toList.map bh).drop i).take (y.toList.map bh).length==y.toList.map bh):=by
 rw[eV,bT,bT,aq, <-X1, <-AF,Ja (λa b h=>Oz.mp h), <-nf,ED,Ar,aU,bJ]
theorem Hx{o wd:ag aj}{a b:bE}(r1:RV (.t (.bytes o)) vo σ)(r2:RV (.t (.bytes wd)) vw σ)(r3:RV (.t (.int a)) va σ)(r4:RV (.t (.int b)) vb σ):Gp (wq A (call (.builtin "bytes.find") [vo,vw,va,vb])) O σ (EN o wd a b σ.mu) RV:=
 .if λh0=>eP (show bK σ.h (X σ) (.bytes o) vo from r1) λx t1 hx=>eP (show bK σ.h (X σ) (.bytes wd) vw from r2) λy t2 hy=>iu r3 λt3=>iu r4 λt4=>by
  have Kz:x.size=o.length:=by rw[<-hx,aq,bJ]
  have hyl:y.size=wd.length:=by rw[<-hy,aq,bJ]
  have key:n6 o wd b.toNat (o.length+1) a.toNat=Bytes.find? x y a.toNat b.toNat:=by
   rw[yk _ _ _ _ _ (ux (IK (cG (bE.toNat_le.mpr h0.2.2.2.1) (ai h0.2.2.2.2 (eW _ _)))))];unfold Bytes.find?;rw[hyl, <-hx, <-hy];congr 1;funext i;rw[<-Vy,hy,hyl]
  rw[key];exact i8 λQ E q=>call_gives nq (dG _ _ _) sH (ro _ _ _ _) (C7 x y t1 t2 t3 t4 a b ⟨h0.1,h0.2.2.1,Kz.symm▸h0.2.2.2.1,hyl.symm▸h0.2.2.2.2⟩) (q _ _)
end
section
variable{A:bW}{σ:W}{O:aN->Prop}{x:PV}{vx v u va vo vw:ao}{E:ao->aG->Prop}{h:dK}{X':aN->Prop}{ts:ag T}{ss:ag (ag aj)}
theorem Qd{ts:ag T}{ss:ag (ag aj)}{vs:ag ao}(e:O8 ts=aa ss)(r:bF (bK h X') ts vs):∃l,vs=Tr l/\(l.map λp=>p.1.toList.map bh)=ss:=
 (r.ind (P:=λts vs=>∀ss,O8 ts=aa ss->∃l,vs=Tr l/\(l.map λp=>p.1.toList.map bh)=ss) (λss e=>⟨[],rfl,aM e⟩) λt ts v vs h r ih ss e=>by
  cases t with
  |bytes i=>
   exact cM (P:=λss=>∃l,v::vs=Tr l/\(l.map λp=>p.1.toList.map bh)=ss) e λE9 e=>eP (P:=λv=>∃l,v::vs=Tr l/\(l.map λp=>p.1.toList.map bh)=i::E9) h λb u hb=>
    (ih E9 e).elim λl z=>⟨(b,u)::l,av (lU b u::·) z.1,hb▸av (b.toList.map bh::·) z.2⟩
  |_=>exact lX e) ss e
theorem KA{ts:ag T}{ss:ag (ag aj)}{vs:ag ao}(e:tK ts=aa ss)(r:bF (bK h X') ts vs):∃l:ag (bQ×Tok),vs=Je l/\(l.map λp=>p.1.cps.toList)=ss:=
 (r.ind (P:=λts vs=>∀ss,tK ts=aa ss->∃l:ag (bQ×Tok),vs=Je l/\(l.map λp=>p.1.cps.toList)=ss) (λss e=>⟨[],rfl,aM e⟩) λt ts v vs h r ih ss e=>by
  cases t with
  |str i=>
   exact cM (P:=λss=>∃l:ag (bQ×Tok),v::vs=Je l/\(l.map λp=>p.1.cps.toList)=ss) e λE9 e=>ir (P:=λv=>∃l:ag (bQ×Tok),v::vs=Je l/\(l.map λp=>p.1.cps.toList)=i::E9) h λu=>
    (ih E9 e).elim λl z=>⟨(⟨i.toArray⟩,u)::l,av (aez ⟨i.toArray⟩ u::·) z.1,av (i::·) z.2⟩
  |_=>exact lX e) ss e
theorem C8{sep:ag aj}(r1:RV (.t (.bytes sep)) vx σ)(r2:jA σ (.list ts) va)(hb:O8 ts=aa ss)(hs:sep.length<=100):Gp (wq A (call (.builtin "bytes.join") [vx,va])) O σ (jL (Mine.joined sep ss) σ.mu) RV:=
 .if λhlen=>jM r2 λb us n l1 r3=>eP (show bK σ.h (X σ) (.bytes sep) vx from r1) λx t hx=>by
  obtain⟨ls,rfl,e2⟩:=Qd hb r3;have ej:(Bytes.joined x (ls.map (·.1))).toList.map bh=Mine.joined sep ss:=by rw[Hv,hx, <-e2,ba];rfl
  have Kz:x.size=sep.length:=by rw[<-hx,aq,bJ]
  have Of:(Bytes.joined x (ls.map (·.1))).size=(Mine.joined sep ss).length:=by rw[<-ej,aq,bJ]
  refine uG (Bytes.joined x (ls.map (·.1))) ej λQ E q=>kW (lj j3.plain sI (j3.check _ _ _ _ _ _ _ _ (T:="bytes") (dG _ _ _) (rp _ _) (e9 (Qc (Q:=Q) (E:=E) l1 (λb t k e=>by subst e;exact q _ _) (by rw[Of];exact eo hlen) ?_) (λfin s' x=>by obtain⟨v,rfl,z⟩:=x;exact z) λZ Z x=>x)))
  cases ls with
  |nil=>simp
  |cons p r=>
   have e:((p::r).map (·.1)).foldl (· +·.size) (x.size*(p::r).length)=x.size+(Mine.joined sep ss).length:=by
    have:=vY sep (p.1.toList.map bh) (r.map λp=>p.1.toList.map bh) x.size
    rw[<-e2];simp only[bX] at this ⊢;rw[<-this,gr,UK,UK];simp only[aq,bJ,aO];rw[<-Kz];congr 1;rw[aex,aey];omega
   rw[e,Kz];have:bp=1000000:=rfl
   omega
theorem vZ:∀(ps:ag bQ)(a8:cE aj),(ps.foldl (λa8 p=>a8++(#[]:cE aj)++p.cps) a8).toList=a8.toList++(ps.map (·.cps.toList)).flatMap λp=>[]++p
 |[],a8=>by simp
 |p::ps,a8=>
  by
   rw[gr,vZ ps];simp
theorem zh(ps:ag bQ):(CA ⟨#[]⟩ ps).cps.toList=Mine.joined [] (ps.map (·.cps.toList)):=by
 cases ps with
 |nil=>rfl
 |cons p r=>
  simp only[bX];rw[lD];show(r.foldl _ p.cps).toList=_;exact vZ r p.cps
theorem Qe:∀(xs:ag bQ)(a:aj),xs.foldl (λn x=>n+x.length+(⟨([]:ag aj).toArray⟩ :bQ).length) a=a+(Mine.joined [] (xs.map (·.cps.toList))).length:=by
 have tj:∀(xs:ag (ag aj)),(Mine.joined [] xs).length=(xs.map jx).sum:=λxs=>by
  cases xs with
  |nil=>rfl
  |cons x r=>rw[lD];simp[ag.length_flatMap]
 intro xs;rw[tj]
 induction xs with
 |nil=>exact λa=>rfl
 |cons x xs ih=>intro a;rw[gr,ih];simp[bQ.length];omega
theorem C9(r1:RV (.t (.str [])) vx σ)(r2:jA σ (.list ts) va)(hb:tK ts=aa ss):Gp (wq A (call (.builtin "str.join") [vx,va])) O σ (xY (Mine.joined [] ss) σ.mu) RV:=
 .if λhlen=>jM r2 λb us n l1 r3=>sA r1 λt=>by
  refine bH (KA hb r3) λls z0 e2=>?_;subst z0;have em:(ls.map (·.1)).map (·.cps.toList)=ss:=by rw[ba];exact e2
  have ej:(CA ⟨#[]⟩ (ls.map (·.1))).cps.toList=Mine.joined [] ss:=by rw[zh,em]
  have hz:Str.tooLong (((ls.map (·.1)).toArray.foldl (λn x=>n+x.length+(⟨([]:ag aj).toArray⟩ :bQ).length) 0))=false:=by
   rw[ag.foldl_toArray,Qe,bM,em];exact aY (eO.mpr (eo hlen))
  refine vH λQ E q=>xa AI (w7 _ _ _) PySem.F.entry_str_join (PySem.F.args_str_join_2 _ _) (meets_str_join_list ⟨([]:ag aj).toArray⟩ t b ls hz) ⟨l1.isList,?_⟩;have fin:∀(x:bQ)(u tk:Tok),x.cps.toList=Mine.joined [] ss->Q (.str x u) {σ.s with toks:=tk}:=λx u tk e=>by
   have:x=⟨(Mine.joined [] ss).toArray⟩:=by rw[<-e]
   rw[this];exact q _ _
  have gl:(Made.str (CA ⟨([]:ag aj).toArray⟩ (ls.map (·.1)))).post Q σ.s:=⟨by
   rw[show(CA ⟨([]:ag aj).toArray⟩ (ls.map (·.1))).length=(Mine.joined [] ss).length by rw[<-ej,bJ];rfl]
   exact eo hlen,fin _ _ _ ej⟩
  match ls,e2,gl with
  |[p],e2,_=>exact fin p.1 p.2 σ.s.toks (by rw[<-e2];rfl)
  |[],_,gl=>exact gl
  |_::_::_,_,gl=>exact gl
theorem Dc{o:ag aj}{c k:aj}(r1:RV (.t (.str o)) vo σ)(r2:RV (.t (.str [c])) vw σ)(hk:o.findIdx? (· ==c)=aa k):Gp (wq A (call (.builtin "str.index") [vo,vw])) O σ (.ok (.t (.int k)) σ.mu) RV:=
 sA r1 λt1=>sA r2 λt2=>i8 λQ E q=>call_gives As (w7 _ _ _) PySem.F.entry_str_index (PySem.F.args_str_index_2 _ _) (gives_str_index _ _ t1 t2 k [] (Ky hk)) (q _ _)
end
end
section
open PySem PySem.W PyProof.Rows PySem.SeqAt
noncomputable def Fb(P:aS):Frag:=[147,146,285,284,397,396,419,418,717,716,527,526].filterMap λa=>((BH P).get? a).map λo=>(a,o)
theorem zj{h:dK}{K:Frag}(e:∀p∈K,h.get? p.1=aa p.2):K.In h:=by
 intro a o hl
 induction K with
 |nil=>cases hl
 |cons p r ih=>
  rw[OC] at hl;split at hl
  ·rename_i q
   cases hl;rw[bT.mp q];exact e p (by simp)
  ·exact ih (λp m=>e p (iG _ m)) hl
theorem Vz{P:aS}{h:dK}(k:∀b o,(BH P).get? b=aa o->h.get? b=aa o):(Fb P).In h:=by
 refine zj λp m=>?_;unfold Fb at m;refine bH (r9.mp m) λa Z e=>?_;simp only[ed] at e;obtain⟨o,e,rfl⟩:=e;exact k _ _ e
noncomputable def Dd:ag (aj×aj):=(be 6).flatMap λa=>(be 6).map λb=>(a,b)
theorem KC(P:aS):(be 6).map (λc=>isIn (Fb P) (.ref (cJ c)) (cJ c))=(be 6).map (λZ=>ae):=by kernel_rfl
theorem KG(P:aS):Dd.map (λp=>kin_not (Fb P) (cJ p.1) (cJ p.2))=Dd.map (λp=>p.1 != p.2):=by kernel_rfl
theorem Qf(P:aS):(be 6).map (λc=>(plainGet (Fb P) (cJ c) "__class__",hasDictIn (Fb P) (cJ c),findIn (Fb P) (.ref (cJ c)) "__class__",specialIn (Fb P) (.builtin "object.__class__") "__get__",takesIn (Fb P) (.builtin "object.__class__"),mroIn (Fb P) (cJ c) (.type "object")))=
 (be 6).map (λZ=>(ae,ae,aa (aa (.builtin "object.__class__")),aa (aa (.builtin "getset_descriptor.__get__")),aa ae,aa ae)):=by kernel_rfl
theorem Qg(P:aS):(be 6).map (λc=>["bool","int","list","dict"].map λt=>kin_notT (Fb P) (cJ c) t)=(be 6).map (λZ=>["bool","int","list","dict"].map λZ=>ae):=by kernel_rfl
theorem Bp(P:aS):(be 6).map (λc=>(isNotIn (Fb P) "list" (cJ c),isNotIn (Fb P) "dict" (cJ c)))=(be 6).map (λZ=>(ae,ae)):=by kernel_rfl
noncomputable def KH(P:aS)(k:aj):Value:=((AS.find? (·.2==k)).bind λp=>jT P (xp p.1)).getD .none
theorem VA(P:aS):AS.map (λp=>jT P (xp p.1))=AS.map (λp=>aa (KH P p.2)):=by kernel_rfl
theorem aac(P:aS):(be 6).map (KH P)=(be 6).map λk=>.ref (cJ k):=by kernel_rfl
theorem KJ(P:aS):KH P 10=.type "bool":=by kernel_rfl
theorem KL(P:aS):KH P 11=.type "int":=by kernel_rfl
theorem c12(P:aS):KH P 12=.type "list":=by kernel_rfl
theorem c13(P:aS):KH P 13=.type "dict":=by kernel_rfl
section
variable{A:bW}{σ:W}{O:aN->Prop}{v:ao}{t:T}{b:aW}{k:aj}
theorem list_cls{prog:j6}{w:fA}{a:aN}{A:bW}{P:ao->aG->Prop}{Q:ar ao->aG->Prop}{s:aG}(p:∃o,s.heap.get? a=aa o/\o.cls=.type "list")(h:Q (aa (.type "list")) {s with toks:=s.toks+1}):aX (bP prog w) A (SE (.ref a) "__class__") Q P s:=by
 refine bH p λo h1 h2=>?_;obtain⟨hh,g,d,t,os⟩:=s;exact class_attr_list h1 h2 h
theorem dict_cls{prog:j6}{w:fA}{a:aN}{A:bW}{P:ao->aG->Prop}{Q:ar ao->aG->Prop}{s:aG}(p:∃o,s.heap.get? a=aa o/\o.cls=.type "dict")(h:Q (aa (.type "dict")) {s with toks:=s.toks+1}):aX (bP prog w) A (SE (.ref a) "__class__") Q P s:=by
 refine bH p λo h1 h2=>?_;obtain⟨hh,g,d,t,os⟩:=s;exact class_attr_dict h1 h2 h
theorem sJ{M:lS}{h:dK}{a:aN}{o:fE}(e:h.get? a=aa o):Looks M h (X5 (.ref a)) o.cls:=looks_typeIn (K:=[(a,o)]) (zj (by simpa using e)) (by simp[typeIn])
theorem KN(r:bK σ.h (X σ) t v)(e:mL t k=aa b):Gp (wq A (call (.builtin "isinstance") [v,KH w.params k])) O σ (.ok (.t (.bool b)) σ.mu) RV:=by
 refine .of λS=>CJ (v:=.bool b) rfl λQ E q=>?_;have qe:∀{c:aW} tk,aa c=aa b->Q (.bool c) {σ.s with toks:=tk}:=λtk e=>aM e▸q tk
 have q0:∀{c:aW},aa c=aa b->Q (.bool c) σ.s:=λe=>qe σ.s.toks e;have KI:(Fb w.params).In σ.h:=Vz S.base;have co:∀{k},k<6->KH w.params k=.ref (cJ k):=λh=>map_eq (aac w.params) (six h);cases t with
 |bool c=>
  rw[show v=.bool c from r]
  refine cO e (λhk e=>?_) λZ e=>by cases e
  rcases hk with rfl |rfl
  ·rw[KJ];exact IsiPair.bool_bool (q0 e)
  ·rw[KL];exact IsiPair.bool_int (q0 e)
 |int i=>
  refine jm r λu=>cO e (λhk e=>?_) λZ e=>cO e (λhk e=>?_) λZ e=>by cases e
  ·subst hk;rw[KJ];exact IsiPair.int_bool (qe _ e)
  ·subst hk;rw[KL];exact IsiPair.int_int (q0 e)
 |list ts=>
  refine gj r λa vs n Z l1 Z=>cO e (λhk e=>?_) λZ e=>cO e (λhk e=>?_) λZ e=>by cases e
  ·subst hk;rw[c12];exact IsiPair.list_list l1 rfl (q0 e)
  ·rcases hk with rfl |rfl |hk
   ·rw[KJ];exact IsiPair.list_bool l1 rfl (qe _ e)
   ·rw[KL];exact IsiPair.list_int l1 rfl (qe _ e)
   ·rw[co hk]
    exact isn_call (P:=λh=>∃o,h.get? a=aa o/\o.cls=.type "list") KI (λM=>sJ l1) (av dQ (map_eq (Bp w.params) (six hk))) (by simp) ⟨_,l1,rfl⟩ (λp h=>list_cls p h) (qe _ e)
 |dict ts=>
  refine kn r λa vs Z nb dr Z=>dr.elim λK Z knd tk ks Z Z dd Z=>?_;refine ue dd λo es ep h1 h2 Z=>?_;have h2:=h2.1;refine cO e (λhk e=>?_) λZ e=>cO e (λhk e=>?_) λZ e=>by cases e
  ·subst hk;rw[c13];exact IsiPair.dict_dict h1 h2 (q0 e)
  ·rcases hk with rfl |rfl |rfl |hk
   ·rw[KJ];exact IsiPair.dict_bool h1 h2 (qe _ e)
   ·rw[KL];exact IsiPair.dict_int h1 h2 (qe _ e)
   ·rw[c12];exact IsiPair.dict_list h1 h2 (qe _ e)
   ·rw[co hk]
    exact isn_call (P:=λh=>∃o,h.get? a=aa o/\o.cls=.type "dict") KI (λM=>h2▸sJ h1) (av ua (map_eq (Bp w.params) (six hk))) (by simp) ⟨_,h1,h2⟩ (λp h=>dict_cls p h) (qe _ e)
 |inst c ts=>
  refine qV r λa dx vs Z Z I Z=>cO e (λhc e=>?_) λZ e=>by cases e
  refine fJ (id I) λo J=>?_;refine fJ I.at2 λod h1=>?_;have IA:InstAt σ.h a o (cJ c) (aa od):=⟨J.at_,J.cls,by unfold notCls;cases hd:o.data<;>first |rfl |exact aQ hd (J.data _),by rw[J.dict];exact h1⟩
  have g:=map_eq (Qf w.params) (six hc);have g1:=av (·.1) g;have g2:=av (·.2.1) g;have g3:=av (·.2.2.1) g;have g4:=av (·.2.2.2.1) g;have g5:=av (·.2.2.2.2.1) g;have g6:=av (·.2.2.2.2.2) g;have T:∀t:eS,t∈["bool","int","list","dict"]->X5 (.type t)=pure (.type "type")->aa af=aa b->aX (bP prog w) A (call (.builtin "isinstance") [.ref a,.type t]) Q E σ.s:=λt m ht e=>by
   exact kin_callT KI IA (map_eq (map_eq (Qg w.params) (six hc)) m) ht g1 g2 g3 g4 g5 g6 (qe _ e)
  refine cO e (λhk e=>?_) λZ e=>cO e (λhk e=>?_) λZ e=>by cases e
  ·rw[co hk]
   by_cases z:c=k
   ·subst z
    exact isi_call KI (λM=>J.cls▸sJ J.at_) (map_eq (KC w.params) (six hc)) (by simp) (q0 ((av aa (dJ c).symm).trans e))
   ·have m:(c,k)∈Dd:=gT.mpr ⟨c,six hc,aT.mpr ⟨k,six hk,rfl⟩⟩
    exact kin_callC KI IA (by rw[map_eq (KG w.params) m];exact m9.mpr z) g1 g2 g3 g4 g5 g6 (qe _ ((av aa (aD.mpr z).symm).trans e))
  ·rcases hk with rfl |rfl |rfl |rfl
   ·rw[KJ];exact T _ (by decide) (by first |kernel_rfl |rfl) e
   ·rw[KL];exact T _ (by decide) (by first |kernel_rfl |rfl) e
   ·rw[c12];exact T _ (by decide) (by first |kernel_rfl |rfl) e
   ·rw[c13];exact T _ (by decide) (by first |kernel_rfl |rfl) e
 |_=>cases e
end
section
variable{C:Calls}{d:aj}{cx:Cx}{a:bV}{X':E}{p p' pos:Pos}{x c:bQ}{kk:aj}{σ:W}{α β:Type}{R:α->β->W->Prop}{T':PT β}{O:aN->Prop}
theorem Gp.val{α β:Type}{R:α->β->W->Prop}{T':PT β}{a:α}{b:β}(x:R a b σ)(k:∀Q E,Q b σ.s->T' Q E σ.s):Gp T' O σ (.ok a σ.mu) R:=λQ E ko Z Z S=>k Q E (ko a b σ rfl S .refl x)
theorem KP(P:aS):jT P (xp [105,115,105,110,115,116,97,110,99,101])=aa (.builtin "isinstance"):=by kernel_rfl
theorem zk{i:eS}{M:lS}{A:bW}{s:aG}{Q:Keeper->aG->Prop}{P:ao->aG->Prop}(q:Q jz s):aX M A (xM (.builtin i)) Q P s:=aB q
theorem KQ(hg:glob cx x=ae)(hx:qt x [105,115,105,110,115,116,97,110,99,101]=ae)(hc:glob cx c=ae)(hk:lk AS c=aa kk)(ha:fb C d cx a X'):fb C d cx (.Call (.Name x p) [a,.Name c p'] [] pos) (.hZ X' kk):=by
 cases mQ hx;have hu:jT w.params c=aa (KH w.params kk):=by obtain⟨p,hp,rfl,rfl⟩:=ow hk;exact map_eq (VA w.params) hp
 refine gp (λ{k au σ} z e=>.of λS=>?_) (λZ=>rfl) (λau mu=>.inl ?_) (λZ Z=>rfl) λZ Z=>rfl
 ·have e0:nc pos (ig [a,.Name c p'] k.env)=nc pos [(af,eval a k.env),(af,eval (.Name c p') k.env)]:=by rw[ha.star];rfl
  refine Gp.sim (T:=wq k.A (tF pos (.builtin "isinstance") [] (nc pos (ig [a,.Name c p'] k.env)) [])) ?_ λQ E q=>mH rfl (gF e.st S (z.cx▸hg) (KP w.params) q);rw[e0];refine cw (R:=λx vs τ=>∃v,vs=[v,KH w.params kk]/\RV x v τ) rfl (λτ Z Q E q=>zk q) ?_ λx vs τ P y=>.dO λt ht=>?_
  ·have sp:t8 (nc pos [(af,eval a k.env),(af,eval (.Name c p') k.env)])=(do let v <-eval a k.env;let here <-(pure [v]:Sem (ag ao));return here++(<-jZ here (do let v <-eval (.Name c p') k.env;let here <-(pure [v]:Sem (ag ao));return here++(<-jZ here (pure []))))):=rfl
   rw[sp];refine(ha.v z e).ret λx v τ P r=>.of λS'=>.val (b:=[v,KH w.params kk]) ⟨v,rfl,r⟩ λQ E q=>?_;refine ak (aB (ak (bu (ak (gF e.st S' (z.cx▸hc) hu (ak (aB (ak (bu (aB (aB ?_)))))))))));exact aB q
  ·obtain⟨v,rfl,r⟩:=y
   cases fK ht;cases hb:mL t kk with
   |none=>exact .aK
   |some b=>exact KN r hb
 ·show(ev C X' au mu).bind (λx mu=>dO x.t? λv=>bS (mL v kk) mu)=((ev C X' au mu).bind _).bind _
  rw[<-Res.Cr];congr 1;funext x mu;rw[vF];congr 1;funext v;cases mL v kk<;>rfl
end
section
variable{A:bW}{σ:W}{O:aN->Prop}{E:ao->aG->Prop}{s:aG}{X':aN->Prop}{h h':dK}{vx:ao}
theorem Hy:gX (.type "list") "keys"=pure none:=by rw[iA,fk];kernel_rfl
theorem Qh{a:aN}{xs:cE ao}{k:aj}{Q:ar ao->aG->Prop}(hx:s.heap.get? a=aa {cls:=.type "list",dict:=ac,data:=.seq xs k,slots:=#[]})(hA:A.handled=ac)
 (h:∀h' tk,(∀b o,s.heap.get? b=aa o->h'.get? b=aa o)->Q ac {s with heap:=h',toks:=tk}):aX (bP prog w) A (SE (.ref a) "keys") Q E s:=by
 obtain⟨hp,g,d,tk,os⟩:=s;have hT:∀A4,(⟨hp,g,d,A4,os⟩ :aG).TypeIs (.ref a) "list":=λZ=>⟨_,hx,rfl⟩;have f1:=sub_AttributeError;have f3:=F.slot_list_getattribute.lookup;have f4:=F.slot_list_getattribute.bind (.ref a);have f5:=am_list_getattr_none;unfold SE getAttrBy? getAttrBy
 repeat (any_goals (first |assumption |exact hT _ |((with_reducible show aX _ _ (call (ao.builtin "list.__getattribute__") _ _) _ _ _);refine xa F.slot_list_getattribute (hT _) am_entry_list_getattribute (F.args_list_getattribute_2 _ _) (meets_getattribute_miss_list a xs k #[] "keys" _ Hy (by decide+kernel)) ⟨hx,hA,λh' A4 e Ts=>?_⟩) |wp_step))
 refine gU Ts.there λt' u' he=>?_;show aX _ _ (X6 _ _ _ _ _ _ _) _ _ _;unfold X6
 repeat (any_goals (first |assumption |wp_step))
 exact h _ _ Ts.keeps
theorem pA:plainId "dict.update.loop"=true:=by decide+kernel
theorem ym:entryFor table "dict.update.loop"=aa Builtin.«dict.update.loop»:=entryFor_of_fast (by kernel_rfl)
noncomputable abbrev kz(h:dK)(X:aN->Prop)(r:ag ao)(q:ag (bQ×ao)):Prop:=bF (λx p=>∃t u n,x=.ref t/\¬X t/\IsT h t #[.str p.1 u,p.2] n) r q
theorem kz.mono{X' aad:aN->Prop}{r:ag ao}{q:ag (bQ×ao)}(k:∀b o,¬X' b->h.get? b=aa o->¬aad b/\h'.get? b=aa o)(y:kz h X' r q):kz h' aad r q:=
 bF.mono (λZ Z Z=>λq9=>ue q9 λt u n e nx it=>⟨t,u,n,e,(k _ _ nx it).1,(k _ _ nx it).2⟩) y
noncomputable def yn(xs q:ag (bQ×ao)):ag (bQ×ao):=q.foldl (λa p=>o7 a p.1 p.2) xs
theorem De(xs:ag (bQ×ao))(k:bQ)(v:ao):(o7 xs k v).length<=xs.length+1:=by
 unfold o7;split
 ·rw[aq];omega
 ·rw[ah];exact aP _
theorem KR{R:X7->aG->Prop}{D it l:aN}{n:aj}{all:ag ao}(hA:A.handled=ac)(h1:D≠it)(h2:l≠D)(h3:l≠it):∀{rest:ag ao}{q:ag (bQ×ao)}(i:aj)(xs:ag (bQ×ao))(s:aG),all.drop i=rest->kz s.heap (λb=>b=D\/b=it) rest q->
 s.heap.DictOf (strKind prog w) D xs->s.heap.IsListIter it l i->IsL s.heap l all.toArray n->xs.length+q.length<=jD->
 (∀s',s'.heap.DictOf (strKind prog w) D (yn xs q)->(∀b o,b≠D->b≠it->s.heap.get? b=aa o->s'.heap.get? b=aa o)->s'.gens=s.gens->s'.os=s.os->R (.ok (.ret .none)) s')->
 mA (bP prog w) A (.builtin "dict.update.loop" ⟨[.ref D,.ref it,rawInt i,.none],[]⟩) R s:=by
 intro rest
 induction rest with
 |nil=>
  intro q i xs s hr hp hd hi hl hz hR;cases q with
  |cons=>exact hp.elim
  |nil=>
   refine codeAny_builtin ym ?_;rw[pH pA _];show aX _ A.in1 (NZ (.ref it) >>= _) _ _ s;have hx:all.toArray[i]? =none:=by
    have:all.length<=i:=GL.mp hr
    simp[this]
   refine ak (OG (by exact hA) hi ⟨_,hl,rfl,n,rfl⟩ hx λh' he=>?_)
   show aX _ _ (aeA D [] >>= _) _ _ _;exact ak (aB (aB (hR _ (hd.extBut he h1) (λb o hb PR e=>he b o PR e) rfl rfl)))
 |cons x rest ih=>
  intro q i xs s hr hp hd hi hl hz hR;cases q with
  |nil=>exact hp.elim
  |cons p q=>
   refine ue hp.1 λt u m z0 nx ht=>?_;subst z0;have hp:=hp.2;refine codeAny_builtin ym ?_;rw[pH pA _];show aX _ A.in1 (NZ (.ref it) >>= _) _ _ s;have hx:all.toArray[i]? =aa (.ref t):=by
    have:all[i]? =aa (.ref t):=by rw[<-o9,hr];rfl
    simpa using this
   refine ak (N0 hi ⟨_,hl,rfl,n,rfl⟩ hx λgZ aae sb=>?_);have k₁:∀b o,b≠it->s.heap.get? b=aa o->gZ.get? b=aa o:=λb o hb e=>(sb.2 b hb).trans e;have Tt:=k₁ t _ (λe=>nx (.inr e)) ht;show aX _ _ (cN [.ref t] (tryCatch (u6 (.ref t)) _ >>= _) >>= _) _ _ _;refine ak (bu (ak (wpAny_tryCatch ?_)));unfold u6;refine ak (kc ⟨_,Tt,rfl⟩ ?_);rw[aA (by decide)]
   refine ak (wpAny_seqItems Tt rfl (aB ?_));show aX _ _ (cN [aez p.1 u,p.2] (xK D (.str p.1 u) p.2)) _ _ _;have Fc:gZ.DictOf (strKind prog w) D xs:=hd.sameBut sb h1;refine bu (uw (XZ prog w _ u) Fc (λpN aaf KS=>?_) (by simp only[aO] at hz;omega))
   have Df:∀b o,b≠D->gZ.get? b=aa o->pN.get? b=aa o:=λb o hb e=>(KS.2 b hb).trans e;refine aB ⟨plainId_quiet pA _,?_⟩;refine ih (i+1) _ _ (by rw[<-dP,hr];rfl) (kz.mono (λb o nb e=>⟨nb,Df b o (λz=>nb (.inl z)) (k₁ b o (λz=>nb (.inr z)) e)⟩) hp) aaf ?_ (Df l _ h2 (k₁ l _ h3 hl)) ?_ λs' a1 a2 a3 a4=>hR s' a1 (λb o hb PR e=>a2 b o hb PR (Df b o hb (k₁ b o PR e))) a3 a4
   ·refine bH aae λo e1 e2=>?_
    exact⟨o,Df it o (Ne.symm h1) e1,e2⟩
   ·have:=De xs p.1 p.2
    simp only[aO] at hz;omega
theorem Hz{xs:ag (bQ×ao)}{k:bQ}{v:ao}(h:(xs.map (·.1)).Nodup):((o7 xs k v).map (·.1)).Nodup:=by
 unfold o7;split
 ·rw[ba]
  have:((λp:bQ×ao=>p.1) ∘λkv=>if kv.1=k then(kv.1,v) else kv)=λp=>p.1:=by
   funext p;simp only[Function.comp];split<;>rfl
  rw[this];exact h
 ·rename_i hk
  rw[br,ub];refine⟨h,by simp,λa ha b hb e=>?_⟩
  simp only[bX,YL,aC] at hb;subst hb;subst e;refine bH (aT.mp ha) λp hp z0=>?_;subst z0;exact hk (OH.mpr ⟨p,hp,by simp⟩)
theorem pairs_at{ts:ag T}{kvs:ag (T×T)}{vs:ag ao}(e:pairs ts=aa kvs)(hk:(strKeys kvs).isSome=ae)(r:bF (bK h X') ts vs):
 ∃q:ag (bQ×ao),kz h (λb=>h.get? b=ac) vs q/\kvs.map (·.1)=q.map (λp=>T.str p.1.cps.toList)/\bF (λp=>bK h X' p.2) kvs (q.map (·.2)):=
 (r.ind (P:=λts vs=>∀kvs,pairs ts=aa kvs->(strKeys kvs).isSome=ae->∃q:ag (bQ×ao),kz h (λb=>h.get? b=ac) vs q/\kvs.map (·.1)=q.map (λp=>T.str p.1.cps.toList)/\bF (λp=>bK h X' p.2) kvs (q.map (·.2)))
  (λkvs e hk=>aM e▸⟨[],trivial,rfl,trivial⟩) λx ts v vs rx r ih kvs e hk=>by
  have hx:∃a b,x=.tup [a,b]:=by
   cases x with
   |tup l=>
    cases l with
     |nil=>exact lX e
     |cons a l=>
      cases l with
       |nil=>exact lX e
       |cons b l=>
        cases l with
         |nil=>exact⟨a,b,rfl⟩
         |cons c l=>exact lX e
   |_=>exact lX e
  refine gU hx λa b e0=>?_;subst e0;refine bH (ed.mp e) λKU e' z0=>?_;subst z0;cases a with
  |str s=>
   have KW:(strKeys KU).isSome=true:=ar.isSome_map.symm.trans (show((strKeys KU).map (s::·)).isSome=ae from hk)
   refine nB (ih KU e' KW) λq q1 q2 q3=>?_;refine iY (P:=λv=>∃q:ag (bQ×ao),kz h (λb=>h.get? b=ac) (v::vs) q/\((T.str s,b)::KU).map (·.1)=q.map (λp=>T.str p.1.cps.toList)/\bF (λp=>bK h X' p.2) ((T.str s,b)::KU) (q.map (·.2))) rx λt us n Z ht r1=>?_;revert ht;refine bF.two r1 λu1 u2 p1 p2 ht=>?_;refine fJ ((show ∃k,u1=.str ⟨s.toArray⟩ k from p1)) λtk z0=>?_;subst z0
   exact⟨(⟨s.toArray⟩,u2)::q,⟨⟨t,tk,n,rfl,(λz=>lX (z.symm.trans ht)),ht⟩,q1⟩,av (T.str s::·) q2,p2,q3⟩
  |_=>exact Yf hk) kvs e hk
theorem KX{q:ag (bQ×ao)}:∀{kvs:ag (T×T)}{a8:ag (T×T)}{ks:ag bQ}{vs:ag ao},kvs.map (·.1)=q.map (λp=>T.str p.1.cps.toList)->bF (λp=>bK h X' p.2) kvs (q.map (·.2))->
 a8.map (·.1)=ks.map (λs=>T.str s.cps.toList)->ks.length=vs.length->ks.Nodup->bF (λp=>bK h X' p.2) a8 vs->
 ∃(Hk:ag bQ) (vs':ag ao),(putAll a8 kvs).map (·.1)=Hk.map (λs=>T.str s.cps.toList)/\Hk.length=vs'.length/\Hk.zip vs'=yn (ks.zip vs) q/\bF (λp=>bK h X' p.2) (putAll a8 kvs) vs':=by
 induction q with
 |nil=>
  intro kvs a8 ks vs e1 _ e el nd r;cases kvs with
  |nil=>exact⟨ks,vs,e,el,rfl,r⟩
  |cons=>cases e1
 |cons p q ih=>
  intro kvs a8 ks vs e1 r1 e el nd r;cases kvs with
  |nil=>cases e1
  |cons a kvs=>
   obtain⟨k,t⟩:=a;refine gf (cg e1) λe0 e2=>?_;cases (show k=T.str p.1.cps.toList from e0)
   obtain⟨Hk,vs',z1,z2,z3,z4⟩:=A8 (λs:bQ=>T.str s.cps.toList) yh (key:=p.1) r1.1 e el nd r;have nd':Hk.Nodup:=by
    have:((Hk.zip vs').map (·.1)).Nodup:=by
     rw[z3];refine Hz ?_;rw[u4 (cX el)];exact nd
    rwa[u4 (cX z2)] at this
   obtain⟨ks2,vs2,y1,y2,y3,y4⟩:=ih e2 r1.2 z1 z2 nd' z4;exact⟨ks2,vs2,y1,y2,by rw[y3,z3];rfl,y4⟩
theorem Dh{ts:ag T}{kvs:ag (T×T)}(hh:A.handled=ac)(r:jA σ (.list ts) vx)(hp:pairs ts=aa kvs)(hk:(strKeys kvs).isSome=ae)(hn:kvs.length<=bp):
 Gp (wq A (call (.type "dict") [vx])) O σ (.ok (.t (.dict (putAll [] kvs))) σ.mu) RV:=
 jM r λc vs n hc rt=>λQ E ko Z Z S=>by
 refine nB (pairs_at hp hk rt) λq q1 q2 q3=>?_;refine vg (KX (a8:=[]) (ks:=[]) (vs:=[]) q2 q3 rfl rfl jF trivial) λks us z1 z2 z3 z4=>?_;have hlen:q.length=kvs.length:=by have:=av jx q2;simpa using this.symm
 refine callType_codes (Q₁:=λobj di=>obj=.ref σ.h.objs.size/\di={σ.s with heap:=σ.h.push {cls:=.type "dict",data:=.dict #[]}}) F.kt_called_dict (F.kt_typeCall_dict_1 _) F.entry_dict_init (kt_code_dict_new _ ⟨rfl,rfl⟩) ?_
 rintro obj di ⟨rfl,rfl⟩
 have VB:(σ.h.push {cls:=.type "dict",data:=.dict #[]}).DictOf (strKind prog w) σ.h.objs.size []:=lT σ.h;have VC:IsL (σ.h.push {cls:=.type "dict",data:=.dict #[]}) c vs.toArray n:=aI _ hc;refine⟨VB.typeIs,F.args_dict_init_2 _ _,?_⟩;unfold Builtin.«dict.__init__»;refine ak ?_;unfold aeB;refine ak (wpAny_notOrdered_dict VB.typeIs ?_);show aX _ _ (pure (σ.h.objs.size,[dz c])) _ _ _;refine aB ?_;show aX _ _ (uy "dict.__init__" σ.h.objs.size (.ref c) [] .none) _ _ _;unfold uy;refine ak (kc ⟨_,VC,rfl⟩ ?_);rw[aA (by decide)]
 refine ak (Qh VC hh λgZ tk k₁=>?_);show aX _ _ (rule _ >>=λZ=>kX (.ref c) >>=λx=>again (.builtin "dict.update.loop" ⟨[.ref σ.h.objs.size,x,rawInt 0,.none],[]⟩)) _ _ _;have hD:σ.h.get? σ.h.objs.size=none:=d8;have kD:∀b o,σ.h.get? b=aa o->b≠σ.h.objs.size:=λb o e z=>by rw[z,hD] at e;cases e
 have kI:∀b o,gZ.get? b=aa o->b≠gZ.objs.size:=λb o e z=>by rw[z,d8] at e;cases e
 have k1:∀b o,σ.h.get? b=aa o->gZ.get? b=aa o:=λb o e=>k₁ b o (aI _ e);have Fc:gZ.DictOf (strKind prog w) σ.h.objs.size []:=yS VB λo es ep ho z=>⟨o,es,ep,k₁ _ _ ho,z⟩;have dI:σ.h.objs.size≠gZ.objs.size:=yS Fc λo es ep ho z=>kI _ o ho;refine ak (w8 (ak (xP ⟨_,k1 _ _ hc,rfl,n,rfl⟩ (aB ⟨plainId_quiet pA _,?_⟩))));refine KR (A:=A.in1) (D:=σ.h.objs.size) (it:=gZ.objs.size) (l:=c) (n:=n) (all:=vs) (show A.in1.handled=ac from hh) dI (kD _ _ hc) (kI _ _ (k1 _ _ hc)) 0 [] _ rfl
  (kz.mono (λb o nb e=>⟨λz=>z.elim (kD _ _ e) (kI _ _ (k1 _ _ e)),aI _ (k1 _ _ e)⟩) q1) (Fc.push _) ⟨_,ck _ rfl,rfl,rfl⟩ (aI _ (k1 _ _ hc))
  (by rw[hlen];simpa using eo hn) λs' d' k' g' o'=>⟨rfl,?_⟩
 have keep:Grows σ.h s'.heap:=λb o e=>k' b o (kD _ _ e) (kI _ _ (k1 _ _ e)) (aI _ (k1 _ _ e));refine ko _ _ (σ.to s') rfl (S.grow keep g') (.grow keep o') (uF (vs:=us) (S.newX hD) ?_ (z1▸.str ks us z2 (z3▸d')) (z4.mono λZ Z Z r=>r.eQ cK λa o nb e Z=>⟨nb,keep a o e⟩));cases e:(BH w.params).get? σ.h.objs.size with
 |none=>rfl
 |some o=>rw[S.base _ _ e] at hD;cases hD
end
section
variable{A:bW}{σ:W}{O:aN->Prop}{x:PV}{v:ao}{vs:ag ao}{f7:ag PV}{T':PT ao}
theorem Tu{T₁:ag ao->PT ao}{f:PV->Res PV}(r:qL f7 vs σ)(go:∀a v,RV a v σ->Gp (T₁ [v]) O σ (f a) RV):Gp (T₁ vs) O σ (xZ f7 f) RV:=by
 cases f7 with
 |nil=>exact .aK
 |cons a l=>
  cases l with
   |cons b l=>exact .aK
   |nil=>exact k8 (bF.jo r) λv m e ra r=>e▸bF.oi r▸go a v ra
theorem aag{T₁:ag ao->PT ao}{f:PV->PV->Res PV}(r:qL f7 vs σ)(go:∀a b v u,RV a v σ->RV b u σ->Gp (T₁ [v,u]) O σ (f a b) RV):Gp (T₁ vs) O σ (on2 f7 f) RV:=by
 cases f7 with
 |nil=>exact .aK
 |cons a l=>
  cases l with
   |nil=>exact .aK
   |cons b l=>
    cases l with
     |cons c l=>exact .aK
     |nil=>exact bF.two r λv u ra rb=>go a b v u ra rb
theorem Fe{l:ag aj}(h:Pa x=aa l):x=.t (.bytes l):=by
 cases x with
 |m i=>exact lX h
 |t x=>
  cases x with
   |bytes s=>exact av (λl=>PV.t (.bytes l)) (aM h)
   |_=>exact lX h
theorem aah{T₁:ag ao->PT ao}{f:PV->PV->PV->Res PV}(r:qL f7 vs σ)(go:∀a b c v u t,RV a v σ->RV b u σ->RV c t σ->Gp (T₁ [v,u,t]) O σ (f a b c) RV):Gp (T₁ vs) O σ (on3 f7 f) RV:=by
 cases f7 with
 |nil=>exact .aK
 |cons a l=>
  cases l with
   |nil=>exact .aK
   |cons b l=>
    cases l with
     |nil=>exact .aK
     |cons c l=>
      cases l with
       |cons d l=>exact .aK
       |nil=>exact k8 (bF.jo r) λv m e ra r=>k8 (bF.jo r) λu m2 e2 rb r=>k8 (bF.jo r) λt m3 e3 rc r=>e▸e2▸e3▸bF.oi r▸go a b c v u t ra rb rc
theorem oA{F:ao}{f:PV->Res PV}(r:qL f7 vs σ)(go:∀a v,RV a v σ->Gp (wq A (call F [v])) O σ (f a) RV):Gp (wq A (call F vs)) O σ (xZ f7 f) RV:=Tu (T₁:=λvs=>wq A (call F vs)) r go
theorem Tv{F:ao}{f:PV->PV->Res PV}(r:qL f7 vs σ)(go:∀a b v u,RV a v σ->RV b u σ->Gp (wq A (call F [v,u])) O σ (f a b) RV):Gp (wq A (call F vs)) O σ (on2 f7 f) RV:=aag (T₁:=λvs=>wq A (call F vs)) r go
theorem Bq{F u:ao}{f:PV->Res PV}(r:qL f7 vs σ)(go:∀a v,RV a v σ->Gp (wq A (call F [u,v])) O σ (f a) RV):Gp (wq A (call F (u::vs))) O σ (xZ f7 f) RV:=Tu (T₁:=λvs=>wq A (call F (u::vs))) r go
theorem Br{f:T->Res PV}(r:RV x v σ)(go:∀t,RV (.t t) v σ->Gp T' O σ (f t) RV):Gp T' O σ (Ay x f) RV:=by
 cases x with
 |t t=>exact go t r
 |m _=>exact .aK
theorem aai{t:T}{f:bE->Res PV}(r:RV (.t t) v σ)(go:∀i,RV (.t (.int i)) v σ->Gp T' O σ (f i) RV):Gp T' O σ (Jv t f) RV:=by
 cases t with
 |int i=>exact go i r
 |_=>exact .aK
theorem mR{f:bE->Res PV}(r:RV x v σ)(go:∀i,RV (.t (.int i)) v σ->Gp T' O σ (f i) RV):Gp T' O σ (Ay x λt=>Jv t f) RV:=Br r λt r=>aai r go
theorem Bs{f:ag T->Res PV}(r:RV x v σ)(go:∀l,jA σ (.list l) v->Gp T' O σ (f l) RV):Gp T' O σ (O9 (look x σ.mu) f) RV:=.of λS=>by
 cases e:look x σ.mu with
 |none=>exact .aK
 |some t=>
  have r:=kN S r e;cases t with
  |list l=>exact go l r
  |_=>exact .aK
theorem aaj{f:ag (T×T)->Res PV}(r:RV x v σ)(go:∀l,jA σ (.dict l) v->Gp T' O σ (f l) RV):Gp T' O σ (onD (look x σ.mu) f) RV:=.of λS=>by
 cases e:look x σ.mu with
 |none=>exact .aK
 |some t=>
  have r:=kN S r e;cases t with
  |dict l=>exact go l r
  |_=>exact .aK
theorem KY{f:aj->ag PV->Res PV}(go:∀i xs,x=.m i->σ.mu[i]? =aa (.list xs)->Gp T' O σ (f i xs) RV):Gp T' O σ (EM x σ.mu f) RV:=by
 cases x with
 |t _=>exact .aK
 |m i=>exact .dO λxs e=>go i xs rfl (jS e)
theorem Qi{f:B}(hh:A.handled=ac)(r:qL f7 vs σ):Gp (wq A (call (bOf f) vs)) O σ (uf f f7 σ.mu) RV:=by
 cases f with
 |len=>exact oA r λa v q=>Kl q
 |min=>exact Tv r λa b v u p q=>mR p λi p=>mR q λj q=>Ko hh p q
 |max=>exact Tv r λa b v u p q=>mR p λi p=>mR q λj q=>Kp hh p q
 |chr=>exact oA r λa v q=>mR q λi q=>Kq q
 |ord=>
  refine oA r λa v q=>Br q λa q=>?_;cases a with
  |str s=>
   cases s with
   |nil=>exact .aK
   |cons c s=>
    cases s with
    |nil=>exact Kr q
    |cons=>exact .aK
  |_=>exact .aK
 |bytes=>
  refine oA r λa v q=>?_;have list:Gp (wq A (call (.type "bytes") [v])) O σ (O9 (look a σ.mu) λl=>dO ((nZ l).bind codes) λcs=>jL cs σ.mu) RV:=Bs q λl q=>.dO λcs hc=>bj hc λns h1 h2=>C2 hh q h1 h2;cases a with
  |m i=>exact list
  |t t=>
   cases t with
   |bytes b=>exact Bg q
   |_=>exact list
 |str=>exact oA r λa v q=>mR q λi q=>Ku q
 |abs=>exact oA r λa v q=>mR q λi q=>Ks q
 |int=>
  refine oA r λa v q=>Br q λa q=>?_;cases a with
  |int i=>exact Kt q
  |bool b=>exact Hq q
  |_=>exact .aK
 |sorted=>exact oA r λa v q=>aaj q λkvs q=>.dO λks hk=>.if λhn=>Bj hh q hk hn
 |list=>
  refine oA r λa v q=>.of λS=>?_;show Gp _ _ _ (Jw σ.mu (look a σ.mu)) _;cases e:look a σ.mu with
  |none=>exact .aK
  |some t=>
   have q:=kN S q e;cases t with
   |dict kvs=>exact C4 hh q
   |list ts=>exact Hr q
   |_=>exact .aK
 |tuple=>exact oA r λa v q=>Bs q λl q=>C3 q
 |dict=>exact oA r λa v q=>Bs q λl q=>.dO λkvs hp=>.if λhn=>Dh hh q hp hn.1 hn.2
theorem VE{f:B}{M:lS}{s:aG}{Q:Keeper->aG->Prop}{P:ao->aG->Prop}(q:Q jz s):aX M A (xM (bOf f)) Q P s:=by
 cases f<;>exact aB q
end
section
variable{C:Calls}{d n kd:aj}{cx:Cx}{a o:bV}{es:ag bV}{O':E}{Es:ag E}{p pos ap:Pos}{x:PV}{nm y:bQ}{σ:W}{A:bW}{O:aN->Prop}{v vx:ao}{f:B}{vs:ag ao}{f7:ag PV}
theorem agR(hg:glob cx y=ae)(hf:lk AU y=aa f)(h:sE C d cx es Es):fb C d cx (.Call (.Name y p) es [] pos) (.bi f Es):=
 gp (λ{k au σ} z c=>.of λS=>(cw (h.plain _ _) (λτ Z Q E q=>VE q) (h.v z c) λf7 vs τ P r=>Qi c.st.om.hd r).sim λQ E q=>mH rfl (gF c.st S (z.cx▸hg) (Vp hf) q))
  (λZ=>rfl) (λZ Z=>.inr rfl) (λZ Z=>rfl) λZ Z=>pq (vU hf (by kernel_rfl))
noncomputable def v8(k n:aj):String:=if k=3 then(if n=30 then "list.append" else if n=31 then "list.extend" else "list.pop") else if k=2 then(if n=33 then "bytes.find" else "bytes.join") else(if n=34 then "str.join" else "str.index")
theorem agS{P:aj->aj->Prop}(h30:P 3 30)(h31:P 3 31)(h32:P 3 32)(h33:P 2 33)(h34:P 2 34)(g34:P 1 34)(g35:P 1 35)(h:lZ kd n=ae):P kd n:=by
 unfold lZ at h;simp only[pa,cZ,bT] at h;rcases h with(⟨rfl,(rfl |rfl) |rfl⟩ |⟨rfl,rfl |rfl⟩) |⟨rfl,rfl |rfl⟩<;>assumption
theorem Di:iO 30="append"/\iO 31="extend"/\iO 32="pop"/\iO 33="find"/\iO 34="join"/\iO 35="index":=⟨by kernel_rfl,by kernel_rfl,by kernel_rfl,by kernel_rfl,by kernel_rfl,by kernel_rfl⟩
theorem Qj{G:Prop}(S:Ok σ)(r:RV x v σ)(hk:kindOf x σ.mu=kd)(l:∀(i:aj)(q:aN)(vs:cE ao)(n:aj),kd=3->x=.m i->v=.ref q->IsL σ.h q vs n->G)(b:∀(b:ag aj)(b':cE iq)(t:Tok),kd=2->x=.t (.bytes b)->v=.bytes b' t->G)(s:∀(s:ag aj)(t:Tok),kd=1->x=.t (.str s)->v=.str ⟨s.toArray⟩ t->G)
 (z:kd=0->G) (c:∀(c:aj)(x dx:aN)(vs:ag ao),kd=c+10->v=.ref x->gQ σ.h x dx (cJ c) (oh c vs)->G):G:=by
 cases x with
 |t t=>
  cases t with
  |str i=>exact(show ∃k,v=.str ⟨i.toArray⟩ k from r).elim λt e=>s i t hk.symm rfl e
  |bytes i=>exact(show ∃b k,v=.bytes b k/\b.toList.map bh=i from r).elim λb' z=>z.elim λt e=>b i b' t hk.symm rfl e.1
  |inst c' ts=>exact(show ∃x dx vs,v=.ref x/\¬X σ x/\¬X σ dx/\gQ σ.h x dx (cJ c') (oh c' vs)/\i7 σ.h (X σ) ts vs from r).elim λx z=>z.elim λdx z=>z.elim λvs z=>c c' x dx vs hk.symm z.1 z.2.2.2.1
  |_=>exact z hk.symm
 |m i=>
  cases e:σ.mu[i]? with
  |none=>exact z (hk.symm.trans (show(σ.mu[i]?.map EP).getD 0=0 by rw[e];rfl))
  |some o=>
   have hk:=hk.symm.trans (show(σ.mu[i]?.map EP).getD 0=EP o by rw[e];rfl)
   refine bH r λq hq z0=>?_;subst z0;have m:=S.rep i o q e hq;cases o with
   |list xs=>exact bD m λvs m=>bD m λn m=>l i q.1 _ n hk rfl rfl m.1
   |inst c' xs=>exact bD m λvs m=>c c' q.1 q.2 vs hk rfl m.1
   |_=>exact z hk
theorem Dj(hh:A.handled=ac)(rx:RV x v σ)(r:qL f7 vs σ)(hm:lZ kd n=ae)(h2:kd=2->∃b,x=.t (.bytes b))(h1:kd=1->∃s,x=.t (.str s)):Gp (wq A (call (.builtin (v8 kd n)) (v::vs))) O σ (Jy x n f7 σ.mu) RV:=by
 revert h1 h2;refine agS (P:=λkd n=>(kd=2->∃b,x=.t (.bytes b))->(kd=1->∃s,x=.t (.str s))->Gp (wq A (call (.builtin (v8 kd n)) (v::vs))) O σ (Jy x n f7 σ.mu) RV) (λZ Z=>?_) (λZ Z=>?_) (λZ Z=>?_) (λh Z=>?_) (λh Z=>?_) (λZ h=>?_) (λZ h=>?_) hm
 ·exact Bq r λa u ra=>KY λi xs e he=>by
   subst e;exact .if λhl=>tO rx ra he hl
 ·refine Bq r λa u ra=>Br ra λt rt=>.dO λls ht=>KY λi xs e he=>?_
  subst e;refine .if λhl=>?_;cases t with
  |list ts=>cases ht;exact Bl rx rt he (by rwa[aq] at hl)
  |bytes ts=>cases ht;exact zg hh rx rt he (by rwa[aq] at hl)
  |_=>cases ht
 ·cases f7 with
  |cons=>exact .aK
  |nil=>
   cases vs with
   |cons=>exact r.elim
   |nil=>
    refine KY λi xs e he=>.dO λy hy=>?_;subst e;exact .if λhl=>Kv rx he hy hl
 ·refine fJ (h rfl) λb z0=>?_;subst z0
  exact aah (T₁:=λvs=>wq A (call (.builtin (v8 2 33)) (v::vs))) r λw a c u1 u2 u3 r1 r2 r3=>.dO λl hl=>.dO λwd hw=>mR r2 λa ra=>mR r3 λb rb=>Hx (Fe hl▸rx) (Fe hw▸r1) ra rb
 ·refine fJ (h rfl) λb z0=>?_;subst z0
  exact Bq r λa u ra=>Bs ra λts hl=>.dO λss hs=>.if λhn=>C8 rx hl hs hn
 ·refine fJ (h rfl) λb z0=>?_;subst z0
  exact Bq r λa u ra=>Bs ra λts hl=>.if λhn=>by
   cases OJ.mp hn;exact .dO λss hs=>C9 rx hl hs
 ·refine fJ (h rfl) λb z0=>?_;subst z0
  refine Bq r λa u ra=>?_;show Gp _ _ _ (Ay a λa=>Jx σ.mu (.str b) a) _;refine Br ra λt rt=>?_;cases t with
  |str w=>
   cases w with
   |nil=>exact .aK
   |cons c w=>
    cases w with
    |nil=>exact .dO λkx hkx=>Dc rx rt hkx
    |cons=>exact .aK
  |_=>exact .aK
section
variable{Q:ao×ag ao->aG->Prop}{P:ao->aG->Prop}{pl:Sem aW}{s:aG}
theorem HA{a:aN}{vs:cE ao}{m:aj}(l:IsL s.heap a vs m)(hm:lZ 3 n=ae)(q:Q (.builtin (v8 3 n),[.ref a]) s):aX (bP prog w) A (t9 (.ref a) (iO n) pl) Q P s:=by
 have:n=30\/n=31\/n=32:=by simpa [lZ,xQ] using hm
 have nd:∀b,dz a=.ref b->∃o,s.heap.get? b=aa o/\o.dict=none:=λb e=>by cases e;exact⟨_,l,rfl⟩
 rcases this with rfl |rfl |rfl
 ·rw[Di.1];exact gO ⟨_,l,rfl⟩ mE xN PySem.F.type_list_append nd q
 ·rw[Di.2.1];exact gO ⟨_,l,rfl⟩ mE iS PySem.F.type_list_extend nd q
 ·rw[Di.2.2.1];exact gO ⟨_,l,rfl⟩ mE AH PySem.F.type_list_pop nd q
theorem Dk{b:cE iq}{t:Tok}(hm:lZ 2 n=ae)(q:Q (.builtin (v8 2 n),[.bytes b t]) s):aX (bP prog w) A (t9 (.bytes b t) (iO n) pl) Q P s:=by
 have:n=33\/n=34:=by simpa [lZ] using hm
 rcases this with rfl |rfl
 ·rw[Di.2.2.2.1];exact gO (dG _ _ _) N1 nq uh (λZ e=>nomatch e) q
 ·rw[Di.2.2.2.2.1];exact gO (dG _ _ _) N1 j3 ui (λZ e=>nomatch e) q
theorem KZ{b:bQ}{t:Tok}(hm:lZ 1 n=ae)(q:Q (.builtin (v8 1 n),[.str b t]) s):aX (bP prog w) A (t9 (.str b t) (iO n) pl) Q P s:=by
 have:n=34\/n=35:=by simpa [lZ] using hm
 rcases this with rfl |rfl
 ·rw[Di.2.2.2.2.1];exact gO (w7 _ _ _) Au AI PySem.F.type_str_join (λZ e=>nomatch e) q
 ·rw[Di.2.2.2.2.2];exact gO (w7 _ _ _) Au As PySem.F.type_str_index (λZ e=>nomatch e) q
end
theorem yo{k:aj}(h:k<10){q:ar aj}(e:fq k n=aa q):q=ac/\lZ k n=true:=by
 unfold fq at e;rw[aL (N2.mpr h)] at e;exact cO e (λhm e=>⟨(aM e).symm,hm⟩) λZ e=>by cases e
theorem HB{c:aj}{q:ar aj}(e:fq (c+10) n=aa q):∃f,q=aa f/\yX c n=aa f:=by
 unfold fq at e;rw[aA (eW ..),aj.add_sub_cancel] at e;refine bH (ed.mp e) λf h z0=>?_;subst z0;exact⟨f,rfl,h⟩
theorem VF(sC:pM C d)(hl:(ap.endLine==pos.line)=ae)(hlen:es.length<20)(hn:lk p5 nm=aa n)(ho:fb C d cx o O')(h:sE C d cx es Es):fb C d cx (.Call (.Attribute o nm ap) es [] pos) (.cR O' n Es):=
 gp (λ{k au σ} z=>by
  rw[arm_eval_Call,ho.base];refine(ho.v z).bind λx vx τ P r=>.eR λc=>.of λS=>?_;rw[J1 hn];show Gp _ _ _ ((bS (fq (kindOf x τ.mu) n) τ.mu).bind λc mu=>(su C Es au mu).bind λvs mu=>ei C x n c vs mu) _;cases e:fq (kindOf x τ.mu) n with
  |none=>exact .aK
  |some q=>
   have blt:∀kd,kd<10->kindOf x τ.mu=kd->(kd=2->∃b,x=.t (.bytes b))->(kd=1->∃s,x=.t (.str s))->(∀pl (Q:ao×ag ao->aG->Prop) P,lZ kd n=ae->Q (.builtin (v8 kd n),[vx]) τ.s->aX (bP prog w) k.A (t9 vx (iO n) pl) Q P τ.s)->
    Gp (wq k.A (X4 o (iO n) ap pos k.env vx (es.length+([]:ag NY).length) (nc pos (ig es k.env)) (backToKw pos (Sy [] k.env)))) none_ τ ((su C Es au τ.mu).bind λvs mu=>ei C x n q vs mu) RV:=λkd lt hk h2 h1 gm=>by
    rw[hk] at e;obtain⟨rfl,hm⟩:=yo lt e;exact(cw (h.plain _ _) (λτ Z Q E q=>zk q) (h.v z c) λf7 vs υ P' r'=>Dj c.st.om.hd (r.to P') r' hm h2 h1).sim λQ E q=>Kj hl hlen (h.plain _ _) λpl=>gm pl _ _ hm q
   refine Qj S r rfl (λi a vs m hk hx hv l=>?_) (λb b' t hk hx hv=>?_) (λs t hk hx hv=>?_) (λhk=>?_) (λcc a dx vs hk hv I=>?_)
   ·exact blt 3 (by decide) hk (λh=>aQ h (by decide)) (λh=>aQ h (by decide)) λpl Q P hm q=>by subst hv;exact HA l hm q
   ·exact blt 2 (by decide) hk (λZ=>⟨b,hx⟩) (λh=>aQ h (by decide)) λpl Q P hm q=>by subst hv;exact Dk hm q
   ·exact blt 1 (by decide) hk (λh=>aQ h (by decide)) (λZ=>⟨s,hx⟩) λpl Q P hm q=>by subst hv;exact KZ hm q
   ·rw[hk] at e
    have z:=(yo (by decide) e).2
    unfold lZ at z;simp at z
   ·rw[hk] at e
    obtain⟨f,rfl,hf⟩:=HB e;subst hv;exact(Tn (h.plain _ _) (mth hf).lf (h.v z c) λf7 vs υ P' r'=>sC (mth hf).lf (z.d▸(c.to P').room) (show qL (x::f7) (.ref a::vs) υ from⟨r.to P',r'⟩)).sim λQ E q=>Kj hl hlen (h.plain _ _) λpl=>Ki S I hf q)
  (λZ=>rfl) (λau mu=>.inl (by
   show(ev C O' au mu).bind _=((ev C O' au mu).bind _).bind _;rw[<-Res.Cr];congr 1;funext x mu;rw[<-Res.Cr];congr 1;funext c mu;exact Res.Cr)) (λZ Z=>rfl) λZ Z=>rfl
end
def Pr(env:Env)(a:aN):Prop:=a=env.locals\/∃x,env.cells.lookup x=aa a
theorem mS{au:Loc}{i j:aj}{v pv:PV}(h:gV (upd au i v) j=aa pv):(j=i/\pv=v)\/(j≠i/\gV au j=aa pv):=by
 unfold gV upd at h
 by_cases q:i=j
 ·subst q
  by_cases hl:i<au.length
  ·rw[cC hl] at h;exact .inl ⟨rfl,(aM h).symm⟩
  ·rw[pI (by rw[bG];exact eO.mp hl)] at h;cases h
 ·rw[cn q] at h;exact .inr ⟨λz=>q z.symm,h⟩
section
variable{k:K}{au:Loc}{σ τ:W}{x:bQ}{i:aj}{pv:PV}{v:ao}{s':aG}{b:aN}
abbrev Pk(σ:W)(s':aG)(b:aN):Prop:=∀a o,a≠b->σ.h.get? a=aa o->s'.heap.get? a=aa o
theorem Ok.own(S:Ok σ)(hb:b∈σ.fs)(sb:Pk σ s' b)(th:∃o,s'.heap.get? b=aa o)(g:s'.gens=σ.s.gens):Ok (σ.to s')/\ol σ.h (X σ) s'.heap (X σ):=
 have held:ol σ.h (X σ) s'.heap (X σ):=λa o n e Z=>⟨n,sb a o (λz=>n (.inr (z▸hb))) e⟩
 ⟨S.lz cK S.len held (λa o e=>sb a o (λz=>by rw[z,(S.gE b hb).2.1] at e;cases e) (S.base a o e)) (λZ Z=>.inl)
  (λj o q h1 h2=>.inr ⟨h1,h2,λa ob m e Z=>sb a ob (λz=>(S.gE b hb).1 ⟨j,o,q,h1,h2,z▸m⟩) e,λZ Z Z Z Z=>id⟩) g
  λa m=>⟨.inl m,(xR (a=b)).elim (λz=>z▸th) λz=>(S.gE a m).2.2.imp λo e=>sb a o z e⟩,held⟩
theorem ib.own{O:aN->Prop}(hb:b∈σ.fs)(ho:O b)(sb:Pk σ s' b){o:fE}(th:s'.heap.get? b=aa o)(td:∀ky,σ.h.get? b=aa ky->tM ky->tM o)(os:s'.os=σ.s.os):ib O σ (σ.to s') where
 fs:=rfl
 keep a ob e n _:=sb a ob (λz=>n (.inr (z▸hb))) e
 gE a ob e m:=(xR (a=b)).elim (λz=>⟨o,z▸th,λn=>aQ (z▸ho) n,λd=>td ob (z▸e) d⟩) λz=>⟨ob,sb a ob z e,.rfl⟩
 ext a ob e:=(xR (a=b)).elim (λz=>⟨o,z▸th⟩) λz=>⟨ob,sb a ob z e⟩
 CG _ _ _ m:=m
 pre _ _ e:=e
 os:=os
def Px(env:Env)(x:bQ)(a:aN):Prop:=(env.kindOf x=aa .local/\a=env.locals)\/(env.kindOf x≠aa .local/\env.cells.lookup x=aa a)
theorem Gp.wide{α β:Type}{T:PT β}{O O':aN->Prop}{σ:W}{r:Res α}{R:α->β->W->Prop}(h:∀a,O a->O' a)(g:Gp T O σ r R):Gp T O' σ r R:=λQ E ko ke=>g Q E (λa b τ e S P=>ko a b τ e S (P.wide λx Z Z=>h x)) λe τ z S P=>ke e τ z S (P.wide λx Z Z=>h x)
structure Dl(k:K)(σ:W)(x:bQ)(v:ao)(s':aG)(b:aN):Prop where
 mem:b∈σ.fs
 own:Px k.env x b
 sb:Pk σ s' b
 th:∃o,s'.heap.get? b=aa o/\∀ky,σ.h.get? b=aa ky->tM ky->tM o
 gens:s'.gens=σ.s.gens
 os:s'.os=σ.s.os
 ns:∃m,s'.heap.Ns k.env.locals m
 cell:∀y c,k.env.cells.lookup y=aa c->∃v,s'.heap.IsCell c v
 here:Binds k.env s'.heap x v
 rest:∀y u,y≠x->Binds k.env σ.h y u->Binds k.env s'.heap y u
theorem Dl.go(e:Here k au σ)(S:Ok σ)(hs:k.cx.sl.lookup x=aa i)(r:RV pv v σ)(z:Dl k σ x v s' b):Ok (σ.to s')/\ib (Px k.env x) σ (σ.to s')/\Here k (upd au i pv) (σ.to s'):=
 have⟨o,th,td⟩:=z.th;have O:=S.own z.mem z.sb ⟨o,th⟩ z.gens;have P:ib (Px k.env x) σ (σ.to s'):=.own z.mem z.own z.sb th td z.os;have mv:∀{pv v},gL σ pv v->gL (σ.to s') pv v:=λr=>gL.eQ (σ:=σ) (τ:=σ.to s') cK O.2 (λZ Z Z=>id) r
 ⟨O.1,P,e.st,z.ns,λy c h=>⟨z.cell y c h,(e.cell y c h).2⟩,e.sub,e.JK,λa m=>(e.AY a m).elim λo h=>P.dict (e.sub a m) h.1 h.2,
  λj p h=>(mS h).elim (λq=>q.1▸e.st.lt x i hs) λq=>e.hi j p q.2,
  λy j p h1 h2=>(mS h2).elim (λq=>⟨v,e.st.AX x y j (q.1▸hs) h1▸z.here,q.2▸mv r⟩) λq=>(e.val y j p h1 q.2).imp λu b=>⟨z.rest y u (λw=>q.1 (aM ((w▸h1).symm.trans hs))) b.1,mv b.2⟩⟩
theorem VH{h:dK}{a:aN}{m m':bQ->ar ao}(n:h.Ns a m)(n':h.Ns a m'):m=m':=by
 refine xm n λo es ep ho hd Z f=>?_;refine xm n' λo' es' ep' E6 hd' Z f'=>?_;rw[ho] at E6;cases E6;rw[hd] at hd';cases hd';funext z;rw[<-f, <-f']
theorem tQ(hs:k.cx.sl.lookup x=aa i)(r:RV pv v σ)(e:Here k au σ):Gp (wq k.A (Av k.env x v)) (Px k.env x) σ (.ok () σ.mu) λZ Z τ=>Here k (upd au i pv) τ:=λQ E ko Z Z S=>by
 have fin:∀{s' b},Dl k σ x v s' b->Q () s':=λz=>have g:=z.go e S hs r;ko () () (σ.to _) rfl g.1 g.2.1 g.2.2
 rcases e.st.sl x i hs with hl |⟨hl,c,hc⟩
 ·obtain⟨m,hm⟩:=e.ns
  refine wpAny_storeName_local hl hm (λh' n' sb=>fin (b:=k.env.locals) {mem:=e.JK,own:=.inl ⟨hl,rfl⟩,sb:=λa o n e=>(sb.2 a n).trans e,th:=?_,gens:=rfl,os:=rfl,ns:=⟨_,n'⟩,cell:=λy c hc=>?_,here:=.au hl _ n' (aA rfl),rest:=λy u q b=>?_}) (by rw[e.st.kind];rfl)
  ·obtain⟨o,es,ep,ho,hd,sk,_⟩:=n';exact⟨o,ho,λZ Z Z=>⟨es,ep,hd,sk⟩⟩
  ·obtain⟨⟨v,ic⟩,_,z⟩:=e.cell y c hc;exact⟨v,ic.sameBut sb z⟩
  ·cases b with
   |au b1 m' n'' b2=>cases VH hm n'';exact .au b1 _ n' ((aL q).trans b2)
   |cell b1 c b2 b3=>exact .cell b1 c b2 (b3.sameBut sb (e.cell y c b2).2.2)
 ·obtain⟨⟨al0,ic⟩,hcf,uI⟩:=e.cell x c hc
  have eq:Av k.env x v=(cellOf k.env x >>=λc=>cellSet c (aa v)):=by
   unfold Av YC;rw[e.st.kind];rcases hl with hl |hl<;>rw[hl]<;>rfl
  show aX _ _ (Av k.env x v) Q E σ.s;rw[eq];refine ak (wpAny_cellOf hc (wpAny_cellSet ic λh' ic' sb=>fin (b:=c) {mem:=hcf,own:=.inr ⟨λq=>hl.elim (λh=>(by rw[q] at h;cases h)) λh=>(by rw[q] at h;cases h),hc⟩,sb:=λa o n e=>(sb.2 a n).trans e,th:=?_,gens:=rfl,os:=rfl,ns:=?_,cell:=λy c' hc'=>?_,here:=.cell hl c hc ic',rest:=λy u q b=>?_}))
  ·obtain⟨o,ho,hd⟩:=ic'
   exact⟨o,ho,λky h1 d=>by obtain⟨J4,h3,h4⟩:=ic;rw[h1] at h3;cases h3;obtain⟨es,ep,d,_⟩:=d;rw[d] at h4;cases h4⟩
  ·exact e.ns.imp λm n=>n.sameBut sb (Ne.symm uI)
  ·by_cases q:c'=c
   ·subst q;exact⟨_,ic'⟩
   ·exact(e.cell y c' hc').1.imp λv i=>i.sameBut sb q
  ·cases b with
   |au b1 m' n'' b2=>exact .au b1 m' (n''.sameBut sb (Ne.symm uI)) b2
   |cell b1 c2 b2 b3=>exact .cell b1 c2 b2 (b3.sameBut sb λz=>q (e.st.G6 y x c (z▸b2) hc))
theorem mT(hs:k.cx.sl.lookup x=aa i)(r:RV pv v σ)(e:Here k au σ):Gp (wq k.A (Av k.env x v)) (Pr k.env) σ (.ok () σ.mu) λZ Z τ=>Here k (upd au i pv) τ:=(tQ hs r e).wide λa h=>h.imp (·.2) λh=>⟨x,h.2⟩
theorem sL(hs:k.cx.sl.lookup x=aa i)(r:RV pv v σ)(e:Here k au σ):Gp (wq k.A (nh k.env x v)) (Pr k.env) σ (.ok () σ.mu) λZ Z τ=>Here k (upd au i pv) τ:=(mT hs r e).sim λZ Z q=>wpAny_bindName q
end
theorem l7{α:Type}{l:ag α}{n i:aj}{a:α}(h:(l.take n)[i]? =aa a):i<n/\l[i]? =aa a:=by
 have hi:i<n:=bw (ay.mp h).1 (by rw[f9];exact xJ ..)
 exact⟨hi,by rwa[AJ hi] at h⟩
theorem l8{α:Type}{l:ag α}{n i:aj}{a:α}(h:l[i]? =aa a)(hi:i<n):(l.take n)[i]? =aa a:=by rw[AJ hi];exact h
noncomputable abbrev W.cut(σ:W)(n:aj):W:=⟨σ.s,σ.mu.take n,σ.p.take n,σ.fs⟩
section
variable{σ ρ:W}{n i j:aj}{O:aN->Prop}{mu:Mu}{q:aN×aN}{a:aN}
theorem rq(m:Az (σ.mu.take n) (σ.p.take n) i a):i<n/\Az σ.mu σ.p i a:=
 m.elim λo m=>m.elim λq m=>⟨(l7 m.1).1,o,q,(l7 m.1).2,(l7 m.2.1).2,m.2.2⟩
theorem yp{xs:ag PV}(h:xs.all (PV.closed n)=ae){i:aj}(m:.m i∈xs):i<n:=bO (aE.mp h _ m)
theorem aak{a:aN}(m:X (σ.cut n) a):X σ a:=m.imp_left λq9=>fJ q9 λi m=>⟨i,(rq m).2⟩
theorem rz:ol σ.h (X σ) σ.h (X (σ.cut n)):=λa o k e Z=>⟨λm=>k (aak m),e⟩
theorem Ok.cut(S:Ok σ)(hc:mM n (σ.mu.take n)=ae):Ok (σ.cut n):=
 S.lz cK (by show(σ.mu.take n).length=(σ.p.take n).length;rw[f9,f9,S.len]) rz S.base (λi a m=>.inl (rq m).2)
  (λi o q h1 h2=>.inr ⟨(l7 h1).2,(l7 h2).2,λZ Z Z e Z=>e,λxs m i q mi e=>l8 e (yp (by
   have cl:MO.closed n o=true:=aE.mp hc o (cp h1);rcases m with rfl |⟨c,rfl⟩<;>exact cl) mi)⟩) rfl λa m=>⟨.inl m,(S.gE a m).2.2⟩
theorem Ff(S:Ok σ){o:MO}(hi:n<=i)(h1:σ.mu[i]? =aa o)(h2:σ.p[i]? =aa q)(m:x9 o q a):¬X (σ.cut n) a:=λz=>z.elim
 (λq9=>fJ q9 λj m'=>aQ (S.dj i j a ⟨o,q,h1,h2,m⟩ (rq m').2) (jJ (bw (rq m').1 hi))) λz=>(S.gE a z).1 ⟨i,o,q,h1,h2,m⟩
theorem ib.cut(P:ib O ρ σ)(hn:ρ.p.length<=n):ib O ρ (σ.cut n):=
 {P with CG:=λa o e q9=>fJ q9 λi m=>P.CG a o e ⟨i,(rq m).2⟩,pre:=λi p e=>l8 (P.pre i p e) (bw (ay.mp e).1 hn)}
theorem zl(e:d7 n σ.mu=aa mu):mu=σ.mu.take n/\mM n (σ.mu.take n)=true:=cO e (λh e=>⟨(aM e).symm,h⟩) λZ e=>by cases e
theorem Qk{v:PV}{t:T}{mu d9:Mu}(e:Cq v mu=aa (t,d9)):v.closed mu.length=ae/\d9.length=mu.length:=by
 cases v with
 |t v=>cases (e);exact⟨rfl,rfl⟩
 |m i=>
  refine bj e λo he e=>⟨bc (ay.mp he).1,?_⟩;cases o with
  |list xs=>
   refine bH (ed.mp e) λts Z e=>?_;cases (e);exact bG
  |dict xs=>cases (e);exact bG
  |_=>cases (e)
theorem K0{vs:ag PV}{ts:ag T}{mu d9:Mu}(e:kK vs mu=aa (ts,d9)):vs.all (PV.closed mu.length)=ae/\d9.length=mu.length:=by
 induction vs generalizing ts mu with
 |nil=>cases (e);exact⟨rfl,rfl⟩
 |cons v vs ih=>
  refine bj e λp h1 e=>?_;refine bH (ed.mp e) λq h2 e=>?_;have z1:=Qk h1;have z2:=ih (ts:=q.1) ((show kK vs p.2=aa (q.1,q.2) from h2).trans (av (λm=>aa (q.1,m)) (bk e).2))
  rw[z1.2] at z2;exact⟨aF.mpr ⟨z1.1,z2.1⟩,z2.2⟩
theorem Bt{v:PV}{n m:aj}(h:v.closed n=ae)(e:n<=m):v.closed m=true:=by
 cases v with
 |t _=>rfl
 |m i=>exact bc (bw (bO h) e)
theorem K1{v:PV}{x:ao}(r:RV v x σ)(h:v.closed n=ae):RV v x (σ.cut n):=r.eQ cK rz λi q e e'=>l8 e' (by subst e;exact bO h)
end
theorem K2(P:aS):(be 6).map (λc=>(mN c).map λf=>(za P c "__init__",decide (f<106)))=(be 6).map (λc=>(mN c).map λf=>(aa (.ref (fv f)),ae)):=by kernel_rfl
theorem Ql{c f:aj}(h:mN c=aa f):c<6:=by
 unfold mN at h;split at h<;>first |(cases h;decide) |cases h
theorem Qm{c f:aj}(h:mN c=aa f):za w.params c "__init__"=aa (.ref (fv f))/\f<106:=by
 have e:=map_eq (K2 w.params) (six (Ql h));rw[h] at e;have e:=aM e;exact⟨av dQ e,bO (av ua e)⟩
section
variable{C:Calls}{d:aj}{cx:Cx}{es:ag bV}{Es:ag E}{p pos:Pos}{k:K}{au:Loc}{σ τ υ:W}{A:bW}{l:ag Env}{x:bQ}{c j:aj}{q:aN×aN}{f7:ag PV}{vs:ag ao}
theorem Ctx.make(c:Ctx (d+1) A l){f:eS}{a:aN}{vs:ag ao}(hf:f="type.__call__"):Ctx d (A.under (.builtin f ⟨.ref a::vs,[]⟩)) l:=by
 subst hf;have h1:=c.depth;have h2:=c.units;exact⟨by show A.depth+1+d+8<recursionLimit;omega,by show A.units+1+20*d+120<cLine;omega,c.hd,c.fr,c.env⟩
theorem HC{r:Res PV}(S:Ok τ)(P:Le σ τ)(hn:σ.p.length<=j)(hp:τ.p[j]? =aa q)(er:sealed j c τ.mu=r)(ns:r≠.aK):∃pv υ,r=.ok pv υ.mu/\Ok υ/\Le σ υ/\RV pv (.ref q.1) υ/\υ.s=τ.s:=by
 subst er;unfold sealed at ns ⊢;cases ho:τ.mu[j]?.bind MO.i? with
 |none=>rw[ho] at ns;exact aQ rfl ns
 |some o=>
  obtain⟨c',xs⟩:=o;rw[ho] at ns;simp only[dO] at ns ⊢
  by_cases hc:c'=c/\τ.mu.length=j+1
  ·rw[aA hc] at ns ⊢
   refine gf hc λz0 hl=>?_;subst z0;cases hch:d7 j τ.mu with
   |none=>rw[hch] at ns;exact aQ rfl ns
   |some ajl=>
    rw[hch] at ns;refine gf (zl hch) λz0 hcb=>?_;subst z0;cases hz:kK xs (τ.mu.take j) with
    |none=>simp only[hz] at ns;exact aQ rfl ns
    |some z=>
     obtain⟨ts,Tw⟩:=z;have he:τ.mu[j]? =aa (.inst c' xs):=by
      refine bj ho λo he e=>?_;cases (o)<;>cases (e);exact he
     refine bH (S.rep j _ _ he hp) λvs I r=>?_;have uI:xs.all (PV.closed j)=true:=aE.mpr λv m=>Bt (aE.mp (K0 hz).1 v m) (by rw[f9];exact xJ ..)
     have F:=yg (σ:=τ.cut j) (S.cut hcb) (r.mono λa m v r=>K1 r (aE.mp uI a m)) hz;have out:∀a,x9 (.inst c' xs) q a->(∃o,τ.h.get? a=aa o)->¬X ((τ.cut j).at Tw) a:=λa m q9 z=>fJ q9 λo ho=>Ff S (aP _) he hp m (F.2.1.SW (σ:=τ.cut j) ho z);exact⟨.t (.inst c' ts),(τ.cut j).at Tw,(by show(lu (kK xs (τ.mu.take j))).bind _=_;rw[hz];rfl),F.1,(P.cut hn).trans F.2.1,ET (out _ (.inl rfl) I.at) (out _ (.inr rfl) I.at2) I F.2.2,rfl⟩
  ·rw[aL hc] at ns;exact aQ rfl ns
theorem MadeObj.aam{h h':dK}{x dx:aN}(M:dK.MadeObj h h' x dx (cJ c)):gQ h' x dx (cJ c) (oh c []):=by
 refine CB M.inst λo a1 a2 a3 a4=>?_;have a5:=M.dict o a1;have ef:oh c []=λZ=>none:=by funext y;unfold oh;rw[r8];rfl
 rcases a4 with⟨a4,_⟩ |⟨dx',a4,a6,a7⟩
 ·rw[a5] at a4;cases a4
 ·rw[a5] at a4;cases a4
  exact⟨o,a1,a2,a3,a5,a6,ef▸a7⟩
theorem K3(sC:pM C d)(hc:c<6)(c₀:xt (d+1) A l σ)(r:qL f7 vs σ):Gp (wq A (call (.ref (cJ c)) vs)) none_ σ (fm C c f7 σ.mu) RV:=by
 unfold fm;cases hi:mN c with
 |none=>exact .aK
 |some f=>
  refine λQ E ko ke ns S=>?_;have⟨hm,hf⟩:=Qm hi;refine k8 (zd hf) λoI fd g1 g2 g3=>?_;refine wpAny_call_obj_init F.objNew (S.cls hc) (S.cns hc) hm (S.base _ _ g1) g3 λh' x dx M=>?_;have I:=MadeObj.aam M;have G:=S.more (s:={σ.s with heap:=h'}) (o:=.inst c []) (q:=(x,dx)) M.keeps (λa m=>m.elim (λe=>e▸M.newX) λe=>e▸M.newD) rfl rfl λZ=>⟨[],I,trivial⟩
  have hp:(σ.more {σ.s with heap:=h'} (.inst c []) (x,dx)).p[σ.mu.length]? =aa (x,dx):=by rw[S.len];exact ph
  refine sC (f:=f) (f7:=.m σ.mu.length::f7) (σ:=σ.more {σ.s with heap:=h'} (.inst c []) (x,dx)) hf ⟨c₀.om.make rfl,c₀.sub,λa m=>(c₀.AY a m).imp λo z=>⟨M.keeps _ _ z.1,z.2⟩⟩ (show qL (.m σ.mu.length::f7) (.ref x::vs) _ from⟨⟨_,hp,rfl⟩,JH G.2 r⟩) _ E ?_ ?_ ?_ G.1
  ·intro a b τ e S' P y
   have e':C f (.m σ.mu.length::f7) (σ.mu++[.inst c []])=.ok a τ.mu:=e;simp only[e',Res.bind] at ko ns;cases a with
   |m i=>exact aQ rfl ns
   |t t=>
    cases t with
    |none=>
     refine⟨y,?_⟩;have hx:=P.pre _ _ hp;dsimp only at ko ns
     by_cases im:AR c=ae
     ·rw[aA im] at ko ns
      refine Ji (HC S' (G.2.trans P) (cX S.len.symm) hx rfl ns) λpv υ e1 S2 P2 r2 e2=>?_;exact e2▸ko pv _ υ e1 S2 P2 r2
     ·rw[aL im] at ko
      exact ko _ _ τ rfl S' (G.2.trans P) ⟨_,hx,rfl⟩
    |_=>exact aQ rfl ns
  ·exact λv τ e S' P y=>ke.pre G.2 v τ (by show(C _ _ _).bind _=_;rw[show C f (.m σ.mu.length::f7) (σ.mu++[.inst c []])=_ from e];rfl) S' P y
  ·exact λz=>ns (by show(C _ _ _).bind _=_;rw[show C f (.m σ.mu.length::f7) (σ.mu++[.inst c []])=_ from z];rfl)
theorem VI:(tL.take 6).map (λp=>decide (p.2<6))=(tL.take 6).map (λZ=>ae):=by rfl
theorem aan(sC:pM C d)(hg:glob cx x=ae)(hf:lk (tL.take 6) x=aa c)(h:sE C (d+1) cx es Es):fb C (d+1) cx (.Call (.Name x p) es [] pos) (.new c Es):=
 have hc:c<6:=by obtain⟨q,hq,rfl,_⟩:=ow hf;exact bO (map_eq VI hq)
 gp (λ{k au σ} z e=>.of λS=>(cw (h.plain _ _) (λτ S Q E q=>X8 (S.cls hc) q) (h.v z e) λf7 vs τ P r=>K3 sC hc (z.d▸(e.to P).room) r).sim λQ E q=>mH rfl (gF e.st S (z.cx▸hg) (Vo hf) q))
  (λZ=>rfl) (λZ Z=>.inr rfl) (λZ Z=>rfl) λZ Z=>pq (vU hf (by kernel_rfl))
end
theorem Qn:Tame Tb:=λZ h=>h
def Fg(l:ag Env)(h:dK):Prop:=∀a∈qv l,∃o,h.get? a=aa o/\tM o
structure IY(l:ag Env)(s:aG)(h h':dK):Prop where
 keep:∀b o,h.get? b=aa o->b ∉ qv l->(s.heap.get? b≠ac\/¬Tb o)->h'.get? b=aa o
 K4:∀b o,h.get? b=aa o->b∈qv l->tM o->∃o',h'.get? b=aa o'/\o'.data=o.data/\o'.cls=o.cls
 ext:∀b o,h.get? b=aa o->∃o',h'.get? b=aa o'
theorem K5{α:Type}{x:ar α}{a:α}(e:x=aa a):x≠none:=λz=>lX (z.symm.trans e)
theorem v9{o o':fE}(e:o'.data=o.data)(d:tM o):tM o':=d.imp λZ d=>d.imp λZ d=>⟨e.trans d.1,d.2⟩
theorem wa{o:fE}{vs:cE ao}(d:tM o):o.data≠.fields vs:=λe=>d.elim λZ d=>d.elim λZ d=>by rw[d.1] at e;cases e
theorem K6{h:dK}{a:aN}{o:fE}(e:h.get? a=aa o)(d:tM o):∃m,h.Ns a m:=d.elim λes d=>d.elim λep d=>⟨Ep es,o,es,ep,e,d.1,d.2,λZ=>rfl⟩
section
variable{A:bW}{l outer:ag Env}{env:Env}{s s':aG}{σ τ:W}{h h' IZ:dK}{O:aN->Prop}{M:lS}{P:ao->aG->Prop}{ea L:aN}{e:ao}{d:aj}
theorem IY.refl:IY l s h h:=⟨λZ Z e Z Z=>e,λZ o e Z Z=>⟨o,e,rfl,rfl⟩,λZ o e=>⟨o,e⟩⟩
theorem IY.trans(a:IY l s h h')(b:IY l s h' IZ):IY l s h IZ where
 keep x o e n c:=b.keep x o (a.keep x o e n c) n c
 K4 x o e m d:=(a.K4 x o e m d).elim λo' z=>(b.K4 x o' z.1 m (v9 z.2.1 d)).imp λZ y=>⟨y.1,y.2.1.trans z.2.1,y.2.2.trans z.2.2⟩
 ext x o e:=(a.ext x o e).elim λo' z=>b.ext x o' z
theorem Fg.exs(f:Fg l h)(K:IY l s h h'):Fg l h':=λa m=>(f a m).elim λo z=>(K.K4 a o z.1 m z.2).imp λZ y=>⟨y.1,v9 y.2.1 z.2⟩
theorem Fg.step(f:Fg l σ.h)(sub:∀a∈qv l,a∈σ.fs)(P:ib O σ τ):Fg l τ.h:=λa m=>(f a m).elim λZ z=>P.dict (sub a m) z.1 z.2
theorem zm(wb:Ok σ)(S:Ok τ)(P:ib O σ τ)(sub:∀a∈qv l,a∈σ.fs)(fd:Fg l τ.h)(K:IY l σ.s τ.h h'):Ok (τ.to {τ.s with heap:=h'})/\ib O σ (τ.to {τ.s with heap:=h'}) where
 left:=S.lz Qn S.len (λa o n e nt=>⟨n,K.keep a o e (λm=>n (.inr (P.fs▸sub a m))) (.inr nt)⟩) (λb o e=>K.keep b o (S.base b o e) (λm=>lX ((S.gE b (P.fs▸sub b m)).2.1.symm.trans e)) (.inl (K5 (wb.base b o e))))
  (λZ Z=>.inl) (λi o q h1 h2=>.inr ⟨h1,h2,λa ob m e nt=>K.keep a ob e (λm'=>(S.gE a (P.fs▸sub a m')).1 ⟨i,o,q,h1,h2,m⟩) (.inr nt),λZ Z Z Z Z=>id⟩) rfl λa m=>⟨.inl m,(S.gE a m).2.2.elim λo z=>K.ext a o z⟩
 right:=
 {
  fs:=P.fs
  keep:=λa o e n m=>K.keep a o (P.keep a o e n m) (λz=>n (.inr (sub a z))) (.inl (K5 e))
  gE:=λa o e m=>(P.gE a o e m).elim λo' z=>by
   by_cases q:a∈qv l
   ·refine bH (fd a q) λJ4 HD d₁=>?_
    refine nB (K.K4 a J4 HD q d₁) λagW VJ aao HE=>?_;exact⟨agW,VJ,z.2.trans (aM (z.1.symm.trans HD)▸⟨λZ=>⟨aao,HE,λn=>aQ d₁ n⟩,v9 aao⟩)⟩
   ·exact⟨o',K.keep a o' z.1 q (.inl (K5 e)),z.2⟩
  ext:=λa o e=>(P.ext a o e).elim λo' z=>K.ext a o' z
  CG:=P.CG,pre:=P.pre,os:=P.os}
theorem sM{base:dK}:∀{l:ag Env},(∀env∈l,env.scope.kind≠.module/\∃L,env.frame=aa L)->(∀a∈qv l,base.get? a=ac)->Fg l h->h.FunFrames base l
 |[],_,_,_=>trivial
 |env::r,e,b,f=>
  (e env fg).2.elim λL hL=>
   have q:qv (env::r)=L::qv r:=jb hL;have f':=f L (q▸fg)
   ⟨(e env fg).1,f'.elim λo z=>⟨L,o,hL,b L (q▸fg),z.1,λZ=>wa z.2⟩,sM (λx m=>e x (.tail _ m)) (λa m=>b a (q▸.tail _ m)) λa m=>f a (q▸.tail _ m)⟩
theorem Qo{base:dK}(hl:h.FunFrames base l){a:aN}{o:fE}{vs:cE ao}(m:a∈qv l)(e:h.get? a=aa o):o.data≠.fields vs:=λd=>(hl.mem m).2.elim λZ z=>z.2 vs (aM (e.symm.trans z.1)▸d)
def gW(s:aG)(ea:aN)(x:ao)(h:dK):Prop:=∃oe vs T oT ts,JI s ea h oe vs/\TbO s ea h vs T oT ts/\ts[3]? =aa x
theorem gW.raised{v:ar aN}:gW s ea (v.elim .none λf=>rawInt f) h->CH s ea h:=λq9=>xn q9 λoe vs T oT ts a b c=>.head oe vs a T oT ts b (match v,c with
 |none,c=>.inl c
 |some F,c=>.inr ⟨F,c⟩)
theorem is_none{α:Type}{x:ar α}(h:∀o,x=aa o->pT):x=none:=by
 cases x with
 |none=>rfl
 |some o=>exact(h o rfl).elim
theorem yq{x:ao}{Q:fP->aG->Prop}{oe oT:fE}{vs ts:cE ao}{T:aN}(X:JI s ea s'.heap oe vs)(t:TbO s ea s'.heap vs T oT ts)(fd:Fg l s'.heap)
 (q:∀h',IY l s s'.heap h'->gW s ea x h'->Q () {s' with heap:=h'}):aX M A (SG (.ref T) 3 x) Q P s':=by
 have Tx:∀b o,b≠T->s'.heap.get? b=aa o->(s'.heap.update T (se (·.setIfInBounds 3 x))).get? b=aa o:=λb o n e=>(fZ _ _ (Ne.symm n)).trans e;have self:=jY (se (·.setIfInBounds 3 x)) t.at_ (pV (tG t.data _));refine wpAny_setField t.at_ t.data t.size (q _ ⟨λb o e n c=>Tx b o (λz=>?_) e,λb o e m d=>⟨o,Tx b o (λz=>?_) e,rfl,rfl⟩,λb o e=>?_⟩
  ⟨oe,vs,T,_,_,{X with at_:=Tx ea oe (Ne.symm t.ne) X.at_},{t with at_:=self,cls:=(OK ..).trans t.cls,data:=tG t.data _,size:=by rw[Aw];exact t.size},pJ t.size⟩)
 ·subst z
  cases t.at_.symm.trans e;exact c.elim (λc=>c t.new) λc=>c ⟨⟨_,t.data⟩,.inr t.cls⟩
 ·subst z;exact wa d (aM (t.at_.symm.trans e)▸t.data)
 ·by_cases z:b=T
  ·subst z;exact⟨_,self⟩
  ·exact⟨o,Tx b o z e⟩
theorem Bu{base:dK}{oe:fE}{vs:cE ao}{head:ao}{Qp:aW}{Q:fP->aG->Prop}(hfr:A.frames=aa (env::outer))(hl:s'.heap.FunFrames base (env::outer))(hf:env.frame=aa L)
 (X:JI s ea s'.heap oe vs) (kp:∀b o,s.heap.get? b=aa o->∃o',s'.heap.get? b=aa o') (q:∀h',IY (env::outer) s s'.heap h'->gW s ea (rawInt L) h'->Q () {s' with heap:=h'}):
 aX M A (do let a <-frameOf env;let pl <-entryPlaceOf L Qp;let b <-EntryCells.newEntry head a .none (rawInt L) .none pl;SG (.ref ea) 1 b) Q P s':=by
 have hef:ea ∉ qv (env::outer):=λm=>Qo hl m X.at_ X.data;refine ak (wpAny_frameOf_fun hfr hl hf λgZ oB=>ak (wpAny_entryPlaceOf λpl hpl=>?_));unfold EntryCells.newEntry newFields;refine ak (j9 ?_ (hpl.sizeOk5 _ _ _ _ _));have yr:gZ.get? ea=aa oe:=(oB.2.1 ea hef).trans X.at_;refine wpAny_setField (aI _ yr) X.data X.size ?_;generalize hT:([head,dz L,.none,rawInt L,.none]++(if pl.isEmpty then cj 6 jd else pl)).toArray=ts
 have Oe:3<ts.size/\ts[3]? =aa (rawInt L):=by subst hT;exact⟨by rw[bb,ah];exact aj.le_add_right_of_le (show 4<=5 by decide),rfl⟩
 have Bk:gZ.objs.size≠ea:=jJ (fW yr);have Tz:=tG X.data (·.setIfInBounds 1 (dz gZ.objs.size));have TA:=jY (se (·.setIfInBounds 1 (dz gZ.objs.size))) (aI (h:=gZ) {cls:=.type "traceback",dict:=ac,data:=.fields ts,slots:=#[]} yr) (pV Tz);have Tx:∀b o,b≠ea->gZ.get? b=aa o->((gZ.push {cls:=.type "traceback",dict:=ac,data:=.fields ts,slots:=#[]}).update ea (se (·.setIfInBounds 1 (dz gZ.objs.size)))).get? b=aa o:=λb o hb e=>
  (fZ _ _ (Ne.symm hb)).trans (aI _ e)
 refine q _ ⟨λb o e n c=>Tx b o (λz=>?_) ((oB.2.1 b n).trans e),λb o e m d=>(oB.2.2 b o e).elim λsl HD=>⟨_,Tx b _ (λz=>hef (z▸m)) HD,rfl,rfl⟩,λb o e=>?_⟩
  ⟨_,_,gZ.objs.size,_,ts,⟨X.new,TA,(OK ..).trans X.cls,Tz,by rw[Aw];exact X.size⟩,⟨pJ X.size,is_none λo e=>?_,Bk,(fZ _ _ (Ne.symm Bk)).trans (ck _ rfl),rfl,rfl,Oe.1⟩,Oe.2⟩
 ·subst z
  cases X.at_.symm.trans e;exact c.elim (λc=>c X.new) λc=>c ⟨⟨_,X.data⟩,.inl X.cls⟩
 ·by_cases hb:b=ea
  ·subst hb;exact⟨_,TA⟩
  ·exact(oB.2.2 b o e).elim λsl HD=>⟨_,Tx b _ hb HD⟩
 ·exact(kp _ o e).elim λo' e'=>aQ (fW e') (by rw[oB.1];exact cL _)
theorem Qq{Q:fP->aG->Prop}(hfr:A.frames=aa (env::outer))(he:∀e∈env::outer,e.scope.kind≠.module/\∃L,e.frame=aa L)(hb:∀a∈qv (env::outer),(BH w.params).get? a=ac)(fd:Fg (env::outer) s'.heap)(hf:env.frame=aa L)(R:CH s ea s'.heap)(kp:∀b o,s.heap.get? b=aa o->∃o',s'.heap.get? b=aa o')
 (q:∀h',IY (env::outer) s s'.heap h'->gW s ea (rawInt L) h'->Q () {s' with heap:=h'}):aX M A (pW (.ref ea) env) Q P s':=by
 unfold pW;simp only[hf];cases R with
 |bare oe vs X n=>exact ak (ll X.at_ X.data n (Bu hfr (sM he hb fd) hf X kp q))
 |head oe vs X T oT ts t f=>
  refine ak (ll X.at_ X.data t.is ?_);rw[aA (show(dz T != jd)=ae from rfl)]
  have rest:∀y:ao,(y==rawInt L)=af->ts[3]? =aa y->aX M A (do
   if(<-field (.ref T) 3)==rawInt L then return
   SG (.ref T) 3 .none
   SG (.ref ea) 1 (<-EntryCells.newEntry (.ref T) (<-UL env) .none (rawInt L) .none (<-entryPlaceOf L (dz T != .none)))) Q P s':=λy hy h3=>by
   refine ak (ll t.at_ t.data h3 ?_);rw[aL (by rw[hy];exact dM)]
   exact ak (yq (l:=env::outer) X t fd λgZ VK ⟨ajn,ajo,_,_,_,Qr,_⟩=>Bu (s:=s) hfr (sM he hb (fd.exs VK)) hf Qr (λb o e=>(kp b o e).elim λo' z=>VK.ext b o' z) λh' K H=>q h' (VK.trans K) H)
  cases f with
  |inl h3=>exact rest _ rfl h3
  |inr F=>
   refine fJ F λF h3=>?_
   by_cases FL:F=L
   ·subst FL
    refine ak (ll t.at_ t.data h3 ?_);rw[aA (show(rawInt F==rawInt F)=ae from dJ _)]
    exact aB (q s'.heap .refl ⟨oe,vs,T,oT,ts,X,t,h3⟩)
   ·exact rest _ (aD.mpr λz=>FL (lm (ao.int.inj z).1)) h3
theorem rA{x:ao}{f:ar aN}{Q:fP->aG->Prop}(H:gW s ea x s'.heap)(fd:Fg l s'.heap)(q:∀h',IY l s s'.heap h'->gW s ea (f.elim .none λf=>rawInt f) h'->Q () {s' with heap:=h'}):aX M A (pX (.ref ea) f) Q P s':=by
 refine xn H λoe vs T oT ts X t h3=>?_;unfold pX;refine ak (ll X.at_ X.data t.is ?_);rw[aA (show(dz T != jd)=ae from rfl)]
 exact yq X t fd q
end
structure Fr(d:aj)(A:bW)(l:ag Env)(env:Env)(σ:W):Prop where
 (om:Ctx d A l) (top:∃f r,l=f::r/\f.frame=env.frame) (sub:∀a∈qv l,a∈σ.fs) (fd:Fg l σ.h) (ok:Ok σ)
section
variable{A:bW}{l:ag Env}{env:Env}{σ τ:W}{O:aN->Prop}{e:ao}{d:aj}{E E':ao->aG->Prop}
theorem Here.fr'{k:K}{au:Loc}(c:Here k au σ)(S:Ok σ):Fr (k.d+Yj k.cx) k.A k.l k.env σ:=⟨c.st.om,c.st.top,c.sub,c.AY,S⟩
def VL(O:aN->Prop)(σ τ:W)(e x:ao)(E:ao->aG->Prop):Prop:=∀h' ea,e=.ref ea->Ok (τ.to {τ.s with heap:=h'})->ib O σ (τ.to {τ.s with heap:=h'})->gW σ.s ea x h'->E e {τ.s with heap:=h'}
theorem K7(c:Fr d A l env σ)(S:Ok τ)(P:ib O σ τ)(F:SY σ.s e τ.s)(q:∀L:aN,VL O σ τ e (rawInt L) E):aX (bP prog w) A (pW e env) (λZ K8=>E e K8) E' τ.s:=by
 refine dZ c.top λf r z0 hff=>?_;subst z0;refine bH F λea z0 R=>?_;subst z0;obtain⟨L,hL⟩:=(c.om.env f fg).2;rw[show pW (.ref ea) env=pW (.ref ea) f by unfold pW UL;rw[hff]]
 exact Qq c.om.fr c.om.env (λa m=>(S.gE a (P.fs▸c.sub a m)).2.1) (c.fd.step c.sub P) hL R P.ext λh' K H=>(zm c.ok S P c.sub (c.fd.step c.sub P) K).elim λS' P'=>q L h' ea rfl S' P' H
theorem K9(c:Fr d A l env σ){x:ao}{f:ar aN}{ea:aN}(S:Ok τ)(P:ib O σ τ)(H:gW σ.s ea x τ.h)(q:VL O σ τ (.ref ea) (f.elim .none λf=>rawInt f) E):aX (bP prog w) A (pX (.ref ea) f) (λZ K8=>E (.ref ea) K8) E' τ.s:=
 rA H (c.fd.step c.sub P) λh' K H=>(zm c.ok S P c.sub (c.fd.step c.sub P) K).elim λS' P'=>q h' ea rfl S' P' H
theorem TB(c:Fr d A l env σ)(S:Ok τ)(P:ib O σ τ)(F:SY σ.s e τ.s)(q:VL O σ τ e .none E):aX (bP prog w) A (leaving env e) (λZ K8=>E e K8) E' τ.s:=
 ak (K7 (E:=λe s'=>aX (bP prog w) A (pX e ac) (λZ K8=>E e K8) E' s') c S P F λL h' ea z S' P' H=>by
  subst z;exact K9 (f:=ac) (τ:=τ.to {τ.s with heap:=h'}) c S' P' H λIZ ea' z JJ xr H'=>q IZ ea' z JJ xr H')
theorem VM{α:Type}(c:Fr d A l env σ){x:ao}{ea:aN}{agX:eS}{La:Env}(S:Ok τ)(P:ib O σ τ)(H:gW σ.s ea x τ.h)(q:∀h',Ok (τ.to {τ.s with heap:=h'})->ib O σ (τ.to {τ.s with heap:=h'})->SY σ.s (.ref ea) {τ.s with heap:=h'}->E (.ref ea) {τ.s with heap:=h'}):aX (bP prog w) A (passOn agX (.ref ea) La:Sem α) (λZ Z=>pT) E τ.s:=by
 have H0:=H;refine xn H0 λoe vs T oT ts X t Z=>?_;unfold PySem.passOn;refine ak (ll X.at_ X.data t.is ?_);rw[aL (show ¬(dz T==jd)=ae from dM)]
 exact ak (K9 (E:=λe s'=>aX (bP prog w) A (throw e) (λZ Z=>pT) E s') c S P H λh' ea' z S' P' H'=>by
  cases z;exact wpAny_throw (q h' S' P' ⟨ea,rfl,H'.raised⟩))
end
noncomputable abbrev W.fr(σ:W)(N:ag aN):W:=⟨σ.s,σ.mu,σ.p,N++σ.fs⟩
noncomputable abbrev W.out(υ:W)(s:aG)(F:ag aN):W:=⟨s,υ.mu,υ.p,F⟩
section
variable{σ τ υ:W}{N:ag aN}{s₂:aG}{O xu:aN->Prop}{k:K}{au:Loc}{a:aN}
structure p7(σ τ:W)(N:ag aN):Prop where
 (le:Le σ τ) (nw:∀a∈N,σ.h.get? a=ac) (ex:∀a∈N,∃o,τ.h.get? a=aa o) (nm:∀a∈N,¬MA τ a) (nb:∀a∈N,(BH w.params).get? a=ac)
theorem p7.grow{s:aG}(S:Ok σ)(k:Grows σ.h s.heap)(os:s.os=σ.s.os)(nw:∀a∈N,σ.h.get? a=ac)(ex:∀a∈N,∃o,s.heap.get? a=aa o):p7 σ (σ.to s) N:=
 ⟨.grow k os,nw,ex,λa m z=>(S.at z).elim λo e=>lX ((nw a m).symm.trans e),λa m=>is_none λo e=>lX ((nw a m).symm.trans (S.base a o e))⟩
theorem p7.old(z:p7 σ τ N){o:fE}(e:σ.h.get? a=aa o):a ∉ N:=λm=>lX ((z.nw a m).symm.trans e)
theorem aar(m:X (τ.fr N) a):a∈N\/X τ a:=m.elim (λm=>.inr (.inl m)) λm=>(bt.mp m).imp_right .inr
theorem p7.held(z:p7 σ τ N):ol σ.h (X σ) τ.h (X (τ.fr N)):=λa o n e nn=>⟨λm=>(aar m).elim (z.old e) λm=>n (z.le.SW e m),(z.le.held a o n e nn).2⟩
theorem Ok.pO(S:Ok σ){s:aG}(kp:Grows σ.h s.heap)(z:p7 σ (σ.to s) N)(g:s.gens=σ.s.gens):Ok ((σ.to s).fr N):=
 S.lz cK S.len z.held (λb o e=>kp b o (S.base b o e)) (λZ Z=>.inl) (λi o q h1 h2=>.inr ⟨h1,h2,λa ob Z e Z=>kp a ob e,λZ Z Z Z Z=>id⟩) g
  λa m=>(bt.mp m).elim (λm=>⟨.inr ⟨z.nw a m,λi q=>z.nm a m ⟨i,q⟩⟩,z.ex a m⟩) λm=>⟨.inl m,(S.gE a m).2.2.imp λo e=>kp a o e⟩
theorem Ok.out{F:ag aN}(S:Ok υ)(kp:∀b o,b ∉ N->υ.h.get? b=aa o->s₂.heap.get? b=aa o)(hN:∀a∈N,a∈υ.fs)(hF:∀a∈F,a∈υ.fs/\a ∉ N)(g:s₂.gens=υ.s.gens):Ok (υ.out s₂ F):=
 S.lz cK S.len (λa o n e Z=>⟨λm=>n (m.imp_right λm=>(hF a m).1),kp a o (λm=>n (.inr (hN a m))) e⟩) (λb o e=>kp b o (λm=>lX ((S.gE b (hN b m)).2.1.symm.trans e)) (S.base b o e)) (λZ Z=>.inl)
  (λi o q h1 h2=>.inr ⟨h1,h2,λa ob m e Z=>kp a ob (λn=>(S.gE a (hN a n)).1 ⟨i,o,q,h1,h2,m⟩) e,λZ Z Z Z Z=>id⟩) g λa m=>⟨.inl (hF a m).1,(S.gE a (hF a m).1).2.2.imp λo e=>kp a o (hF a m).2 e⟩
theorem Bv{F:ag aN}(kp:∀b o,b ∉ N->υ.h.get? b=aa o->s₂.heap.get? b=aa o)(hN:∀a∈N,a∈υ.fs)(hF:∀a∈F,a∈υ.fs):ol υ.h (X υ) s₂.heap (X (υ.out s₂ F)):=
 λa o n e Z=>⟨λm=>n (m.imp_right (hF a)),kp a o (λm=>n (.inr (hN a m))) e⟩
theorem Ob.wide{c c':Prop}{o o':fE}(r:Ob c o o')(h:c->c'):Ob c' o o':=⟨λn=>r.same λq=>n (h q),r.Zz⟩
theorem p7.xv(z:p7 σ τ N)(P:ib xu (τ.fr N) υ)(hO:∀a,xu a->O a\/a∈N)(kp:∀b o,b ∉ N->υ.h.get? b=aa o->s₂.heap.get? b=aa o)(os:s₂.os=υ.s.os):ib O σ (υ.out s₂ σ.fs) where
 fs:=rfl
 keep a o e n m:=kp a o (z.old e) (P.keep a o (z.le.keep a o e n id) (λq=>(aar q).elim (z.old e) λq=>n (z.le.SW e q)) λq=>(hO a q).elim m (z.old e))
 gE a o e m:=(z.le.gE a o e m).elim λo' y=>(P.gE a o' y.1 (cU _ (z.le.fs▸m))).imp λSX x=>⟨kp a SX (z.old e) x.1,(y.2.wide jV).trans (x.2.wide λq=>(hO a q).resolve_right (z.old e))⟩
 ext a o e:=(z.le.ext a o e).elim λo' y=>(P.ext a o' y).imp λSX x=>kp a SX (z.old e) x
 CG a o e m:=z.le.CG a o e ((z.le.ext a o e).elim λo' y=>P.CG a o' y m)
 pre i q e:=P.pre i q (z.le.pre i q e)
 os:=os.trans (P.os.trans z.le.os)
theorem p7.ok(z:p7 σ τ N)(P:ib xu (τ.fr N) υ)(wb:Ok σ)(S:Ok υ)(kp:∀b o,b ∉ N->υ.h.get? b=aa o->s₂.heap.get? b=aa o)(g:s₂.gens=υ.s.gens):Ok (υ.out s₂ σ.fs):=
 S.out kp (λa m=>P.fs▸bY _ m) (λa m=>⟨P.fs▸cU _ (z.le.fs▸m),(wb.gE a m).2.2.elim λo e=>z.old e⟩) g
theorem p7.rv(z:p7 σ τ N)(P:ib xu (τ.fr N) υ)(kp:∀b o,b ∉ N->υ.h.get? b=aa o->s₂.heap.get? b=aa o){pv:PV}{v:ao}(r:RV pv v υ):RV pv v (υ.out s₂ σ.fs):=
 gL.eQ (σ:=υ) (τ:=υ.out s₂ σ.fs) cK (Bv (υ:=υ) (s₂:=s₂) (F:=σ.fs) kp (λa m=>P.fs▸bY _ m) λa m=>P.fs▸cU _ (z.le.fs▸m)) (λZ Z Z e=>e) r
def Lb(k:K)(a:aN):Prop:=a=k.env.locals\/a∈qv k.l\/∃x,k.env.cells.lookup x=aa a
theorem Here.has(c:Here k au σ):Lb k a->∃o,σ.h.get? a=aa o
 |.inl h=>c.ns.elim λm n=>n.elim λo q=>q.elim λZ q=>q.elim λZ q=>⟨o,h▸q.1⟩
 |.inr (.inl h)=>(c.AY a h).imp λZ z=>z.1
 |.inr (.inr ⟨x,h⟩)=>(c.cell x a h).1.elim λv i=>i.imp λZ z=>z.1
theorem p7.here(z:p7 σ τ N)(c:Here k au σ)(S:Ok τ):Here k au (τ.fr N):=
 c.move (λZ Z r=>r.eQ cK z.held λi q Z=>z.le.pre i q) (λZ Z m=>cU _ (z.le.fs▸m)) (λZ h=>z.le.data c.JK h) (λx a h Z y=>z.le.data (c.cell x a h).2.1 y) λa m Z=>z.le.dict (c.sub a m)
theorem p7.back(z:p7 σ τ N)(c₀:Here k au σ){eX:Loc}(P:ib xu (τ.fr N) υ)(c:Here k eX υ)(kp:∀b o,b ∉ N->υ.h.get? b=aa o->s₂.heap.get? b=aa o):Here k eX (υ.out s₂ σ.fs):=
 have no:∀a,Lb k a->a ∉ N:=λa i=>(c₀.has i).elim λo e=>z.old e
 c.move (λZ Z r=>z.rv P kp r) (λa i m=>(bt.mp (show a∈N++τ.fs by rw[P.fs] at m;exact m)).elim (λm=>aQ m (no a i)) λm=>z.le.fs▸m) (λo h=>⟨o,kp _ o (no _ (.inl rfl)) h,rfl⟩) (λx a h o y=>⟨o,kp a o (no a (.inr (.inr ⟨x,h⟩))) y,rfl⟩) λa m o y d=>⟨o,kp a o (no a (.inr (.inl m))) y,d⟩
end
section
variable{ls:ag T}{I:aN}{fp:ag aN}{P:aj->ao->Prop}{St:aj->dK->Prop}{σ τ:W}{i:aj}{O:aN->Prop}{A:bW}{a:aN}{v:ao}{t:T}{k:K}{au:Loc}{s₀:aG}{ts:ag T}{vs:ag ao}{n:aj}{h:dK}{X':aN->Prop}
structure tR(ls:ag T)(I:aN)(fp:ag aN)(P:aj->ao->Prop)(St:aj->dK->Prop):Prop where
 walk:∀A:bW,A.handled=ac->Walks prog w A I fp [I] ls.length P St
 obj:∀i h,St i h->∃o vs,h.get? I=aa o/\o.data=.fields vs
structure Fh(ls:ag T)(I:aN)(fp:ag aN)(P:aj->ao->Prop)(St:aj->dK->Prop)(i:aj)(σ:W):Prop where
 st:St i σ.h
 foot:∀b∈fp,b=I\/(¬X σ b/\∃o,σ.h.get? b=aa o)
 rep:∀j v,j<ls.length->P j v->∃t,ls[j]? =aa t/\bK σ.h (X σ) t v
theorem Fh.move(K:tR ls I fp P St)(x:Fh ls I fp P St i σ)(kI:∀o,σ.h.get? I=aa o->τ.h.get? I=aa o)(H:ol σ.h (X σ) τ.h (X τ)):Fh ls I fp P St i τ where
 st:=(K.walk {} rfl).frame i _ _ x.st λb hb o e=>(x.foot b hb).elim (λz=>z▸kI o (z▸e)) λz=>(H b o z.1 e id).2
 foot b hb:=(x.foot b hb).imp_right λz=>z.2.elim λo e=>⟨(H b o z.1 e id).1,o,(H b o z.1 e id).2⟩
 rep j v hj hp:=(x.rep j v hj hp).imp λt z=>⟨z.1,z.2.eQ cK H⟩
theorem Fh.step(K:tR ls I fp P St)(x:Fh ls I fp P St i σ)(pO:I∈σ.fs)(p:ib O σ τ)(hO:∀a,O a->X σ a)(hI:¬O I):Fh ls I fp P St i τ:=
 x.move K (λo e=>(p.gE I o e pO).elim λo' z=>(z.2.same hI).2.2 (λd=>(K.obj i _ x.st).elim λJ4 y=>y.elim λvs y=>wa d (aM (e.symm.trans y.1)▸y.2))▸z.1) (p.EU hO)
theorem Fh.next(K:tR ls I fp P St)(x:Fh ls I fp P St i σ)(pO:I∈σ.fs)(S:Ok σ)(hh:A.handled=ac)(hi:i<ls.length){Q:ar ao->aG->Prop}{E:ao->aG->Prop}
 (q:∀v t di,ls[i]? =aa t->Ok (σ.to di)->ib (· =I) σ (σ.to di)->RV (.t t) v (σ.to di)->Fh ls I fp P St (i+1) (σ.to di)->Q (aa v) di):aX (bP prog w) A (NZ (.ref I)) Q E σ.s:=
 (K.walk A hh).item i σ.s Q E hi x.st λv h' tk hP P8 kp=>by
  have sb:Pk σ {σ.s with heap:=h',toks:=tk} I:=λb o n e=>kp b o (λm=>n (aC.mp m)) e
  refine dZ (K.obj _ _ P8) λo' vs' e' d'=>?_;refine dZ (K.obj _ _ x.st) λoI vI eI dI=>?_;have S':=S.own pO sb ⟨o',e'⟩ rfl;refine bH (x.rep i v hi hP) λt h1 h2=>?_;exact q v t _ h1 S'.1 (.own pO rfl sb e' (λky e d=>aQ dI (wa (aM (e.symm.trans eI)▸d))) rfl) (h2.eQ cK S'.2)
   ⟨P8,λb hb=>(x.foot b hb).imp_right λz=>z.2.elim λo e=>⟨z.1,o,sb b o (λy=>z.1 (y▸.inr pO)) e⟩,λj u hj hu=>(x.rep j u hj hu).imp λt z=>⟨z.1,z.2.eQ cK S'.2⟩⟩
theorem Fh.done(K:tR ls I fp P St)(x:Fh ls I fp P St ls.length σ)(hh:A.handled=ac){Q:ar ao->aG->Prop}{E:ao->aG->Prop}
 (q:∀di,(∀b o,b ∉ [I]->σ.h.get? b=aa o->di.heap.get? b=aa o)->di.gens=σ.s.gens->di.os=σ.s.os->Q ac di):aX (bP prog w) A (NZ (.ref I)) Q E σ.s:=
 (K.walk A hh).done σ.s Q E x.st λh' tk kp=>q _ kp rfl rfl
def Qs(ls:ag T)(I:aN)(σ:W):Prop:=∃fp P St,tR ls I fp P St/\Fh ls I fp P St 0 σ
theorem Qs.mk(W:∀A:bW,A.handled=ac->Walks prog w A I fp [I] n P St)(hn:n=ls.length)(obj:∀i h,St i h->∃o vs,h.get? I=aa o/\o.data=.fields vs)(st:St 0 σ.h)(foot:∀b∈fp,b=I\/(¬X σ b/\∃o,σ.h.get? b=aa o))
 (rep:∀j v,j<ls.length->P j v->∃t,ls[j]? =aa t/\bK σ.h (X σ) t v):Qs ls I σ:=⟨fp,P,St,⟨hn▸W,obj⟩,st,foot,rep⟩
def Bw(k:K)(s₀:aG)(p:ag T×Loc)(v:ao)(τ:W):Prop:=∃I,v=.ref I/\s₀.heap.get? I=ac/\Ok (τ.fr [I])/\Here k p.2 (τ.fr [I])/\Qs p.1 I (τ.fr [I])
theorem oC{T':PT ao}{o:fE}(c:Here k au σ)(f:s₀.heap.get? σ.h.objs.size=ac)(hf:o.isFreed=af)(I:Ok σ->ol σ.h (X σ) (σ.h.push o) (X ((σ.push o).fr [σ.h.objs.size]))->(σ.h.push o).get? σ.h.objs.size=aa o->Qs ls σ.h.objs.size ((σ.push o).fr [σ.h.objs.size]))
 (q:∀Q E,Q (.ref σ.h.objs.size) (σ.push o).s->T' Q E σ.s):Gp T' none_ σ (.ok (ls,au) σ.mu) (Bw k s₀):=
 .step (s:=(σ.push o).s) (du o) rfl rfl (λS=>
  have z:=p7.grow (N:=[σ.h.objs.size]) (s:=(σ.push o).s) S (du o) rfl (λa m=>aC.mp m▸d8) λa m=>aC.mp m▸⟨o,ck _ hf⟩
  ⟨_,rfl,f,S.pO (s:=(σ.push o).s) (du o) z rfl,z.here c (S.grow (s:=(σ.push o).s) (du o) rfl),I S z.held (ck _ hf)⟩) q
theorem Dm(r:bF (bK h X') ts vs)(i:aj)(v:ao)(hv:vs[i]? =aa v):∃t,ts[i]? =aa t/\bK h X' t v:=by
 have hi:i<ts.length:=r.len▸(ay.mp hv).1;refine bH (r.get (bz hi)) λv' e q=>?_;exact⟨_,bz hi,aM (hv.symm.trans e)▸q⟩
theorem Fi{Q:aN->Prop}:∀b∈[I],b=I\/Q b:=λb m=>.inl (aC.mp m)
theorem Fj{Q:aN->Prop}(h:Q a):∀b∈[I,a],b=I\/Q b:=λb m=>(aJ.mp m).imp id λm=>have e:b=a:=aC.mp m;e▸h
theorem ne_size{o:fE}(e:h.get? a=aa o):a≠h.objs.size:=dB (fW e)
theorem Qt{K':Type}[eF K']{knd:KeyKind prog w K'}{tk:K'->T}{ks:ag K'}(hk:∀h X' k v,knd.is k v=ae->bK h X' (tk k) v)(c:Here k au σ)(f:s₀.heap.get? σ.h.objs.size=ac)(nx:¬X σ a)(nb:(BH w.params).get? a=ac)(l:ks.length=vs.length)(d:σ.h.DictOf knd a (ks.zip vs)):
 Gp (wq A (kX (.ref a))) none_ σ (.ok (ks.map tk,au) σ.mu) (Bw k s₀):=by
 refine yS d λo es ep l1 l2=>?_;exact oC c f rfl (λS H e=>.mk (λA hA=>Walks.dictKeys (knd:=knd) hA σ.h.objs.size a (ne_size l1) (ks.zip vs) ep) (by rw[aq,uH l]) (λi h q9=>q9.1.elim λo z=>⟨o,_,z.1,z.2.2⟩) ⟨⟨_,e,rfl,rfl⟩,o,es,aI _ l1,l2⟩ (Fj ⟨(H a _ nx l1 id).1,_,(H a _ nx l1 id).2⟩)
  λj v Z q9=>dZ q9 λk x h1 h2=>⟨tk k,by rw[dh,(ag.getElem?_zip_eq_some.mp h1).1];rfl,hk _ _ k v h2⟩) λQ E q=>wpAny_pyIter_dict (knd:=knd) (pk nb) ⟨o,es,l1,l2⟩ q
theorem yt(c:Here k au σ)(f:s₀.heap.get? σ.h.objs.size=ac)(r:RV (.t t) v σ)(e:lJ t=aa ls):Gp (wq A (kX v)) none_ σ (.ok (ls,au) σ.mu) (Bw k s₀):=by
 have r:bK σ.h (X σ) t v:=r;cases t with
 |list ts=>
  cases (e);exact gj (P:=λv=>Gp (wq A (kX v)) none_ σ (.ok (ls,au) σ.mu) (Bw k s₀)) r λa vs n nx l q=>oC c f rfl (λS H e=>.mk (λA hA=>Walks.list hA σ.h.objs.size a (ne_size l) vs.toArray) (by rw[bb,q.len]) (λi h q9=>q9.1.elim λo z=>⟨o,_,z.1,z.2.2⟩) ⟨⟨_,e,rfl,rfl⟩,⟨_,aI _ l,rfl,n,rfl⟩⟩ (Fj ⟨(H a _ nx l id).1,_,(H a _ nx l id).2⟩)
   λj v Z hp=>Dm (q.mono λZ Z Z r=>r.eQ cK H) j v (dw▸hp)) λQ E q=>xP ⟨_,l,rfl,n,rfl⟩ q
 |tup ts=>
  cases (e);exact iY (P:=λv=>Gp (wq A (kX v)) none_ σ (.ok (ls,au) σ.mu) (Bw k s₀)) r λa vs n nx l q=>oC c f rfl (λS H e=>.mk (λA hA=>Walks.tuple hA σ.h.objs.size a (ne_size l) vs.toArray) (by rw[bb,q.len]) (λi h q9=>q9.1.elim λo z=>⟨o,_,z.1,z.2.2⟩) ⟨⟨_,e,rfl,rfl⟩,⟨_,aI _ l,rfl,n,rfl⟩⟩ (Fj ⟨(H a _ nx l id).1,_,(H a _ nx l id).2⟩)
   λj v Z hp=>Dm (q.mono λZ Z Z r=>r.eQ cK H) j v (dw▸hp)) λQ E q=>wpAny_pyIter_tuple ⟨_,l,rfl,n,rfl⟩ q
 |bytes ts=>
  cases (e);exact eP (P:=λv=>Gp (wq A (kX v)) none_ σ (.ok (ts.map λ(x:aj)=>T.int x,au) σ.mu) (Bw k s₀)) r λb u hb=>oC c f rfl (λS H e=>.mk (λA hA=>KBw.walks hA σ.h.objs.size b u) (by rw[aq, <-hb,aq,bJ]) (λi h q9=>nB q9 λo h1 h2 h3=>⟨o,_,h1,h3⟩) ⟨_,e,rfl,rfl⟩ Fi
   λj v Z q9=>dZ q9 λc u h1 h2=>⟨.int (c.toNat:aj),by rw[<-hb,dh,dh,eZ,h1];rfl,h2▸⟨u,rfl⟩⟩) λQ E q=>SD q
 |str ts=>
  cases (e);refine ir (P:=λv=>Gp (wq A (kX v)) none_ σ (.ok (ts.map λx=>T.str [x],au) σ.mu) (Bw k s₀)) r λu=>?_;have hs:(⟨ts.toArray⟩ :bQ).cps.size=(ts.map λx=>T.str [x]).length:=(aq ..).symm;have rep:∀h X' j v,SignAt ⟨ts.toArray⟩ j v->∃t,(ts.map λx=>T.str [x])[j]? =aa t/\bK h X' t v:=λh X' j v q9=>dZ q9 λc u h1 h2=>⟨.str [c],by rw[dh,show ts[j]? =aa c from dw▸h1];rfl,h2▸⟨u,rfl⟩⟩
  cases ha:(⟨ts.toArray⟩ :bQ).cps.all (· <128)
  ·exact oC c f rfl (λS H e=>.mk (λA hA=>Walks.strWide hA σ.h.objs.size ⟨ts.toArray⟩ u) hs (λi h q9=>nB q9 λo h1 h2 h3=>⟨o,_,h1,h3⟩) ⟨_,e,rfl,rfl⟩ Fi λj v Z hp=>rep _ _ j v hp) λQ E q=>wpAny_pyIter_wide ha q
  ·exact oC c f rfl (λS H e=>.mk (λA hA=>Walks.strAscii hA σ.h.objs.size ⟨ts.toArray⟩ u) hs (λi h q9=>nB q9 λo h1 h2 h3=>⟨o,_,h1,h3⟩) ⟨_,e,rfl,rfl⟩ Fi λj v Z hp=>rep _ _ j v hp) λQ E q=>wpAny_pyIter_ascii ha q
 |dict kvs=>
  cases (e);refine kn (P:=λv=>Gp (wq A (kX v)) none_ σ (.ok (kvs.map (·.1),au) σ.mu) (Bw k s₀)) r λa vs nx nb d q=>?_;exact d.elim λK' dk knd tk ss e l d hk=>e▸Qt (knd:=knd) hk c f nx nb l d
 |_=>cases (e)
end
noncomputable abbrev itw(A:bW)(e:bV)(env:Env):PT Value:=λQ E s=>aX (bP prog w) A (eval e env) (λx di=>aX (bP prog w) A (kX x) Q E di) E s
def qy(C:Calls)(d:aj)(cx:Cx)(e:bV)(X:It):Prop:=∀{k au σ},At d cx k->Here k au σ->Gp (itw k.A e k.env) none_ σ (io C X au σ.mu) (Bw k σ.s)
theorem rangeSize_pos{a b c:bE}(hc:0<c):dR a b c=if a<b then(b-a-1)/c+1 else 0:=by
 unfold dR;rw[aA hc]
theorem rB{a b c:bE}(hc:0<c):0<=dR a b c/\(dR a b c<=b-a\/dR a b c=0):=by
 rw[rangeSize_pos hc];split
 ·have h1:0<=(b-a-1)/c:=bE.ediv_nonneg (by omega) (by omega)
  have h2:(b-a-1)/c<=b-a-1:=bE.ediv_le_self _ (by omega)
  exact⟨bE.add_nonneg h1 (by decide),.inl (bE.add_le_of_le_sub_right h2)⟩
 ·omega
theorem Lc{a b c:bE}(hc:0<c)(ha:n7 a=ae)(hb:n7 b=ae)(Ld:n7 c=ae):jG a b c=true:=by
 have ha:=bO ha;have hb:=bO hb;have Ld:=bO Ld;have hs:=rB (a:=a) (b:=b) hc;unfold jG;simp only[ac1,cZ,pa,xF,bT,gt_iff_lt,hc,if_true];have w:∀{x:bE},-2305843009213693952<x->x<2305843009213693952->-2^63<=x/\x<2^63:=λh g=>⟨lg (by decide) (iR h),o4 g (by decide)⟩
 exact⟨⟨⟨⟨w ha.1 ha.2,w hb.1 hb.2⟩,w Ld.1 Ld.2⟩,⟨lg (by decide) hs.1,hs.2.elim (λh=>tD h (o4 (bE.sub_lt_sub hb.2 ha.1) (by decide))) λh=>tD (bE.le_of_eq h) (by decide)⟩⟩,.inr ⟨lg (b:=-2305843009213693952+0) (by decide) (bE.add_le_add (iR hb.1) (bE.le_sub_one_of_lt hc)),o4 (bE.add_lt_add hb.2 (o4 (bE.sub_lt_self c (by decide)) Ld.2)) (by decide)⟩⟩
section
variable{C:Calls}{d:aj}{cx:Cx}{e o:bV}{es:ag bV}{X':E}{Es:ag E}{p pos:Pos}{k:K}{au:Loc}{σ τ:W}{A:bW}{O:aN->Prop}{x:bQ}{i:aj}{pv:PV}{v:ao}{a:aN}{s₀:aG}
theorem ib.new(P:ib O σ τ)(h:τ.h.get? a=ac):σ.h.get? a=none:=is_none λo e=>(P.ext a o e).elim λo' e'=>lX (h.symm.trans e')
theorem Lf(h:fb C d cx e X'):qy C d cx e (.val X'):=λz c=>(h.v z c).l0 (T₂:=λv=>wq _ (kX v)) (λZ Z x=>x) λpv v τ P r=>.Cq r λt mu P' r'=>.opt λp hp=>
 cM (P:=λp=>Gp _ _ _ (.ok p mu) (Bw _ _)) hp λls hl=>yt (σ:=τ.at mu) ((c.to P).to P') ((P.trans P').new d8) r' hl
theorem Here.upd(c:Here k au σ)(hs:k.cx.sl.lookup x=aa i)(b:Binds k.env σ.h x v)(r:RV pv v σ):Here k (upd au i pv) σ:=
 {c with hi:=λj p h=>(mS h).elim (λq=>q.1▸c.st.lt x i hs) λq=>c.hi j p q.2,val:=λy j p h1 h2=>(mS h2).elim (λq=>⟨v,c.st.AX x y j (q.1▸hs) h1▸b,q.2▸r⟩) λq=>c.val y j p h1 q.2}
theorem VN(hs:cx.sl.lookup x=aa i):qy C d cx (.Name x pos) (.name i):=λ{k au σ} z c=>by
 have Oi:=z.cx.symm▸hs;show Gp _ _ _ ((bS (gV au i) σ.mu).bind λv mu=>(d0 v mu).bind λt mu=>bS ((lJ t).map λl=>(l,Mine.upd au i (.t t))) mu) _;cases hg:gV au i with
 |none=>exact .aK
 |some pv=>
  refine bH (c.val x i pv Oi hg) λv b r=>?_;exact .Cq r λt mu P r'=>.opt λp hp=>cM (P:=λp=>Gp (itw k.A (.Name x pos) k.env) none_ (σ.at mu) (.ok p mu) (Bw k σ.s)) hp λls hl=>
   have b':Binds k.env (σ.at mu).h x v:=b
   (yt (σ:=σ.at mu) ((c.to P).upd Oi b' r') d8 r' hl).sim λQ E q=>qH (vG c.st.kind (c.st.nm x i Oi).2 q b') (c.st.nm x i Oi).1
def RRg(ls:ag T)(v:ao)(τ:W):Prop:=∃r a b c t u v',v=.ref r/\IsRange τ.h r a b c t u v'/\0<c/\jG a b c=ae/\ls=G2 a b c
theorem VO:∀{f7:ag PV}{is:ag bE}{vs:ag ao},EO f7=aa is->qL f7 vs σ->bF (λ(i:bE) v=>∃t,v=.int i t) is vs:=by
 intro f7
 induction f7 with
 |nil=>intro is vs h r;cases h;cases r.oi;trivial
 |cons pv f7 ih=>
  intro is vs h r;obtain⟨v,vs,rfl,r1,r2⟩:=r.jo;exact bj h λi hi h=>cM (P:=λis=>bF (λ(i:bE) v=>∃t,v=.int i t) is (v::vs)) h λjs hj=>
   ⟨bj hi λt ht hi=>by cases fK ht;cases jp hi;exact r1,ih hj r2⟩
theorem Lg{a b c:bE}{t u w':Tok}{T':PT ao}(k:b-a<=bp->n7 c=ae->0<c->∀Q E,(∀tk,Q (.ref σ.h.objs.size) {σ.s with heap:=σ.h.push {cls:=.type "range",data:=.fields #[.int a t,.int b u,.int c w']},toks:=tk})->T' Q E σ.s):Gp T' O σ (bS (Jz a b c) σ.mu) RRg:=
 .opt λls h=>cO h (λhc e=>λQ E ko Z Z S=>k hc.1 hc.2.2.2.2 hc.2.2.2.1 Q E λtk=>by
  cases e;exact ko _ _ (σ.to _) rfl (S.grow (du _) rfl) (.grow (du _) rfl) ⟨_,a,b,c,t,u,w',rfl,IsRange.new ..,hc.2.2.2.1,Lc hc.2.2.2.1 hc.2.1 hc.2.2.1 hc.2.2.2.2,rfl⟩) λZ e=>lX e
theorem Dn{f7:ag PV}{vs:ag ao}(r:qL f7 vs σ):Gp (wq A (call (.type "range") vs)) O σ (bS (gi f7) σ.mu) RRg:=by
 unfold gi;cases hi:EO f7 with
 |none=>exact .aK
 |some is=>
  have z:=VO hi r;show Gp _ _ _ (bS (rng is) σ.mu) _;cases is with
  |nil=>exact .aK
  |cons b is=>
   obtain⟨_,vs,rfl,⟨t,rfl⟩,z1⟩:=z.jo;cases is with
   |nil=>
    cases z1.oi;exact Lg λZ Z Z Q E q=>call_range_1 (q _)
   |cons a is=>
    obtain⟨_,vs,rfl,⟨u,rfl⟩,z2⟩:=z1.jo;cases is with
    |nil=>
     cases z2.oi;exact Lg λZ Z Z Q E q=>call_range_2 (q _)
    |cons c is=>
     obtain⟨_,vs,rfl,⟨w',rfl⟩,z3⟩:=z2.jo;cases is with
     |nil=>
      cases z3.oi;exact Lg λZ hc h0 Q E q=>call_range_3 (EE h0) (q _) (.inl (PyProof.noPylong_of_log2 (by
       have hc:=bO hc;have:c.natAbs.log2<61:=(xj λe=>aQ (tC.mp e▸h0) (by decide)).mpr (cf.mp ((iM (iR h0)).symm▸hc.2))
       omega)))
     |cons _ _=>exact .aK
theorem Lh{ls:ag T}{P:ag T->ao->Prop}(r:RRg ls v σ)(k:∀r a b cc t u v',IsRange σ.h r a b cc t u v'->0<cc->jG a b cc=ae->P (G2 a b cc) (.ref r)):P ls v:=
 r.elim λr h=>h.elim λa h=>h.elim λb h=>aeL h λc t u v' e1 h1 h2 h3 e2=>e1▸e2▸k r a b c t u v' h1 h2 h3
theorem Dp{ls:ag T}(c:Here k au σ)(f:s₀.heap.get? σ.h.objs.size=ac)(r:RRg ls v σ):Gp (wq A (kX v)) none_ σ (.ok (ls,au) σ.mu) (Bw k s₀):=by
 refine Lh (P:=λls v=>Gp (wq A (kX v)) none_ σ (.ok (ls,au) σ.mu) (Bw k s₀)) r λr a b cc t u v' hr hc sm=>?_;have hs:=(rB (a:=a) (b:=b) hc).1;exact oC c f rfl (λS H e=>.mk (λA hA=>Walks.range hA σ.h.objs.size a cc (dR a b cc).toNat) (by rw[rangeSize_pos hc];unfold G2;rw[aq,fF]) (λi h hi=>⟨_,_,hi,rfl⟩)
  (by show IsRangeIter _ _ _ _ _;rw[show(((dR a b cc).toNat:aj):bE)-((0:aj):bE)=dR a b cc from(bE.sub_zero _).trans (k6 hs),show a+((0:aj):bE)*cc=a by omega];exact e) Fi
  λj v hj q9=>fJ q9 λt h=>⟨.int (a+(j:bE)*cc),by unfold G2 at hj ⊢;rw[dh,IL (by rwa[aq,fF] at hj)];rfl,⟨t,h⟩⟩) λQ E q=>wpAny_pyIter_range hr sm q
theorem Bx(P:aS):jT P (xp [114,97,110,103,101])=aa (.type "range")/\jT P (xp [114,101,118,101,114,115,101,100])=aa (.type "reversed"):=⟨by kernel_rfl,by kernel_rfl⟩
theorem Fk{i:eS}{M:lS}{s:aG}{Q:Keeper->aG->Prop}{P:ao->aG->Prop}(q:Q jz s):aX M A (xM (.type i)) Q P s:=aB q
theorem Li{α β:Type}{o:ar α}{f:α->β}{mu:Mu}:bS (o.map f) mu=(bS o mu).bind λa mu=>.ok (f a) mu:=by cases o<;>rfl
theorem Qu(hx:qt x [114,97,110,103,101]=ae)(hg:glob cx x=ae)(h:sE C d cx es Es):qy C d cx (.Call (.Name x p) es [] pos) (.range Es):=λ{k au σ} z c=>.of λS=>by
 show Gp _ _ _ ((su C Es au σ.mu).bind λvs mu=>bS ((gi vs).map λl=>(l,au)) mu) _;have e:(λ(vs:ag PV) mu=>bS ((gi vs).map λl=>(l,au)) mu)=λvs mu=>(bS (gi vs) mu).bind λl mu=>.ok (l,au) mu:=funext λvs=>funext λmu=>Li;rw[e,Res.Cr];exact((cw (R':=RRg) (h.plain k.env pos) (λτ Z Q E q=>Fk q) (h.v z c) λf7 vs τ P r=>Dn r).l0 (T₂:=λv=>wq k.A (kX v)) (T':=itw k.A (.Call (.Name x p) es [] pos) k.env) (λQ E q=>mH rfl (gF c.st S (z.cx▸hg) (mQ hx▸(Bx _).1) q))
  λls v τ P r=>Dp (c.to P) (P.new d8) r)
theorem xw{ts:ag T}(c:Here k au σ)(f:s₀.heap.get? σ.h.objs.size=ac)(r:RV (.t (.list ts)) v σ):Gp (wq A (call (.type "reversed") [v])) none_ σ (.ok (ts.reverse,au) σ.mu) (Bw k s₀):=
 q5 (P:=λv=>Gp (wq A (call (.type "reversed") [v])) none_ σ (.ok (ts.reverse,au) σ.mu) (Bw k s₀)) r λa vs n nx l q=>oC c f rfl (λS H e=>.mk (λA hA=>Walks.listRev hA σ.h.objs.size a (ne_size l) vs.toArray) (by rw[bb,fU,q.len])
  (λi h q9=>q9.2.1.elim λo z=>⟨o,_,z.1,z.2.2⟩) ⟨cF _,⟨_,e,rfl,by rw[show(vs.toArray.size:bE)-1-((0:aj):bE)=(vs.toArray.size:bE)-1 by omega];rfl⟩,⟨_,aI _ l,rfl,n,rfl⟩⟩ (Fj ⟨(H a _ nx l id).1,_,(H a _ nx l id).2⟩)
  λj v hj hp=>(Dm (q.mono λZ Z Z r=>r.eQ cK H) _ v (dw▸hp)).imp λt z=>⟨by rw[ag.getElem?_reverse (by rwa[fU] at hj), <-z.1,q.len];rfl,z.2⟩)
  λQ E q=>call_reversed_list ⟨_,l,rfl,n,rfl⟩ q
theorem aau(hx:qt x [114,101,118,101,114,115,101,100]=ae)(hg:glob cx x=ae)(h:fb C d cx e X'):qy C d cx (.Call (.Name x p) [e] [] pos) (.rev X'):=λ{k au σ} z c=>.of λS=>by
 have hL:=pn h (vR (C:=C) (d:=d) (cx:=cx));have q:io C (.rev X') au σ.mu=((su C [X'] au σ.mu).bind λvs mu=>match vs with |[pv]=>dO (pv.t?.bind T.l?) λl=>Res.ok (l.reverse,au) mu |_=>.aK).bind λp mu=>.ok p mu:=by
  rw[Res.yY];show(ev C X' au σ.mu).bind _=((ev C X' au σ.mu).bind _).bind _;rw[<-Res.Cr];rfl
 show Gp (itw k.A (.Call (.Name x p) [e] [] pos) k.env) none_ σ (io C (.rev X') au σ.mu) (Bw k σ.s);rw[q];refine(cw (R':=Bw k σ.s) (hL.plain k.env pos) (λτ Z Q E q=>Fk q) (hL.v z c) λf7 vs τ P r=>?_).l0 (T₂:=λv=>wq k.A (kX v)) (T':=itw k.A (.Call (.Name x p) [e] [] pos) k.env) (λQ E q=>mH rfl (gF c.st S (z.cx▸hg) (mQ hx▸(Bx _).2) q))
  λls v τ P ⟨I,hv,r⟩=>.val ⟨I,hv,r⟩ λQ E q=>by
   obtain⟨_,_,_,fp,P',St,K,I'⟩:=r;subst hv;exact(K.walk k.A c.st.om.hd).self 0 τ.s Q E I'.st q
 cases f7 with
 |nil=>exact .aK
 |cons pv f7=>
  cases f7 with
   |cons _ _=>exact .aK
   |nil=>
    obtain⟨v,vs,rfl,q1,r2⟩:=r.jo;cases r2.oi;refine .dO λl hl=>bj hl λt ht hl=>?_;cases fK ht;cases qY hl;exact xw (c.to P) (P.new d8) q1
end
theorem lookup_mem{β:Type}{y:bQ}{b:β}:∀{l:ag (bQ×β)},l.lookup y=aa b->(y,b)∈l
 |(n,u)::l,h=>
  by
   rw[cq] at h;exact cO h (λe h=>e▸aM h▸.head _) λZ h=>.tail _ (lookup_mem h)
theorem wc{β:Type}{g:bQ->β->β}{y:bQ}:∀{l:ag (bQ×β)},(l.map λp=>(p.1,g p.1 p.2)).lookup y=(l.lookup y).map (g y)
 |[]=>rfl
 |(n,u)::l=>
  by
   rw[bX,cq,cq,wc]
   by_cases q:y=n
   ·rw[aA q,aA q,q];rfl
   ·rw[aL q,aL q]
theorem p8{β:Type}{p:bQ->aW}{y:bQ}{v:β}{l:ag (bQ×β)}(h:(l.filter λq=>p q.1).lookup y=aa v):l.lookup y=aa v/\p y=true:=by
 induction l with
 |nil=>exact lX h
 |cons nu l ih=>
  cases nu with
   |mk n u=>
    rw[ag.filter_cons] at h
    by_cases hp:p n=ae
    ·rw[aA hp] at h
     exact cO (cq.symm.trans h) (λq e=>⟨(cq.trans (aA q)).trans e,q▸hp⟩) λq e=>⟨(cq.trans (aL q)).trans (ih e).1,(ih e).2⟩
    ·rw[aL hp] at h
     have z:=ih h;exact⟨(cq.trans (aL λq:y=n=>hp (q▸z.2))).trans z.1,z.2⟩
noncomputable def zo(env:Env)(y:bQ)(kd:iz):NameKind:=if(kd==.free&&env.scope.kind==.function&&env.kindOf y==aa .cell)=ae then .cell else kd
theorem we{sc:fQ}{env:Env}{y:bQ}:(YN sc env).names.lookup y=(sc.names.lookup y).map (zo env y):=by
 rw[<-wc];show(sc.names.map _).lookup y=_;congr 2;funext p;show(if _ then _ else _)=(p.1,if _ then _ else _)
 split<;>rfl
theorem mU{sc:fQ}{env:Env}{y:bQ}{kd:iz}(h:sc.names.lookup y=aa kd)(n:(kd==.free)=af):(YN sc env).names.lookup y=aa kd:=by
 rw[we,h];show aa (zo env y kd)=_;unfold zo;rw[n];rfl
theorem zp{sc:fQ}{env:Env}{y:bQ}(h:sc.names.lookup y=aa .free):(YN sc env).names.lookup y=aa .cell\/(YN sc env).names.lookup y=aa .free:=by
 rw[we,h];unfold zo;show aa (if _ then _ else _)=_\/aa (if _ then _ else _)=_
 split
 ·exact .inl rfl
 ·exact .inr rfl
structure VP(sc:fQ)(env:Env)(cl:ag (bQ×aN)):Prop where
 (old:∀x c,cl.lookup x=aa c->env.cells.lookup x=aa c) (all:∀x,sc.names.lookup x=aa .free->∃c,cl.lookup x=aa c)
theorem Dq{env:Env}{f:bQ×iz->ag (bQ×aN)->Sem (Jc (ag (bQ×aN)))}(hf:∀name kind cs,f (name,kind) cs=if kind==.free then(do let c <-cellOf env name;pure (.yield ((name,c)::cs))) else pure (.yield cs))
 {names:ag (bQ×iz)} {a8:ag (bQ×aN)} (hn:∀p∈names,p.2=.free->∃c,env.cells.lookup p.1=aa c) (ha:∀x c,a8.lookup x=aa c->env.cells.lookup x=aa c):
  ∃cl,forIn names a8 f=pure cl/\(∀x c,cl.lookup x=aa c->env.cells.lookup x=aa c)/\∀x,((x,.free)∈names\/∃c,a8.lookup x=aa c)->∃c,cl.lookup x=aa c:=by
 induction names generalizing a8 with
 |nil=>exact⟨a8,qg,ha,λx h=>h.elim (λh=>aQ h ny) id⟩
 |cons nk r ih=>
  cases nk with
   |mk n kd=>
    by_cases hk:(kd==NameKind.free)=ae
    ·refine fJ (hn (n,kd) (.head _) (eq_of_beq hk)) λc hc=>?_
     have e1:f (n,kd) a8=pure (.yield ((n,c)::a8)):=by
      rw[hf,aA hk,show cellOf env n=pure c by unfold cellOf;rw[show env.cells.lookup n=aa c from hc]]
      rfl
     refine nB (ih (a8:=(n,c)::a8) (λp m=>hn p (.tail _ m)) λx c' e=>cO (cq.symm.trans e) (λq e=>q▸e▸hc) λZ=>ha x c') λcl h1 h2 h3=>⟨cl,by rw[gu,e1];exact h1,h2,λx h=>h3 x ?_⟩
     by_cases q:x=n
     ·exact .inr ⟨c,cq.trans (aA q)⟩
     ·exact h.imp (λm=>(aJ.mp m).resolve_left λe=>q (av dQ e)) λh=>h.imp λc' e=>(cq.trans (aL q)).trans e
    ·refine nB (ih (a8:=a8) (λp m=>hn p (.tail _ m)) ha) λcl h1 h2 h3=>⟨cl,by rw[gu,hf,aL hk];exact h1,h2,λx h=>h3 x (h.imp_left λm=>(aJ.mp m).resolve_left λe=>hk (bT.mpr (av ua e).symm))⟩
theorem wg{sc:fQ}{env:Env}(hn:∀p∈sc.names,p.2=.free->∃c,env.cells.lookup p.1=aa c):∃cl,closureFor sc env=pure cl/\VP sc env cl:=by
 have key:∀f:bQ×iz->ag (bQ×aN)->Sem (Jc (ag (bQ×aN))),(∀name kind cs,f (name,kind) cs=if kind==.free then(do let c <-cellOf env name;pure (.yield ((name,c)::cs))) else pure (.yield cs))->
  ∃cl,(forIn sc.names [] f >>=λr=>pure r)=pure cl/\VP sc env cl:=λf hf=>by
  refine nB (Dq hf hn (a8:=[]) λx c h=>lX h) λcl h1 h2 h3=>?_;exact⟨cl,by rw[h1];rfl,h2,λx h=>h3 x (.inl (lookup_mem h))⟩
 exact key _ λZ Z Z=>rfl
theorem TC{x:bQ}(h:JD x=ae):(x==("__debug__":bQ))=af/\(x==("__classdict__":bQ))=false:=by
 have z:=aF.mp h;exact⟨aD.mpr λe=>aQ z.1 (by subst e;decide+kernel),aD.mpr λe=>aQ z.2 (by subst e;decide+kernel)⟩
structure Qv(cx:Cx)(sc:fQ):Prop where
 (kind:sc.kind=.function) (zq:∀p∈sc.names,p.2≠.cell) (free:∀p∈sc.names,p.2=.free->vC (cx.names.lookup p.1)=ae)
structure Dr(cx:Cx)(sc:fQ)(x:bQ):Prop where
 (s:Qv cx sc) (nm:JD x=ae) (lx:sc.names.lookup x=aa .local) (au:∀p∈sc.names,p.2=.local->sc.names.lookup p.1=aa .local)
theorem wi{a b:iz}(h:(a != b)=ae):a≠b:=λe=>by rw[e,xS] at h;cases h
theorem Lj{a b:iz}{c:aW}(h:(a != b||c)=ae)(e:a=b):c=true:=by rw[e,xS] at h;exact h
theorem Ds{cx:Cx}{sc:fQ}{x:bQ}(h:lK cx sc x=ae):Dr cx sc x:=
 have h1:=aF.mp h;have h2:=aF.mp h1.1;have h3:=aF.mp h2.1;have h4:=λp m=>(aF.mp (aE.mp h1.2 p m)).imp_left aF.mp
 ⟨⟨eq_of_beq h3.1,λp m=>wi (h4 p m).1.1,λp m=>Lj (h4 p m).2⟩,h3.2,eq_of_beq h2.2,λp m e=>eq_of_beq (Lj (h4 p m).1.2 e)⟩
theorem VQ{o:ar iz}(h:vC o=ae):o=aa .cell\/o=aa .free:=(fT.mp h).imp eq_of_beq eq_of_beq
section
variable{k:K}{au:Loc}{σ τ:W}{sc:fQ}{cl:ag (bQ×aN)}{L:aN}{x:bQ}{s:aG}
structure Inh(k:K)(sc:fQ)(cl:ag (bQ×aN))(I0:ag (bQ×aj)):Prop where
 (HF:VP sc k.env cl) (sc_:Qv k.cx sc) (sl:∀y i,I0.lookup y=aa i->k.cx.sl.lookup y=aa i/\sc.names.lookup y=aa .free)
theorem Inh.val(c:Here k au σ){I0:ag (bQ×aj)}(z:Inh k sc cl I0){Qw:Env}(hk:∀y,sc.names.lookup y=aa .free->Qw.kindOf y=aa .cell\/Qw.kindOf y=aa .free)(hc:Qw.cells=cl)(kp:Grows σ.h s.heap)(mv:∀pv v,gL σ pv v->gL τ pv v)(hs:τ.s=s){y:bQ}{i:aj}{pv:PV}(h1:I0.lookup y=aa i)(h2:gV au i=aa pv):
 ∃v,Binds Qw τ.h y v/\gL τ pv v:=by
 have a:=z.sl y i h1;refine bH (c.val y i pv a.1 h2) λv b r=>?_;refine fJ (z.HF.all y a.2) λcc q=>?_;refine⟨v,.cell (hk y a.2) cc (hc▸q) ?_,mv pv v r⟩;show τ.s.heap.IsCell cc (aa v);rw[hs];cases b with
 |au b1=>exact((c.st.EW y (z.sc_.free _ (lookup_mem a.2) rfl)).1.elim (λe=>by rw[b1] at e;cases e) λe=>by rw[b1] at e;cases e)
 |cell b1 c' b2 ic=>
  cases (z.HF.old _ _ q).symm.trans b2;exact l4 (λo ho=>⟨o,kp _ _ ho,rfl⟩) ic
theorem slk(c:Here k au σ)(f:Dr k.cx sc x)(uI:VP sc k.env cl):Inh k sc cl (k.cx.sl.filter λp=>sc.names.lookup p.1==aa .free):=
 ⟨uI,f.s,λy i h=>(p8 (p:=λz=>sc.names.lookup z==aa .free) h).imp_right eq_of_beq⟩
noncomputable abbrev K.comp(k:K)(sc:fQ)(cl:ag (bQ×aN))(L:aN)(x:bQ):K:=⟨k.A,k.l,compEnvC sc cl L k.env,jc k.cx sc x,k.d⟩
theorem HG{m:bQ->ar ao}(c:Here k au σ)(S:Ok σ)(f:Dr k.cx sc x)(uI:VP sc k.env cl)(kp:Grows σ.h s.heap)(os:s.os=σ.s.os)(nw:σ.h.get? L=ac)(ns:s.heap.Ns L m):Here (k.comp sc cl L x) au ((σ.to s).fr [L]):=by
 have z:=slk c f uI;have nN:=p7.grow (N:=[L]) S kp os (λa m=>aC.mp m▸nw) λa m=>aC.mp m▸ns.elim λo q=>q.elim λZ q=>q.elim λZ q=>⟨o,q.1⟩;have mv:∀pv v,gL σ pv v->gL ((σ.to s).fr [L]) pv v:=λZ Z r=>r.eQ cK nN.held λi q Z=>id;have I0:∀y i,(jc k.cx sc x).sl.lookup y=aa i->(y=x/\i=k.cx.n)\/(y≠x/\(k.cx.sl.filter λp=>sc.names.lookup p.1==aa .free).lookup y=aa i):=λy i h=>by
  have h:((x,k.cx.n)::k.cx.sl.filter λp=>sc.names.lookup p.1==aa .free).lookup y=aa i:=h;rw[cq] at h;exact cO h (λq e=>.inl ⟨q,(aM e).symm⟩) λq e=>.inr ⟨q,e⟩
 have EW:∀y,sc.names.lookup y=aa .free->((compEnvC sc cl L k.env).kindOf y=aa .cell\/(compEnvC sc cl L k.env).kindOf y=aa .free)/\∃c,cl.lookup y=aa c:=λy h=>⟨zp h,uI.all y h⟩;exact
 {st:=
  {
   om:=c.st.om
   kind:=f.s.kind
   glob:=c.st.glob
   blt:=c.st.blt
   top:=c.st.top
   G6:=λy z c' h1 h2=>c.st.G6 y z c' (uI.old y c' h1) (uI.old z c' h2)
   AX:=λy y' i h1 h2=>(I0 y i h1).elim (λa=>(I0 y' i h2).elim (λb=>a.1.trans b.1.symm) λb=>aQ (c.st.lt _ _ (z.sl _ _ b.2).1) (a.2▸cL _)) λa=>(I0 y' i h2).elim (λb=>aQ (c.st.lt _ _ (z.sl _ _ a.2).1) (b.2▸cL _)) λb=>c.st.AX y y' i (z.sl _ _ a.2).1 (z.sl _ _ b.2).1
   lt:=λy i h=>(I0 y i h).elim (λa=>a.2▸da _) λa=>OL (c.st.lt _ _ (z.sl _ _ a.2).1)
   gl:=λy h=>mU h rfl
   sl:=λy i h=>(I0 y i h).elim (λa=>by rw[a.1];exact .inl (mU f.lx rfl)) λa=>.inr (EW y (z.sl _ _ a.2).2)
   nm:=λy i h=>(I0 y i h).elim (λa=>a.1▸TC f.nm) λa=>c.st.nm y i (z.sl _ _ a.2).1
   EW:=λy h=>(VQ (o:=sc.names.lookup y) h).elim (λe=>aQ rfl (f.s.zq _ (lookup_mem e))) (EW y)
   U8:=c.st.U8}
  ns:=⟨m,ns⟩
  cell:=λy c' h=>(c.cell y c' (uI.old y c' h)).elim λi q=>⟨i.imp λv=>l4 λo ho=>⟨o,kp _ _ ho,rfl⟩,.tail _ q.1,λe=>i.elim λv i=>i.elim λo i=>lX ((show σ.h.get? c'=ac from(show c'=L from e)▸nw).symm.trans i.1)⟩
  sub:=λa m=>.tail _ (c.sub a m)
  JK:=.head _
  AY:=λa m=>(c.AY a m).imp λo q=>⟨kp _ _ q.1,q.2⟩
  hi:=λi pv h=>OL (c.hi i pv h)
  val:=λy i pv h1 h2=>(I0 y i h1).elim (λa=>aQ (c.hi _ _ h2) (a.2▸cL _)) λa=>z.val c (λy h=>(EW y h).1) rfl kp mv rfl a.2 h2}
end
noncomputable abbrev wj(ifs:ag bV)(env:Env):Sem Bool:=forIn ifs ae λc r=>if r=ae then do let ok <-isTrue c env (eval c env);pure (jX ok) else pure (jX r)
theorem tS{f:bV->aW->Sem (Jc aW)}(hf:∀c,f c af=pure (.yield af)):∀ifs:ag bV,forIn ifs af f=(pure af:Sem aW)
 |[]=>qg
 |c::r=>by rw[gu,hf,pure_bind];exact tS hf r
def sN(C:Calls)(d:aj)(cx:Cx)(ifs:ag bV)(Es:ag E):Prop:=∀{k au σ},At d cx k->GE k au (wj ifs k.env) σ (i6 C Es au σ.mu) Rb
section
variable{C:Calls}{d:aj}{cx:Cx}{e a b:bV}{es ifs:ag bV}{X' Y:E}{Es:ag E}{k:K}{au:Loc}{σ τ υ:W}{A:bW}{O:aN->Prop}{x:bQ}{j slot:aj}{pv:PV}{v:ao}{t:T}{px:Pos}
theorem Lk:sN C d cx [] []:=λZ Z=>.pure rfl
theorem HH(h:fb C d cx e X')(t:sN C d cx es Es):sN C d cx (e::es) (X'::Es):=λ{k au σ} z=>by
 have q:wj (e::es) k.env=(isTrue e k.env (eval e k.env) >>=λok=>forIn es ok λc r=>if r=ae then do let ok <-isTrue c k.env (eval c k.env);pure (jX ok) else pure (jX r)):=by
  unfold wj;rw[gu,aA rfl,bind_assoc];rfl
 rw[q];exact(h.b z).bind λb b' τ P r=>by
  cases (r);cases b with
  |true=>exact t z
  |false=>rw[tS λc=>rfl];exact λZ=>.pure rfl
theorem Gp.with{α β:Type}{T':PT β}{r:Res α}{R:α->β->W->Prop}(c:Here k au σ)(h:Gp T' none_ σ r R):Gp T' none_ σ r λa b τ=>R a b τ/\Here k au τ:=λQ E ko=>h Q E λa b τ e S P x=>ko a b τ e S P ⟨x,c.to P⟩
abbrev El:=bW->Env->aN->PT fP
def By(d:aj)(cx:Cx)(el:El)(R:aj->Loc->Mu->Res fP):Prop:=∀{k au σ j q},At d cx k->Here k au σ->σ.p[j]? =aa q->Gp (el k.A k.env q.1) none_ σ (R j au σ.mu) RT
noncomputable abbrev elL(e:bV):El:=λA env D Q E s=>aX (bP prog w) A (eval e env) (λx s=>aX (bP prog w) A (call (.builtin "list.append") [.ref D,x]) (λZ s=>Q () s) E s) E s
noncomputable abbrev elD(a b:bV):El:=λA env D Q E s=>aX (bP prog w) A (eval a env) (λx s=>aX (bP prog w) A (eval b env) (λy s=>aX (bP prog w) A (xK D x y) Q E s) E s) E s
theorem append_one{xs:ag PV}{q:aN×aN}(hq:σ.p[j]? =aa q)(he:σ.mu[j]? =aa (.list xs))(hl:xs.length<bp)(r:RV (.t t) v σ):Gp (λQ E s=>aX (bP prog w) A (call (.builtin "list.append") [.ref q.1,v]) (λZ s=>Q () s) E s) O σ (.ok () (σ.mu.set j (.list (xs++[.t t])))) RT:=λQ E ko ke ns S=>
 Gp.Yi (g:=λZ=>()) (f:=λZ=>()) (tO (σ:=σ) (O:=O) (A:=A) ⟨q,hq,rfl⟩ r he hl) (λZ Z x=>x) (λZ Z Z Z=>trivial) Q E ko ke ns S
noncomputable abbrev rL(C:Calls)(X':E)(j:aj)(au:Loc)(mu:Mu):Res Unit:=(ev C X' au mu).bind λv mu=>(d0 v mu).bind λt mu=>n8 j t mu
noncomputable abbrev rD(C:Calls)(X' Y:E)(j:aj)(au:Loc)(mu:Mu):Res Unit:=(ev C X' au mu).bind λx mu=>(ev C Y au mu).bind λy mu=>dO (x.t?.bind T.s?) λs=>(d0 y mu).bind λy mu=>JA j (.str s) y mu
theorem Qx(h:fb C d cx e X'):By d cx (elL e) (rL C X'):=λz c hq=>
 (h.v z c).l0 (T₂:=λx Q E s=>aX (bP prog w) _ (call (.builtin "list.append") [.ref _,x]) (λZ s=>Q () s) E s) (λZ Z x=>x) λpv v τ P r=>.Cq r λt mu P' r'=>.dO λxs he=>.if λhl=>append_one (σ:=τ.at mu) (P'.pre _ _ (P.pre _ _ hq)) (jS he) hl r'
theorem Qy(h:fb C d cx a X')(h':fb C d cx b Y):By d cx (elD a b) (rD C X' Y):=λz c hq=>
 (h.v z c).l0 (T₂:=λx Q E s=>aX (bP prog w) _ (eval b _) (λy s=>aX (bP prog w) _ (xK _ x y) Q E s) E s) (λZ Z x=>x) λpv v τ P r=>
  (h'.v z (c.to P)).l0 (T₂:=λy=>wq _ (xK _ v y)) (λZ Z x=>x) λpv' v' υ P' r'=>.dO λs hs=>bj hs λt ht hs=>by
   cases fK ht;cases qZ hs;exact .Cq r' λt mu xr Z9=>.dO λkvs he=>.if λhk=>(sG (σ:=υ.at mu) (oq he) (xr.pre _ _ (P'.pre _ _ (P.pre _ _ hq))) hk.1 hk.2 (bK.to xr (t:=.str s) (bK.to P' (t:=.str s) r)) Z9 λknd xs k a b c Q E q=>uw a b q c).mono λZ Z Z Z=>trivial
noncomputable abbrev TF(x:bQ)(px:Pos)(ifs:ag bV)(el:El)(D:aN)(A:bW)(env:Env)(v:ao):PT Unit:=λQ E s=>aX (bP prog w) A (qJ (.Name x px) env v) (λZ s=>aX (bP prog w) A (wj ifs env) (λok s=>if ok=ae then el A env D Q E s else Q () s) E s) E s
noncomputable abbrev kg(C:Calls)(Es:ag E)(R:aj->Loc->Mu->Res fP)(j:aj):Loc->Mu->Res Unit:=λau mu=>(i6 C Es au mu).bind λb mu=>if b then R j au mu else .ok () mu
theorem HI{el:El}{R:aj->Loc->Mu->Res fP}{q:aN×aN}(hC:sN C d cx ifs Es)(VR:By d cx el R)(z:At d cx k)(c:Here k au σ)(hs:k.cx.sl.lookup x=aa slot)(r:RV (.t t) v σ)(hq:σ.p[j]? =aa q):
 Gp (TF x px ifs el q.1 k.A k.env v) (Px k.env x) σ (kg C Es R j (upd au slot (.t t)) σ.mu) λZ Z τ=>Here k (upd au slot (.t t)) τ:=
 (tQ hs r c).l0 (g:=λZ mu=>kg C Es R j (upd au slot (.t t)) mu) (T₂:=λZ Q E s=>aX (bP prog w) k.A (wj ifs k.env) (λok s=>if ok=ae then el k.A k.env q.1 Q E s else Q () s) E s) (λZ Z x=>nU x) λZ Z τ P Qz=>
  ((hC z Qz).l0 (T₂:=λok Q E s=>if ok=ae then el k.A k.env q.1 Q E s else Q () s) (R':=λZ Z τ=>Here k (upd au slot (.t t)) τ) (λZ Z x=>x) λb b' υ P' e=>by
   cases (e);cases b with
   |true=>exact((VR z (Qz.to P') (P'.pre _ _ (P.pre _ _ hq))).with (Qz.to P')).mono λZ Z Z x=>x.2
   |false=>exact .val (Qz.to P') λZ Z q=>q).to
end
def rC(e:bV)(x:bQ)(px:Pos)(ifs:ag bV)(el:El):Prop:=∀{A:bW}{R:X7->aG->Prop}{s:aG}{it:ao}{D:aN}{env:Env}(I:aj->aG->Prop),
 (∀n s,I n s->aX (bP prog w) A (NZ it) (λr di=>match r with |none=>R (.ok .next) di |some v=>TF x px ifs el D A env v (λZ s=>∃m,m<n/\I m s) (notedBy (bP prog w) A env λe s'=>R (.error e) s') di) (notedBy (bP prog w) A env λe s'=>R (.error e) s') s)->
  ∀n,I n s->mA (bP prog w) A (.compLoop e 0 it (.ref D) env) R s
theorem VS{elt iter:bV}{ifs:ag bV}{sc:fQ}{x:bQ}{px pos:Pos}:rC (.ListComp elt [⟨.Name x px,iter,ifs,0⟩] sc pos) x px ifs (elL elt):=λI turn n h=>codeAny_compLoop_tests I turn n h
theorem VT{a b iter:bV}{ifs:ag bV}{sc:fQ}{x:bQ}{px pos:Pos}:rC (.DictComp a b [⟨.Name x px,iter,ifs,0⟩] sc pos) x px ifs (elD a b):=λI turn n h=>codeAny_compLoop_testsD I turn n h
theorem gW.pre{s s₀:aG}{ea:aN}{x:ao}{h:dK}(k:∀a o,s₀.heap.get? a=aa o->∃o',s.heap.get? a=aa o'):gW s ea x h->gW s₀ ea x h:=λq9=>xn q9 λoe vs T oT ts a b c=>
 have fr:∀a,s.heap.get? a=ac->s₀.heap.get? a=none:=λa h=>is_none λo e=>(k a o e).elim λo' z=>lX (h.symm.trans z)
 ⟨oe,vs,T,oT,ts,{a with new:=fr _ a.new},{b with new:=fr _ b.new},c⟩
theorem QA{α:Type}{ls:ag α}{i:aj}{t:α}(h:ls[i]? =aa t):ls.drop i=t::ls.drop (i+1):=by
 obtain⟨hi,e⟩:=ay.mp h;rw[Ax hi,e]
theorem agZ{au:Loc}{i:aj}{a b:PV}:upd (upd au i a) i b=upd au i b:=jH ..
section
variable{C:Calls}{d:aj}{cx:Cx}{e:bV}{ifs:ag bV}{Es:ag E}{k:K}{au eX:Loc}{σ τ:W}{O:aN->Prop}{x:bQ}{i j slot:aj}{px:Pos}{el:El}{R:aj->Loc->Mu->Res fP}{ls:ag T}{I:aN}{fp:ag aN}{P:aj->ao->Prop}{St:aj->dK->Prop}{q:aN×aN}
abbrev OI(O:aN->Prop)(I:aN)(a:aN):Prop:=a=I\/O a
theorem Pr.iP{a:aN}:Pr k.env a->Lb k a:=λh=>h.elim .inl λh=>.inr (.inr h)
theorem Px.iP{a:aN}:Px k.env x a->Lb k a:=λh=>h.elim (λh=>.inl h.2) λh=>.inr (.inr ⟨x,h.2⟩)
theorem Here.own(c:Here k au σ){a:aN}:Lb k a->a∈σ.fs
 |.inl h=>h▸c.JK
 |.inr (.inl h)=>c.sub a h
 |.inr (.inr ⟨x,h⟩)=>(c.cell x a h).2.1
theorem Here.xv(c:Here k au σ)(P:ib O σ τ)(hX:∀a,O a->X σ a)(hO:∀a,Lb k a->¬O a):Here k au τ:=
 c.move (λZ Z r=>r.eQ cK (P.EU hX) λi q Z=>P.pre i q) (λZ Z m=>P.fs▸m) (λo e=>(P.gE _ o e c.JK).imp λo' z=>⟨z.1,(z.2.same (hO _ (.inl rfl))).1⟩)
  (λx a h o e=>(P.gE _ o e (c.cell x a h).2.1).imp λo' z=>⟨z.1,(z.2.same (hO _ (.inr (.inr ⟨x,h⟩)))).1⟩) λa m Z=>P.dict (c.sub a m)
structure Turn(O:aN->Prop)(k:K)(I:aN)(ls:ag T)(fp:ag aN)(P:aj->ao->Prop)(St:aj->dK->Prop)(slot:aj)(au:Loc)(σ:W)(i:aj)(τ:W)(eX:Loc):Prop where
 it:Fh ls I fp P St i τ
 here:Here k eX τ
 ok:Ok τ
 xv:ib (OI O I) σ τ
 le:i<=ls.length
theorem Turn.pO(c:Turn O k I ls fp P St slot au σ i τ eX)(h:I∈σ.fs):I∈τ.fs:=c.xv.fs▸h
theorem Turn.next(c:Turn O k I ls fp P St slot au σ i τ eX)(K:tR ls I fp P St)(pO:I∈σ.fs)(ap:∀a,Lb k a->a≠I)(hh:k.A.handled=ac)(hi:i<ls.length){Q:ar ao->aG->Prop}{E:ao->aG->Prop}
 (q:∀v t di,ls.drop i=t::ls.drop (i+1)->RV (.t t) v (τ.to di)->Turn O k I ls fp P St slot au σ (i+1) (τ.to di) eX->Q (aa v) di):aX (bP prog w) k.A (NZ (.ref I)) Q E τ.s:=
 c.it.next K (c.pO pO) c.ok hh hi λv t di ht j1 pL r x=>q v t di (QA ht) r
  ⟨x,c.here.xv pL (λa h=>.inr (h▸c.pO pO)) ap,j1,c.xv.trans (pL.wide λZ Z Z h=>.inl h),hi⟩
theorem Turn.step{υ:W}{TG:Loc}(hO:∀a,O a->Lb k a)(c:Turn O k I ls fp P St slot au σ i τ eX)(K:tR ls I fp P St)(pO:I∈σ.fs)(ap:∀a,Lb k a->a≠I)(P':ib O τ υ)(S:Ok υ)(h:Here k TG υ):Turn O k I ls fp P St slot au σ i υ TG:=
 ⟨c.it.step K (c.pO pO) P' (λa h=>.inr (c.here.own (hO a h))) λh=>ap I (hO I h) rfl,h,S,c.xv.trans (P'.wide λZ Z Z h=>.inr h),c.le⟩
theorem HJ(rule:rC e x px ifs el)(hC:sN C d cx ifs Es)(VR:By d cx el R)(z:At d cx k)(hs:k.cx.sl.lookup x=aa slot)(K:tR ls I fp P St)(pO:I∈σ.fs)(ap:∀a,Lb k a->a≠I)(c:Here k au σ)(S:Ok σ)(Dt:Fh ls I fp P St 0 σ)(hq:σ.p[j]? =aa q){Rs:X7->aG->Prop}
 (ns:dS (kg C Es R j) slot au ls σ.mu≠.aK)
 (ok:∀τ di,dS (kg C Es R j) slot au ls σ.mu=.ok () τ.mu->Ok τ->ib (OI (Px k.env x) I) σ τ->(∀b o,b ∉ [I]->τ.h.get? b=aa o->di.heap.get? b=aa o)->di.gens=τ.s.gens->di.os=τ.s.os->Rs (.ok .next) di)
 (ex:∀τ ea,∀L:aN,dS (kg C Es R j) slot au ls σ.mu=.exc τ.mu->Ok τ->ib (OI (Px k.env x) I) σ τ->gW σ.s ea (rawInt L) τ.h->Rs (.error (.ref ea)) τ.s):mA (bP prog w) k.A (.compLoop e 0 (.ref I) (.ref q.1) k.env) Rs σ.s:=by
 refine rule (λn s=>∃i τ eX,s=τ.s/\n=ls.length-i/\Turn (Px k.env x) k I ls fp P St slot au σ i τ eX/\(∀v,upd eX slot v=upd au slot v)/\dS (kg C Es R j) slot au (ls.drop i) τ.mu=dS (kg C Es R j) slot au ls σ.mu) ?_ ls.length
  ⟨0,σ,au,rfl,rfl,⟨Dt,c,S,.refl,cF _⟩,λZ=>rfl,rfl⟩
 intro n s0 q0;refine UP q0 λi τ eX z1 z2 tn hu hr=>?_;subst z1;subst z2;generalize dS (kg C Es R j) slot au ls σ.mu=res at ns ok ex hr
 by_cases hi:i<ls.length
 ·refine tn.next K pO ap c.st.om.hd hi λv t di hd r p9=>?_
  rw[hd] at hr;have g:=HI (px:=px) hC VR z p9.here hs r (p9.xv.pre _ _ hq);rw[hu] at g;have hr:(kg C Es R j (upd au slot (.t t)) τ.mu).bind (λZ mu=>dS (kg C Es R j) slot au (ls.drop (i+1)) mu)=res:=hr;refine g _ _ (λa b υ e S' P' c'=>?_) (λe υ h S' P' F=>?_) (λh=>ns (hr▸by rw[show kg C Es R j (upd au slot (.t t)) τ.mu=.aK from h];rfl)) p9.ok
  ·have e:kg C Es R j (upd au slot (.t t)) τ.mu=.ok a υ.mu:=e
   rw[e] at hr;exact⟨ls.length-(i+1),Jf hi (da i),i+1,υ,_,rfl,rfl,p9.step (λZ=>Px.iP) K pO ap P' S' c',λv=>agZ,hr⟩
  ·have h:kg C Es R j (upd au slot (.t t)) τ.mu=.exc υ.mu:=h
   rw[h] at hr;have j2:ib (OI (Px k.env x) I) σ υ:=p9.xv.trans (P'.wide λZ Z Z h=>.inr h);exact K7 (E:=λe s'=>Rs (.error e) s') (c.fr' S) S' j2 (F.pre p9.xv.ext) λL h' ea z JJ xr H=>by subst z;exact ex (υ.to _) ea L hr.symm JJ xr H
 ·have Pz:i=ls.length:=gy tn.le (eO.mp hi)
  subst Pz;rw[OM] at hr;exact tn.it.done K c.st.om.hd λdi kp g os=>ok τ di hr.symm tn.ok tn.xv kp g os
end
theorem p7.of{σ τ:W}{N:ag aN}(le:Le σ τ)(nw:∀a∈N,σ.h.get? a=ac)(S:Ok (τ.fr N)):p7 σ τ N:=
 ⟨le,nw,λa m=>(S.gE a (bY _ m)).2.2,λa m=>(S.gE a (bY _ m)).1,λa m=>(S.gE a (bY _ m)).2.1⟩
section
variable{C:Calls}{d:aj}{cx:Cx}{e it:bV}{ifs:ag bV}{Es:ag E}{k:K}{au:Loc}{σ τ υ:W}{O:aN->Prop}{x:bQ}{j slot:aj}{px:Pos}{el:El}{R:aj->Loc->Mu->Res fP}{I D L:aN}{pv:PV}{sc:fQ}{γ:Type}{g:PV->Mu->Res γ}{R':γ->ao->W->Prop}
theorem l9{α:Type}{pv:α}{mu:Mu}(ns:eh j pv mu≠.aK):eh j pv mu=.ok pv (mu.take j)/\mM j (mu.take j)=true:=by
 unfold eh d7 at ns ⊢
 by_cases h:mM j (mu.take j)=ae
 ·rw[aA h];exact⟨rfl,h⟩
 ·rw[aL h] at ns;exact aQ rfl ns
theorem Du(S:Ok υ)(hp:υ.p[j]? =aa (D,0))(ns:eD j υ.mu≠.aK):∃pv,eD j υ.mu=.ok pv (υ.mu.take j)/\Ok (υ.cut j)/\RV pv (.ref D) (υ.cut j):=by
 unfold eD at ns ⊢
 by_cases hl:υ.mu.length=j+1
 ·rw[aA hl] at ns ⊢
  cases he:υ.mu[j]? with
  |none=>rw[he] at ns;exact aQ rfl ns
  |some o=>
   rw[he] at ns;have ns:vn j υ.mu o≠.aK:=ns;show ∃pv,vn j υ.mu o=_/\_;have out:∀a,x9 o (D,0) a->¬X (υ.cut j) a:=λa m=>Ff S (aP _) he hp m;have r:=S.rep j o _ he hp;cases o with
   |list xs=>
    cases ht:eB xs with
    |none=>exact aQ (show vn j υ.mu (.list xs)=.aK by show dO (eB xs) _=_;rw[ht];rfl) ns
    |some ts=>
     have e:vn j υ.mu (.list xs)=eh j (.t (.list ts)) υ.mu:=by show dO (eB xs) _=_;rw[ht];rfl
     rw[e] at ns ⊢;refine dZ r λvs n l r=>?_;exact⟨_,(l9 ns).1,S.cut (l9 ns).2,ly (h:=υ.h) (X:=X (υ.cut j)) (out D rfl) l ((pj ht r).mono λZ Z Z r=>r.eQ cK rz)⟩
   |dict kvs=>
    have ns:eh j (PV.t (.dict kvs)) υ.mu≠.aK:=ns;refine bH r λvs l r=>?_;exact⟨_,(l9 ns).1,S.cut (l9 ns).2,uF (h:=υ.h) (X:=X (υ.cut j)) (out D rfl) (S.off D ⟨j,_,_,he,hp,rfl⟩) l (r.mono λZ Z Z r=>r.eQ cK rz)⟩
   |_=>exact aQ rfl ns
 ·rw[aL hl] at ns;exact aQ rfl ns
theorem ib.aav(P:ib O σ τ):σ.p.length<=τ.p.length:=eO.mp λh=>lX ((pI (aP _)).symm.trans (P.pre _ _ (bz h)))
noncomputable abbrev aaw(A:bW)(AA:ar (ao->Sem fP))(a8:ao):PT Value:=λQ E s=>match AA with
 |none=>Q a8 s
 |some u=>aX (bP prog w) A (u a8) (λZ s=>Q .none s) E s
def rE(k:K)(σ:W)(AA:ar (ao->Sem fP))(O:aN->Prop)(g:PV->Mu->Res γ)(R':γ->ao->W->Prop):Prop:=∀{υ L pv a8},p7 σ υ [L]->Ok υ->Ok (υ.fr [L])->RV pv a8 (υ.fr [L])->
 Gp (aaw k.A AA a8) O (υ.fr [L]) (g pv υ.mu) λa b τ=>ib O (υ.fr [L]) τ->∀s₂,(∀b o,b ∉ [L]->τ.h.get? b=aa o->s₂.heap.get? b=aa o)->R' a b (τ.out s₂ σ.fs)
structure VU(zr:Sem ao)(ky:MO)(ob:fE):Prop where
 make:∀(A:bW) s Q E,Q (.ref s.heap.objs.size) {s with heap:=s.heap.push ob}->aX (bP prog w) A zr Q E s
 fr:ob.isFreed=af
 mo:∀q a,x9 ky q a->a=q.1
 rep:∀(σ:W) q,σ.h.get? q.1=aa ob->vE σ ky q
theorem VV{h:dK}{a b:aN}{o o':fE}{vs:cE ao}(d:tM o)(e:h.get? a=aa o)(e':h.get? b=aa o')(f:o'.data=.fields vs):b≠a:=λz=>wa d (aM (e.symm.trans (z▸e'))▸f)
theorem gW.keep{s:aG}{ea:aN}{x:ao}{h h':dK}(kp:∀b o vs,h.get? b=aa o->o.data=.fields vs->h'.get? b=aa o):gW s ea x h->gW s ea x h':=λq9=>xn q9 λoe vs T oT ts a b c=>
 ⟨oe,vs,T,oT,ts,{a with at_:=kp _ _ _ a.at_ a.data},{b with at_:=kp _ _ _ b.at_ b.data},c⟩
variable{ρ:W}{di:aG}{xu:aN->Prop}{AA:ar (ao->Sem fP)}{Q E:ao->aG->Prop}{ea:aN}{A:bW}{l:ag Env}{env:Env}
theorem Bz{a b:aN}(n:b≠a):b ∉ [a]:=λm=>n (aC.mp m)
theorem QB(fG:p7 σ ρ [L,I])(wb:Ok σ)(S:Ok τ)(P:ib xu (ρ.fr [L,I]) τ)(yu:∀a,xu a->a∈[L,I])(dL:∃o,ρ.h.get? L=aa o/\tM o)(nLI:L≠I)(kp:∀b o,b ∉ [I]->τ.h.get? b=aa o->di.heap.get? b=aa o)(gs:di.gens=τ.s.gens)(os:di.os=τ.s.os)
 (hp:τ.p[j]? =aa (D,0)) (hj:σ.p.length<=j) (hu:rE k σ AA O g R') (ko:KO O σ ((eD j τ.mu).bind g) R' Q) (ke:KE O σ ((eD j τ.mu).bind g) E) (ns:(eD j τ.mu).bind g≠.aK):compPost (bP prog w) k.A E AA Q (.ref D) L (.ok .next) di:=by
 refine nB (Du S hp λh=>ns (by rw[h];rfl)) λpv e Sc r=>?_
 rw[e] at ko ke ns;have iL:L∈τ.fs:=P.fs▸.head _;have iI:I∈τ.fs:=P.fs▸.tail _ (.head _);have iF:∀a∈σ.fs,a∈τ.fs/\a ∉ [L,I]:=λa m=>⟨P.fs▸cU [L,I] (fG.le.fs▸m),(wb.gE a m).2.2.elim λo e=>fG.old e⟩;have Vt:∀b o,b ∉ [L,I]->τ.h.get? b=aa o->di.heap.get? b=aa o:=λb o n=>kp b o λm=>n (.tail _ m);have Pυ:Le σ ((τ.out di σ.fs).cut j):=(fG.xv P (O:=none_) (λa h=>.inr (yu a h)) Vt os).cut hj;have Sυ:Ok ((τ.out di σ.fs).cut j):=Ok.out (υ:=τ.cut j) (N:=[L,I]) Sc Vt (λa m=>(aJ.mp m).elim (λh=>h▸iL) λm=>aC.mp m▸iI) iF gs;have hN:∀a∈[I],a∈τ.fs:=λa m=>aC.mp m▸iI;have hF:∀a∈L::σ.fs,a∈τ.fs/\a ∉ [I]:=λa m=>(aJ.mp m).elim (λh=>h▸⟨iL,Bz nLI⟩) λm=>(iF a m).imp_right λn m=>n (.tail _ m);have Sf:Ok (((τ.out di σ.fs).cut j).fr [L]):=Ok.out (υ:=τ.cut j) (N:=[I]) (F:=[L]++σ.fs) Sc kp hN hF gs;have z:p7 σ ((τ.out di σ.fs).cut j) [L]:=.of Pυ (λa m=>fG.nw a (aC.mp m▸.head _)) Sf;refine bH (dL.elim λo q=>P.dict (bY _ (.head _)) q.1 q.2) λoL eL dL=>?_;have H:=hu z Sυ Sf (gL.eQ (σ:=τ.cut j) (τ:=((τ.out di σ.fs).cut j).fr [L]) cK (Bv (υ:=τ.cut j) (N:=[I]) (F:=[L]++σ.fs) kp hN λa m=>(hF a m).1) (λZ Z Z e=>e) r)
  (λr K8=>∃m,K8.heap.Ns L m/\∀h',nR L K8.heap h'->Q r {K8 with heap:=h'}) E
  (λa b wl VJ kO j2 hR=>(j2.dict (bY _ (.head _)) (kp L oL (Bz nLI) eL) dL).elim λo' y=>(K6 y.1 y.2).imp λm n=>⟨n,λh' sb=>
   have Ll:∀b o,b ∉ [L]->wl.h.get? b=aa o->h'.get? b=aa o:=λb o n e=>(sb.2 b λq=>n (q▸.head _)).trans e
   ko a b (wl.out {wl.s with heap:=h'} σ.fs) VJ (z.ok j2 wb kO Ll rfl) (z.xv j2 (λZ=>.inl) Ll rfl) (hR j2 {wl.s with heap:=h'} Ll)⟩)
  (λe wl h kO j2 F=>ke e (wl.out wl.s σ.fs) h (z.ok j2 wb kO (λZ Z Z=>id) rfl) (z.xv j2 (λZ=>.inl) (λZ Z Z=>id) rfl) (F.pre Pυ.ext)) ns Sf
 cases AA<;>exact H
theorem QC(fG:p7 σ ρ [L,I])(c:Fr d A l env σ)(S:Ok τ)(P:ib xu (ρ.fr [L,I]) τ)(yu:∀a,xu a->a∈[L,I])(dL:∃o,ρ.h.get? L=aa o/\tM o){x a8:ao}(H:gW ρ.s ea x τ.h)
 (q:∀υ,υ.mu=τ.mu->Ok υ->Le σ υ->SY σ.s (.ref ea) υ.s->E (.ref ea) υ.s):compPost (bP prog w) A E AA Q a8 L (.error (.ref ea)) τ.s:=by
 refine bH (dL.elim λo q=>P.dict (bY _ (.head _)) q.1 q.2) λoL eL dL=>?_;have main:∃m,τ.s.heap.Ns L m/\∀h',nR L τ.s.heap h'->∀La:Env,La.locals=L->aX (bP prog w) A (passOn "comprehension.variables-let-go" (.ref ea) La:Sem ao) (λZ Z=>pT) E {τ.s with heap:=h'}:=
  (K6 eL dL).imp λm n=>⟨n,λh' sb La Z=>
   have kp:∀b o,b ∉ [L,I]->τ.h.get? b=aa o->h'.get? b=aa o:=λb o n e=>(sb.2 b λq=>n (q▸.head _)).trans e
   VM (τ:=τ.out {τ.s with heap:=h'} σ.fs) c (fG.ok P c.ok S kp rfl) (fG.xv P (O:=none_) (λa h=>.inr (yu a h)) kp rfl) ((H.pre fG.le.ext).keep λb o vs e f=>(sb.2 b (VV dL eL e f)).trans e) λIZ S' P' F=>q ((τ.out {τ.s with heap:=h'} σ.fs).to {τ.s with heap:=IZ}) rfl S' P' F⟩
 cases AA<;>exact main
theorem yv{aay:Comprehension}{uJ:It}{zr:Sem ao}{ky:MO}{ob:fE}{pos':Pos}(Lm:clausesOf e=[aay])(hf:∀v,YO aay.iter k.env v=pure v)(rule:rC e x px ifs el)
 (VX:∀A R s it a8 env,mA (bP prog w) A (.compLoop e 0 it a8 env) R s->aX (bP prog w) A (kX it) (λQD s'=>mA (bP prog w) A (.compLoop e 0 QD a8 env) R s') (notedBy (bP prog w) A env λx s'=>R (.error x) s') s->mA (bP prog w) A (.compStart e 0 it a8 env) R s)
 (sd:VU zr ky ob) (hI:qy C d cx it uJ) (hC:sN C d (jc cx sc x) ifs Es) (VR:By d (jc cx sc x) el R) (ok:lK cx sc x=ae) (z:At d cx k) (c:Here k au σ) (hu:rE k σ AA O g R'):
 Gp (wq k.A (IM e sc k.env pos' zr af (eval it k.env) AA)) O σ (((io C uJ au σ.mu).bind λp mu=>(dS (kg C Es R mu.length) cx.n p.2 p.1 (mu++[ky])).bind λZ d9=>eD mu.length d9).bind g) R':=λQ E ko ke ns S=>by
 have f:=Ds ok;rw[<-z.cx] at f;refine bH (wg (sc:=sc) (env:=k.env) λp m hp=>(c.st.EW p.1 (f.s.free p m hp)).2) λcl uI HF=>?_;refine wpAny_comprehension_free Lm hf uI f.s.kind f.au (hI z c _ E (λp v cY e j1 pL CW=>?_) (λe τ h S' P F=>ke e τ (by rw[h];rfl) S' P.any F) (λh=>ns (by rw[h];rfl)) S)
 refine OV CW λI z1 fI SI cI it=>?_;subst z1;refine yS it λfp P St K Dt=>?_;have e:io C uJ au σ.mu=.ok p cY.mu:=e;rw[e] at ko ke ns;refine sd.make k.A cY.s _ E ?_;have nD:∀a,x9 ky (cY.h.objs.size,0) a->cY.h.get? a=none:=λa m=>sd.mo _ a m▸d8;have rep:∀σ':W,σ'.s.heap=cY.h.push ob->vE σ' ky (cY.h.objs.size,0):=λσ' h=>sd.rep σ' _ (by show σ'.s.heap.get? _=_;rw[h];exact ck _ sd.fr)
 have G:=SI.more (s:=(cY.push ob).s) (o:=ky) (q:=(cY.h.objs.size,0)) (du ob) nD rfl rfl λZ=>rep _ rfl;have aaA:=j1.more (s:=(cY.push ob).s) (o:=ky) (q:=(cY.h.objs.size,0)) (du ob) nD rfl rfl λZ=>rep _ rfl;refine lq (around:=aa k.env) f.s.zq (λy m=>by cases m) (λsO Fl Ln=>?_) f.s.kind
 show mA _ _ _ _ {(cY.push ob).s with heap:=sO,toks:=(cY.push ob).s.toks+([]:ag (bQ×ao)).length}
 generalize Fm:({(cY.push ob).s with heap:=sO,toks:=(cY.push ob).s.toks+([]:ag (bQ×ao)).length}:aG)=s₃
 have nL:(cY.h.push ob).get? (cY.h.push ob).objs.size=none:=d8;have kp:Grows (cY.h.push ob) s₃.heap:=λa o e=>Fm▸(Ln.2 a (ne_size e)).trans (aI _ e);have go:s₃.os=cY.s.os:=Fm▸rfl;have nsL:s₃.heap.Ns (cY.h.push ob).objs.size λx=>([]:ag (bQ×ao)).reverse.lookup x:=Fm▸Fl;have NL:=p7.grow (N:=[(cY.h.push ob).objs.size]) (s:=s₃) G.1 kp go (λa m=>aC.mp m▸nL) λa m=>aC.mp m▸nsL.elim λo q=>q.elim λZ q=>q.elim λZ q=>⟨o,q.1⟩;have wm:=G.1.pO (s:=s₃) kp NL (Fm▸rfl);have hq:(cY.p++[(cY.h.objs.size,0)])[cY.mu.length]? =aa (cY.h.objs.size,0):=j1.len▸ph;have fG:p7 σ ((cY.more (cY.push ob).s ky (cY.h.objs.size,0)).to s₃) [(cY.h.push ob).objs.size,I]:=.of (pL.trans (aaA.2.trans (.grow kp go))) (λa m=>(aJ.mp m).elim (λh=>h▸(pL.trans aaA.2).new nL) λm=>aC.mp m▸fI) wm;have dL:∃o,s₃.heap.get? (cY.h.push ob).objs.size=aa o/\tM o:=nsL.imp λo q=>q.elim λes q=>q.elim λep q=>⟨q.1,es,ep,q.2.1,q.2.2.1⟩;have eI:∃o,(cY.h.push ob).get? I=aa o:=(K.obj _ _ Dt.st).imp λo q=>q.elim λZ q=>du ob _ _ q.1;have nLI:(cY.h.push ob).objs.size≠I:=eI.elim λo e=>(ne_size e).symm;have kl:(compEnvC sc cl (cY.h.push ob).objs.size k.env).kindOf x=aa .local:=mU f.lx rfl;have yu:∀a,OI (Px (compEnvC sc cl (cY.h.push ob).objs.size k.env) x) I a->a∈[(cY.h.push ob).objs.size,I]:=λa h=>h.elim (λh=>h▸.tail _ (.head _)) λh=>h.elim (λh=>h.2▸.head _) λh=>aQ kl h.1;generalize hr:dS (kg C Es R cY.mu.length) cx.n p.2 p.1 (cY.mu++[ky])=res at *;have hw:((Res.ok p cY.mu).bind λp mu=>(dS (kg C Es R mu.length) cx.n p.2 p.1 (mu++[ky])).bind λZ d9=>eD mu.length d9).bind g=(res.bind λZ d9=>eD cY.mu.length d9).bind g:=by rw[<-hr];rfl
 rw[hw] at ko ke ns;refine VX _ _ _ _ _ _ ?_ ((K.walk k.A c.st.om.hd).self 0 s₃ _ _ ((Dt.move K (τ:=(cY.fr [I]).more (cY.push ob).s ky (cY.h.objs.size,0)) (λo e=>du ob _ _ e) G.2.held).move K (λo e=>kp _ _ e) NL.held).st ?_)<;>
 exact HJ (k:=k.comp sc cl (cY.h.push ob).objs.size x) (cx:=jc cx sc x) (d:=d) (slot:=cx.n) (au:=p.2) (σ:=(((cY.fr [I]).more (cY.push ob).s ky (cY.h.objs.size,0)).to s₃).fr [(cY.h.push ob).objs.size]) rule hC VR ⟨z.cx▸rfl,z.d⟩ (by show((x,k.cx.n)::_).lookup x=_;rw[cq,aA rfl,z.cx]) K (.tail _ (.head _))
  (λa m=>m.elim (λm=>m▸nLI) λm=>(c.has (a:=a) (m.elim (λm=>.inr (.inl m)) λm=>m.elim λy m=>.inr (.inr ⟨y,HF.old _ _ m⟩))).elim λo e h=>lX ((h▸fI:σ.h.get? a=ac).symm.trans e))
  (HG (s:=s₃) (x:=x) (cI.to G.2) G.1 f HF kp go nL nsL) wm ((Dt.move K (τ:=(cY.fr [I]).more (cY.push ob).s ky (cY.h.objs.size,0)) (λo e=>du ob _ _ e) G.2.held).move K (λo e=>kp _ _ e) NL.held) hq
  (λh=>ns (by rw[<-hr,h];rfl))
  (λτ di h S' P' Vt g' os'=>QB fG S S' P' yu dL nLI Vt g' os' (P'.pre _ _ hq) (j1.len▸pL.aav) hu ((hr.symm.trans h▸ko:)) ((hr.symm.trans h▸ke:)) ((hr.symm.trans h▸ns:)))
  λτ ea L' h S' P' H=>QC fG (c.fr' S) S' P' yu dL H λυ e' JJ xr F=>ke _ υ (by rw[<-hr,h,e'];rfl) JJ xr.any F
end
section
variable{C:Calls}{d:aj}{cx:Cx}{a b e it:bV}{ifs:ag bV}{Es:ag E}{X' Y:E}{uJ:It}{k:K}{au:Loc}{σ τ υ:W}{x y:bQ}{px p pos pos':Pos}{sc:fQ}{i:aj}{q:Sem ao}
noncomputable def kP:bV->aW
 |.Set ..=>ae
 |_=>af
theorem zt{env:Env}{v:ao}(h:kP it=af):YO it env v=pure v:=by
 have r:=@rfl (Sem ao) (pure v);cases it<;>first |exact r |cases h
theorem aaB:VU (newList []) (.list []) {cls:=.type "list",dict:=ac,data:=.seq ([]:ag ao).toArray}:=
 ⟨λA s Q E q=>uZ (M:=bP prog w) q (by decide),rfl,λZ Z m=>m,λσ q e=>⟨[],0,e,trivial⟩⟩
theorem aaC:VU newDict (.dict []) {cls:=.type "dict",dict:=ac,data:=.dict #[]}:=
 ⟨λA s Q E q=>by unfold newDict;exact j9 q,rfl,λZ Z m=>m,λσ q e=>⟨[],(by
  refine yS (lT (knd:=strKind prog w) ({}:dK)) λo es ep ho r=>?_;rw[ck _ rfl] at ho;cases ho;exact .str [] [] rfl ⟨_,es,ep,e,r⟩),trivial⟩⟩
theorem Lo:rE k σ ac none_ (λpv mu=>.ok pv mu) RV:=λz Z Z r=>.val (λP s₂ kp=>z.rv P kp r) λZ Z q=>q
structure Made(C:Calls)(d:aj)(cx:Cx)(T':Env->ar (ao->Sem fP)->Sem ao)(X':E):Prop where
 go:∀{k au σ AA O}{γ:Type}{g:PV->Mu->Res γ}{R'},At d cx k->Here k au σ->rE k σ AA O g R'->Gp (wq k.A (T' k.env AA)) O σ ((ev C X' au σ.mu).bind g) R'
theorem Lp(ok:lK cx sc x=ae)(hf:kP it=af)(hI:qy C d cx it uJ)(hE:fb C d (jc cx sc x) e X')(hC:sN C d (jc cx sc x) ifs Es):Made C d cx (λenv AA=>IM (.ListComp e [⟨.Name x px,it,ifs,0⟩] sc pos) sc env pos' (newList []) af (eval it env) AA) (.comp X' cx.n uJ Es):=
 ⟨λz c hu=>yv (R:=rL C X') rfl (λv=>zt hf) VS (λZ Z Z Z Z Z=>codeAny_compStart_list) aaB hI hC (Qx hE) ok z c hu⟩
theorem Lq(ok:lK cx sc x=ae)(hf:kP it=af)(hI:qy C d cx it uJ)(hA:fb C d (jc cx sc x) a X')(hB:fb C d (jc cx sc x) b Y)(hC:sN C d (jc cx sc x) ifs Es):Made C d cx (λenv AA=>IM (.DictComp a b [⟨.Name x px,it,ifs,0⟩] sc pos) sc env pos' newDict af (eval it env) AA) (.qS X' Y cx.n uJ Es):=
 ⟨λz c hu=>yv (R:=rD C X' Y) rfl (λv=>zt hf) VT (λZ Z Z Z Z Z=>codeAny_compStart_dict) aaC hI hC (Qy hA hB) ok z c hu⟩
theorem Made.v{T':Env->ar (ao->Sem fP)->Sem ao}(m:Made C d cx T' X')(z:At d cx k):GE k au (T' k.env ac) σ (ev C X' au σ.mu) RV:=λc=>Res.yY (ev C X' au σ.mu)▸m.go z c Lo
theorem VY(ok:lK cx sc x=ae)(hf:kP it=af)(hI:qy C d cx it uJ)(hE:fb C d (jc cx sc x) e X')(hC:sN C d (jc cx sc x) ifs Es):fb C d cx (.ListComp e [⟨.Name x px,it,ifs,0⟩] sc pos) (.comp X' cx.n uJ Es):=
 gp (λ{k au σ} z=>by rw[YQ];exact(Lp (px:=px) (pos:=pos) (pos':=xT [⟨.Name x px,it,ifs,0⟩] pos) ok hf hI hE hC).v (au:=au) (σ:=σ) z) (λZ=>rfl) (λZ Z=>.inr rfl) (λZ Z=>rfl) λZ Z=>rfl
theorem QE(ok:lK cx sc x=ae)(hf:kP it=af)(hI:qy C d cx it uJ)(hA:fb C d (jc cx sc x) a X')(hB:fb C d (jc cx sc x) b Y)(hC:sN C d (jc cx sc x) ifs Es):fb C d cx (.DictComp a b [⟨.Name x px,it,ifs,0⟩] sc pos) (.qS X' Y cx.n uJ Es):=
 gp (λ{k au σ} z=>by rw[YR];exact(Lq (px:=px) (pos:=pos) (pos':=xT [⟨.Name x px,it,ifs,0⟩] pos) ok hf hI hA hB hC).v (au:=au) (σ:=σ) z) (λZ=>rfl) (λZ Z=>.inr rfl) (λZ Z=>rfl) λZ Z=>rfl
theorem Lr(c:Here k au σ)(hs:k.cx.sl.lookup y=aa i):rE k σ (aa (qJ (.Name y p) k.env)) (Pr k.env) (λpv mu=>.ok (cB.next,upd au i pv) mu) λa Z τ=>Here k a.2 τ/\a.1=.next:=λ{υ L pv a8} z S Sf r=>
 have h:=z.here c S
 Gp.Yi (g:=λZ:fP=>(cB.next,upd au i pv)) (f:=λZ:fP=>jd) (T':=aaw k.A (aa (qJ (.Name y p) k.env)) a8) (mT hs r h) (λZ Z q=>nU q) λZ Z τ h=>λP s₂ kp=>⟨z.back c P h kp,rfl⟩
end
def RFl(τ:W):cB->N3->Prop
 |.next,.next=>rV
 |.cont,.cont=>rV
 |.ret pv,.ret v=>RV pv v τ
 |_,_=>pT
def RF(k:K)(p:cB×Loc)(f:N3)(τ:W):Prop:=Here k p.2 τ/\RFl τ p.1 f
def g7(C:Calls)(d:aj)(cx:Cx)(st:oY)(S':S):Prop:=∀{k au σ},At d cx k->Here k au σ->Gp (wq k.A (dC st k.env)) (Pr k.env) σ (Mine.exec C S' au σ.mu) (RF k)
def nr(C:Calls)(d:aj)(cx:Cx)(ss:ag oY)(Ss:ag S):Prop:=∀{k au σ},At d cx k->Here k au σ->Gp (wq k.A (lV ss k.env)) (Pr k.env) σ (Mine.execs C Ss au σ.mu) (RF k)
structure HL(C:Calls)(d:aj)(cx:Cx)(e:bV)(X:E):Prop where
 v:∀{k au σ},At d cx k->GE k au (eval e k.env) σ (ev C X au σ.mu) RV
section
variable{C:Calls}{d:aj}{cx:Cx}{a b e o:bV}{es:ag bV}{X' Y fG:E}{k:K}{au:Loc}{σ τ υ:W}{x y nm:bQ}{px p q pos:Pos}{i f:aj}{env:Env}{s:oY}{S':S}{ss E9:ag oY}{Ss Ss':ag S}
theorem fb.toV(h:fb C d cx e X'):HL C d cx e X':=⟨h.v⟩
theorem HM:nr C d cx [] []:=λZ c=>.pure (b:=gb) ⟨c,trivial⟩
theorem Dv(h:g7 C d cx s S')(t:nr C d cx ss Ss):nr C d cx (s::ss) (S'::Ss):=λ{k au σ} z c=>
 Gp.bind (f:=λf=>match f with |.next=>lV ss k.env |f=>ff f) (g:=λ(p:cB×Loc) mu=>match p with |(.next,au)=>Mine.execs C Ss au mu |p=>.ok p mu) (h z c) λp f τ P r=>by
  obtain⟨fl,eX⟩:=p;cases fl<;>cases f<;>first |exact r.2.elim |exact t z r.1 |exact .pure r
theorem Fo{α β γ δ:Type}{r:Res α}{R:α->β->W->Prop}{q:Sem β}{f:β->Sem δ}{g:α->Mu->Res γ}{R':γ->δ->W->Prop}(c:Here k au σ)(h:GE k au q σ r R)(n:∀a b τ,Le σ τ->R a b τ->Here k au τ->Gp (wq k.A (f b)) (Pr k.env) τ (g a τ.mu) R'):Gp (wq k.A (q >>= f)) (Pr k.env) σ (r.bind g) R':=
 Gp.bind (R:=λa b τ=>Le σ τ/\R a b τ) (show Gp _ _ _ _ _ from Gp.to λQ E ko=>h c Q E λa b τ e S P x=>ko a b τ e S P ⟨P,x⟩) λa b τ Z x=>n a b τ x.1 x.2 (c.to x.1)
theorem Fp{α:Type}{r:Res α}{R:α->fP->W->Prop}{q:Sem fP}{f:fP->Sem N3}(c:Here k au σ)(h:Gp (wq k.A q) none_ σ r R)(n:∀s Q E,Q gb s->aX (bP prog w) k.A (f ()) Q E s):Gp (wq k.A (q >>= f)) (Pr k.env) σ (r.bind λZ mu=>.ok (cB.next,au) mu) (RF k):=
 Fo c (λZ=>h) λZ Z τ P Z c'=>.val (b:=gb) (show RF k (cB.next,au) gb τ from⟨c',trivial⟩) λQ E q=>n _ Q E q
theorem uK{v:ao}{f:ao->Sem fP}:assignAll v [f]=f v:=rfl
noncomputable def ag3:bV->aW
 |.Name _ _=>ae
 |_=>af
theorem uL{t:bV}{line:aj}(hn:ag3 t=af):iH e (aa t) line env=pure false:=by
 have r:=@rfl (Sem aW) (pure af);cases e<;>first |exact r |(cases t<;>first |exact r |cases hn)
theorem Dx(hs:iH e (aa (.Name x p)) pos.line env=pure af):dC (.Assign [.Name x p] e pos) env=(do dy pos;let v <-eval e env;dy p;nh env x v;pure .next):=by
 have q:dC (.Assign [.Name x p] e pos) env=(do
  dy pos
  if <-iH e (aa (.Name x p)) pos.line env then
   evalThenUse e env (qJ (.Name x p) env)
   return .next
  let v <-eval e env
  dy p
  nh env x v
  pure .next):=rfl
 rw[q,hs];rfl
theorem yw(hX:GE k au (eval e k.env) σ (ev C X' au σ.mu) RV)(hs:k.cx.sl.lookup x=aa i)(hsw:iH e (aa (.Name x p)) pos.line k.env=pure af)(c:Here k au σ):Gp (wq k.A (dC (.Assign [.Name x p] e pos) k.env)) (Pr k.env) σ (Mine.exec C (.asg i X') au σ.mu) (RF k):=by
 rw[Dx hsw];exact .eR (Fo (g:=λv mu=>.ok (cB.next,upd au i v) mu) c hX λpv v τ P r c'=>.eR (Gp.bind (f:=λZ=>ff gb) (g:=λZ mu=>.ok (cB.next,upd au i pv) mu) (sL hs r c') λZ Z υ P' QF=>.pure ⟨QF,trivial⟩))
theorem VZ(hX:HL C d cx e X')(hs:cx.sl.lookup x=aa i)(hsw:∀env,iH e (aa (.Name x p)) pos.line env=pure af):g7 C d cx (.Assign [.Name x p] e pos) (.asg i X'):=λ{k au σ} z c=>yw (hX.v z) (z.cx.symm▸hs) (hsw _) c
theorem Fq{T':Env->ar (ao->Sem fP)->Sem ao}(m:Made C d cx T' X')(hv:∀env,eval e env=T' env ac)(hu:∀env u,evalThenUse e env u=(T' env (aa u) >>=λZ=>pure ()))(hb:∀env,∃b,iH e (aa (.Name x p)) pos.line env=pure b)(hs:cx.sl.lookup x=aa i):g7 C d cx (.Assign [.Name x p] e pos) (.asg i X'):=λ{k au σ} z c=>by
 have Oi:=z.cx.symm▸hs;obtain⟨b,hb⟩:=hb k.env;cases b with
 |false=>exact yw (hv k.env▸m.v z) Oi hb c
 |true=>
  rw[exec_Assign_Name_used _ _ _ _ hb,hu];refine .eR (Gp.ret (R:=λ(a:cB×Loc) (Z:fP) τ=>Here k a.2 τ/\a.1=.next) (f:=λZ=>ff gb) ((m.go z c (Lr (p:=p) c Oi)).ret (f:=λZ=>ff ()) λa Z τ P r=>.pure r) λa Z τ P r=>.pure ⟨r.1,?_⟩);rw[r.2];trivial
theorem yx:dC (.Assign [.Attribute o nm q] e pos) env=(do dy pos;let v <-eval e env;let ov <-cN [v] (eval o env);dy q.atName;cN [v,ov] (NU ov nm v);nP [v,ov] [];pure .next):=by
 rw[qN,show u7 [.Attribute o nm q] e pos.line env=pure af from(show iH e (aa (.Attribute o nm q)) pos.line env=pure af from uL rfl),show k7 [.Attribute o nm q] e env=pure ac from rfl]
 simp only[pure_bind,hW,xO,xU,show(fa [.Attribute o nm q] env).map (·.2)=[qJ (.Attribute o nm q) env] from rfl,uK,show qJ (.Attribute o nm q) env=λv=>(cN [v] (eval o env) >>=λov=>dy q.atName >>=λZ=>cN [v,ov] (NU ov nm v) >>=λZ=>nP [v,ov] []) from rfl,bind_assoc]
theorem QG(hX:HL C d cx e X')(ho:fb C d cx o Y)(hf:lk p5 nm=aa f):g7 C d cx (.Assign [.Attribute o nm q] e pos) (.dH Y f X'):=λ{k au σ} z c=>by
 rw[yx,J1 hf];refine .eR (Fo (g:=λv mu=>(ev C Y au mu).bind λx mu=>(bS (sr x f v mu) mu).bind λmu Z=>.ok (cB.next,au) mu) c (hX.v z) λpv v τ P r c'=>Fo (g:=λx mu=>(bS (sr x f pv mu) mu).bind λmu Z=>.ok (cB.next,au) mu) c' (ho.v z).hold λpx vx υ P' r' QF=>.eR ?_);exact .agK (r:=(bS (sr px f pv υ.mu) υ.mu).bind λmu Z=>.ok () mu) (g:=λZ mu=>.ok (cB.next,au) mu) (by cases bS (sr px f pv υ.mu) υ.mu<;>rfl) (Fp (f:=λZ=>nP [v,vx] [] >>=λZ=>ff gb) QF (.hold (zb r' (r.to P'))) λs Q E q=>ak (lC (aB q)))
theorem Ls(hi:ot b=af):dC (.Assign [.Subscript o b q] e pos) env=(do dy pos;let v <-eval e env;let ov <-cN [v] (eval o env);let iv <-cN [v,ov] (eval b env);dy q;cN [v,ov,iv] (NX ov iv v);nP [v,ov,iv] [];pure .next):=by
 have m:∀iv v ov:ao,(match (generalizing:=false) b with |.Slice _ _ ac _=>[iv,v,ov] |_=>[v,ov,iv])=[v,ov,iv]:=λiv v ov=>by
  have r:=@rfl _ [v,ov,iv];cases b<;>first |exact r |cases hi
 rw[qN,show u7 [.Subscript o b q] e pos.line env=pure af from(show iH e (aa (.Subscript o b q)) pos.line env=pure af from uL rfl),show k7 [.Subscript o b q] e env=pure ac from rfl]
 simp only[pure_bind,hW,xO,xU,show(fa [.Subscript o b q] env).map (·.2)=[qJ (.Subscript o b q) env] from rfl,uK,show qJ (.Subscript o b q) env=λv=>(cN [v] (eval o env) >>=λov=>cN [v,ov] (eval b env) >>=λiv=>dy q >>=λZ=>cN [v,ov,iv] (NX ov iv v) >>=λZ=>nP (match (generalizing:=false) b with |.Slice _ _ ac _=>[iv,v,ov] |_=>[v,ov,iv]) []) from rfl,m,bind_assoc]
theorem V0(hi:ot b=af)(hX:fb C d cx e X')(ho:fb C d cx o Y)(hb:fb C d cx b fG):g7 C d cx (.Assign [.Subscript o b q] e pos) (.iX Y fG X'):=λ{k au σ} z c=>by
 rw[Ls hi];exact .eR (Fo (g:=λv mu=>(ev C Y au mu).bind λx mu=>(ev C fG au mu).bind λy mu=>(xo x y v mu).bind λZ mu=>.ok (cB.next,au) mu) c (hX.v z) λpv v τ P r c'=>
  Fo (g:=λx mu=>(ev C fG au mu).bind λy mu=>(xo x y pv mu).bind λZ mu=>.ok (cB.next,au) mu) c' (ho.v z).hold λpx vx υ P' r' QF=>Fo (g:=λy mu=>(xo px y pv mu).bind λZ mu=>.ok (cB.next,au) mu) QF (hb.v z).hold λpi vi φ xr Z9 HN=>
   .eR (Fp (f:=λZ=>nP [v,vx,vi] [] >>=λZ=>ff gb) HN (.hold (Hn (r'.to xr) Z9 (r.to (P'.trans xr)))) λs Q E q=>ak (lC (aB q))))
theorem V1(hX:HL C d cx e X'):g7 C d cx (.Return (aa e) pos) (.ret X'):=λ{k au σ} z c=>by
 rw[show dC (.Return (aa e) pos) k.env=(do dy pos;let v <-eval e k.env;ff (yQ v)) by rw[qO];rfl]
 exact .eR (Fo (g:=λv mu=>.ok (cB.ret v,au) mu) c (hX.v z) λpv v τ P r c'=>.pure ⟨c',r⟩)
theorem QH:g7 C d cx (.Return ac pos) .G0:=λ{k au σ} z c=>by
 rw[show dC (.Return ac pos) k.env=(do dy pos;ff (yQ .none)) by rw[qO];rfl]
 exact .eR (.pure (a:=(cB.ret (.t .none),au)) (b:=yQ .none) ⟨c,rfl⟩)
theorem QI:g7 C d cx (.Continue pos) .cont:=λ{k au σ} z c=>by
 rw[arm_exec_Continue];exact .eR (.pure (a:=(cB.cont,au)) (b:=Flow.cont) ⟨c,trivial⟩)
theorem QJ{g:bV}{ks:ag NY}(hX:fb C d cx (.Call g es ks p) X'):g7 C d cx (.Expr (.Call g es ks p) pos) (.expr X'):=λ{k au σ} z c=>by
 have hi:nV k.env=false:=by unfold nV;rw[c.st.kind];rfl
 rw[show dC (.Expr (.Call g es ks p) pos) k.env=(do dy pos;let v <-eval (.Call g es ks p) k.env;ac2 (.Call g es ks p) pos v) by rw[IP,hi,show iH (.Call g es ks p) ac pos.line k.env=pure af from rfl];rfl]
 exact .eR (Fo (g:=λZ mu=>.ok (cB.next,au) mu) c (hX.v z) λpv v τ P r c'=>.val (b:=gb) (show RF k (cB.next,au) gb τ from⟨c',trivial⟩) λQ E q=>Co q)
theorem aaD(ht:fb C d cx e X')(ha:nr C d cx ss Ss)(hb:nr C d cx E9 Ss'):g7 C d cx (.If e ss E9 pos) (.ifs X' Ss Ss'):=λ{k au σ} z c=>by
 rw[arm_exec_If];refine .eR (Fo (g:=λx mu=>if x then Mine.execs C Ss au mu else Mine.execs C Ss' au mu) c (ht.b z) λx b τ P r c'=>?_)
 cases (r);cases x with
 |true=>exact ha z c'
 |false=>exact hb z c'
end
section
variable{cx:Cx}{a b e:bV}{ts:ag bV}{k:K}{au:Loc}{σ τ:W}{x:bQ}{q pos:Pos}{i n:aj}{A:bW}{env:Env}{is:ag aj}{f7:ag PV}{vs:ag ao}{t:T}{l:ag T}{v:ao}{h:dK}{Qr:aN->Prop}{s:aG}{E':ao->aG->Prop}
def Slots(cx:Cx)(ts:ag bV)(is:ag aj):Prop:=bF (λt i=>∃x p,t=.Name x p/\cx.sl.lookup x=aa i) ts is
theorem wo{P:ag aj->Prop}(m:Slots cx (a::ts) is)(h:∀x p i js,a=.Name x p->cx.sl.lookup x=aa i->Slots cx ts js->P (i::js)):P is:=by
 cases is with
 |nil=>exact m.elim
 |cons i js=>exact m.1.elim λx z=>z.elim λp z=>h x p i js z.1 z.2 m.2
abbrev Stores(k:K)(fs:ag (ao->Sem fP))(is:ag aj):Prop:=bF (λ(f:ao->Sem fP) i=>∀au σ pv v,Here k au σ->RV pv v σ->Gp (wq k.A (f v)) (Pr k.env) σ (.ok () σ.mu) λZ Z τ=>Here k (upd au i pv) τ) fs is
theorem rF{fs:ag (ao->Sem fP)}:∀{is:ag aj}{f7:ag PV}{vs:ag ao}{au:Loc}{σ:W},Stores k fs is->Here k au σ->qL f7 vs σ->Gp (wq k.A (u9 fs vs)) (Pr k.env) σ (bS (j0 is f7 au) σ.mu) (λeX Z τ=>Here k eX τ):=by
 induction fs with
 |nil=>
  intro is f7 vs au σ m c r;cases is with
  |cons=>exact m.elim
  |nil=>
   cases f7 with
    |cons=>exact .aK
    |nil=>
     cases vs with
      |cons=>exact r.elim
      |nil=>exact .pure c
 |cons f fs ih=>
  intro is f7 vs au σ m c r;cases is with
  |nil=>exact m.elim
  |cons i js=>
   cases f7 with
    |nil=>exact .aK
    |cons pv f7=>
     cases vs with
      |nil=>exact r.elim
      |cons v vs=>exact Gp.bind (r:=.ok () σ.mu) (g:=λZ mu=>bS (j0 js f7 (upd au i pv)) mu) (f:=λZ=>u9 fs vs) (.hold (m.1 au σ pv v c r.1)) λZ Z τ P c'=>ih m.2 c' (r.2.mono λZ Z Z r=>gL.eQ (σ:=σ) (τ:=τ) cK (P.EU λa h=>.inr (c.own h.iP)) (λi q Z=>P.pre i q) r)
theorem zu:∀{ts:ag bV}{is:ag aj},Slots k.cx ts is->Stores k ((fa ts k.env).map (·.2)) is:=by
 intro ts
 induction ts with
 |nil=>
  intro is m;cases is with
  |nil=>trivial
  |cons=>exact m.elim
 |cons t ts ih=>
  intro is m;refine wo (P:=Stores k ((fa (t::ts) k.env).map (·.2))) m λx p i js e hs m'=>?_;subst e;exact⟨λau σ pv v c r=>(mT hs r c).sim λZ Z q=>nU q,ih m'⟩
theorem Dy:∀{ts:ag bV}{is:ag aj},Slots cx ts is->(fa ts env).findIdx? (·.1)=ac/\(fa ts env).length=is.length:=by
 intro ts
 induction ts with
 |nil=>
  intro is m;cases is with
  |nil=>exact⟨rfl,rfl⟩
  |cons=>exact m.elim
 |cons t ts ih=>
  intro is m;refine wo (P:=λis=>(fa (t::ts) env).findIdx? (·.1)=ac/\(fa (t::ts) env).length=is.length) m λx p i js e hs m'=>?_;subst e;have z:=ih m';rw[show fa (.Name x p::ts) env=(af,qJ (.Name x p) env)::fa ts env from rfl]
  exact⟨by rw[sf,z.1];rfl,av (· +1) z.2⟩
theorem qz:∀{is:ag aj}{f7:ag PV}{au eX:Loc},j0 is f7 au=aa eX->is.length=f7.length
 |[],[],_,_,_=>rfl
 |_::_,_::_,_,_,h=>av (· +1) (qz h)
theorem HO{I a:aN}{items:cE ao}(Bk:a≠I):∀(n i:aj)(s:aG)(Q:ag ao->aG->Prop),s.heap.IsListIter I a i->s.heap.IsList a items->i+n<=items.size->
 (∀h',h'.IsListIter I a (i+n)->nR I s.heap h'->Q ((items.toList.drop i).take n) {s with heap:=h'})->aX (bP prog w) A (draw (.ref I) n) Q E' s:=by
 intro n
 induction n with
 |zero=>exact λi s Q hit hl hi hQ=>aB (by have:=hQ s.heap hit (.refl _ _);rwa[ag.take_zero] at this)
 |succ n ih=>
  intro i s Q hit hl hi hQ;have Oh:i<items.size:=by omega
  unfold draw;refine ak (N0 hit hl (x:=items[i]) (yP Oh) λgZ Dz oB=>ak (bu (ih (i+1) _ _ Dz (hl.extBut oB.extBut Bk) (by omega) λpN V2 aaE=>aB ?_)))
  have:=hQ pN (by rw[show i+(n+1)=i+1+n by omega];exact V2) (oB.trans aaE)
  rwa[Ax (by rwa[bJ]),ag.take_succ_cons,cE.getElem_toList] at this
theorem sP{t:aN}{items:cE ao}{Q:ag ao->aG->Prop}(hh:A.handled=ac)(hl:s.heap.IsList t items)(hQ:∀h',dK.ExtBut s.heap.objs.size s.heap h'->Q items.toList {s with heap:=h'}):aX (bP prog w) A (lr (.ref t) items.size ac) Q E' s:=by
 have Oh:t≠s.heap.objs.size:=hl.elim λo q=>ne_size q.1;have hp:∀o,(s.heap.push o).IsList t items:=λo=>hl.imp λo' q=>⟨aI o q.1,q.2⟩;unfold lr;refine ak ?_;unfold notIterableAtAll;refine ak (Cm hl.typeIs PySem.F.slot_list_iter.lookup (aB ?_));rw[aL dM];refine ak (bu (xP hl (ak (bu (HO Oh items.size 0 _ _ ⟨_,ck _ rfl,rfl,rfl⟩ (hp _) (cX (bM _)) λgZ Dz oB=>?_)))));rw[jE,fY (cX bJ),aL (by rw[bJ];exact cL _)]
 refine ak (bu (OG hh Dz ((hp _).extBut oB.extBut Oh) (by rw[bM,cE.getElem?_eq_none (aP _)]) λpN Lu=>?_))
 exact aB (hQ pN λb o hb e=>Lu b o hb (oB.extBut b o hb (aI _ e)))
theorem uj{Q:ag ao->aG->Prop}(hh:A.handled=ac)(ht:t.qr=aa l)(r:bK s.heap Qr t v)(hQ:∀vs h',bF (bK s.heap Qr) l vs->Grows s.heap h'->Q vs {s with heap:=h'}):aX (bP prog w) A (lr v l.length ac) Q E' s:=by
 cases t with
 |tup ts=>
  cases (ht);exact iY (P:=λv=>aX (bP prog w) A (lr v l.length ac) Q E' s) r λa vs n Z l1 q=>by
   have z:=wpAny_unpackItems_tuple (prog:=prog) (w:=w) (A:=A) (E:=E') (s:=s) (t:=a) (items:=vs.toArray) (Q:=Q) hh ⟨_,l1,rfl,n,rfl⟩ λh' e=>hQ vs h' q λb o z=>e b o (ne_size z) z;rwa[bb, <-q.len] at z
 |list ts=>
  cases (ht);exact gj (P:=λv=>aX (bP prog w) A (lr v l.length ac) Q E' s) r λa vs n Z l1 q=>by
   have z:=sP (A:=A) (E':=E') (s:=s) (t:=a) (items:=vs.toArray) (Q:=Q) hh ⟨_,l1,rfl,n,rfl⟩ λh' e=>hQ vs h' q λb o z=>e b o (ne_size z) z;rwa[bb, <-q.len] at z
 |_=>cases (ht)
theorem wu(hh:A.handled=ac)(ht:t.qr=aa l)(r:RV (.t t) v σ):Gp (wq A (lr v l.length ac)) none_ σ (.ok () σ.mu) (λZ vs τ=>qL (l.map .t) vs τ):=λQ E ko Z Z S=>
 uj hh ht r λvs h' q kp=>ko () vs (σ.to {σ.s with heap:=h'}) rfl (S.grow kp rfl) (.grow kp rfl) (bF.map (q.mono λZ Z Z r=>bK.to (σ:=σ) (τ:=σ.to {σ.s with heap:=h'}) (.grow kp rfl) r))
theorem tT(m:Slots k.cx ts is)(ht:t.qr=aa l)(c:Here k au σ)(r:RV (.t t) v σ):Gp (wq k.A (unpack v (fa ts k.env))) (Pr k.env) σ (bS (j0 is (l.map .t) au) σ.mu) (λeX Z τ=>Here k eX τ):=by
 have z:=Dy (env:=k.env) m;unfold unpack;rw[z.1,z.2];cases hs:j0 is (l.map .t) au with
 |none=>exact .aK
 |some eX=>
  rw[qz hs,aq];exact Fo (r:=.ok () σ.mu) (g:=λZ mu=>bS (aa eX) mu) c (λZ=>.hold (vs:=[v]) (wu c.st.om.hd ht r)) λZ vs τ P r c'=>hs▸rF (zu m) c' r
theorem BA{kk:aj}(he:∀a b c,e≠.Tuple a b c):dC (.Assign [.Tuple ts kk q] e pos) env=(do dy pos;let v <-eval e env;dy q;unpack v (fa ts env);pure .next):=by
 rw[qN,show u7 [.Tuple ts kk q] e pos.line env=pure af from(show iH e (aa (.Tuple ts kk q)) pos.line env=pure af from uL rfl),show k7 [.Tuple ts kk q] e env=pure ac by cases e<;>first |rfl |exact aQ rfl (he _ _ _)]
 simp only[pure_bind,hW,xO,xU,show(fa [.Tuple ts kk q] env).map (·.2)=[qJ (.Tuple ts kk q) env] from rfl,uK,show qJ (.Tuple ts kk q) env=λv=>(dy q >>=λZ=>unpack v (fa ts env)) from rfl,bind_assoc]
end
section
variable{C:Calls}{d:aj}{cx:Cx}{a b e:bV}{ts:ag bV}{X' Y:E}{k:K}{au:Loc}{σ τ υ:W}{x y:bQ}{px py p q q' pos:Pos}{i j n kk kk':aj}{env:Env}{is:ag aj}
theorem HP(he:∀a b c,e≠.Tuple a b c)(m:Slots cx ts is)(hX:fb C d cx e X'):g7 C d cx (.Assign [.Tuple ts kk q] e pos) (.unpack is X'):=λ{k au σ} z c=>by
 rw[BA he];exact .eR (Fo (g:=λv mu=>dO (v.t?.bind T.qr) λl=>(bS (j0 is (l.map .t) au) mu).bind λau mu=>.ok (cB.next,au) mu) c (hX.v z) λpv v τ P r c'=>.eR (.dO λl hl=>bj hl λt ht hl=>by
  cases fK ht;exact Gp.bind (f:=λZ=>ff gb) (g:=λau mu=>.ok (cB.next,au) mu) (tT (z.cx.symm▸m) hl c' r) λeX Z υ P' QF=>.pure ⟨QF,trivial⟩))
theorem zv(hl:(px.line==py.line)=ae)(Yl:(x==y)=af)(ha1:tH 8 a=af)(ha2:vc 8 a=af):
 k7 [.Tuple [.Name x px,.Name y py] kk q] (.Tuple [a,b] kk' q') env=pure ac\/k7 [.Tuple [.Name x px,.Name y py] kk q] (.Tuple [a,b] kk' q') env=pure (aa [x,y]):=by
 have e1:px.line=py.line:=eq_of_beq hl;have e2:x≠y:=aD.mp Yl;unfold k7;dsimp only;split
 ·exact .inl rfl
 ·generalize hn:ag.filterMap _ [vd x px,vd y py]=ns
  have hc:ns=[x,y]\/ns.length≠2:=by
   subst hn
   by_cases hx:(env.kindOf x==aa .local)=ae<;>by_cases hy:(env.kindOf y==aa .local)=ae<;>
    (simp only[bT] at hx hy;simp[IQ,hx,hy,e1,show ∀x px,(vd x px).pos=px from λZ Z=>rfl])
  rw[show[a,b].all (tH 8)=af by rw[X9,ha1];rfl,show[a,b].all (vc 8)=af by rw[X9,ha2];rfl]
  split
  ·exact .inl rfl
  ·rcases hc with rfl |hc
   ·rw[aL (by rw[show([x,y]:ag bQ).eraseDups=[x,y] by simp[ag.eraseDups_cons,e2,Ne.symm e2]];exact dM)]
    exact .inr rfl
   ·rw[aA (by rw[show(ns.length != [vd x px,vd y py].length)=ae from m9.mpr hc];rfl)]
    exact .inl rfl
theorem Lv{i j:aj}{p q:PV}(n:i≠j):upd (upd au i p) j q=upd (upd au j q) i p:=ag.set_comm _ _ n
theorem QK(hl:(px.line==py.line)=ae)(Yl:(x==y)=af)(ha1:tH 8 a=af)(ha2:vc 8 a=af)(hx:cx.sl.lookup x=aa i)(hy:cx.sl.lookup y=aa j)(ha:fb C d cx a X')(hb:fb C d cx b Y):
 g7 C d cx (.Assign [.Tuple [.Name x px,.Name y py] kk q] (.Tuple [a,b] kk' q') pos) (.unpack [i,j] (.tup [X',Y])):=λ{k au σ} z c=>by
 have hs:Slots cx [.Name x px,.Name y py] [i,j]:=⟨⟨x,px,rfl,hx⟩,⟨y,py,rfl,hy⟩,trivial⟩;rw[qN,show u7 [.Tuple [.Name x px,.Name y py] kk q] (.Tuple [a,b] kk' q') pos.line k.env=pure af from(show iH (.Tuple [a,b] kk' q') (aa (.Tuple [.Name x px,.Name y py] kk q)) pos.line k.env=pure af from uL rfl)]
 simp only[pure_bind,hW,xO];refine .eR (Fo (g:=λv mu=>dO (v.t?.bind T.qr) λl=>(bS (j0 [i,j] (l.map .t) au) mu).bind λau mu=>.ok (cB.next,au) mu) c ((Tj (pn ha (pn hb vR))).v z) λpv v τ P r c'=>.dO λl pK=>bj pK λt ht pK=>?_);cases fK ht;rcases zv (env:=k.env) (kk:=kk) (kk':=kk') (q:=q) (q':=q') (b:=b) hl Yl ha1 ha2 with h2 |h2
 ·rw[h2]
  simp only[pure_bind,xU,uK,show(fa [.Tuple [.Name x px,.Name y py] kk q] k.env).map (·.2)=[λv=>(dy q >>=λZ=>unpack v (fa [.Name x px,.Name y py] k.env))] from rfl,bind_assoc]
  exact .eR (Gp.bind (f:=λZ=>ff gb) (g:=λau mu=>.ok (cB.next,au) mu) (tT (z.cx.symm▸hs) pK c' r) λeX Z υ P' QF=>.pure ⟨QF,trivial⟩)
 ·rw[h2]
  show Gp (wq k.A (rule "assign.swapped-stores" >>=λZ=>lr v 2 ac >>=λvs=>u9 [nh k.env y,nh k.env x] vs.reverse >>=λZ=>ff gb)) _ _ _ _;cases hq:j0 [i,j] (l.map .t) au with
  |none=>exact .aK
  |some eX=>
   match l,qz hq,hq,pK with
   |[ta,tb],_,hq,pK=>
    have nij:i≠j:=λq=>aQ (c.st.AX x y i (z.cx.symm▸hx) (z.cx.symm▸q▸hy)) (aD.mp Yl);have el:eX=upd (upd au j (.t tb)) i (.t ta):=(aM hq).symm.trans (Lv nij);subst el;have st:Stores k [nh k.env y,nh k.env x] [j,i]:=⟨λZ Z Z Z c r=>sL (z.cx.symm▸hy) r c,λZ Z Z Z c r=>sL (z.cx.symm▸hx) r c,trivial⟩;refine(Fo (r:=.ok () τ.mu) (f:=λvs=>u9 [nh k.env y,nh k.env x] vs.reverse >>=λZ=>ff gb) (g:=λZ mu=>.ok (cB.next,upd (upd au j (.t tb)) i (.t ta)) mu) c' (λZ=>wu c.st.om.hd pK r) λZ vs υ P CX HE=>?_).sim λQ E q=>ak (w8 q);cases vs with
    |nil=>exact CX.elim
    |cons va vs=>
     cases vs with
      |nil=>exact CX.2.elim
      |cons vb vs=>
       cases vs with
        |cons=>exact CX.2.2.elim
        |nil=>exact Gp.bind (r:=bS (j0 [j,i] [.t tb,.t ta] au) υ.mu) (g:=λeX mu=>.ok (cB.next,eX) mu) (f:=λZ=>ff gb) (rF (vs:=[vb,va]) st HE ⟨CX.2.1,CX.1,trivial⟩) λeX Z φ P' HN=>.pure ⟨HN,trivial⟩
end
section
variable{C:Calls}{d:aj}{cx:Cx}{e it:bV}{X':E}{uJ:It}{k:K}{au eX:Loc}{σ τ υ:W}{x:bQ}{p pos:Pos}{i j n:aj}{ss:ag oY}{Ss Hs:ag S}{O:aN->Prop}{I:aN}{fp:ag aN}{P:aj->ao->Prop}{St:aj->dK->Prop}
theorem pB{α β β':Type}{r:Res α}{R:α->β->W->Prop}{T:PT β}{T':PT β'}{Q:β->aG->Prop}{E:ao->aG->Prop}(h:Gp T O σ r R)(ns:n9 r≠.aK)(S:Ok σ)(ko:∀a b τ,n9 r=.ok a τ.mu->Ok τ->ib O σ τ->R a b τ->Q b τ.s):T Q E σ.s:=
 h Q E (λa b τ e=>ko a b τ (by rw[e];rfl)) (λe τ h=>aQ (by rw[h];rfl) ns) (λz=>ns (by rw[z];rfl)) S
theorem V3{h₀:pb}{hs:ag pb}(hb:nr C d cx ss Ss):g7 C d cx (.Try ss (h₀::hs) [] [] pos) (.try Ss Hs):=λ{k au σ} z c Q E ko ke ns S=>
 ac3 (pB (T':=wq k.A (lV ss k.env)) (hb z c) ns S λa f τ e S' P r=>have q:=ko a f τ e S' P r;match f,q with
  |.next,q=>aB q
  |.cont,q=>q
  |.brk,q=>q
  |.ret _,q=>q)
theorem BB{p:cB×Loc}{f:N3}{mu:Mu}{go:Loc->Mu->Res (cB×Loc)}{G:Prop}(r:RFl τ p.1 f)(ret:∀pv v,p.1=.ret pv->f=.ret v->RV pv v τ->oa p mu go=.ok (.ret pv,p.2) mu->G)(on:(f=.next\/f=.cont)->oa p mu go=go p.2 mu->G):G:=by
 obtain⟨fl,l⟩:=p;cases fl<;>cases f<;>first |exact r.elim |exact on (.inl rfl) rfl |exact on (.inr rfl) rfl |exact ret _ _ rfl rfl r rfl
theorem Lw(ht:fb C d cx e X')(hb:nr C d cx ss Ss):g7 C d cx (.While e ss [] pos) (.while X' Ss):=λ{k au σ} z c Q E ko ke ns S=>by
 refine wpAny_While (codeAny_whileLoop (λn s=>∃τ eX,s=τ.s/\Here k eX τ/\Ok τ/\ib (Pr k.env) σ τ/\sx n (ni C X') (Mine.execs C Ss) eX τ.mu=Mine.exec C (.while X' Ss) au σ.mu) ?_ vp ⟨σ,au,rfl,c,S,.refl,rfl⟩);generalize Mine.exec C (.while X' Ss) au σ.mu=res at ko ke ns;intro n s0 q0;refine Ji q0 λτ eX z1 c' S' P hr=>?_;subst z1;cases n with
 |zero=>exact aQ hr.symm ns
 |succ n=>
  have hr:((n9 (ni C X' eX τ.mu)).bind λx mu=>if x then(n9 (Mine.execs C Ss eX mu)).bind λp mu=>oa p mu (sx n (ni C X') (Mine.execs C Ss)) else .ok (.next,eX) mu)=res:=hr
  refine pB (T':=wq k.A (isTrue e k.env (eval e k.env))) (ht.b z c') (λh=>ns (hr▸by rw[h];rfl)) S' λa b υ e kO j2 r=>?_
  rw[e] at hr;cases (r);have Lx:=P.trans (j2.any (O:=Pr k.env));cases a with
  |false=>exact aB (ko (.next,eX) .next υ hr.symm kO Lx ⟨c'.to j2,trivial⟩)
  |true=>
   have hr:((n9 (Mine.execs C Ss eX υ.mu)).bind λp mu=>oa p mu (sx n (ni C X') (Mine.execs C Ss)))=res:=hr;refine pB (T':=wq k.A (lV ss k.env)) (hb z (c'.to j2)) (λh=>ns (hr▸by rw[h];rfl)) kO λp f φ e wm QL r=>?_
   rw[e] at hr;exact BB r.2 (λpv v e1 e2 rv q=>by subst e2;exact ko (.ret pv,p.2) (.ret v) φ (hr.symm.trans q) wm (Lx.trans QL) ⟨r.1,rv⟩) λe1 q=>by
    rcases e1 with rfl |rfl<;>exact⟨n,da n,φ,p.2,rfl,r.1,wm,Lx.trans QL,q.symm.trans hr⟩
theorem V4(hx:cx.sl.lookup x=aa i)(hf:kP it=af)(hI:qy C d cx it uJ)(hb:nr C d cx ss Ss):g7 C d cx (.For (.Name x p) it ss [] pos) (.for i uJ Ss):=λ{k au σ} z c Q E ko ke ns S=>by
 refine wpAny_For (hI z c _ _ (λpr v cY e j1 pL CW=>?_) (λe τ h S' P F=>ke e τ (by show(io C uJ au σ.mu).bind _=_;rw[h];rfl) S' P.any F) (λh=>ns (by show(io C uJ au σ.mu).bind _=_;rw[h];rfl)) S) λv=>zt hf
 refine OV CW λI z1 fI SI cI it=>?_;subst z1;refine yS it λfp P St K Dt=>?_;clear ke;have hw:Mine.exec C (.for i uJ Ss) au σ.mu=forL i (Mine.execs C Ss) pr.1 pr.2 cY.mu:=by show(io C uJ au σ.mu).bind _=_;rw[e];rfl
 rw[hw] at ko ns;have fG:p7 σ cY [I]:=.of pL (λa m=>aC.mp m▸fI) SI;have ap:∀a,Lb k a->a≠I:=λa m h=>(c.has m).elim λo e=>lX ((h▸fI:σ.h.get? a=ac).symm.trans e);have Ts:=z.cx.symm▸hx;refine codeAny_forLoop_any (λn s=>∃j τ eX,s=τ.s/\n=pr.1.length-j/\Turn (Pr k.env) k I pr.1 fp P St i pr.2 (cY.fr [I]) j τ eX/\forL i (Mine.execs C Ss) (pr.1.drop j) eX τ.mu=forL i (Mine.execs C Ss) pr.1 pr.2 cY.mu) ?_ pr.1.length
  ⟨0,cY.fr [I],pr.2,rfl,rfl,⟨Dt,cI,SI,.refl,cF _⟩,rfl⟩
 generalize forL i (Mine.execs C Ss) pr.1 pr.2 cY.mu=res at ko ns;intro n s0 q0;refine xm q0 λj τ eX z1 z2 tn hr=>?_;subst z1;subst z2;have ends:∀(a:cB×Loc)(b:N3)(υ:W)(s₂:aG),res=.ok a υ.mu->Turn (Pr k.env) k I pr.1 fp P St i pr.2 (cY.fr [I]) j υ a.2\/Turn (Pr k.env) k I pr.1 fp P St i pr.2 (cY.fr [I]) (j+1) υ a.2->RFl υ a.1 b->(∀b o,b ∉ [I]->υ.h.get? b=aa o->s₂.heap.get? b=aa o)->s₂.gens=υ.s.gens->s₂.os=υ.s.os->Q b s₂:=λa b υ s₂ e tn r kp g os=>by
  refine nY (show ib (OI (Pr k.env) I) (cY.fr [I]) υ/\Ok υ/\Here k a.2 υ from tn.elim (λt=>⟨t.xv,t.ok,t.here⟩) λt=>⟨t.xv,t.ok,t.here⟩) λP' S' c'=>?_
  refine ko a b (υ.out s₂ σ.fs) e (fG.ok P' S S' kp g) (fG.xv P' (λa h=>h.elim (λh=>.inr (h▸.head _)) .inl) kp os) ⟨fG.back c P' c' kp,?_⟩;obtain⟨fl,l⟩:=a;cases fl<;>cases b<;>first |exact r |exact fG.rv P' kp r
 by_cases hj:j<pr.1.length
 ·refine tn.next K (.head _) ap c.st.om.hd hj λv t di hd r p9=>eK (a:=()) rfl (nU (mT Ts r p9.here _ _ (λZ Z υ e kO j2 HE=>?_) (λe τ h=>by cases h) (λh=>by cases h) p9.ok))
  rw[hd] at hr;have e:τ.mu=υ.mu:=(JG e).2;have aaF:=p9.step (λZ=>Pr.iP) K (.head _) ap j2 kO HE;have hr:((n9 (Mine.execs C Ss (upd eX i (.t t)) υ.mu)).bind λp mu=>oa p mu (forL i (Mine.execs C Ss) (pr.1.drop (j+1))))=res:=e▸hr;refine pB (T':=wq k.A (lV ss k.env)) (hb z HE) (λh=>ns (hr▸by rw[h];rfl)) kO λp f φ e wm QL r=>?_
  rw[e] at hr;have TH:=aaF.step (λZ=>Pr.iP) K (.head _) ap QL wm r.1;exact BB r.2 (λpv v e1 e2 rv q=>by subst e2;exact ends (.ret pv,p.2) (.ret v) φ φ.s (hr.symm.trans q) (.inr TH) rv (λZ Z Z=>id) rfl rfl) λe1 q=>by
   rcases e1 with rfl |rfl<;>exact⟨pr.1.length-(j+1),Jf hj (da j),j+1,φ,p.2,rfl,rfl,TH,q.symm.trans hr⟩
 ·have hj':j=pr.1.length:=gy tn.le (eO.mp hj)
  subst hj';rw[OM] at hr;exact tn.it.done K c.st.om.hd λdi kp g os=>aB (ends (.next,eX) .next τ di hr.symm (.inl tn) trivial kp g os)
end
noncomputable def fj(P:aS)(i:aj):FuncData:=match ((BH P).get? (fv i)).map uz with
 |some (.func fd)=>fd
 |_=>default
noncomputable def ww(fd:gP):ag Stmt:=match fd.body with
 |.stmts b=>b
 |_=>[]
noncomputable def cA(fd:gP):Addr:=match fd.code with
 |.ref c=>c
 |_=>0
noncomputable def cV(P:aS)(fd:gP):cE Value:=match ((BH P).get? (cA fd)).map uz with
 |some (.fields vs)=>vs
 |_=>#[]
noncomputable def cT(P:aS)(fd:gP):Tok:=match ((cV P fd)[1]? :ar ao) with
 |some (.str _ t)=>t
 |_=>0
noncomputable def aaG(fd:gP):Bool:=fd.scope.kind==.function&&(!fd.scope.isCoroutine&&(!fd.scope.isGenerator&&(fd.globals==3&&(fd.closure.isEmpty&&fd.builtins==0))))
theorem heads(P:aS):(be 106).map (λi=>((BH P).get? (fv i),(fj P i).body,(fj P i).code,((BH P).get? (cA (fj P i))).map uz,(cV P (fj P i))[1]?,aaG (fj P i)))=
 (be 106).map λi=>(aa ⟨.type "function",ac,.func (fj P i),⟨[]⟩⟩,.stmts (ww (fj P i)),.ref (cA (fj P i)),aa (.fields (cV P (fj P i))),aa (.str (fj P i).qualname (cT P (fj P i))),ae):=by kernel_rfl
structure Lz(P:aS)(i:aj):Prop where
 at_:(BH P).get? (fv i)=aa ⟨.type "function",ac,.func (fj P i),⟨[]⟩⟩
 bd:(fj P i).body=.stmts (ww (fj P i))
 code:(BH P).CodeRec (fj P i).code (fj P i).qualname
 kind:(fj P i).scope.kind=.function
 co:(fj P i).scope.isCoroutine=af
 gen:(fj P i).scope.isGenerator=af
 glob:(fj P i).globals=3
 HF:(fj P i).closure=[]
 blt:(fj P i).builtins=0
theorem Fs{b:aW}(h:(!b)=ae):b=false:=by cases b<;>first |rfl |cases h
theorem zw(P:aS){i:aj}(hi:i<106):Lz P i:=by
 have e:=map_eq (heads P) (iE.mpr hi);refine gf (bk e) λe1 e=>?_;refine gf (bk e) λe2 e=>?_;refine gf (bk e) λe3 e=>?_;refine gf (bk e) λe4 e=>?_;refine gf (bk e) λe5 e=>?_;have h:=aF.mp e;have h2:=aF.mp h.2;have h3:=aF.mp h2.2;have h4:=aF.mp h3.2;have h5:=aF.mp h4.2;refine bH (ed.mp e4) λo e4 e6=>?_;exact⟨e1,e2,⟨_,o,_,_,e3,e4,e6,e5⟩,eq_of_beq h.1,Fs h2.1,Fs h3.1,eq_of_beq h4.1,OJ.mp h5.1,eq_of_beq h5.2⟩
noncomputable def gG(fd:gP):ag Str:=fd.params.args.map (·.arg)
noncomputable def LA(fd:gP):Cx:={names:=fd.scope.names,sl:=ES (jk (gG fd) fd.scope) 0,n:=(jk (gG fd) fd.scope).length,fn:=tabOf fd.name}
noncomputable def tU(P:aS)(fd:gP):ag Value:=match fd.defaults with
 |.ref a=>(match ((BH P).get? a).map uz with |some (.seq vs _)=>vs.toList |_=>[])
 |_=>[]
noncomputable def KD(P:aS)(fd:gP):Frag:=match fd.defaults with
 |.ref a=>((BH P).get? a).elim [] λo=>[(a,o)]
 |_=>[]
set_option tactic.hygienic true in
theorem Ft{P:aS}{fd:gP}:(KD P fd).In (BH P):=zj λp m=>by
 unfold KD at m;split at m
 ·rename_i a _
  cases e:(BH P).get? a with
  |none=>rw[e] at m;cases m
  |some o=>rw[e] at m;cases aC.mp m;exact e
 ·cases m
noncomputable def fnB(P:aS)(fn:Fn)(fd:gP):Bool:=decide ((jk (gG fd) fd.scope).Nodup)&&(fn.jj==(gG fd).length&&((jk (gG fd) fd.scope).all (λx=>JD x&&(fd.scope.names.lookup x==aa .local||fd.scope.names.lookup x==aa .cell))&&
 (yf P fn.dflt (tU P fd)&&(fd.scope.names.all (λp=>p.2 != .free)&&(match tabOf fd.name with |some j=>fd.code==.ref (dU j) |none=>ae)))))
theorem LB(P:aS):(be 106).map (λi=>(FT i).map λfn=>fnB P fn (fj P i))=(be 106).map λi=>(FT i).map λZ=>true:=by kernel_rfl
theorem LC(P:aS)(S:N4)(v:aj->ao):(be 106).map (λi=>(FT i).map λfn=>(be (fn.dflt.length+1)).map λk=>peek (KD P (fj P i)) S (pY (fj P i) ⟨(be (fn.jj-k)).map v,[]⟩))=
 (be 106).map λi=>(FT i).map λfn=>(be (fn.dflt.length+1)).map λk=>aa ((gG (fj P i)).zip ((be (fn.jj-k)).map v++(tU P (fj P i)).drop (fn.dflt.length-k))):=by kernel_rfl
structure V5(P:aS)(i:aj)(fn:Fn):Prop where
 hd:Lz P i
 nd:(jk (gG (fj P i)) (fj P i).scope).Nodup
 jj:fn.jj=(gG (fj P i)).length
 nms:∀x∈jk (gG (fj P i)) (fj P i).scope,JD x=ae/\((fj P i).scope.names.lookup x=aa .local\/(fj P i).scope.names.lookup x=aa .cell)
 dfl:yf P fn.dflt (tU P (fj P i))=ae
 V6:∀p∈(fj P i).scope.names,p.2≠.free
 U8:∀j,tabOf (fj P i).name=aa j->(fj P i).code=.ref (dU j)
 bind:∀(S:N4)(k:aj)(v:aj->ao),k<=fn.dflt.length->peek (KD P (fj P i)) S (pY (fj P i) ⟨(be (fn.jj-k)).map v,[]⟩)=aa ((gG (fj P i)).zip ((be (fn.jj-k)).map v++(tU P (fj P i)).drop (fn.dflt.length-k)))
theorem TJ(P:aS){i:aj}{fn:Fn}(hi:i<106)(hf:FT i=aa fn):V5 P i fn:=by
 have m:=iE.mpr hi;have e:=map_eq (LB P) m;rw[hf] at e;have h:=aF.mp (aM e);have h2:=aF.mp h.2;have h3:=aF.mp h2.2;have h4:=aF.mp h3.2;have h5:=aF.mp h4.2;refine⟨zw P hi,bO h.1,eq_of_beq h2.1,λx m=>(aF.mp (aE.mp h3.1 x m)).imp_right λq=>(fT.mp q).imp eq_of_beq eq_of_beq,h4.1,λp m=>wi (aE.mp h5.1 p m),λj q=>?_,λS k v hk=>?_⟩
 ·have z:=h5.2
  rw[q] at z;exact eq_of_beq z
 ·have e:=map_eq (LC P S v) m
  rw[hf] at e;exact map_eq (aM e) (iE.mpr (ux hk))
theorem mV(P:aS):(BH P).NoLimit:=⟨_,ye (P:=P) (a:=cStatics) (by kernel_rfl),by kernel_rfl⟩
theorem LD{l:ag bQ}{n i:aj}{x:bQ}(h:(ES l n).lookup x=aa i):n<=i/\l[i-n]? =aa x:=by
 induction l generalizing n with
 |nil=>exact lX h
 |cons a r ih=>
  refine cO (cq.symm.trans (show((a,n)::ES r (n+1)).lookup x=aa i from h)) (λq e=>aM e▸⟨aP _,by rw[dA,q];rfl⟩) λZ e=>?_
  have z:=ih e;exact⟨dq z.1,by rw[show i-n=(i-(n+1))+1 from(lO (ON z.1)).symm];exact z.2⟩
theorem BC{β:Type}{x:bQ}{F:ag (bQ×ao)->(bQ->ar β)->bQ->ar β}{g:ao->ar β}(h0:∀m,F [] m x=m x)(h1:∀n v r m,n≠x->∃m',F ((n,v)::r) m x=F r m' x/\m' x=m x)(h2:∀v r m,∃m',F ((x,v)::r) m x=F r m' x/\m' x=g v):
 ∀{ps:ag bQ}{vs:ag ao}{m:bQ->ar β}{i:aj}{v:ao},ps.Nodup->ps[i]? =aa x->vs[i]? =aa v->F (ps.zip vs) m x=g v:=by
 have no:∀{bs:ag (bQ×ao)}{m:bQ->ar β},(∀p∈bs,p.1≠x)->F bs m x=m x:=by
  intro bs
  induction bs with
  |nil=>exact λZ=>h0 _
  |cons p r ih=>exact λ{m} h=>(h1 p.1 p.2 r m (h p (.head _))).elim λm' z=>z.1.trans ((ih λq k=>h q (.tail _ k)).trans z.2)
 intro ps
 induction ps with
 |nil=>exact λZ h=>lX h
 |cons p ps ih=>
  intro vs m i v nd IX Cs;have nd:=eJ.mp nd;cases vs with
  |nil=>exact lX Cs
  |cons u vs=>
   cases i with
   |zero=>
    cases IX;cases Cs;exact(h2 _ _ m).elim λm' z=>z.1.trans ((no λq k e=>nd.1 (e▸(xk k).1)).trans z.2)
   |succ i=>exact(h1 p u (ps.zip vs) m λe=>nd.1 (e▸cp IX)).elim λm' z=>z.1.trans (ih nd.2 IX Cs)
theorem HQ{kd:bQ->ar iz}{x:bQ}(hk:kd x=aa .local){ps:ag bQ}{vs:ag ao}{m:bQ->ar ao}{i:aj}{v:ao}:ps.Nodup->ps[i]? =aa x->vs[i]? =aa v->bindL kd (ps.zip vs) m x=aa v:=
 BC (F:=bindL kd) (g:=aa) (λZ=>rfl) (λn v r m e=>⟨if kd n=aa .local then λy=>if y=n then aa v else m y else m,rfl,by split<;>first |exact aL (Ne.symm e) |rfl⟩) λv r m=>⟨if kd x=aa .local then λy=>if y=x then aa v else m y else m,rfl,by rw[aA hk];exact aA rfl⟩
theorem HR{kd:bQ->ar iz}{x:bQ}(hk:kd x≠aa .local){ps:ag bQ}{vs:ag ao}{m:bQ->ar ao}{i:aj}{v:ao}:ps.Nodup->ps[i]? =aa x->vs[i]? =aa v->bindC kd (ps.zip vs) m x=aa v:=
 BC (F:=bindC kd) (g:=aa) (λZ=>rfl) (λn v r m e=>⟨if kd n=aa .local then m else λy=>if y=n then aa v else m y,rfl,by split<;>first |exact aL (Ne.symm e) |rfl⟩) λv r m=>⟨if kd x=aa .local then m else λy=>if y=x then aa v else m y,rfl,by rw[aL hk];exact aA rfl⟩
theorem mc:∀{names:ag (bQ×iz)}{n:aj}{a8:ag (bQ×aN)}{x:bQ},names.lookup x=aa .cell\/(∃c,a8.lookup x=aa c)->∃c,(ac4 n names a8).lookup x=aa c
 |[],n,a8,x,h=>h.elim (λh=>lX h) id
 |(m,k)::r,n,a8,x,h=>
  by
   unfold ac4;rw[cq] at h
   by_cases hk:(k==NameKind.cell)=ae
   ·rw[aA hk]
    by_cases q:x=m
    ·exact mc (.inr ⟨n,cq.trans (aA q)⟩)
    ·rw[aL q] at h
     exact mc (h.imp_right λh=>h.imp λc h=>(cq.trans (aL q)).trans h)
   ·rw[aL hk]
    exact mc (h.imp_left λh=>cO h (λZ e=>aQ (bT.mpr (aM e)) hk) λZ e=>e)
section
variable{C:Calls}{d n i:aj}{A:bW}{l:ag Env}{env:Env}{σ τ υ:W}{fn:Fn}{args:ag PV}{vals vs:ag ao}{s':aG}{xs:ag PV}{q:aN×aN}{pv:PV}{v:ao}{N:ag aN}
theorem Ctx.V7(c:Ctx (d+1) A l)(hk:env.scope.kind=.function)(hf:∃L,env.frame=aa L):Ctx d (A.deeper env) (env::l):=by
 have h1:=c.depth;have h2:=c.units;exact⟨by show A.depth+1+d+8<recursionLimit;omega,by show A.units+3+20*d+120<cLine;omega,c.hd,by show A.frames.map (env::·)=_;rw[c.fr];rfl,λe m=>(aJ.mp m).elim (λh=>h▸⟨by rw[hk];decide,hf⟩) (c.env e)⟩
theorem xt.less(c:xt (d+1) A l σ):xt d A l σ:=⟨c.om.le (hY d),c.sub,c.AY⟩
theorem pM.more(s:pM C d):pM C (d+1):=λhf c r=>s hf c.less r
theorem yy{j:aj}{pv:PV}(h:gV (og fn args) j=aa pv):args[j]? =aa pv:=by
 unfold gV og at h;rw[ag.getElem?_append,aq] at h;split at h
 ·rw[dh] at h
  cases e:args[j]? with
  |none=>rw[e] at h;cases h
  |some v=>rw[e] at h;exact h
 ·rw[ag.getElem?_replicate] at h
  split at h<;>cases h
noncomputable def mW(P:aS)(i:aj)(L:aN):Env:=newEnv (fj P i).scope L (fj P i).globals (ac4 (L+1) (fj P i).scope.names []) ((fj P i).qualname++".<locals>.") (aa (fv i)) (fj P i).code ac (fj P i).builtins
noncomputable def news(env:Env):ag Addr:=env.locals::env.cells.filterMap λp=>env.cells.lookup p.1
noncomputable abbrev kC(P:aS)(i:aj)(A:bW)(l:ag Env)(d:aj)(L:aN):K:=⟨A.deeper (mW P i L),mW P i L::l,mW P i L,LA (fj P i),d⟩
theorem yz{env:Env}{y:bQ}{c:aN}(h:env.cells.lookup y=aa c):c∈news env:=.tail _ (r9.mpr ⟨_,lookup_mem h,h⟩)
theorem BD{env:Env}{a:aN}(m:a∈news env):a=env.locals\/∃y,env.cells.lookup y=aa a:=(aJ.mp m).imp_right λm=>(r9.mp m).elim λp q=>⟨p.1,q.2⟩
theorem LG(F:V5 w.params i fn)(S:Ok σ)(room:xt (d+3) A l σ)(r:qL args vals σ)(hn:args.length=fn.jj)
 (x:InCallC σ.s (mW w.params i σ.h.objs.size).locals (bindL (mW w.params i σ.h.objs.size).kindOf ((gG (fj w.params i)).zip vals) λZ=>ac) (mW w.params i σ.h.objs.size).cells (bindC (mW w.params i σ.h.objs.size).kindOf ((gG (fj w.params i)).zip vals) λZ=>ac) s'):
 Ok ((σ.to s').fr (news (mW w.params i σ.h.objs.size)))/\p7 σ (σ.to s') (news (mW w.params i σ.h.objs.size))/\Here (kC w.params i A l d σ.h.objs.size) (og fn args) ((σ.to s').fr (news (mW w.params i σ.h.objs.size))):=by
 have kp:=x.toInCall.keep;refine gU x.toInCall.same λh' tk Oi=>?_;have ns:=x.toInCall.ns;have dL:=ns.imp λo q=>q.elim λes q=>q.elim λep q=>(⟨q.1,es,ep,q.2.1,q.2.2.1⟩ :s'.heap.get? _=aa o/\tM o);have nw:∀a∈news (mW w.params i σ.h.objs.size),σ.h.get? a=none:=λa m=>GN ((BD m).elim (λh=>h▸aP _) λh=>h.elim λy h=>a9 (x.above y a (lookup_mem h)));have z:=p7.grow (N:=news (mW w.params i σ.h.objs.size)) (s:=s') S kp (by rw[Oi]) nw λa m=>(BD m).elim (λh=>h▸dL.imp λZ q=>q.1) λh=>h.elim λy h=>(x.cell y a h).imp λZ q=>q.1
 have cellAt:∀y,(fj w.params i).scope.names.lookup y=aa .cell->∃c,(mW w.params i σ.h.objs.size).cells.lookup y=aa c:=λy h=>mc (.inl h);have V8:∀y j,(LA (fj w.params i)).sl.lookup y=aa j->(jk (gG (fj w.params i)) (fj w.params i).scope)[j]? =aa y:=λy j h=>(LD h).2;have m0:∀a∈qv (mW w.params i σ.h.objs.size::l),a=σ.h.objs.size\/a∈qv l:=λa m=>aJ.mp (show a∈σ.h.objs.size::qv l from m)
 exact⟨S.pO kp z (by rw[Oi]),z,
 {st:=
  {
   om:=(room.om.V7 (env:=mW w.params i σ.h.objs.size) F.hd.kind ⟨_,rfl⟩).le (bq (U7 _) d)
   kind:=F.hd.kind
   glob:=F.hd.glob
   blt:=F.hd.blt
   top:=⟨_,l,rfl,rfl⟩
   G6:=λy y' c h1 h2=>name_of_addr x.apart (lookup_mem h1) (lookup_mem h2)
   AX:=λy y' j h1 h2=>aM ((V8 y j h1).symm.trans (V8 y' j h2))
   lt:=λy j h=>(ay.mp (V8 y j h)).1
   gl:=λy h=>h
   sl:=λy j h=>(F.nms y (cp (V8 y j h))).2.imp id λq=>⟨.inl q,cellAt y q⟩
   nm:=λy j h=>TC (F.nms y (cp (V8 y j h))).1
   EW:=λy h=>(VQ h).elim (λq=>⟨.inl q,cellAt y q⟩) λq=>aQ rfl (F.V6 _ (lookup_mem q))
   U8:=λj h=>F.U8 j h}
  ns:=⟨_,ns⟩
  cell:=λy c h=>⟨⟨_,x.cell y c h⟩,bY _ (yz h),jJ (x.above y c (lookup_mem h))⟩
  sub:=λa m=>(m0 a m).elim (λh=>h▸bY _ (.head _)) λm=>cU _ (room.sub a m)
  JK:=bY _ (.head _)
  AY:=λa m=>(m0 a m).elim (λh=>h▸dL) λm=>(room.AY a m).imp λo q=>⟨kp _ _ q.1,q.2⟩
  hi:=λj pv h=>by
   have:=(ay.mp (yy h)).1
   rw[hn,F.jj] at this;exact bw this (by show _<=(jk _ _).length;unfold jk;rw[ah];exact aw ..)
  val:=λy j pv h1 h2=>by
   have ha:=yy h2;refine bH (r.get ha) λv hv rv=>?_;have hj:j<(gG (fj w.params i)).length:=by have:=(ay.mp ha).1;rwa[hn,F.jj] at this
   have hp:(gG (fj w.params i))[j]? =aa y:=by
    have:=V8 y j h1
    unfold jk at this;rwa[bo hj] at this
   have nd:(gG (fj w.params i)).Nodup:=(ub.mp (show(gG (fj w.params i)++_).Nodup from F.nd)).1
   refine⟨v,?_,rv.eQ cK z.held λZ Z Z e=>e⟩;rcases(F.nms y (cp (V8 y j h1))).2 with h3 |h3
   ·exact .au h3 _ ns (HQ h3 nd hp hv)
   ·refine fJ (cellAt y h3) λc hc=>?_
    exact .cell (.inl h3) c hc (HR (kd:=(mW w.params i σ.h.objs.size).kindOf) (m:=λZ=>ac) (by rw[show(mW w.params i σ.h.objs.size).kindOf y=aa .cell from h3];decide) nd hp hv▸x.cell y c hc)}⟩
theorem HS{υ:W}{ts:ag T}{vs:ag ao}{R:T->ao->Prop}(r:bF R ts vs)(k:∀t v,R t v->bK υ.h (X υ) t v):bF (gL υ) (ts.map .t) vs:=bF.map (r.mono λt Z v=>k t v)
theorem QM{ts:ag T}(S:Ok τ)(hc:mM n (τ.mu.take n)=ae)(hn:n<=i)(he:τ.mu[i]? =aa (.list xs))(hq:τ.p[i]? =aa q)(ht:eB xs=aa ts):
 Ok ⟨τ.s,τ.mu.take n++[.list xs],τ.p.take n++[q],τ.fs⟩/\∀a,MA ⟨τ.s,τ.mu.take n++[.list xs],τ.p.take n++[q],τ.fs⟩ a->MA τ a:=by
 have hm:n<=τ.mu.length:=a9 (ax hn (ay.mp he).1);have l1:(τ.mu.take n).length=n:=nX hm;have l2:(τ.p.take n).length=n:=nX (S.len▸hm);have at_:∀{α:Type}{L:ag α}{b x:α}{j:aj},(L.take n).length=n->(L.take n++[b])[j]? =aa x->(j<n/\L[j]? =aa x)\/(j=n/\x=b):=λe h=>(qW h).imp l7 λh=>⟨h.1.trans e,h.2⟩;have own:∀j a,Az (τ.mu.take n++[.list xs]) (τ.p.take n++[q]) j a->(j<n/\Az τ.mu τ.p j a)\/(j=n/\Az τ.mu τ.p i a):=λj a q9=>k8 q9 λo q' h1 h2 h3=>
  (at_ l1 h1).elim (λz1=>(at_ l2 h2).elim (λz2=>.inl ⟨z1.1,o,q',z1.2,z2.2,h3⟩) λz2=>aQ z1.1 (z2.1▸cL _)) λz1=>(at_ l2 h2).elim (λz2=>aQ z2.1 (z1.1▸cL _)) λz2=>.inr ⟨z1.1,_,_,he,hq,z1.2▸z2.2▸h3⟩
 have ma:∀a,MA ⟨τ.s,τ.mu.take n++[.list xs],τ.p.take n++[q],τ.fs⟩ a->MA τ a:=λa q9=>fJ q9 λj m=>(own j a m).elim (λz=>⟨j,z.2⟩) λz=>⟨i,z.2⟩;have held:ol τ.h (X τ) τ.h (X ⟨τ.s,τ.mu.take n++[.list xs],τ.p.take n++[q],τ.fs⟩):=λa o k e Z=>⟨λm=>k (m.imp_left (ma a)),e⟩;exact⟨
 {
  len:=by show(τ.mu.take n++[MO.list xs]).length=(τ.p.take n++[q]).length;rw[ah,ah,l1,l2];rfl
  dj:=λj j' a m m'=>(own j a m).elim (λz=>(own j' a m').elim (λz'=>S.dj _ _ a z.2 z'.2) λz'=>aQ (S.dj _ _ a z.2 z'.2) (dB (bw z.1 hn))) λz=>(own j' a m').elim (λz'=>aQ (S.dj _ _ a z'.2 z.2) (dB (bw z'.1 hn))) λz'=>z.1.trans z'.1.symm
  rep:=λj o q' h1 h2=>(at_ l1 h1).elim
   (λz1=>(at_ l2 h2).elim (λz2=>(S.rep j o q' z1.2 z2.2).eQ cK held (λZ Z Z e Z=>e) λys m j' q'' mj e=>qX (l8 e (yp (by
    have cl:MO.closed n o=true:=aE.mp hc o (cp (l8 z1.2 z1.1));rcases m with rfl |⟨c,rfl⟩<;>exact cl) mj))) λz2=>aQ z1.1 (z2.1▸cL _))
   λz1=>(at_ l2 h2).elim (λz2=>aQ z2.1 (z1.1▸cL _)) λz2=>by
    obtain⟨rfl,rfl⟩:=z1;obtain⟨_,rfl⟩:=z2;refine dZ (S.rep i _ _ he hq) λws m lw r=>?_;exact⟨ws,m,lw,by rw[show xs=ts.map .t from yc ht] at held ⊢;exact HS (pj ht r) λZ Z r=>r.eQ cK held⟩
  base:=S.base
  off:=λa m=>S.off a (ma a m)
  gens:=S.gens
  gE:=λa m=>⟨λz=>(S.gE a m).1 (ma a z),(S.gE a m).2⟩},ma⟩
theorem HT{G:Prop}(wb:Ok σ)(P:Le σ τ)(S:Ok τ)(r:RV pv v τ)(ns:qT fn σ.mu.length pv τ.mu≠.aK)(k:∀rv υ,qT fn σ.mu.length pv τ.mu=.ok rv υ.mu->υ.s=τ.s->Ok υ->Le σ υ->RV rv v υ->G):G:=by
 unfold qT at ns k
 by_cases h1:fn.init=ae
 ·rw[aA h1] at ns k
  by_cases h2:pv.isNone=ae
  ·rw[aA h2] at ns k;exact k pv τ rfl rfl S P r
  ·rw[aL h2] at ns;exact aQ rfl ns
 rw[aL h1] at ns k
 by_cases h2:fn.vq=ae
 ·rw[aA h2] at ns k
  cases pv with
  |t _=>exact aQ rfl ns
  |m i=>
   have ns:(if σ.mu.length<=i then dO (listAt τ.mu i) λxs=>if(eB xs).isSome=ae then dO (d7 σ.mu.length τ.mu) λmu=>Res.ok (PV.m σ.mu.length) (mu++[.list xs]) else .aK else .aK)≠.aK:=ns
   have k:∀rv υ,(if σ.mu.length<=i then dO (listAt τ.mu i) λxs=>if(eB xs).isSome=ae then dO (d7 σ.mu.length τ.mu) λmu=>Res.ok (PV.m σ.mu.length) (mu++[.list xs]) else .aK else .aK)=.ok rv υ.mu->υ.s=τ.s->Ok υ->Le σ υ->RV rv v υ->G:=k
   by_cases h3:σ.mu.length<=i
   ·rw[aA h3] at ns k
    cases he:listAt τ.mu i with
    |none=>rw[he] at ns;exact aQ rfl ns
    |some xs=>
     rw[he] at ns k;cases ht:eB xs with
     |none=>exact aQ (show dO (aa xs) _=_ by unfold dO;simp only;rw[ht];rfl) ns
     |some ts=>
      cases hc:d7 σ.mu.length τ.mu with
      |none=>exact aQ (show dO (aa xs) _=_ by unfold dO;simp only;rw[ht,hc];rfl) ns
      |some mu=>
       obtain⟨rfl,hb⟩:=zl hc;obtain⟨q,hq,rfl⟩:=r;have K:=QM S hb h3 (jS he) hq ht;refine k (.m σ.mu.length) ⟨τ.s,τ.mu.take σ.mu.length++[.list xs],τ.p.take σ.mu.length++[q],τ.fs⟩ (show dO (aa xs) _=_ by unfold dO;simp only;rw[ht,hc];rfl) rfl K.1 {P with CG:=λa o e m=>P.CG a o e (K.2 a m),pre:=λj q e=>qX (l8 (P.pre j q e) (wb.len▸(ay.mp e).1))} ⟨q,?_,rfl⟩
       have:(τ.p.take σ.mu.length).length=σ.mu.length:=nX (wb.len▸P.aav)
       show(τ.p.take σ.mu.length++[q])[σ.mu.length]? =_;rw[aZ (cX this),this,dA];rfl
   ·rw[aL h3] at ns;exact aQ rfl ns
 ·rw[aL h2] at ns k
  cases hf:Cq pv τ.mu with
  |none=>exact aQ (show(d0 pv τ.mu).bind _=_ by unfold d0;rw[hf];rfl) ns
  |some p=>
   obtain⟨t,mu⟩:=p;have e:(d0 pv τ.mu).bind (λt mu=>eh σ.mu.length (PV.t t) mu)=eh σ.mu.length (.t t) mu:=by unfold d0;rw[hf];rfl
   rw[e] at ns k;refine nY (vT S r hf) λj1 pL CW=>?_;refine gf (l9 ns) λe1 hb=>?_;exact k (.t t) ((τ.at mu).cut σ.mu.length) e1 rfl (j1.cut hb) ((P.trans pL).cut (cX wb.len.symm)) (K1 CW rfl)
end
section
variable{C:Calls}{d i:aj}{A:bW}{l:ag Env}{σ τ:W}{fn:Fn}{args:ag PV}{vals as:ag ao}{kw:ag (bQ×ao)}
noncomputable def flV:N3->ao
 |.ret v=>v
 |_=>.none
theorem V9{p:cB×Loc}{f:N3}(r:RFl τ p.1 f):RV (G3 p) (flV f) τ:=by
 obtain⟨fl,l⟩:=p;cases fl<;>cases f<;>first |exact r |exact r.elim |exact(rfl:jd=.none)
theorem Fu(F:V5 w.params i fn)(hb:nr C d (LA (fj w.params i)) (ww (fj w.params i)) fn.body)(room:xt (d+3) A l σ)(r:qL args vals σ)(hn:args.length=fn.jj)(hp:Looks (bP prog w) σ.h (pY (fj w.params i) ⟨as,kw⟩) ((gG (fj w.params i)).zip vals)):
 Gp (wq A (call (.ref (fv i)) as kw)) none_ σ (ends fn σ.mu.length (Mine.execs C fn.body (og fn args) σ.mu)) RV:=λQ E ko ke ns S=>by
 refine kW (rZ (by have:=room.om.depth;omega) (S.base _ _ F.hd.at_) rfl F.hd.co F.hd.gen F.hd.bd (F.hd.code.keeps S.base) (hp.here ?_))
 rw[F.hd.HF];refine wpAny_newFunctionEnv_cells F.hd.kind (λx m=>(F.nms _ (show x.1∈jk _ _ from bY _ (xk m).1)).2.imp_right λh=>⟨h,ar.isSome_iff_exists.mpr (mc (.inl h))⟩) λenv ag8 s' x=>⟨((mV w.params).keeps S.base).keeps x.toInCall.keep,codeAny_func ?_⟩
 subst ag8;refine nY (LG (d:=d) F S room r hn x) λS' fG c'=>?_;have hO:∀a,Pr (mW w.params i σ.h.objs.size) a->none_ a\/a∈news (mW w.params i σ.h.objs.size):=λa h=>.inr (h.elim (λh=>h▸.head _) λh=>h.elim λy h=>yz h);refine hb ⟨rfl,rfl⟩ c' _ _ (λp f τ e Wa P r=>?_) (λe τ h Wa P F=>?_) (λh=>ns (by rw[show Mine.execs C fn.body (og fn args) σ.mu=.aK from h];rfl)) S'
 ·have e:Mine.execs C fn.body (og fn args) σ.mu=.ok p τ.mu:=e
  rw[e] at ko ns;have g:Q (flV f) τ.s:=HT (τ:=τ.out τ.s σ.fs) S (fG.xv P hO (λZ Z Z=>id) rfl) (fG.ok P S Wa (λZ Z Z=>id) rfl) (fG.rv P (λZ Z Z=>id) (V9 r.2)) ns λrv υ e s Sυ Pυ rυ=>(show υ.s=τ.s from s)▸ko rv _ υ e Sυ Pυ rυ
  cases f<;>exact g
 ·have h:Mine.execs C fn.body (og fn args) σ.mu=.exc τ.mu:=h
  rw[h] at ke ns;refine TB (c'.fr' S') Wa P F λIZ ea z kO j2 H=>?_;cases hc:d7 σ.mu.length τ.mu with
  |none=>exact aQ (show exO (d7 σ.mu.length τ.mu)=_ by rw[hc];rfl) ns
  |some mu=>
   refine gf (zl hc) λz0 hcb=>?_;subst z0;exact ke e (((τ.to {τ.s with heap:=IZ}).out {τ.s with heap:=IZ} σ.fs).cut σ.mu.length) (show exO (d7 σ.mu.length τ.mu)=_ by rw[hc];rfl) ((fG.ok j2 S kO (λZ Z Z=>id) rfl).cut hcb) ((fG.xv j2 hO (λZ Z Z=>id) rfl).cut (cX S.len.symm)) ⟨ea,z,(H.pre (s₀:=σ.s) λa o e=>fG.le.ext a o e).raised (v:=ac)⟩
end
end
section
open PySem PySem.W PyProof.Rows PySem.SeqAt PySem.Builtin PySem.Builtin.ObjectAttr
noncomputable abbrev eb:ag Value:=[.type "Exception",.type "BaseException",.type "object"]
noncomputable def BE(P:aS):bQ->ar Value:=Ep (CQ P 188)
noncomputable def xx(P:aS):bQ->ar Value:=Ep (CQ P 175)
noncomputable abbrev fC:Obj:=excClassObj (fG 26) (fG 26) 189 188 [.ref 176] (.ref 176::eb) ae [] [] af ac ac (aa (.ref 180)) ac (aa (.str (fG 26) 418)) (aa (.str (fG 26) 426)) (aa (.bool ae)) "Exception.__new__"
theorem rG(P:aS):(BH P).get? 189=aa fC/\(BH P).get? 176=aa (lY [.ref 189])/\(BH P).get? 166=aa (US P)/\(US P).cls=.type "function":=⟨by kernel_rfl,by kernel_rfl,by kernel_rfl,by kernel_rfl⟩
abbrev zx(h:dK):Prop:=Grows (BH w.params) h
section
variable{h h':dK}(F:zx h)
include F
theorem zx.hC:h.get? 189=aa fC:=F _ _ (rG _).1
theorem zx.n1:h.Ns 188 (BE w.params):=(ye (P:=w.params) (a:=188) (by kernel_rfl)).keeps F
theorem zx.n2:h.Ns 175 (xx w.params):=(ye (P:=w.params) (a:=175) (by kernel_rfl)).keeps F
theorem zx.keeps(k:Grows h h'):zx h':=λZ Z e=>k _ _ (F _ _ e)
end
section
variable{h h':dK}{M:lS}{A:bW}{E:ao->aG->Prop}{g:cE GenState}{d:Drawn}{t:aj}{os:eE}{e:aN}{name:bQ}{v:ao}
theorem mX{y:ar ao}{Q:ar ao->aG->Prop}(F:zx h)(h1:BE w.params name=ac)(hB:gX (.type "Exception") name=pure y)
 (hq:Q (match xx w.params name with |some v=>aa v |none=>y) ⟨h,g,d,t,os⟩):aX M A (gX (.ref 189) name) Q E ⟨h,g,d,t,os⟩:=by
 have BF:lookupAlong eb name=pure y:=by rw[typeLookup_eq,eU.mroIs] at hB;exact hB
 rw[typeLookup_eq];refine ak (aeC F.hC ?_);rw[ac5];refine ak (wpAny_classOwn_exc F.hC F.n1 ?_);rw[h1];show aX _ _ (lookupAlong (.ref 176::eb) name) _ _ _;rw[ac5];refine ak (wpAny_classOwn_cls (F _ _ (rG _).2.1) F.n2 ?_);cases hv:xx w.params name with
 |some v=>rw[hv] at hq;exact aB hq
 |none=>rw[hv] at hq;rw[BF];exact aB hq
theorem uk{rest:ag ao}{Q:fP->aG->Prop}(F:zx h)(hq:Q () ⟨h,g,d,t,os⟩):aX M A (ik "Exception.__new__" ⟨.ref 189::rest,[]⟩) Q E ⟨h,g,d,t,os⟩:=by
 have aaH:(dz 189::.ref 176::eb).contains (.type "Exception")=true:=by decide+kernel
 have B:=eU;have ajs:=B.noStar;have hC:=F.hC;unfold ik;rw[B.newKind,B.newSplit];dsimp only
 repeat (first |refine cW hC ?_ |(refine gd hC ?_;rw[aaH]) |refine wpAny_staticBase_exc hC ?_ |refine ac6 hC ?_ |simp only[xS,hW,xO] |wp_step)
 exact hq
theorem HU{rest:ag ao}{R:X7->aG->Prop}(F:zx h)
 (hq:R (.ok (.ret (.ref (h.objs.size+1)))) ⟨(h.push {cls:=.type "tuple",data:=.seq rest.toArray}).push {cls:=.ref 189,data:=.fields #[.ref h.objs.size,.none,.none,.none,.bool af,.none]},g,d,t,os⟩) (BF:rest.length<=jD):
 mA (bP prog w) A (.builtin "Exception.__new__" ⟨.ref 189::rest,[]⟩) R ⟨h,g,d,t,os⟩:=by
 have B:=eU;have hC:=F.hC;have ajt:=B.ends;have Wb:(dz 189::.ref 176::eb).contains (.type "Exception")=true:=by decide+kernel
 have hcA:(dz 189::.ref 176::eb).contains (.type "AttributeError")=false:=by decide+kernel
 have hcN:(dz 189::.ref 176::eb).contains (.type "NameError")=false:=by decide+kernel
 refine codeAny_builtinAt B.entry ?_;unfold Builtin.«BaseException.__new__»;refine OO ?_;show PySem.wpAt _ _ _ (stack >>= _) _ _ _;refine OO (PySem.wpAt_stack λp below=>GO ?_)
 wp_walk
 refine GO ?_;rw[B.owner]
 repeat (first |with_reducible refine wpAny_madeHere_exc B.canon hC ?_ |with_reducible refine cW hC ?_ |(with_reducible refine gd hC ?_;first |rw[Wb] |rw[hcA] |rw[hcN]) |wp_step)
 show R _ _;rw[dK.size_push];exact hq
theorem sQ{oe:fE}{rest:ag ao}{Q:fP->aG->Prop}(F:zx h)(he:h.get? e=aa oe)(Lm:oe.cls=.ref 189)(hq:Q () ⟨h,g,d,t,os⟩):
 aX M A (ik "Exception.__init__" ⟨.ref e::rest,[]⟩) Q E ⟨h,g,d,t,os⟩:=by
 have B:=eU;have hC:=F.hC;have Wb:(dz 189::.ref 176::eb).contains (.type "Exception")=true:=by decide+kernel
 have ag9:=B.noStar;unfold ik;rw[B.initKind,B.initSplit,B.initRow];dsimp only
 repeat (first |(with_reducible refine cW he ?_;rw[Lm]) |with_reducible refine cW hC ?_ |(with_reducible refine gd hC ?_;rw[Wb]) |wp_step)
 refine wpAny_onRaise ?_;rw[show ∀(a b:eS)(n:aj),Bind.check ⟨.positional,"*","Exception",.self,[⟨"args",.varPos,af⟩]⟩ a b n (ag.map (λx=>x.fst) ({pos:=dz e::rest}:Args).kw)=pure () from
  λa b n=>check_star_args _ _ _ _ _ _]
 exact aB hq
theorem DA{rest:ag ao}{Q:ao->aG->Prop}(F:zx h)(hm:BE w.params "__init__"=ac)(hi:xx w.params "__init__"=aa (.ref 166))(BF:rest.length<=jD)
 (hq:∀h' e tt,(∀b o,h.get? b=aa o->h'.get? b=aa o)->h.get? e=ac->h'.get? e=aa {cls:=.ref 189,data:=.fields #[.ref tt,.none,.none,.none,.bool af,.none]}->
  aX (bP prog w) (A.under (.builtin "type.__call__" ⟨.ref 189::rest,[]⟩)) (call (.ref 166) (.ref e::rest)) (λr s'=>r=.none/\Q (.ref e) s') E ⟨h',g,d,t,os⟩):
 aX (bP prog w) A (call (.ref 189) rest) Q E ⟨h,g,d,t,os⟩:=by
 have B:=eU;have hC:=F.hC;have f1:=tc_lookup;have f2:=tc_bind (.ref 189);have hT:(⟨h,g,d,t,os⟩ :aG).TypeIs (.ref 189) "type":=⟨_,hC,rfl⟩;refine kW (Ck ?_);show aX _ _ (callAny (.ref 189) _) _ _ _
 repeat (any_goals (first |assumption |with_reducible refine cW hC ?_ |wp_step))
 refine⟨rfl,?_⟩;refine codeAny_call_builtin_at (Jg _ (by decide+kernel)) entry_typeCall (wpAny_check_type_call_sub hC ?_)
 repeat (first |with_reducible refine cW hC ?_ |with_reducible refine ac6 hC ?_ |wp_step)
 refine codeAny_call_builtin_code (Jg _ B.quiet) (uk F ?_);refine HU F ?_ BF;show aX _ _ _ _ _ _;have kp:∀b o,h.get? b=aa o->((h.push {cls:=.type "tuple",data:=.seq rest.toArray}).push {cls:=.ref 189,data:=.fields #[.ref h.objs.size,.none,.none,.none,.bool af,.none]}).get? b=aa o:=λb o z=>aI _ (aI _ z);have Wc:((h.push {cls:=.type "tuple",data:=.seq rest.toArray}).push {cls:=.ref 189,data:=.fields #[.ref h.objs.size,.none,.none,.none,.bool af,.none]}).get? (h.objs.size+1)=aa {cls:=.ref 189,data:=.fields #[.ref h.objs.size,.none,.none,.none,.bool af,.none]}:=by heap_get
 have Wd:=F.keeps kp;have TK:=Wd.hC;have hcC:(dz 189::.ref 176::eb).contains (.ref 189)=true:=by decide+kernel
 unfold isInstance
 repeat (first |with_reducible refine cW Wc ?_ |(with_reducible refine gd TK ?_;rw[hcC]) |wp_step)
 refine gd TK ?_;rw[hcC]
 repeat (first |with_reducible refine cW Wc ?_ |wp_step)
 show aX _ _ (gX (.ref 189) _) _ _ _;refine mX Wd hm B.init.lookup ?_;rw[hi];refine bu (ak ?_);unfold bindSpecial;refine ak (kc (T:="function") ⟨_,Wd _ _ (rG _).2.2.1,(rG _).2.2.2⟩ ?_);rw[aA (by decide)]
 refine aB (ak (e9 (hq _ (h.objs.size+1) h.objs.size kp (GN (hY _)) Wc) (λr s' hr=>?_) λZ Z x=>x));obtain⟨rfl,hQ⟩:=hr
 wp_walk
 exact hQ
theorem DB{tt:aN}{rest:ag ao}{Q:ao->aG->Prop}(F:zx h)(he:h.get? e=aa {cls:=.ref 189,data:=.fields #[.ref tt,.none,.none,.none,.bool af,.none]})(BF:rest.length<=jD)
 (hq:∀h' tt',(∀b o,b≠e->h.get? b=aa o->h'.get? b=aa o)->h'.get? e=aa {cls:=.ref 189,data:=.fields #[.ref tt',.none,.none,.none,.bool af,.none]}->Q .none ⟨h',g,d,t,os⟩):
 aX (bP prog w) A (call (.builtin "Exception.__init__") (.ref e::rest)) Q E ⟨h,g,d,t,os⟩:=by
 have B:=eU;refine kW (lj B.init.plain B.initEntry (sQ F he rfl ?_))
 wp_walk
 refine hq _ h.objs.size (λb o hb z=>?_) ?_
 ·rw[fZ _ _ (Ne.symm hb)];exact aI _ z
 ·rw[jY _ (aI _ he) rfl]
  rfl
theorem We{o:fE}{vs:cE ao}{Q:fP->aG->Prop}(F:zx h)(he:h.get? e=aa o)(hc:o.cls=.ref 189)(hd:o.data=.fields vs)(hs1:BE w.params "__setattr__"=ac)(hs2:xx w.params "__setattr__"=ac)
 (h1:BE w.params name=ac) (h2:xx w.params name=ac) (hB:gX (.type "Exception") name=pure ac)
 (LH:o.dict=ac\/∃L m ns,o.dict=aa L/\L≠e/\h.Ns1 L m/\Within m ns/\ns.length<=8)
 (hq:∀h' A4 L m,h'.get? e=aa {o with dict:=aa L}->L≠e->h'.Ns1 L m->(∃ns,Within m ns/\(o.dict=ac->ns.length<=1))->(o.dict=ac->h.get? L=ac)->(∀L',o.dict=aa L'->L'=L)->(∀b ob,b≠e->b≠L->h.get? b=aa ob->h'.get? b=aa ob)->Q () ⟨h',g,d,A4,os⟩):
 aX (bP prog w) A (NU (.ref e) name v) Q E ⟨h,g,d,t,os⟩:=by
 have SF:=PySem.F.store_Exception;have hC:=F.hC;have f3:=SF.slot.bind (.ref e);unfold NU callSpecial? ac0
 repeat (any_goals (first |assumption |(with_reducible refine cW he ?_;rw[hc]) |(with_reducible refine mX F hs1 SF.slot.lookup ?_;rw[hs2]) |wp_step))
 have aaI:=SF.passes (.ref e);have ha:=SF.args (.ref e) (.str name t) v;have Wb:(dz 189::.ref 176::eb).contains (.type "object")=true:=by decide+kernel
 have chk:∀(M:lS)(A':bW)(t':aj),aX M A' (ik "object.__setattr__" ⟨[.ref e,.str name t,v],[]⟩) (λZ s'=>s'=⟨h,g,d,t',os⟩) (λZ Z=>pT) ⟨h,g,d,t',os⟩:=by
  intro M A' t';unfold ik;rw[SF.kind,SF.split];dsimp only;refine ak ?_;unfold isInstance
  repeat (first |(with_reducible refine cW he ?_;rw[hc]) |(with_reducible refine gd hC ?_;rw[Wb]) |wp_step)
  rfl
 have main:∀(A':bW)(Q':Fin->aG->Prop)(E':ao->aG->Prop)(t':aj),(∀h' A4 L m,h'.get? e=aa {o with dict:=aa L}->L≠e->h'.Ns1 L m->(∃ns,Within m ns/\(o.dict=ac->ns.length<=1))->(o.dict=ac->h.get? L=ac)->(∀L',o.dict=aa L'->L'=L)->(∀b ob,b≠e->b≠L->h.get? b=aa ob->h'.get? b=aa ob)->Q' (.done (.ret .none)) ⟨h',g,d,A4,os⟩)->
  aX (bP prog w) A' (Builtin.«object.__setattr__» ⟨[.ref e,.str name t,v],[]⟩) Q' E' ⟨h,g,d,t',os⟩:=by
  intro A' Q' E' t' Oj;unfold Builtin.«object.__setattr__»
  repeat (first |rw[refuse_eq] |(rw[refuseLoop_ref,refuseLoop_ref,aaI]) |(with_reducible refine cW he ?_;rw[hc]) |with_reducible refine aeC hC ?_ |(with_reducible refine mX F h1 hB ?_;rw[h2]) |wp_step)
  rcases LH with hdn |⟨L,m,ns,Ym,Bk,hns,hw,hlen⟩
  ·rw[hdn,aL (by simp[typeHasDict])]
   split
   ·rename_i hcd;cases hcd
   split
   ·rename_i c hcd;rw[hd] at hcd;cases hcd
   ·have yr:(h.push {cls:=.type "dict",data:=.dict #[]}).get? e=aa o:=aI _ he
    have hxs:e≠h.objs.size:=dB (fW he);refine ak (wpAny_alloc' ?_);refine ak (wpAny_update' yr ?_);refine aB ?_;have hgd:((h.push {cls:=.type "dict",data:=.dict #[]}).update e λo=>{cls:=o.cls,dict:=aa h.objs.size,data:=o.data,slots:=o.slots}).get? h.objs.size
     =aa {cls:=.type "dict",data:=.dict #[]}:=
     (IR _ _ _ _ hxs.symm).trans (dK.get?_push_at rfl rfl)
    have hnd:((h.push {cls:=.type "dict",data:=.dict #[]}).update e λo=>{cls:=o.cls,dict:=aa h.objs.size,data:=o.data,slots:=o.slots}).Ns h.objs.size (λZ=>ac):=
     ⟨_,#[],_,hgd,rfl,λe he=>aQ he (by simp),λZ=>rfl⟩
    show aX _ _ (AK h.objs.size (.str name t) name v) _ _ _;unfold AK newKeyGuard;refine ak (aB (ak (wpAny_nsSet1 (dK.Ns1.of_empty hnd) λh' zy hs=>?_)));refine ue (zy.count (uA name v YS)) λoD esD epD hoD hdD hcD=>?_;refine ak (ac7 hoD (by rw[hdD];exact ac8 (ai hcD (by rw[aO,c0,sizeLine_eq];omega))) ?_)
    wp_walk
    have hfr:=(dK.get?_some_iff.mp he).2;have Ts:h'.get? e=aa {cls:=o.cls,dict:=aa h.objs.size,data:=o.data,slots:=o.slots}:=by
     refine(hs.2 e hxs).trans (jY _ yr ?_);show fE.isFreed {cls:=o.cls,dict:=aa h.objs.size,data:=o.data,slots:=o.slots}=af;exact pV hd
    refine Oj h' _ h.objs.size _ Ts hxs.symm zy ⟨_,uA name v YS,λZ=>by simp⟩ (λZ=>d8) (λL' q=>by rw[hdn] at q;cases q) λb ob hb hL z=>?_
    exact(hs.2 b hL).trans ((IR _ _ _ _ hb).trans (aI _ z))
  ·rw[Ym]
   refine aB ?_;show aX _ _ (AK L (.str name t) name v) _ _ _;unfold AK newKeyGuard;refine ak (aB (ak (wpAny_nsSet1 hns λh' zy hs=>?_)));refine ue (zy.count (uA name v hw)) λoD esD epD hoD hdD hcD=>?_;refine ak (ac7 hoD (by rw[hdD];exact ac8 (ai hcD (by rw[aO,sizeLine_eq];omega))) ?_)
   wp_walk
   have Ts:h'.get? e=aa {o with dict:=aa L}:=by
    rw[(hs.2 e Bk.symm).trans he];obtain⟨c,d,dt,sl⟩:=o;simp only at Ym;subst Ym;rfl
   exact Oj h' _ L _ Ts Bk zy ⟨_,uA name v hw,λq=>by rw[Ym] at q;cases q⟩ (λq=>by rw[Ym] at q;cases q) (λL' q=>by rw[Ym] at q;exact(aM q).symm) λb ob hb hL z=>(hs.2 b hL).trans z
 refine lj SF.slot.plain SF.entry (e9 (chk _ _ _) (λZ s' z=>?_) λZ Z z=>z.elim);subst z;refine main _ _ _ _ λh' A4 L m a1 a2 a3 a4 a5 a6 a7=>?_
 repeat (any_goals (first |assumption |wp_step))
 exact hq h' A4 L m a1 a2 a3 a4 a5 a6 a7
end
end
section
open PySem PySem.W PyProof.Rows PySem.SeqAt
noncomputable def nE:Str:="Exception"
noncomputable def nI:Str:="__init__"
noncomputable def nS:Str:="self"
noncomputable def nW:Str:="what"
noncomputable def nA:Str:="at"
noncomputable def nT:Str:="__setattr__"
noncomputable def yA:Expr:=.Call (.Attribute (.Name nE ⟨97,8,97,17⟩) nI ⟨97,8,97,26⟩) [.Name nS ⟨97,27,97,31⟩,.Name nW ⟨97,33,97,37⟩] [] ⟨97,8,97,38⟩
noncomputable def LI(f:bQ)(l c:aj)(m:aj):Stmt:=.Assign [.Attribute (.Name nS ⟨l,8,l,12⟩) f ⟨l,8,l,c⟩] (.Name f ⟨l,c+3,l,m⟩) ⟨l,8,l,m⟩
theorem HV(P:aS):ww (fj P 17)=[.Expr yA ⟨97,8,97,38⟩,LI nW 98 17 24,LI nA 99 15 20]:=by kernel_rfl
noncomputable def iAv(P:aS):Value:=((tU P (fj P 17))[0]?).getD .none
theorem wx(P:aS):((fj P 17).scope.names.lookup nS,(fj P 17).scope.names.lookup nW,(fj P 17).scope.names.lookup nA,(fj P 17).scope.names.lookup nE,(fj P 17).scope.names.all λp=>p.2 != .cell)=(aa .local,aa .local,aa .local,aa .globalImplicit,ae):=by kernel_rfl
theorem HW(P:aS)(S:N4)(a b:ao):peek (KD P (fj P 17)) S (pY (fj P 17) ⟨[a,b],[]⟩)=aa [(nS,a),(nW,b),(nA,iAv P)]:=by kernel_rfl
theorem LJ:findCls [] (.type "Exception") (.type "type") nI=aa (.val (.builtin "Exception.__init__")):=by kernel_rfl
theorem HX:X5 (.type "Exception")=pure (.type "type"):=by kernel_rfl
theorem QN:Manifest.isStub "Exception"=false:=by decide+kernel
theorem HY:handedIn (.builtin "Exception.__init__")=true:=by decide+kernel
theorem pC(P:aS):((mG P nE,mB P nE),[nI,nT,nW,nA].map (BE P),[nI,nT,nW,nA].map (xx P))=((ac,aa (.type "Exception")),[ac,ac,ac,ac],[aa (.ref 166),ac,ac,ac]):=by kernel_rfl
theorem BG:gX (.type "Exception") nW=pure ac/\gX (.type "Exception") nA=pure none:=by
 refine⟨?_,?_⟩<;>(rw[iA,fk];kernel_rfl)
theorem ex0{P:aS}:mG P nE=ac/\mB P nE=aa (.type "Exception"):=bk (bk (pC P)).1
theorem ex1{P:aS}{n:bQ}(m:n∈[nI,nT,nW,nA]):BE P n=none:=map_eq (l:=[nI,nT,nW,nA]) (f:=BE P) (g:=λZ=>ac) (bk (bk (pC P)).2).1 m
theorem ex2{P:aS}{n:bQ}(m:n∈[nT,nW,nA]):xx P n=none:=map_eq (l:=[nT,nW,nA]) (f:=xx P) (g:=λZ=>ac) (cg (bk (bk (pC P)).2).2).2 m
theorem ex3{P:aS}:xx P nI=aa (.ref 166):=(cg (bk (bk (pC P)).2).2).1
section
variable{A:bW}{env:Env}{s:aG}{E:ao->aG->Prop}{M:lS}{m:bQ->ar ao}{v:ao}{x f:bQ}{p:Pos}{e:aN}
theorem oE{Q:ao->aG->Prop}(hk:env.scope.kind=.function)(hl:env.kindOf x=aa .local)(hn:s.heap.Ns env.locals m)(hv:m x=aa v)(hd:(x==("__debug__":bQ))=af)(q:Q v s):aX M A (eval (.Name x p) env) Q E s:=qH (Sq hk hl hn hv q) hd
noncomputable abbrev iB(P:aS)(e:aN)(v:ao):ag (bQ×ao):=[(nS,.ref e),(nW,v),(nA,iAv P)]
structure QO(env:Env)(e:aN)(v:ao)(h:dK):Prop where
 (bas:zx h) (kind:env.scope.kind=.function) (nm:∀y,env.kindOf y=(fj w.params 17).scope.names.lookup y) (ns:h.Ns env.locals λx=>(iB w.params e v).reverse.lookup x) (ne:e≠env.locals) (nb:(BH w.params).get? e=ac)
theorem QO.au{h:dK}(c:QO env e v h)(hf:f=nS\/f=nW\/f=nA):env.kindOf f=aa .local:=by
 refine gf (bk (wx w.params)) λe1 e=>?_;refine gf (bk e) λe2 e=>?_;rw[c.nm];rcases hf with rfl |rfl |rfl
 ·exact e1
 ·exact e2
 ·exact(bk e).1
theorem yB{l c n:aj}{o:fE}{vs:cE ao}{Q:N3->aG->Prop}{u:ao}(I:QO env e v s.heap)(hf:f=nW\/f=nA)(hv:(iB w.params e v).reverse.lookup f=aa u)(he:s.heap.get? e=aa o)(hc:o.cls=.ref 189)(hd:o.data=.fields vs)
 (LH:o.dict=ac\/∃L m ns,o.dict=aa L/\L≠e/\s.heap.Ns1 L m/\Within m ns/\ns.length<=8)
 (hq:∀h' A4 L m,h'.get? e=aa {o with dict:=aa L}->L≠e->h'.Ns1 L m->(∃ns,Within m ns/\(o.dict=ac->ns.length<=1))->(o.dict=ac->s.heap.get? L=ac)->(∀L',o.dict=aa L'->L'=L)->(∀b ob,b≠e->b≠L->s.heap.get? b=aa ob->h'.get? b=aa ob)->Q .next {s with heap:=h',toks:=A4}):
 aX (bP prog w) A (dC (LI f l c n) env) Q E s:=by
 have m4:f∈[nT,nW,nA]:=.tail _ (hf.elim (λh=>h▸.head _) λh=>h▸.tail _ (.head _));show aX _ _ (dC (.Assign _ _ _) env) _ _ _;rw[yx];refine ak (eN (ak (oE I.kind (I.au (.inr hf)) I.ns hv (hf.elim (λh=>h▸rfl) λh=>h▸rfl) (ak (bu (oE I.kind (I.au (.inl rfl)) I.ns (v:=.ref e) (by kernel_rfl) (by decide) (ak (eN (ak (bu ?_))))))))))
 exact We I.bas he hc hd (ex1 (.tail _ (.head _))) (ex2 (.head _)) (ex1 (.tail _ m4)) (ex2 m4) (hf.elim (λh=>h▸BG.1) λh=>h▸BG.2) LH λh' A4 L m a1 a2 a3 a4 a5 a6 a7=>ak (lC (aB (hq h' A4 L m a1 a2 a3 a4 a5 a6 a7)))
end
section
variable{C:Calls}{d:aj}{cx:Cx}{A:bW}{env:Env}{s:aG}{E:ao->aG->Prop}{M:lS}{v Wf:ao}{x f:bQ}{p p1 pos:Pos}{e tt L:aN}{as:ag bV}{h h':dK}{Es:ag Mine.E}
theorem me{f:ao}{first:ag ao}{args:ag (aW×Sem ao)}{Q:ao->aG->Prop}(hp:args.any (·.1)=af)
 (h:aX M A (evalArgs f ae args []) (λa s'=>(∀Q E,Q jz s'->aX M A (xM f) Q E s')/\aX M A (call f (first++a.pos) a.kw) Q E s') E s):aX M A (tF pos f first args []) Q E s:=by
 unfold tF;refine ak (bu (e9 h (λa di gZ=>ak (eN ?_)) λZ Z x=>x));rw[hp];exact ak (gZ.1 _ _ (ak (e9 gZ.2 (λr s₂ hr=>ak (bu (Sx (aB hr)))) λZ Z x=>x)))
theorem QO.to(c:QO env e v h)(k:∀b o,b≠e->b≠L->h.get? b=aa o->h'.get? b=aa o)(fL:L=e\/h.get? L=ac):QO env e v h':=
 have ne:∀{b o},b≠e->h.get? b=aa o->h'.get? b=aa o:=λn z=>k _ _ n (fL.elim (λq=>q▸n) λq r=>lX ((r▸q).symm.trans z)) z
 ⟨λb o z=>ne (λq=>lX ((q▸c.nb).symm.trans z)) (c.bas b o z),c.kind,c.nm,c.ns.imp λo q=>q.imp λes q=>q.imp λep q=>⟨ne (Ne.symm c.ne) q.1,q.2⟩,c.ne,c.nb⟩
theorem HZ{Q:ao->aG->Prop}(F:zx s.heap)(LK:A.depth<recursionLimit)(nb:(BH w.params).get? e=ac)(he:s.heap.get? e=aa {cls:=.ref 189,data:=.fields #[.ref tt,.none,.none,.none,.bool af,.none]})
 (hq:∀s',s'.gens=s.gens->s'.os=s.os->(∀b ob,b≠e->s.heap.get? b=aa ob->s'.heap.get? b=aa ob)->(∃o vs,s'.heap.get? e=aa o/\o.cls=.ref 189/\o.data=.fields vs/\1<vs.size/\vs[1]? =aa .none)->Q .none s'):aX (bP prog w) A (call (.ref 166) [.ref e,Wf]) Q E s:=by
 have FF:=zw w.params (i:=17) (by decide)
 refine gf (bk (wx w.params)) λn1 n=>?_;refine gf (bk n) λn2 n=>?_;refine gf (bk n) λn3 n=>?_;refine gf (bk n) λn4 n5=>?_;refine kW (rZ LK (F _ _ (show(BH w.params).get? 166=_ from FF.at_)) rfl FF.co FF.gen FF.bd (FF.code.keeps F) ((show Looks (bP prog w) s.heap _ _ from qQ (Ft.keeps F) (HW _ _ (.ref e) Wf)).here ?_))
 refine lq (λx m=>wi (aE.mp n5 x m)) (λx m=>?_) (λgZ aaM aaN=>?_) FF.kind
 ·rcases aJ.mp m with rfl |m
  ·exact n1
  ·rcases aJ.mp m with rfl |m
   ·exact n2
   ·exact aC.mp m▸n3
 have kp:Grows s.heap gZ:=λb o z=>(aaN.2 b (ne_size z)).trans (aI _ z);generalize hE:newEnv (fj w.params 17).scope s.heap.objs.size (fj w.params 17).globals (fj w.params 17).closure ((fj w.params 17).qualname++".<locals>.") (aa 166) (fj w.params 17).code ac (fj w.params 17).builtins=env;have eL:env.locals=s.heap.objs.size:=by rw[<-hE];rfl
 have rH:QO env e Wf gZ:=⟨F.keeps kp,by rw[<-hE];exact FF.kind,λy=>by rw[<-hE];rfl,eL▸aaM,λz=>ne_size he (z.trans eL),nb⟩
 refine⟨((mV w.params).keeps F).keeps kp,codeAny_func ?_⟩;rw[HV];show aX _ _ (dC (.Expr yA ⟨97,8,97,38⟩) env >>= _) _ _ _;rw[show dC (.Expr yA ⟨97,8,97,38⟩) env=(do dy ⟨97,8,97,38⟩;let v <-eval yA env;ac2 yA ⟨97,8,97,38⟩ v) by
  rw[IP,show nV env=af by unfold nV;rw[rH.kind];rfl];rfl]
 refine ak (ak (eN (ak ?_)));unfold yA;rw[arm_eval_Call];have hg:env.kindOf nE=aa .globalImplicit:=(rH.nm nE).trans n4;refine ak (m:=eval (.Name nE ⟨97,8,97,17⟩) env) (qH ?_ (by decide))
 rw[sD rH.kind hg];unfold Eu;rw[show env.globals=3 by rw[<-hE];exact FF.glob,show env.builtins=0 by rw[<-hE];exact FF.blt]
 refine ak (nO ((ns3 w.params).keeps rH.bas) ?_);rw[ex0.1];refine ak (nO ((ns0 w.params).keeps rH.bas) ?_);rw[ex0.2];refine aB (ak (eN ?_));refine Kj rfl (by decide) rfl λpl=>method_type (K:=[]) (h₀:={}) (L:=env.locals) (m:=_) ⟨rH.ns,λZ Z z=>(by cases z),cF _⟩ (λZ Z z=>by cases z) HX QN LJ HY ?_
 refine me rfl (gg rfl ?_);show aX _ _ (do let v <-eval (.Name nS ⟨97,27,97,31⟩) env;let here <-(pure [v]:Sem (ag ao));return here++(<-cN here (do let v <-eval (.Name nW ⟨97,33,97,37⟩) env;let here <-(pure [v]:Sem (ag ao));return here++(<-cN here (pure []))))) _ _ _
 refine ak (oE rH.kind (rH.au (.inl rfl)) rH.ns (v:=.ref e) (by kernel_rfl) (by decide) (ak (aB (ak (bu (ak (oE rH.kind (rH.au (.inr (.inl rfl))) rH.ns (v:=Wf) (by kernel_rfl) (by decide) (ak (aB (ak (bu (aB (aB (aB ?_))))))))))))))
 refine⟨λQ E q=>zk q,DB rH.bas (kp _ _ he) (by show 1<=jD;decide) λpN ajy Df Lu=>Co ?_⟩
 have aaO:QO env e Wf pN:=rH.to (L:=e) (λb o n Z z=>Df b o n z) (.inl rfl);show aX _ _ (dC (LI nW 98 17 24) env >>= _) _ _ _;refine ak (yB (s:=⟨pN,s.gens,s.drawn,_,s.os⟩) aaO (.inl rfl) (u:=Wf) (by kernel_rfl) Lu rfl rfl (.inl rfl) λsO ahf L m a1 a2 a3 a4 a5 a6 a7=>?_)
 have ahg:QO env e Wf sO:=aaO.to a7 (.inr (a5 rfl));show aX _ _ (dC (LI nA 99 15 20) env >>= _) _ _ _;refine bH a4 λnn hw hnn=>?_;refine ak (yB (s:=⟨sO,s.gens,s.drawn,ahf,s.os⟩) ahg (.inr rfl) (u:=iAv w.params) (by kernel_rfl) a1 rfl rfl (.inr ⟨L,m,nn,rfl,a2,a3,hw,ai (hnn rfl) (by decide)⟩) λamj amk L' m' b1 b2 b3 b4 b5 b6 b7=>?_)
 cases b6 L rfl;exact aB (hq _ rfl rfl (λb ob hb z=>have z2:=Df b ob hb (kp b ob z);have n:b≠L:=λq=>lX ((q▸a5 rfl).symm.trans z2);b7 b ob hb n (a7 b ob hb n z2)) ⟨_,_,b1,rfl,rfl,by show 1<6;decide,rfl⟩)
set_option maxHeartbeats 0 in
theorem BI{x:Sem ao}{Q:N3->aG->Prop}(hh:A.handled=ac)
 (h:aX M A x (λv di=>∃e o vs,v=.ref e/\zx di.heap/\di.heap.get? e=aa o/\o.cls=.ref 189/\o.data=.fields vs/\vs[1]? =aa .none/\E (.ref e) di) E s):aX M A (ac9 env (aa x) ac) Q E s:=by
 have Wb:(dz 189::.ref 176::eb).contains (.type "BaseException")=true:=by decide+kernel
 unfold ac9;refine ak (e9 h (λv di gZ=>?_) λZ Z x=>x);refine YZ gZ λe o vs z0 F he Lm hd h5 hE=>?_;subst z0;have hC:=F.hC;obtain⟨hp,g,d,tk,os⟩:=di
 repeat (first |rw[hd] |rw[h5] |(with_reducible refine cW he ?_;rw[Lm]) |with_reducible refine cW he ?_ |with_reducible refine cW hC ?_ |(with_reducible refine gd hC ?_;rw[Wb]) |wp_step)
 exact wpAny_raiseNew_none hh hE
theorem H2(P:aS):jT P (xp [83,121,110,116,97,120,70,97,117,108,116])=aa (.ref 189):=by kernel_rfl
theorem LL(hx:qt x [83,121,110,116,97,120,70,97,117,108,116]=ae)(hg:glob cx x=ae)(h:sE C d cx as Es):g7 C d cx (.Raise (aa (.Call (.Name x p1) as [] p)) ac pos) (.raise Es):=λ{k au σ} z c Q E ko ke ns S=>by
 show aX _ _ (dC (.Raise (aa (.Call (.Name x p1) as [] p)) ac pos) k.env) Q E σ.s;rw[arm_exec_Raise];refine ak (eN ?_);show aX _ _ (ac9 k.env (aa (do let v <-eval (.Call (.Name x p1) as [] p) k.env;dy pos;pure v)) ac) _ _ _
 refine BI c.st.om.hd (ak (mH rfl (gF c.st S (z.cx▸hg) (mQ hx▸H2 _) (me (h.plain _ _) (gg (h.plain _ _) ?_)))));refine h.v z c _ _ (λf7 vs τ e j1 P r=>?_) (λe τ h' S' P F=>ke e τ (show(su C Es au σ.mu).bind _=_ by rw[h'];rfl) S' P.any F) (λh'=>ns (show(su C Es au σ.mu).bind _=_ by rw[h'];rfl)) S
 have e:su C Es au σ.mu=.ok f7 τ.mu:=e;have hr:Mine.exec C (.raise Es) au σ.mu=dO (((oneOf f7).bind PV.t?).bind T.s?) λZ=>.exc τ.mu:=show(su C Es au σ.mu).bind _=_ by rw[e];rfl
 have ns:Mine.exec C (.raise Es) au σ.mu≠.aK:=ns;have ke:KE (Pr k.env) σ (Mine.exec C (.raise Es) au σ.mu) E:=ke;rw[hr] at ns ke;cases ho:((oneOf f7).bind PV.t?).bind T.s? with
 |none=>rw[ho] at ns;exact aQ rfl ns
 |some str=>
  rw[ho] at ke;have ahh:∃v,vs=[v]:=bj ho λt h1 Z=>bj h1 λpv h2 Z=>by
   cases A2 h2;cases vs with
   |nil=>exact r.elim
   |cons v vs=>
    cases vs with
     |nil=>exact⟨v,rfl⟩
     |cons=>exact r.2.elim
  refine fJ ahh λv z0=>?_;subst z0;refine⟨λQ E q=>X8 (zx.hC j1.base) q,?_⟩;obtain⟨⟨hp,g,dr,t,os⟩,mu,pl,fs⟩:=τ;refine DA j1.base (ex1 (.head _)) ex3 (by show 1<=jD;decide) λh' e tt kp fe he=>?_
  refine HZ (s:=⟨h',g,dr,t,os⟩) (zx.keeps j1.base kp) (ax (cG (aw _ _) (by decide:1<=8)) c.st.om.depth) (is_none λo q=>lX (fe.symm.trans (j1.base _ _ q))) he λs' g' o' k' fe'=>⟨rfl,ak (eN (aB ?_))⟩
  refine Ji fe' λo vs e1 e2 e3 e4 e5=>?_;have keep:Grows hp s'.heap:=λb ob z=>k' b ob (λq=>lX ((q▸fe).symm.trans z)) (kp b ob z);have kO:=j1.grow (s:=s') keep g';exact⟨e,o,vs,rfl,kO.base,e1,e2,e3,e5,ke (.ref e) ⟨s',mu,pl,fs⟩ rfl kO (P.trans (.grow keep o')).any ⟨e,rfl,.bare o vs ⟨P.new fe,e1,e2,e3,e4⟩ e5⟩⟩
end
noncomputable def bmA(P:aS):Addr:=match mG P "__builtins__" with |some (.ref a)=>a |_=>0
noncomputable def bmS(P:aS):Obj:=((BH P).get? (bmA P)).getD default
theorem LM(P:aS):(mG P "__builtins__",(BH P).get? (bmA P),bmA P==builtinsNs,(BH P).get? (bmA P) |>.isSome)=(aa (.ref (bmA P)),aa {bmS P with cls:=.type "module",dict:=aa builtinsNs,data:=.plain},af,ae):=by kernel_rfl
noncomputable def vS:ao->bQ×Tok |.str s t=>(s,t) |_=>(default,0)
noncomputable def vI:ao->bE×Tok |.int s t=>(s,t) |_=>(0,0)
noncomputable def vB:ao->aW |.bool b=>b |_=>af
noncomputable def kV(P:aS)(c:aN):cE Value:=match ((BH P).get? c).map uz with |some (.fields vs)=>vs |_=>#[]
theorem H3(P:aS):[0,1].map (λj=>((BH P).get? (dU j),(kV P (dU j)).getD 11 .none,(kV P (dU j)).getD 18 .none,(kV P (dU j)).getD 7 .none,(kV P (dU j)).getD 9 .none,(kV P (dU j)).getD 10 .none,(kV P (dU j))[11]?,dU j==mP j))=
 [0,1].map λj=>(aa {((BH P).get? (dU j)).getD default with cls:=.type "code",data:=.fields (kV P (dU j))},.ref (mP j),.str (vS ((kV P (dU j)).getD 18 .none)).1 (vS ((kV P (dU j)).getD 18 .none)).2,.int (vI ((kV P (dU j)).getD 7 .none)).1 (vI ((kV P (dU j)).getD 7 .none)).2,
  .bool (vB ((kV P (dU j)).getD 9 .none)),.int (vI ((kV P (dU j)).getD 10 .none)).1 (vI ((kV P (dU j)).getD 10 .none)).2,aa (.ref (mP j)),af):=by kernel_rfl
theorem xy{pos:Pos}{a b:bE}{c v:ao}:∀{l:ag ao},acN l->t6 pos (l++[rawInt a,rawInt b,c])=aa v->t6 pos l=aa v\/v=c:=by
 intro l h
 fun_induction acN l with
 |case1=>
  intro e;simp only[gx,t6,rawInt] at e;split at e
  ·cases e;exact .inr rfl
  ·cases e
 |case2 a' t b' u x rest ih=>
  intro e;simp only[iN,t6] at e ⊢;split at e
  ·rename_i hh;rw[aA hh];exact .inl e
  ·rename_i hh;rw[aL hh];exact ih h e
 |case3 l h1 h2=>exact h.elim
set_option tactic.hygienic true in
theorem DC{j:aj}{mu:Mu}(h:tabAt j mu=ae):mu[j]? =aa (.tab j):=by
 unfold tabAt at h;split at h
 ·rename_i i e;exact(eq_of_beq h:i=j)▸e
 ·cases h
theorem LN{α:Type}{l:ag α}{i:aj}{a:α}(h:l[i]? =aa a):l.set i a=l:=mD λj=>by
 by_cases e:i=j
 ·subst e;exact(cC (ay.mp h).1).trans h.symm
 ·exact cn e
section
variable{j:aj}{A:bW}{k:K}{au:Loc}{σ:W}{M:lS}{E:ao->aG->Prop}{b:bV}{sc:fQ}{pl:Pos}{cl:ag (bQ×aN)}
theorem LP{Q:ao->aG->Prop}{env:Env}{name q:bQ}{ps:Arguments}{body:FuncBody}{line:aj}(S:Ok σ)(hj:tabAt j σ.mu=ae)(hc:env.code=.ref (dU j))
 (hq:∀c s',Ok (σ.to s')->Le σ (σ.to s')->(∃o vs q t,s'.heap.get? c=aa o/\o.data=.fields vs/\vs[1]? =aa (.str q t))->Q (.ref c) s'):aX M A (functionCode env pl line name q ps sc body) Q E σ.s:=by
 have mj:(if j=0 then 0 else 1)∈[0,1]:=by split<;>simp
 have ea:dU (if j=0 then 0 else 1)=dU j/\mP (if j=0 then 0 else 1)=mP j:=by cases j<;>exact⟨rfl,rfl⟩
 have e:=map_eq (H3 w.params) mj;rw[ea.1,ea.2] at e;refine gf (bk e) λc1 e=>?_;refine gf (bk e) λc2 e=>?_;refine gf (bk e) λc3 e=>?_;refine gf (bk e) λc4 e=>?_;refine gf (bk e) λc5 e=>?_;refine gf (bk e) λc6 e=>?_;refine gf (bk e) λc7 c8=>?_;have hi:σ.mu[j]? =aa (.tab j):=DC hj;have hp:=bz (show j<σ.p.length from S.len▸(ay.mp hi).1)
 obtain⟨p1,ps,l1,ht,rows⟩:=S.rep j _ _ hi hp;generalize σ.p[j]'_=q0 at hp p1 l1;have hok:σ.h.IsCode (dU j) (mP j) ps:=⟨_,_,_,_,_,_,_,_,_,_,S.base _ _ c1,rfl,c2,c3,c4,c5,c6,p1▸l1,rfl,ht,aD.mp c8⟩;cases hf:t6 pl ps.toList with
 |some cv=>
  refine UR (rows pl cv hf) λc o vs q t z0 z=>?_;subst z0;exact wpAny_functionCode_hit hc hok hf (hq c σ.s S .refl ⟨o,vs,q,t,z.at_,z.data,z.nm⟩)
 |none=>
  refine wpAny_functionCodeX hc hok ⟨⟨_,_,S.base _ _ c1,rfl,rfl,c7⟩,p1▸l1⟩ hf λc' h' tk hx hge Oh amn ahi TM hP'=>?_;refine OZ ahi λcc oo vv tq r0 r1 r2 r3=>?_;cases r0;obtain⟨P',_,_,⟨⟨o5,v5,g1,g2,g3,g4⟩,_⟩⟩:=hP';cases r1.symm.trans g1;have hmu:σ.mu.set j (.tab j)=σ.mu:=LN hi;have nx:¬X σ c':=λm=>m.elim (λm=>(S.at m).elim λo e=>aQ (fW e) (eO.mpr hge)) λm=>(S.gE c' m).2.2.elim λo e=>aQ (fW e) (eO.mpr hge);have U:=S.upd (o':=.tab j) (s:={σ.s with heap:=h',toks:=tk}) hi hp (λZ=>id) (λa o z m=>hx a o (λq=>m (q.trans p1.symm)) z) (λa m=>⟨_,(Eq.trans (show a=q0.1 from m) p1)▸TM.2⟩) rfl rfl λheld=>⟨p1,_,p1▸TM.2,qG▸TriplesOk_snoc _ _ _ _ ht,λpos v hv=>by
   rw[qG] at hv;exact(xy ht hv).elim (λz=>(rows pos v z).move cK held) λz=>⟨c',oo,vv,_,tq,z,⟨λm=>nx (by rw[hmu] at m;exact m),r1,g2,r2,r3⟩⟩⟩
  rw[hmu] at U;exact hq c' _ U.1 U.2 ⟨oo,vv,_,tq,r1,r2,r3⟩
structure zz(h:dK)(fo:aN)(b:bV)(sc:fQ)(cl:ag (bQ×aN))(fd:gP):Prop where
 (at_:h.get? fo=aa {cls:=.type "function",data:=.func fd}) (bd:fd.body=.expr b) (sc_:fd.scope=sc) (par:fd.params=⟨[],[],ac,[],[],ac,[]⟩) (glob:fd.globals=3) (HF:fd.closure=cl) (blt:fd.builtins=0) (dfl:fd.defaults=.none) (kdf:fd.kwdefaults=.none)
 (code:∃c o vs q t,fd.code=.ref c/\h.get? c=aa o/\o.data=.fields vs/\vs[1]? =aa (.str q t))
theorem LQ(S:Ok σ):σ.h.Ns 3 (mG w.params):=(ns3 w.params).keeps S.base
theorem LR{Q:ao->aG->Prop}(c:Here k au σ)(S:Ok σ)(hj:tabAt j σ.mu=ae)(hfn:k.cx.fn=aa j)(uI:closureFor sc k.env=pure cl)
 (q:∀fo fd s',Ok (σ.to s')->Le σ (σ.to s')->zz s'.heap fo b sc cl fd->Q (.ref fo) s'):aX M A (eval (.Lambda ⟨[],[],ac,[],[],ac,[]⟩ b sc pl) k.env) Q E σ.s:=by
 refine ud ((bk (LM w.params)).imp_right λe=>(bk e).imp_right λe=>bk e) λb1 b2 b3 Z=>?_;show aX _ _ (do let dv <-evalAll [];let kdv <-cN dv (evalAllOpt []);makeFunction "<lambda>" (k.env.qual++"<lambda>") ⟨[],[],ac,[],[],ac,[]⟩ (.expr b) sc k.env dv kdv [] pl pl.line) _ _ _
 refine ak (aB (ak (bu (aB ?_))));rw[makeFunction_eq];refine ak (aB (ak (aB (ak (aB ?_)))));unfold makeTail;rw[uI];refine ak (aB ?_);have tail:∀(ct:ao)(di:aG),Grows σ.h di.heap->di.gens=σ.s.gens->di.os=σ.s.os->
  aX M A (functionCode k.env pl pl.line "<lambda>" (k.env.qual++"<lambda>") ⟨[],[],ac,[],[],ac,[]⟩ sc (.expr b) >>=λcode=>builtinsFor k.env.globals k.env.builtins >>=λbl=>nsGet k.env.globals "__name__" >>=λpm=>(pure jd:Sem ao) >>=λdoc=>
   newObj (.type "function") (.func {name:="<lambda>",qualname:=k.env.qual++"<lambda>",params:=⟨[],[],ac,[],[],ac,[]⟩,body:=.expr b,scope:=sc,globals:=k.env.globals,closure:=cl,closureTuple:=ct,code:=code,builtins:=bl,defaults:=.none,kwdefaults:=.none,annotations:=ac,pyModule:=pm.getD .none,doc:=doc})) Q E di:=λct di kp g o=>by
  have j1:=S.grow (s:=di) kp g;refine ak (LP (σ:=σ.to di) j1 hj (c.st.U8 j hfn) λcc s₂ kO j2 Ld=>?_);rw[c.st.glob];refine ak (wpAny_builtinsFor (LQ kO) b1 (aD.mp b3) (kO.base _ _ b2) rfl rfl rfl (ak (nO (LQ kO) (ak (aB (j9 ?_ (by size_fits)))))))
  exact q _ _ _ (kO.grow (du _) rfl) ((ib.grow kp o).trans (j2.trans (.grow (du _) rfl))) ⟨ck _ rfl,rfl,rfl,rfl,rfl,rfl,rfl,rfl,rfl,cc,Ld.imp λo h=>h.imp λvs h=>h.imp λq h=>h.imp λt h=>⟨rfl,aI _ h.1,h.2⟩⟩
 cases cl with
 |nil=>exact ak (aB (tail .none σ.s (λZ Z z=>z) rfl rfl))
 |cons p r=>exact ak (wpAny_newTextTuple (tail _ _ (du _) rfl rfl))
end
noncomputable def nQ:Str:="ask"
noncomputable def nF:Str:="SyntaxFault"
noncomputable def DD:ExceptHandler:=.ExceptHandler (aa (.Name nF ⟨784,11,784,22⟩)) ac [.Return (aa (.Constant (.bool ae) 0 ⟨785,15,785,19⟩)) ⟨785,8,785,19⟩] ⟨784,4,785,19⟩
noncomputable def DE:Expr:=.Call (.Name nQ ⟨783,8,783,11⟩) [] [] ⟨783,8,783,13⟩
noncomputable def QP:Stmt:=.Return (aa (.Constant (.bool af) 0 ⟨786,11,786,16⟩)) ⟨786,4,786,16⟩
theorem LS(P:aS):ww (fj P 103)=[.Try [.Expr DE ⟨783,8,783,13⟩] [DD] [] [] ⟨782,4,785,19⟩,QP]:=by kernel_rfl
theorem sR(P:aS):((fj P 103).scope.names.lookup nQ,(fj P 103).scope.names.lookup nF,(fj P 103).scope.names.all (λp=>p.2 != .cell),mG P nF)=(aa .local,aa .globalImplicit,ae,aa (.ref 189)):=by kernel_rfl
theorem LU(P:aS)(S:N4)(a:ao):peek (KD P (fj P 103)) S (pY (fj P 103) ⟨[a],[]⟩)=aa [(nQ,a)]:=by kernel_rfl
theorem LW(P:aS):jT P (xp [95,108,97,119,95,105,115,95,114,101,102,117,115,101,100])=aa (.ref 856):=by kernel_rfl
theorem LX{fd:gP}(h1:fd.params=⟨[],[],ac,[],[],ac,[]⟩)(h2:fd.defaults=.none)(h3:fd.kwdefaults=.none):pY fd ⟨[],[]⟩=pure []:=by
 obtain⟨a,b,params,c,d,e,f,dflt,ajB,_⟩:=fd;cases h1;cases h2;cases h3;rfl
structure LY(cx:Cx)(sc:fQ):Prop where
 (s:Qv cx sc) (co:sc.isCoroutine=af) (gen:sc.isGenerator=af)
theorem H4{cx:Cx}{sc:fQ}(h:JE cx sc=ae):LY cx sc:=
 have h1:=aF.mp h;have h2:=aF.mp h1.1;have h3:=aF.mp h2.1;have h4:=λp m=>(aF.mp (aE.mp h1.2 p m)).imp_left aF.mp
 ⟨⟨eq_of_beq h3.1,λp m=>wi (h4 p m).1.1,λp m=>Lj (h4 p m).2⟩,Fs h3.2,Fs h2.2⟩
section
variable{d:aj}{A:bW}{σ τ:W}{E:ao->aG->Prop}{b:bV}{sc:fQ}{cl:ag (bQ×aN)}{l:ag Env}{env:Env}{ea:aN}{s:aG}{cx:Cx}{f:bQ}
theorem LZ{R:X7->aG->Prop}{fo:aN}{fd:gP}(LK:A.depth<recursionLimit)(L:zz s.heap fo b sc cl fd)(f:LY cx sc)
 (h:∀q:bQ,aX (bP prog w) A.in1 (newFunctionEnv sc 3 cl [] (q++".<locals>.") (aa fo) fd.code ac 0) (λenv s₂=>s₂.heap.NoLimit/\mA (bP prog w) A (.expr b env) R s₂) (λe s'=>R (.error e) s') s):
 mA (bP prog w) A (.call (.ref fo) ⟨[],[]⟩) R s:=by
 refine Ck ?_;show aX _ A.in1 (callAny (.ref fo) ⟨[],[]⟩) _ _ s;simp only[callAny];refine ak (wpAny_load L.at_ ?_);refine aeN L.code λc oc vs q tq hc hoc hdc hq=>?_;simp only[callFunction,L.sc_,f.co,f.gen,L.bd,hc];have h:=h q;rw[hc] at h;refine ak (m:=field (.ref c) 1) (ll hoc hdc hq (ak (aB ?_)));rw[LX L.par L.dfl L.kdf,L.glob,L.HF,L.blt];exact ak (aB (ak (e9 h (λenv s₂ pN=>ak (wpAny_enterFrame pN.1 LK (aB (And.intro rfl pN.2)))) λZ Z h'=>h')))
theorem DF{Q:N3->aG->Prop}{x:ao}(c:Fr d A l env σ)(hk:env.scope.kind=.function)(hg:env.kindOf nF=aa .globalImplicit)(e3:env.globals=3)(S:Ok τ)(P:Le σ τ)(H:gW σ.s ea x τ.h)(q:∀s',Ok (τ.to s')->Le σ (τ.to s')->Q (.ret (.bool ae)) s'):
 aX (bP prog w) A (pX (.ref ea) ac) (λZ s'=>aX (bP prog w) A (SH (.ref ea) env [DD]) Q E s') E τ.s:=
 K9 (f:=ac) (E:=λe s'=>aX (bP prog w) A (SH e env [DD]) Q E s') c S P H λh' ea' z S' P' H'=>by
  cases z;refine wpAny_handleBy_cons (codeAny_handlers_test ?_) (by intro q;cases q)
  refine qH ?_ (by decide)
  rw[sD hk hg];unfold Eu;rw[e3];refine ak (nO (LQ S') ?_);rw[(bk (bk (bk (sR w.params)).2).2).2];refine xn (id H') λoe vs T oT ts X t f=>?_;refine aB (wpAny_excMatches_sub_self (zx.hC S'.base) X.at_ X.cls (by decide+kernel) ?_)
  refine codeAny_handlers_suite (rA H' (c.fd.step c.sub P') λIZ K Z=>(zm (τ:=τ.to {τ.s with heap:=h'}) c.ok S' P' c.sub (c.fd.step c.sub P') K).elim λJJ xr=>?_)
  show aX _ _ (dC (.Return (aa (.Constant (.bool ae) 0 ⟨785,15,785,19⟩)) ⟨785,8,785,19⟩) env >>= _) _ _ _;rw[qO];refine ak (ak (eN ?_));show aX _ _ (eval (.Constant (.bool ae) 0 ⟨785,15,785,19⟩) env >>=λv=>pure (yQ v)) _ _ _;exact ak (aB (aB (aB (q _ JJ xr))))
end
section
variable{X':E}{C:Calls}{d j:aj}{A:bW}{k:K}{au:Loc}{σ τ:W}{E:ao->aG->Prop}{b:bV}{sc:fQ}{pl pos p:Pos}{cl:ag (bQ×aN)}{l:ag Env}{env:Env}{ea fo L:aN}{s:aG}{N:ag aN}{cx:Cx}{f q:bQ}{code:ao}
noncomputable abbrev BJ(cx:Cx)(sc:fQ):Cx:={names:=sc.names,sl:=cx.sl.filter (λp=>sc.names.lookup p.1==aa .free),n:=cx.n}
theorem L0{m:bQ->ar ao}(f:Qv k.cx sc)(c:Here k au σ)(uI:VP sc k.env cl)(z:p7 σ (σ.to s) N)(kp:Grows σ.h s.heap)(om:Ctx d A (newEnv sc L 3 cl q (aa fo) code ac 0::l))(hL:L∈N)(ns:s.heap.Ns L m)
 (sub:∀a∈qv (newEnv sc L 3 cl q (aa fo) code ac 0::l),a∈N++σ.fs) (AY:Fg (newEnv sc L 3 cl q (aa fo) code ac 0::l) s.heap):
 Here ⟨A,newEnv sc L 3 cl q (aa fo) code ac 0::l,newEnv sc L 3 cl q (aa fo) code ac 0,BJ k.cx sc,d⟩ au ((σ.to s).fr N):=
 have zi:Inh k sc cl (BJ k.cx sc).sl:=⟨uI,f,λy i h=>(p8 (p:=λz=>sc.names.lookup z==aa .free) h).imp_right eq_of_beq⟩;have EW:∀y,sc.names.lookup y=aa .free->((newEnv sc L 3 cl q (aa fo) code ac 0).kindOf y=aa .cell\/(newEnv sc L 3 cl q (aa fo) code ac 0).kindOf y=aa .free)/\∃c,cl.lookup y=aa c:=λy h=>⟨.inr h,uI.all y h⟩;have mv:∀pv v,gL σ pv v->gL ((σ.to s).fr N) pv v:=λZ Z r=>r.eQ cK z.held λi q Z=>id
 {st:=
  {
   om:=om
   kind:=f.kind
   glob:=rfl
   blt:=rfl
   top:=⟨_,l,rfl,rfl⟩
   G6:=λy z c' h1 h2=>c.st.G6 y z c' (uI.old y c' h1) (uI.old z c' h2)
   AX:=λy y' i h1 h2=>c.st.AX y y' i (zi.sl _ _ h1).1 (zi.sl _ _ h2).1
   lt:=λy i h=>c.st.lt _ _ (zi.sl _ _ h).1
   gl:=λy h=>h
   sl:=λy i h=>.inr (EW y (zi.sl _ _ h).2)
   nm:=λy i h=>c.st.nm y i (zi.sl _ _ h).1
   EW:=λy h=>(VQ (o:=sc.names.lookup y) h).elim (λe=>aQ rfl (f.zq _ (lookup_mem e))) (EW y)
   U8:=λZ h=>lX h}
  ns:=⟨m,ns⟩
  cell:=λy c' h=>(c.cell y c' (uI.old y c' h)).elim λi q=>⟨i.imp λv=>l4 λo ho=>⟨o,kp _ _ ho,rfl⟩,cU _ q.1,λe=>i.elim λv i=>i.elim λo i=>z.old i.1 (show c'∈N from(show c'=L from e)▸hL)⟩
  sub:=sub
  JK:=bY _ hL
  AY:=AY
  hi:=c.hi
  val:=λy i pv h1 h2=>zi.val c (λy h=>(EW y h).1) rfl kp mv rfl h1 h2}
theorem Wg{C:Calls}{mu:Mu}:Mine.ni C (.refused j X') au mu=((Mine.ev C (.refused j X') au mu).bind λx mu=>bS (truth x mu) mu):=by
 have e1:Mine.ni C (.refused j X') au mu=if tabAt j mu then(match Mine.ev C X' au mu with |.ok _ mu=>.ok af mu |.exc mu=>.ok ae mu |.aK=>.aK) else .aK:=rfl
 have e2:Mine.ev C (.refused j X') au mu=if tabAt j mu then(match Mine.ev C X' au mu with |.ok _ mu=>.ok (.t (.bool af)) mu |.exc mu=>.ok (.t (.bool ae)) mu |.aK=>.aK) else .aK:=rfl
 rw[e1,e2];split
 ·cases Mine.ev C X' au mu<;>rfl
 ·rfl
theorem QQ{gM:Env}{fd:gP}{s₂:aG}{Q:N3->aG->Prop}(c:Here k au σ)(S:Ok σ)(hd:k.d=d)(cd:Ctx (d+2) k.A k.l)(LF:LY k.cx sc)(HF:VP sc k.env cl)(LO:zz σ.h fo b sc cl fd)(hb:fb C d (BJ k.cx sc) b X')
 (a2:gM.scope.kind=.function) (a3:∀y,gM.kindOf y=(fj w.params 103).scope.names.lookup y) (a4:gM.globals=3) (a6:gM.frame=aa gM.locals) (kp:Grows σ.h s₂.heap) (g:s₂.gens=σ.s.gens) (os:s₂.os=σ.s.os) (fr1:σ.h.get? gM.locals=ac)
 (Fv:s₂.heap.Ns gM.locals λx=>[(nQ,dz fo)].reverse.lookup x) (ns:Mine.ev C X' au σ.mu≠.aK)
 (ko:∀bv τ,(match Mine.ev C X' au σ.mu with |.ok _ mu=>Res.ok (PV.t (.bool af)) mu |.exc mu=>.ok (.t (.bool ae)) mu |.aK=>.aK)=.ok (.t (.bool bv)) τ.mu->Ok τ->Le σ τ->Q (.ret (.bool bv)) τ.s):
 aX (bP prog w) (k.A.deeper gM) (lV [.Try [.Expr DE ⟨783,8,783,13⟩] [DD] [] [] ⟨782,4,785,19⟩,QP] gM) Q E s₂:=by
 refine gf (bk (sR w.params)) λr1 e=>?_;refine gf (bk e) λr2 e=>?_;show aX _ _ (dC (.Try [.Expr DE ⟨783,8,783,13⟩] [DD] [] [] ⟨782,4,785,19⟩) gM >>= _) _ _ _;refine ak (ac3 ?_);show aX _ _ (dC (.Expr DE ⟨783,8,783,13⟩) gM >>= _) _ _ _;rw[show dC (.Expr DE ⟨783,8,783,13⟩) gM=(do dy ⟨783,8,783,13⟩;let v <-eval DE gM;ac2 DE ⟨783,8,783,13⟩ v) by
  rw[IP,show nV gM=af by unfold nV;rw[a2];rfl];rfl]
 refine ak (ak (eN (ak (Call_Name0 (oE a2 ((a3 nQ).trans r1) Fv (v:=.ref fo) (by kernel_rfl) (by decide) (li (o:={cls:=.type "function",data:=.func fd}) (fd:=fd) (gg rfl (aB ⟨⟨kp _ _ LO.at_,rfl⟩,?_⟩))))))))
 have aaR:zz s₂.heap fo b sc cl fd:={LO with at_:=kp _ _ LO.at_,code:=LO.code.imp λc h=>h.imp λo h=>h.imp λvs h=>h.imp λq h=>h.imp λt h=>⟨h.1,kp _ _ h.2.1,h.2.2⟩}
 refine kW (LZ (by show k.A.depth+1<recursionLimit;have:=cd.depth;omega) aaR LF λqn=>?_)
 refine lq LF.s.zq (λy hy=>by cases hy) (λsO Fl Ln=>?_) LF.s.kind
 have L1:Grows s₂.heap sO:=λb o z=>(Ln.2 b (ne_size z)).trans (aI _ z);refine⟨((mV w.params).keeps S.base).keeps λa o e=>L1 a o (kp a o e),kla_codeExpr ?_⟩;have fr2:σ.h.get? s₂.heap.objs.size=none:=is_none λo e=>lX (d8.symm.trans (kp _ _ e));have dL:∀{m:bQ->ar ao}{a},s₂.heap.Ns a m->∃o,sO.get? a=aa o/\tM o:=λh=>h.elim λo q=>q.elim λes q=>q.elim λep q=>⟨o,L1 _ _ q.1,es,ep,q.2.1,q.2.2.1⟩;have d1:=dL Fv;have d2:∃o,sO.get? s₂.heap.objs.size=aa o/\tM o:=Fl.elim λo q=>q.elim λes q=>q.elim λep q=>⟨o,q.1,es,ep,q.2.1,q.2.2.1⟩;have kpp:Grows σ.h sO:=λa o e=>L1 a o (kp a o e);have fG:p7 σ (σ.to {s₂ with heap:=sO,toks:=s₂.toks+0}) [s₂.heap.objs.size,gM.locals]:=.grow S kpp os (λa m=>(aJ.mp m).elim (λe=>e▸fr2) λm=>aC.mp m▸fr1) λa m=>(aJ.mp m).elim (λe=>e▸d2.imp λZ q=>q.1) λm=>aC.mp m▸d1.imp λZ q=>q.1
 have wm:=S.pO kpp fG g;have cx1:Ctx (d+1) (k.A.deeper gM) (gM::k.l):=cd.V7 a2 ⟨_,a6⟩;have m1:∀a∈qv (gM::k.l),a=gM.locals\/a∈qv k.l:=λa m=>aJ.mp (show a∈gM.locals::qv k.l by unfold qv at m;rw[IQ,a6] at m;exact m)
 have aaS:∀a∈qv (gM::k.l),a∈[s₂.heap.objs.size,gM.locals]++σ.fs:=λa m=>(m1 a m).elim (λe=>e▸.tail _ (.head _)) λm=>.tail _ (.tail _ (c.sub a m));have aaT:Fg (gM::k.l) sO:=λa m=>(m1 a m).elim (λe=>e▸d1) λm=>(c.AY a m).imp λo q=>⟨kpp _ _ q.1,q.2⟩;have HN:=L0 (A:=(k.A.deeper gM).deeper _) (l:=gM::k.l) (L:=s₂.heap.objs.size) (q:=qn++".<locals>.") (fo:=fo) (code:=fd.code) LF.s c HF fG kpp (cx1.V7 LF.s.kind ⟨_,rfl⟩) (.head _) Fl
  (λa m=>(aJ.mp (show a∈s₂.heap.objs.size::qv (gM::k.l) from m)).elim (λe=>e▸.head _) (aaS a)) λa m=>(aJ.mp (show a∈s₂.heap.objs.size::qv (gM::k.l) from m)).elim (λe=>e▸d2) (aaT a)
 have nN:∀a,none_ a->none_ a\/a∈[s₂.heap.objs.size,gM.locals]:=λZ=>jV;refine hb.v ⟨rfl,rfl⟩ HN _ _ (λpv v τ e Wa P r=>?_) (λe τ h Wa P F=>?_) ns wm
 ·refine Co (aB (aB ?_))
  show aX _ _ (dC QP gM >>= _) _ _ _;unfold QP;rw[qO];refine ak (ak (eN ?_));show aX _ _ (eval (.Constant (.bool af) 0 ⟨786,11,786,16⟩) gM >>=λv=>pure (yQ v)) _ _ _;exact ak (aB (aB (aB (ko af (τ.out τ.s σ.fs) (by rw[show Mine.ev C X' au σ.mu=_ from e]) (fG.ok P S Wa (λZ Z Z=>id) rfl) (fG.xv P nN (λZ Z Z=>id) rfl)))))
 ·refine TB (E:=λe s'=>aX (bP prog w) (k.A.deeper gM) (pW e gM) (λZ s₂=>aX _ _ (pX e ac) (λZ s'=>aX _ _ (SH e gM [DD]) _ _ s') _ s₂) _ s') (HN.fr' wm) Wa P F λIZ ea z kO j2 H=>?_
  subst z;have f1:Fr (d+1) (k.A.deeper gM) (gM::k.l) gM ((σ.to {s₂ with heap:=sO,toks:=s₂.toks+0}).fr [s₂.heap.objs.size,gM.locals]):=⟨cx1,⟨_,_,rfl,rfl⟩,aaS,aaT,wm⟩
  refine K7 (E:=λe s'=>aX _ _ (pX e ac) (λZ s'=>aX _ _ (SH e gM [DD]) _ _ s') _ s') f1 kO j2 ⟨ea,rfl,H.raised (v:=ac)⟩ λL h5 ea' z' ahj ahk ahl=>?_;cases z';exact DF (τ:=(τ.to {τ.s with heap:=IZ}).to {τ.s with heap:=h5}) f1 a2 ((a3 nF).trans r2) a4 ahj ahk ahl λs' S' P'=>aB (ko ae ((τ.to s').out s' σ.fs) (by rw[show Mine.ev C X' au σ.mu=_ from h]) (fG.ok P' S S' (λZ Z Z=>id) rfl) (fG.xv P' nN (λZ Z Z=>id) rfl))
theorem aaU(hg:glob cx f=ae)(hf:qt f [95,108,97,119,95,105,115,95,114,101,102,117,115,101,100]=ae)(lam:JE cx sc=ae)(hfn:cx.fn=aa j)(hb:fb C d (BJ cx sc) b X'):
 fb C d cx (.Call (.Name f p) [.Lambda ⟨[],[],ac,[],[],ac,[]⟩ b sc pl] [] pos) (.refused j X'):=
 gp (λ{k au σ} z c Q E ko ke ns S=>by
  have LF:=H4 lam;obtain rfl:=z.cx;refine bH (wg (sc:=sc) (env:=k.env) λp m hp=>(c.st.EW p.1 (LF.s.free p m hp)).2) λcl uI HF=>?_;refine gf (bk (sR w.params)) λr1 e=>?_;refine gf (bk e) λr2 e=>?_;have FF:=zw w.params (i:=103) (by decide)
  have hr:Mine.ev C (.refused j X') au σ.mu=if tabAt j σ.mu then(match Mine.ev C X' au σ.mu with |.ok _ mu=>.ok (.t (.bool af)) mu |.exc mu=>.ok (.t (.bool ae)) mu |.aK=>.aK) else .aK:=rfl
  by_cases hj:tabAt j σ.mu=ae
  ·rw[hr,aA hj] at ko ns
   clear ke hr;refine mH rfl (gF c.st S hg (mQ hf▸LW _) (li (o:=⟨.type "function",ac,.func (fj w.params 103),⟨[]⟩⟩) (fd:=fj w.params 103) (gg rfl ?_)));show aX _ _ (do let v <-eval (.Lambda ⟨[],[],ac,[],[],ac,[]⟩ b sc pl) k.env;let here <-(pure [v]:Sem (ag ao));return here++(<-cN here (pure []))) _ _ _
   refine ak (LR c S hj hfn uI λfo fd di j1 pL LO=>ak (aB (ak (bu (aB (aB ⟨⟨j1.base _ _ FF.at_,rfl⟩,?_⟩))))));have cd:Ctx (d+2) k.A k.l:=by have:=c.st.om;rw[z.d,show Yj k.cx=2 by unfold Yj;rw[hfn];rfl] at this;exact this
   refine kW (rZ (by have:=cd.depth;omega) (j1.base _ _ FF.at_) rfl FF.co FF.gen FF.bd (FF.code.keeps j1.base) ((show Looks (bP prog w) di.heap _ _ from qQ (Ft.keeps j1.base) (LU _ _ (.ref fo))).here ?_))
   refine lq (λx m=>wi (aE.mp (bk e).1 x m)) (λx m=>aC.mp m▸r1) (λpN Fv KS=>?_) FF.kind;have TN:Grows di.heap pN:=λb o z=>(KS.2 b (ne_size z)).trans (aI _ z);refine⟨((mV w.params).keeps j1.base).keeps TN,codeAny_func ?_⟩;generalize hE:newEnv (fj w.params 103).scope di.heap.objs.size (fj w.params 103).globals (fj w.params 103).closure ((fj w.params 103).qualname++".<locals>.") (aa 856) (fj w.params 103).code ac (fj w.params 103).builtins=gM;have a1:gM.locals=di.heap.objs.size:=by rw[<-hE];rfl
   rw[LS];exact QQ (σ:=σ.to di) (s₂:={di with heap:=pN,toks:=_}) (c.to pL) j1 z.d cd LF HF LO hb (by rw[<-hE];exact FF.kind) (λy=>by rw[<-hE];rfl) (by rw[<-hE];exact FF.glob) (by rw[<-hE];rfl) TN rfl rfl (a1▸d8) (a1▸Fv) (λh=>ns (by rw[h])) λbv τ e S P=>ko (.t (.bool bv)) (.bool bv) τ e S (pL.trans P) rfl
  ·rw[hr,aL hj] at ns;exact aQ rfl ns)
  (λZ=>rfl) (λZ Z=>.inl Wg) (λZ Z=>rfl) λZ Z=>pq λe=>by subst e;exact aQ hf (by decide)
end
noncomputable abbrev Yn:ag Nat:=[105,115,95,108,101,97,115,116]
def mf(C:Calls)(d:aj):Prop:=∀{pv pu v u A l σ},xt d A l σ->RV pv v σ->RV pu u σ->Gp (wq A (call (.ref (fv 92)) [v] [(xp Yn,u)])) none_ σ (C 92 [pv,pu] σ.mu) RV
section
variable{X Y:E}{C:Calls}{d:aj}{cx:Cx}{a e:bV}{x kw:bQ}{p pos kp:Pos}{ks:ag aj}
theorem L2(sK:mf C d)(hg:glob cx x=ae)(hf:lk p4 x=aa 92)(hk:qt kw Yn=ae)(ha:fb C d cx a Y)(he:fb C d cx e X):fb C d cx (.Call (.Name x p) [a] [⟨aa kw,e,kp⟩] pos) (.qo 92 [Y] ks X):=
 gp (λ{k au σ} z c=>by
  refine k8 (zd (i:=92) (by decide)) λo fd h1 h2 Z=>?_
  have hr:Mine.ev C (.qo 92 [Y] ks X) au σ.mu=(Mine.ev C Y au σ.mu).bind λv mu=>(Mine.ev C X au mu).bind λu mu=>C 92 [v,u] mu:=by
   show((Mine.ev C Y au σ.mu).bind λv mu=>(Res.ok [] mu).bind λvs mu=>.ok (v::vs) mu).bind _=_;cases Mine.ev C Y au σ.mu<;>rfl
  rw[hr];refine .of λS=>(ha.v z c).l0 (T₂:=λv Q E s=>aX (bP prog w) k.A (eval e k.env) (λu di=>(di.heap.get? (fv 92)=aa o/\o.data=.func fd)/\aX (bP prog w) k.A (call (.ref (fv 92)) [v] [(xp Yn,u)]) Q E di) E s) (λQ E h=>?_) λpv v τ P r=>
   (he.v z (c.to P)).l0 (T₂:=λu Q E di=>(di.heap.get? (fv 92)=aa o/\o.data=.func fd)/\aX (bP prog w) k.A (call (.ref (fv 92)) [v] [(xp Yn,u)]) Q E di) (λQ E h=>h) λpu u υ P' r'=>.of λS'=>(sK (z.d▸(c.to (P.trans P')).room) (r.to P') r').sim λQ E q=>⟨⟨S'.base _ _ h1,h2⟩,q⟩
  refine wpAny_Call_ofName (gF c.st S (z.cx▸hg) (J6 hf) (li (o:=o) (fd:=fd) ?_));rw[ha.star,mQ hk];refine evalArgs_kw rfl (ak (e9 h (λv di gZ=>ak (aB (ak (bu (aB (aB ?_)))))) λZ Z x=>x));show aX _ _ (do let u <-(do let v <-eval e k.env;dy pos;pure v);let r <-cN [u] (pure []);pure (u::r)) _ _ _
  exact ak (ak (e9 gZ (λu s₂ pN=>ak (eN (aB (ak (bu (aB (aB pN))))))) λZ Z x=>x)))
  (λZ=>rfl) (λZ Z=>.inr rfl) (λZ Z=>rfl) λZ Z=>rfl
end
abbrev jq{α:Type}(P:α->Prop):=ar {x:α // P x}
section
variable{α β γ:Type}{P:α->Prop}{Q:β->Prop}
noncomputable def jq.to(a:jq P)(f:α->β)(h:∀x,P x->Q (f x)):jq Q:=a.map λx=>⟨f x.1,h x.1 x.2⟩
noncomputable def jq.and(a:jq P)(k:∀x,P x->ar γ):ar γ:=a.bind λx=>k x.1 x.2
noncomputable def TO(b:aW)(k:b=ae->ar α)(n:ar α):ar α:=match b,k with
 |true,k=>k rfl
 |false,_=>n
noncomputable def QR(b:aW)(k:b=ae->ar α):ar α:=TO b k ac
noncomputable def I1(b:aW)(k:b=af->ar α):ar α:=match b,k with
 |true,_=>ac
 |false,k=>k rfl
noncomputable def elO(o:ar γ)(k:∀a,o=aa a->ar β)(n:ar β):ar β:=match o,k with
 |some a,k=>k a rfl
 |none,_=>n
noncomputable def AB(o:ar γ)(k:∀a,o=aa a->ar β):ar β:=elO o k ac
end
theorem L3{a b:aW}(h:(a&&b)=ae):a=true:=(aF.mp h).1
theorem L4{a b:aW}(h:(a&&b)=ae):b=true:=(aF.mp h).2
theorem H5{op:So}{o:O5}(h:SV op=aa o):mop o=op:=by cases op<;>cases h<;>rfl
theorem qA{op:pS}{o:Js}(h:ER op=aa o):CM o=op:=by cases op<;>cases h<;>rfl
section
variable{C:Calls}{d:aj}{cx:Cx}(sC:pM C d)(sK:mf C (d+1))(f:∀cx e,jq (fb C (d+1) cx e)){x:bQ}{p pos q:Pos}
noncomputable def Ol(cx:Cx):∀es,jq (sE C (d+1) cx es)
 |[]=>aa ⟨[],vR⟩
 |e::r=>(f cx e).and λX hX=>(Ol cx r).to (X::·) λZ hR=>pn hX hR
noncomputable def aaV(cx:Cx)(op:Em):∀es,jq (Ka C (d+1) cx op es)
 |[]=>ac
 |[a]=>(f cx a).to id λZ=>Kb
 |a::b::r=>(f cx a).and λX hX=>(aaV cx op (b::r)).to (bOp op X) λZ hR=>Hf hX hR
noncomputable def trT(cx:Cx):∀es,jq (sN C (d+1) cx es)
 |[]=>aa ⟨[],Lk⟩
 |e::r=>(f cx e).and λX hX=>(trT cx r).to (X::·) λZ hR=>HH hX hR
noncomputable def aaX:jq (fb C (d+1) cx (.Name x p)):=elO (cx.sl.lookup x) (λi h=>aa ⟨.au i,Z1 h⟩) (QR (glob cx x) λhg=>AB (lk AV x) λt h=>aa ⟨.c t,J8 hg h⟩)
noncomputable def aaY(a:bV):∀op,jq (fb C (d+1) cx (.UnaryOp op a p))
 |.Not=>(f cx a).to .not λZ=>Z4
 |.USub=>(f cx a).to .neg λZ=>Z3
 |_=>ac
noncomputable def Wi(a b:bV)(op:pS):jq (fb C (d+1) cx (.Compare a [op] [b] p)):=AB (ER op) λo ho=>I1 (gh op b) λhm=>(f cx a).and λA hA=>(f cx b).to (.cmp o A) λZ hB=>Z7 (qA ho) hm hA hB
noncomputable def Wj(a b e:bV)(op uD:pS):jq (fb C (d+1) cx (.Compare a [op,uD] [b,e] p)):=AB (ER op) λo ho=>AB (ER uD) λo' E6=>I1 (gh op b) λhm=>I1 (gh uD e) λhm'=>
 (f cx a).and λA hA=>(f cx b).and λB hB=>(f cx e).to (.si o o' A B) λZ hE=>Vq (qA ho) (qA E6) hm hm' hA hB hE
noncomputable def Wk(a:bV):∀ops bs,jq (fb C (d+1) cx (.Compare a ops bs p))
 |[op],[b]=>Wi f a b op
 |[op,uD],[b,e]=>Wj f a b e op uD
 |_,_=>ac
noncomputable def aa0(cx:Cx):∀e,jq (Ke C (d+1) cx e)
 |none=>aa ⟨ac,Hi⟩
 |some e=>(f cx e).to aa λZ=>Hj
noncomputable def aa1(a:bV)(lo hi:ar bV):∀st,jq (fb C (d+1) cx (.Subscript a (.Slice lo hi st q) p))
 |none=>(f cx a).and λA hA=>(aa0 f cx lo).and λL hL=>(aa0 f cx hi).to (.slice A L) λZ hH=>PS hA hL hH
 |some _=>ac
noncomputable def Wl(a:bV):∀i,jq (fb C (d+1) cx (.Subscript a i p))
 |.Slice lo hi st _=>aa1 f a lo hi st
 |i=>I1 (ot i) λhs=>(f cx a).and λA hA=>(f cx i).to (.sub A) λZ hI=>Z8 hs hA hI
noncomputable def QS:∀ks vs,jq (fb C (d+1) cx (.Dict ks vs p))
 |[],[]=>aa ⟨.newDict [],gp A9 (λZ=>rfl) (λZ Z=>.inr rfl) (λZ Z=>rfl) λZ Z=>rfl⟩
 |[aa a],[b]=>(f cx a).and λA hA=>(f cx b).to (λB=>.newDict [(A,B)]) λZ hB=>gp (Ba hA hB) (λZ=>rfl) (λZ Z=>.inr rfl) (λZ Z=>rfl) λZ Z=>rfl
 |_,_=>ac
noncomputable def Wm(x:bQ)(hx:qt x [114,101,118,101,114,115,101,100]=ae)(hg:glob cx x=ae):∀as,jq (qy C (d+1) cx (.Call (.Name x p) as [] pos))
 |[a]=>(f cx a).to .rev λZ=>aau hx hg
 |_=>ac
noncomputable def Wn(as:ag bV):∀g ks,jq (qy C (d+1) cx (.Call g as ks p))
 |.Name x _,[]=>
  TO (qt x [114,97,110,103,101]&&glob cx x) (λh=>(Ol f cx as).to .range λZ=>Qu (L3 h) (L4 h))
   (TO (qt x [114,101,118,101,114,115,101,100]&&glob cx x) (λh=>Wm f x (L3 h) (L4 h) as) ((f cx _).to .val λZ=>Lf))
 |_,_=>(f cx _).to .val λZ=>Lf
noncomputable def trI:∀e,jq (qy C (d+1) cx e)
 |.Call g as ks _=>Wn f as g ks
 |.Name x _=>AB (cx.sl.lookup x) λi h=>aa ⟨.name i,VN h⟩
 |e=>(f cx e).to .val λZ=>Lf
structure aa3(cx:Cx)(sc:fQ)(x:bQ)(it:bV)(ia:bE):Prop where
 (ok:lK cx sc x=ae) (ns:kP it=af) (ia:ia=0)
noncomputable def QT{γ:Type}(sc:fQ)(it:bV)(ia:bE)(x:bQ)(k:aa3 cx sc x it ia->ar γ):ar γ:=QR (lK cx sc x) λh1=>I1 (kP it) λh2=>QR (decide (ia=0)) λh3=>k ⟨h1,h2,bO h3⟩
noncomputable def aa4(elt:bV)(sc:fQ)(it:bV)(ifs:ag bV)(ia:bE):∀t,jq (fb C (d+1) cx (.ListComp elt [⟨t,it,ifs,ia⟩] sc p))
 |.Name x _=>QT sc it ia x λg=>(trI f it).and λI hI=>(trT f (jc cx sc x) ifs).and λT hT=>(f (jc cx sc x) elt).to (λX=>.comp X cx.n I T) λZ hX=>g.ia▸VY g.ok g.ns hI hX hT
 |_=>ac
noncomputable def ahm(elt:bV)(sc:fQ):∀gs,jq (fb C (d+1) cx (.ListComp elt gs sc p))
 |[⟨t,it,ifs,ia⟩]=>aa4 f elt sc it ifs ia t
 |_=>ac
noncomputable def aa5(a b:bV)(sc:fQ)(it:bV)(ifs:ag bV)(ia:bE):∀t,jq (fb C (d+1) cx (.DictComp a b [⟨t,it,ifs,ia⟩] sc p))
 |.Name x _=>QT sc it ia x λg=>(trI f it).and λI hI=>(trT f (jc cx sc x) ifs).and λT hT=>(f (jc cx sc x) a).and λA hA=>(f (jc cx sc x) b).to (λB=>.qS A B cx.n I T) λZ hB=>g.ia▸QE g.ok g.ns hI hA hB hT
 |_=>ac
noncomputable def ahn(a b:bV)(sc:fQ):∀gs,jq (fb C (d+1) cx (.DictComp a b gs sc p))
 |[⟨t,it,ifs,ia⟩]=>aa5 f a b sc it ifs ia t
 |_=>ac
noncomputable def aho(o:bV)(n:bQ)(as:ag bV):∀ks,jq (fb C (d+1) cx (.Call (.Attribute o n q) as ks p))
 |[]=>QR (q.endLine==p.line&&decide (as.length<20)) λh=>AB (lk p5 n) λn hn=>(f cx o).and λO hO=>(Ol f cx as).to (.cR O n) λZ hA=>VF sC.more (L3 h) (bO (L4 h)) hn hO hA
 |_=>ac
noncomputable def ahp(x:bQ)(hg:glob cx x=ae)(as:ag bV):jq (fb C (d+1) cx (.Call (.Name x q) as [] p)):=
 elO (lk p4 x) (λi h=>(Ol f cx as).to (.call i) λZ=>s_call sC.more hg h) (elO (lk (tL.take 6) x) (λi h=>(Ol f cx as).to (.new i) λZ=>aan sC hg h) (AB (lk AU x) λb h=>(Ol f cx as).to (.bi b) λZ=>agR hg h))
noncomputable def ahq(x:bQ)(hg:glob cx x=ae)(hx:qt x [95,108,97,119,95,105,115,95,114,101,102,117,115,101,100]=ae):∀as,jq (fb C (d+1) cx (.Call (.Name x q) as [] p))
 |[.Lambda ⟨[],[],ac,[],[],ac,[]⟩ b sc _]=>QR (JE cx sc) λhl=>AB cx.fn λj hj=>(f (BJ cx sc) b).to (.refused j) λZ=>aaU hg hx hl hj
 |_=>ac
noncomputable def ahr(x:bQ)(hg:glob cx x=ae)(hx:qt x [105,115,105,110,115,116,97,110,99,101]=ae):∀as,jq (fb C (d+1) cx (.Call (.Name x q) as [] p))
 |[a,.Name c _]=>QR (glob cx c) λhc=>AB (lk AS c) λkk hk=>(f cx a).to (λA=>.hZ A kk) λZ=>KQ hg hx hc hk
 |_=>ac
noncomputable def aa6(x:bQ)(hg:glob cx x=ae):∀as k,jq (fb C (d+1) cx (.Call (.Name x q) as [k] p))
 |[a],⟨aa kw,e,_⟩=>QR (lk p4 x==aa 92&&qt kw Yn) λh=>(f cx a).and λA hA=>(f cx e).to (.qo 92 [A] kw.cps.toList) λZ=>L2 sK hg (eq_of_beq (L3 h)) (L4 h) hA
 |_,_=>ac
noncomputable def ahs(x:bQ)(hg:glob cx x=ae)(as:ag bV):∀ks,jq (fb C (d+1) cx (.Call (.Name x q) as ks p))
 |[]=>TO (qt x [95,108,97,119,95,105,115,95,114,101,102,117,115,101,100]) (λh=>ahq f x hg h as) (TO (qt x [105,115,105,110,115,116,97,110,99,101]) (λh=>ahr f x hg h as) (ahp sC f x hg as))
 |[k]=>aa6 sK f x hg as k
 |_=>ac
noncomputable def aht(as:ag bV)(ks:ag NY):∀g,jq (fb C (d+1) cx (.Call g as ks p))
 |.Attribute o n _=>aho sC f o n as ks
 |.Name x _=>QR (glob cx x) λhg=>ahs sC sK f x hg as ks
 |_=>ac
noncomputable def trE(cx:Cx):∀e,jq (fb C (d+1) cx e)
 |.Constant c _ _=>AB (CF c) λt h=>aa ⟨.c t,PP h⟩
 |.Name _ _=>aaX
 |.BoolOp op vs _=>(aaV f cx op vs).to id λZ=>s_bool
 |.BinOp a op b _=>AB (SV op) λo ho=>(f cx a).and λA hA=>(f cx b).to (.bin o A) λZ hB=>Z2 (H5 ho) hA hB
 |.UnaryOp op a _=>aaY f a op
 |.IfExp t a b _=>(f cx t).and λT hT=>(f cx a).and λA hA=>(f cx b).to (.qK T A) λZ hB=>Z5 hT hA hB
 |.Compare a ops bs _=>Wk f a ops bs
 |.Attribute o n _=>AB (lk p5 n) λn hn=>(f cx o).to (λO=>.attr O n) λZ=>Vr hn
 |.Subscript a i _=>Wl f a i
 |.Tuple es _ _=>(Ol f cx es).to .tup λZ=>Tj
 |.List es _=>(Ol f cx es).to .list λZ=>Vs
 |.Dict ks vs _=>QS f ks vs
 |.Call g as ks _=>aht sC sK f as ks g
 |.ListComp e gs sc _=>ahm f e sc gs
 |.DictComp a b gs sc _=>ahn f a b sc gs
 |_=>ac
end
section
variable{C:Calls}{d:aj}(sC:pM C d)(sK:mf C (d+1))
noncomputable def trX(n:aj):∀cx e,jq (fb C (d+1) cx e):=oX (λZ Z=>ac) (λZ f=>trE sC sK f) n
end
noncomputable def L5:bV->aW
 |.ListComp ..=>ae
 |.SetComp ..=>ae
 |.DictComp ..=>ae
 |_=>af
noncomputable def Wp:bV->aW
 |.Tuple ..=>ae
 |_=>af
section
variable{C:Calls}{d:aj}{cx:Cx}{e a b it:bV}{x y:bQ}{p q pos px:Pos}{i:aj}{sc:fQ}{ifs:ag bV}{Es:ag E}{X' Y:E}{uJ:It}{s:oY}{S':S}{line:aj}{t:ar bV}{env:Env}
theorem QU(h:L5 e=af):iH e t line env=pure false:=by
 have r:=@rfl (Sem aW) (pure af);cases e<;>first |exact r |cases h
theorem QV(hs:cx.sl.lookup y=aa i)(ok:lK cx sc x=ae)(hf:kP it=af)(hI:qy C d cx it uJ)(hE:fb C d (jc cx sc x) e X')(hC:sN C d (jc cx sc x) ifs Es):g7 C d cx (.Assign [.Name y q] (.ListComp e [⟨.Name x px,it,ifs,0⟩] sc p) pos) (.asg i (.comp X' cx.n uJ Es)):=
 Fq (Lp (px:=px) (pos:=p) (pos':=xT [⟨.Name x px,it,ifs,0⟩] p) ok hf hI hE hC) (λenv=>YQ ..) (λenv u=>rfl) (λenv=>⟨_,rfl⟩) hs
theorem L6(hs:cx.sl.lookup y=aa i)(ok:lK cx sc x=ae)(hf:kP it=af)(hI:qy C d cx it uJ)(hA:fb C d (jc cx sc x) a X')(hB:fb C d (jc cx sc x) b Y)(hC:sN C d (jc cx sc x) ifs Es):g7 C d cx (.Assign [.Name y q] (.DictComp a b [⟨.Name x px,it,ifs,0⟩] sc p) pos) (.asg i (.qS X' Y cx.n uJ Es)):=
 Fq (Lq (px:=px) (pos:=p) (pos':=xT [⟨.Name x px,it,ifs,0⟩] p) ok hf hI hA hB hC) (λenv=>YR ..) (λenv u=>rfl) (λenv=>⟨_,rfl⟩) hs
theorem L7(h:∀au mu,Mine.exec C S' au mu=.aK):g7 C d cx s S':=λ{k au σ} z c=>h au σ.mu▸.aK
end
section
variable{C:Calls}{d:aj}{cx:Cx}(f:∀cx e,jq (fb C (d+1) cx e)){x:bQ}{p pos q:Pos}
noncomputable def aa7(cx:Cx):∀e,jq (HL C (d+1) cx e)
 |.List es _=>(Ol f cx es).to .newList λZ h=>⟨CY h⟩
 |.BinOp a .Add b _=>TO (Zv b) (λZ=>(f cx a).and λA hA=>(f cx b).to (.sj A) λZ hB=>⟨Hh hA hB⟩) ((f cx _).to id λZ=>fb.toV)
 |e=>(f cx e).to id λZ=>fb.toV
noncomputable def trV(cx:Cx)(m:aW)(e:bV):jq (HL C (d+1) cx e):=TO m (λZ=>aa7 f cx e) ((f cx e).to id λZ=>fb.toV)
noncomputable def aa8(y:bQ)(i:aj)(hs:cx.sl.lookup y=aa i)(elt:bV)(sc:fQ)(it:bV)(ifs:ag bV)(ia:bE):∀t,jq (g7 C (d+1) cx (.Assign [.Name y q] (.ListComp elt [⟨t,it,ifs,ia⟩] sc p) pos))
 |.Name x _=>QT sc it ia x λg=>(trI f it).and λI hI=>(trT f (jc cx sc x) ifs).and λT hT=>(f (jc cx sc x) elt).to (λX=>.asg i (.comp X cx.n I T)) λZ hX=>g.ia▸QV hs g.ok g.ns hI hX hT
 |_=>ac
noncomputable def ahv(y:bQ)(i:aj)(hs:cx.sl.lookup y=aa i)(elt:bV)(sc:fQ):∀gs,jq (g7 C (d+1) cx (.Assign [.Name y q] (.ListComp elt gs sc p) pos))
 |[⟨t,it,ifs,ia⟩]=>aa8 f y i hs elt sc it ifs ia t
 |_=>ac
noncomputable def aa9(y:bQ)(i:aj)(hs:cx.sl.lookup y=aa i)(a b:bV)(sc:fQ)(it:bV)(ifs:ag bV)(ia:bE):∀t,jq (g7 C (d+1) cx (.Assign [.Name y q] (.DictComp a b [⟨t,it,ifs,ia⟩] sc p) pos))
 |.Name x _=>QT sc it ia x λg=>(trI f it).and λI hI=>(trT f (jc cx sc x) ifs).and λT hT=>(f (jc cx sc x) a).and λA hA=>(f (jc cx sc x) b).to (λB=>.asg i (.qS A B cx.n I T)) λZ hB=>g.ia▸L6 hs g.ok g.ns hI hA hB hT
 |_=>ac
noncomputable def ahw(y:bQ)(i:aj)(hs:cx.sl.lookup y=aa i)(a b:bV)(sc:fQ):∀gs,jq (g7 C (d+1) cx (.Assign [.Name y q] (.DictComp a b gs sc p) pos))
 |[⟨t,it,ifs,ia⟩]=>aa9 f y i hs a b sc it ifs ia t
 |_=>ac
noncomputable def ahx(y:bQ)(i:aj)(hs:cx.sl.lookup y=aa i):∀e,jq (g7 C (d+1) cx (.Assign [.Name y q] e pos))
 |.ListComp e gs sc _=>ahv f y i hs e sc gs
 |.DictComp a b gs sc _=>ahw f y i hs a b sc gs
 |e=>I1 (L5 e) λhc=>(trV f cx (Zu y) e).to (.asg i) λZ h=>VZ h hs λZ=>QU hc
noncomputable def Fw(cx:Cx):∀ts,jq (Slots cx ts)
 |[]=>aa ⟨[],trivial⟩
 |.Name x p::r=>AB (cx.sl.lookup x) λi hi=>(Fw cx r).to (i::·) λZ h=>⟨⟨x,p,rfl,hi⟩,h⟩
 |_=>ac
noncomputable def ahy(kk kk':aj)(q':Pos):∀ts vs,jq (g7 C (d+1) cx (.Assign [.Tuple ts kk q] (.Tuple vs kk' q') pos))
 |[.Name x px,.Name y py],[a,b]=>
  QR (px.line==py.line) λhl=>I1 (x==y) λYl=>I1 (tH 8 a) λh1=>I1 (vc 8 a) λh2=>AB (cx.sl.lookup x) λi hi=>AB (cx.sl.lookup y) λj hj=>
   (f cx a).and λA hA=>(f cx b).to (λB=>.unpack [i,j] (.tup [A,B])) λZ hB=>QK hl Yl h1 h2 hi hj hA hB
 |_,_=>ac
noncomputable def ahz(kk:aj)(ts:ag bV):∀e,jq (g7 C (d+1) cx (.Assign [.Tuple ts kk q] e pos))
 |.Tuple vs kk' q'=>ahy f kk kk' q' ts vs
 |e=>I1 (Wp e) λhn=>(Fw cx ts).and λis hs=>(f cx e).to (.unpack is) λZ hX=>HP (λZ Z Z h=>by subst h;cases hn) hs hX
noncomputable def ahA(e:bV):∀t,jq (g7 C (d+1) cx (.Assign [t] e pos))
 |.Name y _=>AB (cx.sl.lookup y) λi hs=>ahx f y i hs e
 |.Attribute o n _=>AB (lk p5 n) λn hn=>(trV f cx ae e).and λX hX=>(f cx o).to (λO=>.dH O n X) λZ hO=>QG hX hO hn
 |.Subscript o b _=>I1 (ot b) λhb=>(f cx e).and λX hX=>(f cx o).and λO hO=>(f cx b).to (λB=>.iX O B X) λZ hB=>V0 hb hX hO hB
 |.Tuple ts kk _=>ahz f kk ts e
 |_=>ac
noncomputable def ahB(e:bV):∀ts,jq (g7 C (d+1) cx (.Assign ts e pos))
 |[t]=>ahA f e t
 |_=>ac
noncomputable def ahC:∀e,jq (g7 C (d+1) cx (.Expr e pos))
 |.Call _ _ _ _=>(f cx _).to .expr λZ=>QJ
 |_=>ac
noncomputable def ahD(mr:aW):∀e,jq (g7 C (d+1) cx (.Return e pos))
 |none=>aa ⟨.G0,QH⟩
 |some e=>(trV f cx mr e).to .ret λZ=>V1
noncomputable def ahE(as:ag bV):∀g ks,jq (g7 C (d+1) cx (.Raise (aa (.Call g as ks p)) ac pos))
 |.Name x _,[]=>TO (qt x [83,121,110,116,97,120,70,97,117,108,116]&&glob cx x) (λh=>(Ol f cx as).to .raise λZ=>LL (L3 h) (L4 h)) (aa ⟨.raise [.sub (.c .none) (.c .none)],L7 λZ Z=>rfl⟩)
 |_,_=>ac
noncomputable def aba:∀e c,jq (g7 C (d+1) cx (.Raise e c pos))
 |some (.Call g as ks _),ac=>ahE f as g ks
 |_,_=>ac
variable(g:∀s,jq (g7 C (d+1) cx s))
noncomputable def BK:∀ss,jq (nr C (d+1) cx ss)
 |[]=>aa ⟨[],HM⟩
 |s::r=>(g s).and λX hX=>(BK r).to (X::·) λZ hR=>Dv hX hR
noncomputable def ahF(t:bV)(b:ag oY):∀o,jq (g7 C (d+1) cx (.While t b o pos))
 |[]=>(f cx t).and λT hT=>(BK g b).to (.while T) λZ hB=>Lw hT hB
 |_=>ac
noncomputable def ahG(it:bV)(b:ag oY):∀t o,jq (g7 C (d+1) cx (.For t it b o pos))
 |.Name x _,[]=>AB (cx.sl.lookup x) λi hi=>I1 (kP it) λhn=>(trI f it).and λI hI=>(BK g b).to (.for i I) λZ hB=>V4 hi hn hI hB
 |_,_=>ac
noncomputable def ahH(b:ag oY):∀hs o fi,jq (g7 C (d+1) cx (.Try b hs o fi pos))
 |[.ExceptHandler _ _ h _],[],[]=>(BK g b).and λB hB=>(BK g h).to (.try B) λZ Z=>V3 hB
 |_,_,_=>ac
noncomputable def ahI(mr:aW):∀s,jq (g7 C (d+1) cx s)
 |.Assign ts e _=>ahB f e ts
 |.Expr e _=>ahC f e
 |.Return v _=>ahD f mr v
 |.If t a b _=>(f cx t).and λT hT=>(BK g a).and λA hA=>(BK g b).to (.ifs T A) λZ hB=>aaD hT hA hB
 |.While t b o _=>ahF f g t b o
 |.For t it b o _=>ahG f g it b t o
 |.Continue _=>aa ⟨.cont,QI⟩
 |.Raise e c _=>aba f e c
 |.Try b hs o fi _=>ahH g b hs o fi
 |_=>ac
end
section
variable{C:Calls}{d:aj}(sC:pM C d)(sK:mf C (d+1))(cx:Cx)(mr:aW)
noncomputable def trY(n:aj):∀s,jq (g7 C (d+1) cx s):=oX (λZ=>ac) (λZ g=>ahI (trX sC sK 60) g mr) n
noncomputable def trB(ss:ag oY):jq (nr C (d+1) cx ss):=BK (trY sC sK cx mr 60) ss
end
theorem Wq(P:aS){C:Calls}{d:aj}(sC:pM C d)(sK:mf C (d+1)):(be 106).map (λi=>(FT i).map λfn=>(trB sC sK (LA (fj P i)) (i==93) (ww (fj P i))).map (·.1))=(be 106).map λi=>(FT i).map λfn=>aa fn.body:=by kernel_rfl
theorem QW(P:aS)(S:N4)(v u:ao):peek (KD P (fj P 92)) S (pY (fj P 92) ⟨[v],[(xp Yn,u)]⟩)=aa ((gG (fj P 92)).zip [v,u]):=by kernel_rfl
theorem abb:∃fn,FT 92=aa fn/\fn.jj=2:=⟨_,rfl,rfl⟩
theorem range_getD(vs:ag ao):(be vs.length).map (λj=>vs.getD j .none)=vs:=by
 apply ag.ext_getElem
 ·rw[aq,fF]
 ·intro i h1 h2
  rw[ag.getElem_map,ag.getElem_range,ag.getD_eq_getElem?_getD,bz h2];rfl
section
variable{C:Calls}{d i:aj}{fn:Fn}
theorem BL(sC:pM C d)(sK:mf C (d+1))(hi:i<106)(hf:FT i=aa fn):nr C (d+1) (LA (fj w.params i)) (ww (fj w.params i)) fn.body:=by
 have e:=map_eq (Wq w.params sC sK) (iE.mpr hi);rw[hf] at e;obtain⟨x,_,e⟩:=ed.mp (aM e);exact e▸@Subtype.property _ _ x
theorem mf.more(s:mf C d):mf C (d+1):=λc r r'=>s c.less r r'
theorem L8{f:Fn}{as:ag PV}(h1:as.length<=f.jj)(h2:(kM f as).length=f.jj):f.jj-as.length<=f.dflt.length:=by
 unfold kM at h2;rw[ah,aq,dD] at h2;exact aj.sub_le_iff_le_add'.mpr (ai (cX h2.symm) (bq (lQ _ _) _))
theorem H6(sC:pM C d)(sK:mf C (d+1)):pM (JB FT C) (d+4):=λ{f f7 vs A l σ} hi room r=>.of λS=>.dO λfn hf=>by
 unfold vr;split
 ·rename_i hc
  have F:=TJ w.params hi hf;have hk:=L8 hc.1 hc.2.1;have rd:bF (bK σ.h (X σ)) fn.dflt (tU w.params (fj w.params f)):=Hc S.base (λb o e=>S.Pe e) F.dfl;have ra:qL (kM fn f7) (vs++(tU w.params (fj w.params f)).drop (fn.dflt.length-(fn.jj-f7.length))) σ:=bF.append r (bF.map (bF.drop _ rd));have hb:Looks (bP prog w) σ.h (pY (fj w.params f) ⟨vs,[]⟩) ((gG (fj w.params f)).zip (vs++(tU w.params (fj w.params f)).drop (fn.dflt.length-(fn.jj-f7.length)))):=by
   have z:=F.bind ⟨prog,w.params⟩ (fn.jj-f7.length) (λj=>vs.getD j .none) hk;rw[show fn.jj-(fn.jj-f7.length)=vs.length by rw[<-r.len];exact SJ hc.1,range_getD] at z
   exact qQ (Ft.keeps S.base) z
  exact Fu F (BL sC sK hi hf) room ra hc.2.1 hb
 ·exact .aK
theorem QX(sC:pM C d)(sK:mf C (d+1)):mf (JB FT C) (d+4):=λ{pv pu v u A l σ} room r1 r2=>.of λS=>by
 refine bH abb λfn hf hn=>?_;show Gp _ _ _ (dO (FT 92) λfn=>vr C fn [pv,pu] σ.mu) _;refine .dO λfn' hf'=>?_;cases hf.symm.trans hf';unfold vr;split
 ·rename_i hc
  have e0:kM fn [pv,pu]=[pv,pu]:=by
   have h2:=hc.2.1;unfold kM at h2 ⊢;rw[ah,aq] at h2;rw[ey (show(fn.dflt.drop (fn.dflt.length-(fn.jj- [pv,pu].length))).length=0 by have:[pv,pu].length=2:=rfl;omega)];rfl
  rw[e0];exact Fu (TJ w.params (by decide) hf) (BL sC sK (by decide) hf) room (vals:=[v,u]) ⟨r1,r2,trivial⟩ (by rw[hn];rfl) (qQ (Ft.keeps S.base) (QW w.params ⟨prog,w.params⟩ v u))
 ·exact .aK
end
theorem BM:∀n,pM (vA FT n) (4*n)/\mf (vA FT n) (4*n)
 |0=>⟨λZ Z Z=>.aK,λZ Z Z=>.aK⟩
 |n+1=>(BM n).elim λsC sK=>⟨H6 sC sK.more,QX sC sK.more⟩
end
section
open PySem PySem.W PyProof.Rows
theorem Fx{R:WRecords}:∀{xs:ag YT},N5 R xs .int=ae->∃ns:ag bE,xs=ns.map .int
 |[],_=>⟨[],rfl⟩
 |x::xs,h=>
  by
   refine fJ (hasW_int (hasItemsW_at h x fg)) λi z0=>?_;subst z0;refine fJ (Fx (xs:=xs) (by simp only[N5,cZ] at h;exact h.2)) λns z0=>?_;subst z0
   exact⟨i::ns,rfl⟩
theorem QY{args:ag YT}(h:aV.row.toRowW.claim.pre args=ae):∃ns:ag bE,args=[.list (ns.map .int)]/\ns.length<=63:=by
 refine gf (pre_splitW h) λh1 h2=>?_;refine k8 (hasAllW_cons h1) λd r z0 h3 h4=>?_;subst z0;obtain rfl:=hasAllW_nil h4;refine bH (hasW_list h3) λxs z0 h5=>?_;subst z0;refine fJ (Fx h5) λns z0=>?_;subst z0;refine⟨ns,rfl,?_⟩;have h6:xc [] (.and (.not (.lt (.lit (.int 63)) (.len (.arg 0)))) (.lit (.bool ae))) {args:=[.list (ns.map .int)]}=true:=h2;clear h2;have h7:WTm.value [] (.and (.not (.lt (.lit (.int 63)) (.len (.arg 0)))) (.lit (.bool ae))) {args:=[.list (ns.map .int)]}=aa (.bool (!decide ((63:bE)<((ns.map N6).length:bE)))):=by
  show(match (aa (IS (!decide ((63:bE)<((ns.map N6).length:bE)))):ar YT) with
   |some (.bool af)=>aa (IS af)
   |some (.bool ae)=>aa (IS ae)
   |_=>ac)=_
  cases (!decide ((63:bE)<((ns.map N6).length:bE)))<;>rfl
 unfold xc at h6;rw[h7,aq] at h6
 by_cases h8:(63:bE)<(ns.length:bE)
 ·rw[bc h8] at h6;cases h6
 ·omega
theorem DG{R:WRecords}{cl:bQ->ar aN}{h:dK}{X:aN->Prop}{ns:ag bE}{vs:ag ao}{as:ag aN}(r:ada R cl h vs (ns.map .int) as):bF (bK h X) (ns.map .int) vs:=by
 induction ns generalizing vs as with
 |nil=>exact(readsAllW_nil_inv r).1▸trivial
 |cons n ns ih=>exact OZ (Ya r) λv vs' a b e1 e2 r1 r2=>e1▸⟨bH (readsW_int_inv r1) λt e Z=>⟨t,e⟩,ih r2⟩
theorem sS(P:aS):(H1 P).get? 858=aa (JF #[])/\(H1 P).get? 863=aa (JF #[]):=⟨by kernel_rfl,by kernel_rfl⟩
theorem L9(P:aS):∃o vs,(H1 P).get? 860=aa o/\o.cls=.type "code"/\o.data=.fields vs/\vs[11]? =aa (.ref 858):=⟨Y0 P,_,by kernel_rfl,by kernel_rfl,rfl,by kernel_rfl⟩
theorem Ma(P:aS):∃o vs,(H1 P).get? 865=aa o/\o.cls=.type "code"/\o.data=.fields vs/\vs[11]? =aa (.ref 863):=⟨Y1 P,_,by kernel_rfl,by kernel_rfl,rfl,by kernel_rfl⟩
theorem Mb(P:aS):(BH P).get? 858=ac/\(BH P).get? 863=none:=⟨by kernel_rfl,by kernel_rfl⟩
theorem Wr(P:aS):mG P CD=aa (.ref 866):=by kernel_rfl
theorem Ws{P:aS}{h:dK}{mg:bQ->ar ao}(k:∀b o,(BH P).get? b=aa o->h.get? b=aa o)(n:h.Ns 3 mg)(x:bQ):mg x=mG P x:=by
 refine xm n λo es ep h1 h2 Z h4=>?_;refine xm (ns3 P) λo' es' ep' g1 g2 Z g4=>?_;cases h1.symm.trans (k _ _ g1);cases h2.symm.trans g2;exact(h4 x).symm.trans (g4 x)
noncomputable abbrev Om:Mu:=[.tab 0,.tab 1]
noncomputable abbrev W0(s:aG):W:=⟨s,Om,[(858,0),(863,0)],[]⟩
theorem H7{s:aG}{i:aj}{a:aN}:Az (W0 s).mu (W0 s).p i a->(i=0/\a=858)\/(i=1/\a=863):=λq9=>k8 q9 λo q h1 h2 h3=>by
 match i,h1,h2 with
 |0,h1,h2=>cases h1;cases h2;exact .inl ⟨rfl,h3⟩
 |1,h1,h2=>cases h1;cases h2;exact .inr ⟨rfl,h3⟩
 |i+2,h1,h2=>cases h1
theorem ok0{s:aG}(y:∀b o,(H1 w.params).get? b=aa o->s.heap.get? b=aa o)(g:s.gens=#[]):Ok (W0 s) where
 len:=rfl
 dj i j a m m':=(H7 m).elim (λe=>(H7 m').elim (λe'=>e.1.trans e'.1.symm) λe'=>aQ (e.2.symm.trans e'.2) (by decide)) λe=>(H7 m').elim (λe'=>aQ (e.2.symm.trans e'.2) (by decide)) λe'=>e.1.trans e'.1.symm
 rep i o q h1 h2:=by
  match i,h1,h2 with
  |0,h1,h2=>cases h1;cases h2;exact⟨rfl,#[],y _ _ (sS w.params).1,trivial,λp v h=>by cases h⟩
  |1,h1,h2=>cases h1;cases h2;exact⟨rfl,#[],y _ _ (sS w.params).2,trivial,λp v h=>by cases h⟩
  |i+2,h1,h2=>cases h1
 base b o h:=y b o (U5 w.params h)
 off a m:=m.elim λi m=>(H7 m).elim (λe=>e.2▸(Mb w.params).1) λe=>e.2▸(Mb w.params).2
 gens:=g
 gE a m:=by cases m
theorem ahJ{s:aG}{τ:W}(y:∀b o,(H1 w.params).get? b=aa o->s.heap.get? b=aa o)(S:Ok τ)(P:Le (W0 s) τ)(hm:τ.mu=Om):OldK s.heap τ.h where
 old b o e:=by
  by_cases m:b=858\/b=863
  ·right;left
   have key:∀(i:aj)(j:aj),Om[i]? =aa (.tab j)->(W0 s).p[i]? =aa (b,0)->s.heap.get? b=aa (JF #[])->o.cls=.none/\∃vs more,o.data=.fields vs/\τ.h.get? b=aa {o with data:=.fields (vs++more)}:=λi j h1 h2 h4=>by
    cases h4.symm.trans e;obtain⟨_,ps,hp,_⟩:=S.rep i _ _ (hm▸h1) (P.pre i _ h2);exact⟨rfl,#[],ps,rfl,by rw[hp,cE.empty_append]⟩
   rcases m with rfl |rfl
   ·exact⟨(L9 w.params).elim λo1 h=>h.elim λvs h=>⟨860,o1,vs,y _ _ h.1,h.2⟩,key 0 0 rfl rfl (y _ _ (sS w.params).1)⟩
   ·exact⟨(Ma w.params).elim λo1 h=>h.elim λvs h=>⟨865,o1,vs,y _ _ h.1,h.2⟩,key 1 1 rfl rfl (y _ _ (sS w.params).2)⟩
  ·exact .inl (P.keep b o e (λz=>z.elim (λz=>z.elim λi z=>m ((H7 z).imp Sz Sz)) λz=>by cases z) id)
 there b o e:=P.ext b o e
theorem QZ(args:ag YT):aV.row.toRowW.claim.post args (.bool ae) args=true:=by
 have h1:YU aV.row.toRowW.records (.bool ae) aV.row.toRowW.returns=true:=by
  show YU [] (.bool ae) .bool=ae;decide
 have h2:xc aV.row.toRowW.records aV.row.toRowW.post {args:=args,res:=aa (.bool ae),after:=args}=true:=by
  show xc [] (.eq .res (.lit (.bool ae))) {args:=args,res:=aa (.bool ae),after:=args}=ae;unfold xc;rw[show WTm.value [] (.eq .res (.lit (.bool ae))) {args:=args,res:=aa (.bool ae),after:=args}=aa (.bool (same (.bool ae) (.bool ae))) from rfl,same_self]
 exact aF.mpr ⟨h1,h2⟩
theorem H8{P:aS}{h:dK}{v:ao}{xs:ag YT}(x:Well P h v (.list xs)):∃b vs n,v=.ref b/\IsL h b vs n:=by
 cases x;exact⟨_,_,_,rfl,‹_›⟩
theorem Wt{h:dK}{b:aN}{us vs:cE ao}{n:aj}(l:h.IsList b us)(g:IsL h b vs n):us=vs:=
 l.elim λo z=>z.2.2.elim λm e=>(Data.seq.inj (e.symm.trans (av uz (aM (z.1.symm.trans g))))).1
theorem Fy{h:dK}{b:aN}{vs ps:cE ao}{n:aj}{Q:Prop}(g:IsL h b vs n)(z:h.get? b=aa (JF ps)):Q:=by
 rw[g] at z;cases z
theorem Mc{P:aS}{R:WRecords}{cl:bQ->ar aN}{h:dK}{vals:ag ao}{xs:ag YT}{as:ag aN}(w:WellAll P h vals [.list xs])(r:ada R cl h vals [.list xs] as):∃b vs n as',vals=[.ref b]/\IsL h b (ag.toArray vs) n/\ada R cl h vs xs as':=by
 refine OZ (Ya r) λv vs a1 a2 e1 e2 r1 r2=>?_;refine k8 (wellAll_cons_inv w) λv' vs' e4 w1 w2=>?_;refine yS (H8 w1) λb us n e6 hg=>?_;refine xm (readsW_list_inv r1) λa us' as' e7 hl rr e8=>?_;have e5:v=v':=(cg (e1.symm.trans e4)).1;have ab:a=b:=ao.ref.inj (e7.symm.trans (e5.trans e6));exact⟨b,us.toList,n,as',e1.trans ((readsAllW_nil_inv r2).1▸e5▸e6▸rfl),hg,Wt (ab▸hl) hg▸rr⟩
theorem Wu(Ww:∀ns:ag bE,ns.length<=bp->vA FT 26 105 [.t (.list (ns.map T.int))] Om=.ok (.t (.bool ae)) Om):PB w:=by
 intro w' s₀ di mg mb G ⟨hw,y⟩ a o pm cd doc dV kV ha hd ajD hdf hmg abc args vals as ahK amE hrd abd amG;subst hw;have hp:aV.row.toRowW.prog=prog:=by rw[prog];rfl
 rw[hp];have y:∀b o,(H1 w.params).get? b=aa o->di.heap.get? b=aa o:=y;refine bH (QY ahK) λns z0 hns=>?_;subst z0;have S:=ok0 y abc;have abe:a=866:=by
  have h1:mg CD=aa (.ref a):=hmg;rw[Ws (P:=w.params) S.base G.T.g,Wr] at h1;cases h1;rfl
 subst abe;have hv:∃v,vals=[v]/\gL (W0 di) (.t (.list (ns.map T.int))) v:=OY (Mc abd hrd) λb vs n as' e hg rr=>⟨.ref b,e,ly (λm=>m.elim (λm=>m.elim λi m=>(H7 m).elim (λe=>Fy hg (e.2▸y _ _ (sS w.params).1)) λe=>Fy hg (e.2▸y _ _ (sS w.params).2)) λz=>by cases z) hg (DG rr)⟩
 refine bH hv λv z0 rv=>?_;subst z0;have room:xt 104 callerA [] (W0 di):=⟨⟨by decide,by decide,rfl,rfl,λe m=>by(cases m)⟩,λa m=>by(cases m),λa m=>by(cases m)⟩
 have g:=(BM 26).1 (f:=105) (f7:=[.t (.list (ns.map T.int))]) (vs:=[v]) (by decide) room ⟨rv,trivial⟩
 rw[Ww ns (by unfold bp;omega)] at g
 refine g _ _ (λpv v' τ e S' P' r=>?_) (λZ Z h=>by cases h) (λh=>by cases h) S
 have e:Res.ok (PV.t (.bool ae)) Om=.ok pv τ.mu:=e;refine gf (JG e) λz0 hm=>?_;subst z0;obtain rfl:v'=.bool true:=r;exact⟨.inl ⟨.bool ae,.bool ae,[],rfl,λZ=>rfl,(.bool ae),QZ _,λZ=>⟨jF,λa m=>by cases m⟩⟩,ahJ y S' P' hm.symm,P'.os,AllBare.of_eq S'.gens⟩
theorem join(Ww:∀ns:ag bE,ns.length<=bp->vA FT 26 105 [.t (.list (ns.map T.int))] Om=.ok (.t (.bool ae)) Om):WalkO (qP aR) loose (λZ Z=>rV) YP1 aV.row.toRowW (qm aR) [] (λf vs=>IE f vs):=
 λw' s₀ di mg mb G y=>Zw (Wu Ww) w' w' s₀ di mg mb G ⟨rfl,y⟩
end
section
open PySem
set_option smartUnfolding false
inductive Q0 where
 |a |v (r:Res PV) |b (t:aW) |s (m:Mu) |l (r:Res (cB×Loc)) |k (c:ar aj)
abbrev Rn(β:Type):=ag Q0->(Res β->ag Q0->Prop)->Prop
section
variable{α β:Type}{r:Res β}{x:Rn α}{y z:Rn β}
abbrev Rn.Ok(x:Rn β)(r:Res β):Prop:=∀os k,(∀os',k r os')->x os k
noncomputable def Rn.ret(r:Res β):Rn β:=λos k=>k r os
noncomputable def Rn.bind(x:Rn α)(f:α->Mu->Rn β):Rn β:=λos k=>x os λr os=>match r with
 |.ok a m=>f a m os k
 |.exc m=>k (.exc m) os
 |.aK=>k .aK os
noncomputable def lL(x:Res PV):Rn PV:=λos k=>match os with
 |[]=>k x []
 |o::os=>
  match o with
   |.v r=>x=r->k r os
   |_=>k x os
noncomputable def ul(x:ar aW)(mu:Mu):Rn Bool:=λos k=>match os with
 |[]=>k (bS x mu) []
 |o::os=>
  match o with
   |.b t=>x=aa t->k (.ok t mu) os
   |_=>k (bS x mu) os
noncomputable def Wx(x:Res aW)(mu:Mu):Rn Bool:=λos k=>match os with
 |[]=>k x []
 |o::os=>
  match o with
   |.b t=>x=.ok t mu->k (.ok t mu) os
   |_=>k x os
noncomputable def Wy(x:ar (ar aj))(mu:Mu):Rn (ar aj):=λos k=>match os with
 |[]=>k (bS x mu) []
 |o::os=>
  match o with
   |.k c=>x=aa c->k (.ok c mu) os
   |_=>k (bS x mu) os
noncomputable def abf(x:Res fP):Rn Unit:=λos k=>match os with
 |[]=>k x []
 |o::os=>
  match o with
   |.s m=>x=.ok () m->k (.ok () m) os
   |_=>k x os
noncomputable def Q1(x:ar Mu)(mu:Mu):Rn Mu:=λos k=>match os with
 |[]=>k (bS x mu) []
 |o::os=>
  match o with
   |.s m=>x=aa m->k (.ok m mu) os
   |_=>k (bS x mu) os
noncomputable def Wz(x:Res (cB×Loc)):Rn (cB×Loc):=λos k=>match os with
 |[]=>k x []
 |o::os=>
  match o with
   |.l r=>x=r->k r os
   |_=>k x os
noncomputable def Q2(b:aW)(x y:Rn β):Rn β:=λos k=>match b with
 |true=>x os k
 |false=>y os k
theorem eY:(Rn.ret r).Ok r:=λos k h=>h os
theorem Rn.Ok.bind{q:Res α}{f:α->Mu->Rn β}{g:α->Mu->Res β}(h:x.Ok q)(k:∀a m,(f a m).Ok (g a m)):(x.bind f).Ok (q.bind g):=λos K hk=>h _ _ λos'=>by
 cases q with
 |ok a m=>exact k a m _ _ hk
 |exc m=>exact hk _
 |aK=>exact hk _
theorem ft{x:Res PV}:(lL x).Ok x:=λos k h=>by
 cases os with
 |nil=>exact h _
 |cons o os=>cases o<;>first |exact h _ |exact λe=>e▸h _
theorem jr{x:ar aW}{mu:Mu}:(ul x mu).Ok (bS x mu):=λos k h=>by
 cases os with
 |nil=>exact h _
 |cons o os=>cases o<;>first |exact h _ |exact λe=>(show bS x mu=.ok _ mu from av (bS · mu) e)▸h _
theorem Fz{x:Res aW}{mu:Mu}:(Wx x mu).Ok x:=λos k h=>by
 cases os with
 |nil=>exact h _
 |cons o os=>cases o<;>first |exact h _ |exact λe=>e▸h _
theorem FA{x:ar (ar aj)}{mu:Mu}:(Wy x mu).Ok (bS x mu):=λos k h=>by
 cases os with
 |nil=>exact h _
 |cons o os=>cases o<;>first |exact h _ |exact λe=>(show bS x mu=.ok _ mu from av (bS · mu) e)▸h _
theorem Q3{x:Res fP}:(abf x).Ok x:=λos k h=>by
 cases os with
 |nil=>exact h _
 |cons o os=>cases o<;>first |exact h _ |exact λe=>e▸h _
theorem zA{x:ar Mu}{mu:Mu}:(Q1 x mu).Ok (bS x mu):=λos k h=>by
 cases os with
 |nil=>exact h _
 |cons o os=>cases o<;>first |exact h _ |exact λe=>(show bS x mu=.ok _ mu from av (bS · mu) e)▸h _
theorem FC{x:Res (cB×Loc)}:(Wz x).Ok x:=λos k h=>by
 cases os with
 |nil=>exact h _
 |cons o os=>cases o<;>first |exact h _ |exact λe=>e▸h _
theorem oF{b:aW}{r s:Res β}(h:y.Ok r)(k:z.Ok s):(Q2 b y z).Ok (if b=ae then r else s):=by
 cases b with
 |true=>exact h
 |false=>exact k
end
noncomputable def rI(f:E->Loc->Mu->Rn PV):ag E->Loc->Mu->Rn (ag PV)
 |[],_,mu=>.ret (.ok [] mu)
 |e::r,au,mu=>(f e au mu).bind λv mu=>(rI f r au mu).bind λvs mu=>.ret (.ok (v::vs) mu)
noncomputable def WA(f:E->Loc->Mu->Rn PV):ar E->Loc->Mu->Rn (ar PV)
 |none,_,mu=>.ret (.ok ac mu)
 |some e,au,mu=>(f e au mu).bind λv mu=>.ret (.ok (aa v) mu)
noncomputable def lM(x:PV)(l h:ar PV)(mu:Mu):Res PV:=dO x.t? λx=>dO (mO l) λl=>dO (mO h) λh=>bS ((lH x l h).map .t) mu
noncomputable def ahL(x:PV)(n:aj)(mu:Mu):Res PV:=dO x.t? λv=>(bS (mL v n) mu).bind λb mu=>.ok (.t (.bool b)) mu
noncomputable def abg(vs:ag PV)(mu:Mu):Res PV:=(lu (kK vs mu)).bind λts mu=>vk ts mu
noncomputable def wy(vs:ag PV)(mu:Mu):Res PV:=(lu (kK vs mu)).bind λts mu=>h9 ts mu
noncomputable def DH(vs:ag PV)(mu:Mu):Res PV:=if vs.length<=bp then .ok (.m mu.length) (mu++[.list vs]) else .aK
section
variable(C:Calls)(f:E->Loc->Mu->Rn PV)(g:E->Loc->Mu->Rn aW)
noncomputable def evS(e:E)(au:Loc)(mu:Mu):Rn PV:=match e with
 |.c v=>.ret (.ok (.t v) mu)
 |.au i=>.ret (bS (gV au i) mu)
 |.attr e n=>(f e au mu).bind λv mu=>lL (bS (qq v n mu) mu)
 |.bin op a b=>(f a au mu).bind λx mu=>(f b au mu).bind λy mu=>lL (k9 op x y mu)
 |.neg a=>(f a au mu).bind λx mu=>.ret (dO (x.t?.bind T.i?) λi=>.ok (.t (.int (-i))) mu)
 |.not a=>(f a au mu).bind λx mu=>(ul (truth x mu) mu).bind λt mu=>.ret (.ok (.t (.bool (!t))) mu)
 |.qK t a b=>(g t au mu).bind λx mu=>Q2 x (f a au mu) (f b au mu)
 |.cmp op a b=>(f a au mu).bind λx mu=>(f b au mu).bind λy mu=>(ul (eC op x y mu) mu).bind λr mu=>.ret (.ok (.t (.bool r)) mu)
 |.and a b=>(f a au mu).bind λx mu=>(ul (truth x mu) mu).bind λt mu=>Q2 t (f b au mu) (.ret (.ok x mu))
 |.or a b=>(f a au mu).bind λx mu=>(ul (truth x mu) mu).bind λt mu=>Q2 t (.ret (.ok x mu)) (f b au mu)
 |.sub a i=>(f a au mu).bind λx mu=>(f i au mu).bind λy mu=>lL (bS (mK x y mu) mu)
 |.slice a lo hi=>(f a au mu).bind λx mu=>(WA f lo au mu).bind λl mu=>(WA f hi au mu).bind λh mu=>lL (lM x l h mu)
 |.call n as=>(rI f as au mu).bind λvs mu=>lL (C n vs mu)
 |.qo n as _ e=>(rI f as au mu).bind λvs mu=>(f e au mu).bind λv mu=>lL (C n (vs++[v]) mu)
 |.new n as=>(rI f as au mu).bind λvs mu=>lL (fm C n vs mu)
 |.cR o n as=>(f o au mu).bind λx mu=>(Wy (fq (kindOf x mu) n) mu).bind λc mu=>(rI f as au mu).bind λvs mu=>lL (ei C x n c vs mu)
 |.bi o as=>(rI f as au mu).bind λvs mu=>lL (uf o vs mu)
 |.hZ a n=>(f a au mu).bind λx mu=>lL (ahL x n mu)
 |.tup as=>(rI f as au mu).bind λvs mu=>lL (abg vs mu)
 |.list as=>(rI f as au mu).bind λvs mu=>lL (wy vs mu)
 |.newList as=>(rI f as au mu).bind λvs mu=>lL (DH vs mu)
 |e=>lL (ev C e au mu)
noncomputable def abh(e:E)(au:Loc)(mu:Mu):Rn Bool:=match e with
 |.not a=>(g a au mu).bind λx mu=>.ret (.ok (!x) mu)
 |.and a b=>(g a au mu).bind λx mu=>Q2 x (g b au mu) (.ret (.ok af mu))
 |.or a b=>(g a au mu).bind λx mu=>Q2 x (.ret (.ok ae mu)) (g b au mu)
 |.qK t a b=>(g t au mu).bind λx mu=>Q2 x (g a au mu) (g b au mu)
 |.cmp op a b=>(f a au mu).bind λx mu=>(f b au mu).bind λy mu=>ul (eC op x y mu) mu
 |.si op uD a b d=>(f a au mu).bind λx mu=>(f b au mu).bind λy mu=>(ul (eC op x y mu) mu).bind λr mu=>Q2 r ((f d au mu).bind λz mu=>ul (eC uD y z mu) mu) (.ret (.ok af mu))
 |.au i=>.bind (.ret (bS (gV au i) mu)) λx mu=>ul (truth x mu) mu
 |.attr e n=>(f e au mu).bind λv mu=>(lL (bS (qq v n mu) mu)).bind λx mu=>ul (truth x mu) mu
 |.call n as=>(rI f as au mu).bind λvs mu=>(lL (C n vs mu)).bind λx mu=>ul (truth x mu) mu
 |.cR o n as=>(f o au mu).bind λx mu=>(Wy (fq (kindOf x mu) n) mu).bind λc mu=>(rI f as au mu).bind λvs mu=>(lL (ei C x n c vs mu)).bind λx mu=>ul (truth x mu) mu
 |e=>Wx (ni C e au mu) mu
variable{C f g}(hf:∀e au mu,(f e au mu).Ok (ev C e au mu))(hg:∀e au mu,(g e au mu).Ok (ni C e au mu))
include hf
theorem iV(es:ag E)(au:Loc)(mu:Mu):(rI f es au mu).Ok (su C es au mu):=by
 induction es generalizing au mu with
 |nil=>exact eY
 |cons e r ih=>exact(hf e au mu).bind λv mu=>(ih au mu).bind λvs mu=>eY
theorem FD:∀e au mu,(WA f e au mu).Ok (SU C e au mu)
 |none,_,_=>eY
 |some e,au,mu=>(hf e au mu).bind λv mu=>eY
include hg
theorem WB:∀e au mu,(evS C f g e au mu).Ok (ev C e au mu):=λe au mu=>by
 cases e with
 |c=>exact eY
 |au=>exact eY
 |attr=>exact(hf _ _ _).bind λZ Z=>ft
 |bin=>exact(hf _ _ _).bind λZ Z=>(hf _ _ _).bind λZ Z=>ft
 |neg=>exact(hf _ _ _).bind λZ Z=>eY
 |not=>exact(hf _ _ _).bind λZ Z=>jr.bind λZ Z=>eY
 |qK=>exact(hg _ _ _).bind λZ Z=>oF (hf _ _ _) (hf _ _ _)
 |cmp=>exact(hf _ _ _).bind λZ Z=>(hf _ _ _).bind λZ Z=>jr.bind λZ Z=>eY
 |and=>exact(hf _ _ _).bind λZ Z=>jr.bind λZ Z=>oF (hf _ _ _) eY
 |or=>exact(hf _ _ _).bind λZ Z=>jr.bind λZ Z=>oF eY (hf _ _ _)
 |sub=>exact(hf _ _ _).bind λZ Z=>(hf _ _ _).bind λZ Z=>ft
 |slice=>exact(hf _ _ _).bind λZ Z=>(FD hf _ _ _).bind λZ Z=>(FD hf _ _ _).bind λZ Z=>ft
 |call=>exact(iV hf _ _ _).bind λZ Z=>ft
 |qo=>exact(iV hf _ _ _).bind λZ Z=>(hf _ _ _).bind λZ Z=>ft
 |new=>exact(iV hf _ _ _).bind λZ Z=>ft
 |cR=>exact(hf _ _ _).bind λZ Z=>FA.bind λZ Z=>(iV hf _ _ _).bind λZ Z=>ft
 |bi=>exact(iV hf _ _ _).bind λZ Z=>ft
 |hZ=>exact(hf _ _ _).bind λZ Z=>ft
 |tup=>exact(iV hf _ _ _).bind λZ Z=>ft
 |list=>exact(iV hf _ _ _).bind λZ Z=>ft
 |newList=>exact(iV hf _ _ _).bind λZ Z=>ft
 |_=>exact ft
theorem Q4:∀e au mu,(abh C f g e au mu).Ok (ni C e au mu):=λe au mu=>by
 cases e with
 |not=>exact(hg _ _ _).bind λZ Z=>eY
 |and=>exact(hg _ _ _).bind λZ Z=>oF (hg _ _ _) eY
 |or=>exact(hg _ _ _).bind λZ Z=>oF eY (hg _ _ _)
 |qK=>exact(hg _ _ _).bind λZ Z=>oF (hg _ _ _) (hg _ _ _)
 |cmp=>exact(hf _ _ _).bind λZ Z=>(hf _ _ _).bind λZ Z=>jr
 |si=>exact(hf _ _ _).bind λZ Z=>(hf _ _ _).bind λZ Z=>jr.bind λZ Z=>oF ((hf _ _ _).bind λZ Z=>jr) eY
 |au=>exact Rn.Ok.bind eY λZ Z=>jr
 |attr=>exact(hf _ _ _).bind λZ Z=>ft.bind λZ Z=>jr
 |call=>exact(iV hf _ _ _).bind λZ Z=>ft.bind λZ Z=>jr
 |cR=>exact(hf _ _ _).bind λZ Z=>FA.bind λZ Z=>(iV hf _ _ _).bind λZ Z=>ft.bind λZ Z=>jr
 |_=>exact Fz
end
section
variable(C:Calls)
noncomputable def TP(n:aj):(E->Loc->Mu->Rn PV)×(E->Loc->Mu->Rn aW):=oX (λe au mu=>lL (ev C e au mu),λe au mu=>Wx (ni C e au mu) mu) (λZ p=>(evS C p.1 p.2,abh C p.1 p.2)) n
theorem sU(n:aj):(∀e au mu,((TP C n).1 e au mu).Ok (ev C e au mu))/\∀e au mu,((TP C n).2 e au mu).Ok (ni C e au mu):=
 oX ⟨λZ Z Z=>ft,λZ Z Z=>Fz⟩ (λZ h=>⟨WB h.1 h.2,Q4 h.1 h.2⟩) n
noncomputable def oG(g:S->Loc->Mu->Rn (cB×Loc)):ag S->Loc->Mu->Rn (cB×Loc)
 |[],au,mu=>.ret (.ok (.next,au) mu)
 |s::r,au,mu=>
  (g s au mu).bind λp mu=>match p with
   |(.next,au)=>oG g r au mu
   |p=>.ret (.ok p mu)
noncomputable def exS(f:E->Loc->Mu->Rn PV)(t:E->Loc->Mu->Rn aW)(g:S->Loc->Mu->Rn (cB×Loc))(s:S)(au:Loc)(mu:Mu):Rn (cB×Loc):=match s with
 |.asg i e=>(f e au mu).bind λv mu=>.ret (.ok (.next,upd au i v) mu)
 |.dH o n e=>(f e au mu).bind λv mu=>(f o au mu).bind λx mu=>(Q1 (sr x n v mu) mu).bind λmu Z=>.ret (.ok (.next,au) mu)
 |.iX o i e=>(f e au mu).bind λv mu=>(f o au mu).bind λx mu=>(f i au mu).bind λy mu=>(abf (xo x y v mu)).bind λZ mu=>.ret (.ok (.next,au) mu)
 |.unpack is e=>(f e au mu).bind λv mu=>.ret (dO (v.t?.bind T.qr) λl=>(bS (j0 is (l.map .t) au) mu).bind λau mu=>.ok (.next,au) mu)
 |.expr e=>(f e au mu).bind λZ mu=>.ret (.ok (.next,au) mu)
 |.ret e=>(f e au mu).bind λv mu=>.ret (.ok (.ret v,au) mu)
 |.G0=>.ret (.ok (.ret (.t .none),au) mu)
 |.ifs e a b=>(t e au mu).bind λx mu=>Q2 x (oG g a au mu) (oG g b au mu)
 |.cont=>.ret (.ok (.cont,au) mu)
 |.raise es=>(rI f es au mu).bind λvs mu=>.ret (dO (((oneOf vs).bind PV.t?).bind T.s?) λZ=>.exc mu)
 |s=>Wz (exec C s au mu)
variable{C}{f:E->Loc->Mu->Rn PV}{t:E->Loc->Mu->Rn aW}{g:S->Loc->Mu->Rn (cB×Loc)}
theorem kH(hg:∀s au mu,(g s au mu).Ok (exec C s au mu))(ss:ag S)(au:Loc)(mu:Mu):(oG g ss au mu).Ok (execs C ss au mu):=by
 induction ss generalizing au mu with
 |nil=>exact eY
 |cons s r ih=>
  refine(hg s au mu).bind λp mu=>?_;cases p with
  |mk fl au=>
   cases fl with
    |next=>exact ih au mu
    |_=>exact eY
theorem WC(hf:∀e au mu,(f e au mu).Ok (ev C e au mu))(ht:∀e au mu,(t e au mu).Ok (ni C e au mu))(hg:∀s au mu,(g s au mu).Ok (exec C s au mu)):∀s au mu,(exS C f t g s au mu).Ok (exec C s au mu):=λs au mu=>by
 cases s with
 |asg=>exact(hf _ _ _).bind λZ Z=>eY
 |dH=>exact(hf _ _ _).bind λZ Z=>(hf _ _ _).bind λZ Z=>zA.bind λZ Z=>eY
 |iX=>exact(hf _ _ _).bind λZ Z=>(hf _ _ _).bind λZ Z=>(hf _ _ _).bind λZ Z=>Q3.bind λZ Z=>eY
 |unpack=>exact(hf _ _ _).bind λZ Z=>eY
 |expr=>exact(hf _ _ _).bind λZ Z=>eY
 |ret=>exact(hf _ _ _).bind λZ Z=>eY
 |G0=>exact eY
 |ifs=>exact(ht _ _ _).bind λZ Z=>oF (kH hg _ _ _) (kH hg _ _ _)
 |cont=>exact eY
 |raise=>exact(iV hf _ _ _).bind λZ Z=>eY
 |_=>exact FC
noncomputable def exT(C:Calls)(n:aj):S->Loc->Mu->Rn (cB×Loc):=oX (λs au mu=>Wz (exec C s au mu)) (λZ g=>exS C (TP C 12).1 (TP C 12).2 g) n
theorem zB(n:aj):∀s au mu,(exT C n s au mu).Ok (exec C s au mu):=oX (λZ Z Z=>FC) (λZ h=>WC (sU C 12).1 (sU C 12).2 h) n
theorem run(ss:ag S)(au:Loc)(mu:Mu)(os:ag Q0):oG (exT C 12) ss au mu os λr Z=>execs C ss au mu=r:=kH (zB 12) ss au mu os _ λZ=>rfl
end
@[irreducible] noncomputable def CN(n:aj):Calls:=vA FT n
def Cl(mu:Mu):Prop:=mM mu.length mu=ae
noncomputable def cur(d:ag aj)(a:aj):MO:=.inst 0 [.t (.bytes d),.t (.int a),.t (.int d.length)]
noncomputable def Md(f:Fn)(as:ag PV):Bool:=decide (as.length<=f.jj/\(kM f as).length=f.jj/\f.jj<=f.slots)
noncomputable def Me(f:Fn)(n:aj)(r:Res (cB×Loc))(os:ag Q0)(k:Res PV->Prop):Prop:=match r with
 |.ok p mu=>
  match f.init||f.vq with
   |true=>lL (qT f n (G3 p) mu) os λr Z=>k r
   |false=>
    match G3 p with
     |.t t=>
      Q1 (d7 n mu) mu os λr Z=>match r with
       |.ok m _=>k (.ok (.t t) m)
       |_=>k (qT f n (.t t) mu)
     |v=>lL (qT f n v mu) os λr Z=>k r
 |.exc mu=>
  Q1 (d7 n mu) mu os λr Z=>match r with
   |.ok m _=>k (.exc m)
   |_=>k .aK
 |.aK=>k .aK
theorem WD{f:Fn}{n:aj}{t:T}{mu m:Mu}(h:(f.init||f.vq)=af)(e:d7 n mu=aa m):qT f n (.t t) mu=.ok (.t t) m:=by
 refine gf (df.mp h) λh1 h2=>?_;unfold qT;rw[h1,h2];show eh n (PV.t t) mu=_;unfold eh;rw[e];rfl
theorem FE{f:Fn}{n:aj}{r:Res (cB×Loc)}{os:ag Q0}{k:Res PV->Prop}(h:k (ends f n r)):Me f n r os k:=by
 cases r with
 |ok p mu=>
  unfold Me;dsimp only;have h:k (qT f n (G3 p) mu):=h;cases hb:(f.init||f.vq) with
  |true=>exact ft os _ λZ=>h
  |false=>
   cases hv:G3 p with
   |m i=>rw[hv] at h;exact ft os _ λZ=>h
   |t t=>
    rw[hv] at h;refine zA os _ λZ=>?_;cases hc:d7 n mu with
    |none=>exact h
    |some m=>rw[WD hb hc] at h;exact h
 |exc mu=>
  have h:k (exO (d7 n mu)):=h;unfold Me;dsimp only;refine zA os _ λZ=>?_;cases hc:d7 n mu with
  |none=>rw[hc] at h;exact h
  |some m=>rw[hc] at h;exact h
 |aK=>exact h
theorem bg(n f:aj)(as:ag PV)(mu:Mu){fn:Fn}(hf:FT f=aa fn)(ha:Md fn as=ae)(os:ag Q0):oG (exT (CN n) 12) fn.body (og fn (kM fn as)) mu os λr os=>Me fn mu.length r os λq=>CN (n+1) f as mu=q:=
 kH (zB 12) _ _ _ os _ λZ=>FE (by
  rw[show CN (n+1) f as mu=dO (FT f) λfn=>vr (CN n) fn as mu by unfold CN;rfl,hf]
  exact aA (bO ha))
structure Cu(d:ag aj)(i j:aj)(S:aj->Mu):Prop where
 (at_:∀b,(S b)[i]? =aa (cur d b)) (set:∀a b,(S a).set i (cur d b)=S b) (cl:∀b,Cl (S b)) (len:∀b,(S b).length=j)
section
variable{d:ag aj}{i j n k:aj}{S:aj->Mu}{L m:Mu}{c:ar (ar aj)}
theorem gk(c:Cl m)(h:k=m.length):Mine.d7 k (m++L)=aa m:=by
 unfold Mine.d7;rw[h,qi];exact aA c
theorem bx(c:Cl m)(h:k=m.length):Mine.d7 k m=aa m:=by
 unfold Mine.d7;rw[h,nz];exact aA c
theorem Cu.d7(z:Cu d i j S){a b:aj}:Mine.d7 (S a).length (S b)=aa (S b):=bx (z.cl b) ((z.len a).trans (z.len b).symm)
theorem Cu.gk(z:Cu d i j S){a b:aj}:Mine.d7 (S a).length (S b++L)=aa (S b):=Mine.gk (z.cl b) ((z.len a).trans (z.len b).symm)
theorem Cu.f0(z:Cu d i j S){a:aj}:bS (qq (.m i) 0 (S a)) (S a)=.ok (.t (.bytes d)) (S a):=by
 unfold qq;dsimp only;rw[z.at_ a];rfl
theorem Cu.f1(z:Cu d i j S){a:aj}:bS (qq (.m i) 1 (S a)) (S a)=.ok (.t (.int a)) (S a):=by
 unfold qq;dsimp only;rw[z.at_ a];rfl
theorem Cu.f2(z:Cu d i j S){a:aj}:bS (qq (.m i) 2 (S a)) (S a)=.ok (.t (.int d.length)) (S a):=by
 unfold qq;dsimp only;rw[z.at_ a];rfl
theorem Cu.s1(z:Cu d i j S){a b:aj}:sr (.m i) 1 (.t (.int b)) (S a)=aa (S b):=by
 unfold sr;dsimp only;rw[z.at_ a, <-z.set a b];rfl
theorem Cu.ca(z:Cu d i j S){a:aj}(h:fq 10 n=c):fq (kindOf (.m i) (S a)) n=c:=by
 unfold kindOf;dsimp only;rw[z.at_ a];exact h
theorem abj{k j:aj}{m:Mu}:eC .ge (.t (.int (k:aj))) (.t (.int (j:aj))) m=aa (decide (j<=k)):=av aa (decide_eq_decide.mpr dm)
theorem c5(z:Cu d i j S){a:aj}:CN (n+1) 5 [.m i] (S a)=.ok (.t (.bool (decide (d.length<=a)))) (S a):=
 bg n 5 [.m i] (S a) rfl rfl [.v (.ok (.t (.int a)) (S a)),.v (.ok (.t (.int d.length)) (S a)),.b (decide (d.length<=a)),.s (S a)] z.f1 z.f2 abj z.d7
end
section
variable{d r:ag aj}{i j n a t:aj}{S:aj->Mu}{m:Mu}
theorem dl(h:d.drop a=t::r):a<d.length:=gY λq=>by rw[nK q] at h;cases h
theorem dg(h:d.drop a=t::r):d[a]? =aa t:=by rw[<-o9,h];rfl
theorem dn(h:d.drop a=t::r):d.drop (a+1)=r:=by rw[<-dP,h];rfl
theorem Mf{k:bE}:k9 .add (.t (.int k)) (.t (.int 0)) m=.ok (.t (.int k)) m:=av (λk=>Res.ok (PV.t (.int k)) m) (bE.add_zero k)
theorem sV{k l:aj}(h:k<l):eC .lt (.t (.int (k:aj))) (.t (.int (l:aj))) m=aa true:=av aa (bc (cf.mpr h))
theorem H9{k l:aj}(h:l<=k):eC .lt (.t (.int (k:aj))) (.t (.int (l:aj))) m=aa false:=av aa (aY (jw.mpr (dm.mpr h)))
theorem ahM{k l:aj}(h:l<=k):eC .ge (.t (.int (k:aj))) (.t (.int (l:aj))) m=aa true:=av aa (bc (dm.mpr h))
theorem WE{k l:aj}(h:k<l):eC .ge (.t (.int (k:aj))) (.t (.int (l:aj))) m=aa false:=av aa (aY (lR.mpr (cf.mpr h)))
theorem fV{k l:aj}(h:k≠l):eC .eq (.t (.int (k:aj))) (.t (.int (l:aj))) m=aa false:=av aa (aD.mpr λe=>h (lm e))
theorem wz{α β:Type}{l:ag α}{f:α->β}{k:aj}{x:α}(h:l[k]? =aa x)(hl:l.length<=bp):idx l f (k:bE)=aa (f x):=by
 have e:=(ay.mp h).1;unfold idx Oa;rw[aA ⟨lg (by decide) (bR k),cf.mpr (bA (bw e hl) (by decide))⟩,aA (bR k),aA (cf.mpr e)]
 show(l[k]?).map f=_;rw[h];rfl
theorem Mg{l:ag aj}{i:bE}:mK (.t (.bytes l)) (.t (.int i)) m=idx l (λx:aj=>PV.t (.int (x:bE))) i:=rfl
theorem iQ(hd:d.length<=bp)(h:d.drop a=t::r):bS (mK (.t (.bytes d)) (.t (.int (a:aj))) m) m=.ok (.t (.int (t:aj))) m:=by
 rw[Mg,wz (dg h) hd];rfl
theorem c6(z:Cu d i j S)(hd:d.length<=bp)(h:d.drop a=t::r):CN (n+1) 6 [.m i] (S a)=.ok (.t (.int t)) (S a):=
 bg n 6 [.m i] (S a) rfl rfl [.v _,.v _,.v _,.b _,.v _,.v _,.s _] z.f1 Mf z.f2 (sV (dl h)) z.f0 (iQ hd h) z.d7
theorem c7(z:Cu d i j S)(hd:d.length<=bp)(h:d.drop a=t::r):CN (n+1) 7 [.m i] (S a)=.ok (.t (.int t)) (S (a+1)):=
 bg n 7 [.m i] (S a) rfl rfl [.v _,.v _,.b _,.v _,.v _,.v _,.v _,.a,.s _,.s _] z.f1 z.f2 (WE (dl h)) z.f0 z.f1 (iQ hd h) z.f1 z.s1 z.d7
theorem ahN(z:Cu d i j S)(hd:d.length<=bp)(h:d.drop a=10::r):CN (n+2) 12 [.m i] (S a)=.ok (.t (.bool ae)) (S (a+1)):=
 bg (n+1) 12 [.m i] (S a) rfl rfl [.k _,.v _,.a,.k _,.v _,.a,.v _,.a,.s _,.s _] (z.ca rfl) (c6 z hd h) (z.ca rfl) (c6 z hd h) z.f1 z.s1 z.d7
theorem DI(z:Cu d i j S)(hd:d.length<=bp)(h:d.drop a=t::r)(h1:t≠10)(h2:t≠13):CN (n+2) 12 [.m i] (S a)=.ok (.t (.bool af)) (S a):=
 bg (n+1) 12 [.m i] (S a) rfl rfl [.k _,.v _,.b _,.k _,.v _,.b _,.s _] (z.ca rfl) (c6 z hd h) (fV h2) (z.ca rfl) (c6 z hd h) (fV h1) z.d7
end
noncomputable def dT(b:ag S)(k:aj):S:=(b[k]?).getD .cont
noncomputable def whC:S->E
 |.while c _=>c
 |_=>.c .none
noncomputable def ip:S->ag S
 |.while _ b=>b
 |.for _ _ b=>b
 |.ifs _ a _=>a
 |_=>[]
noncomputable def Wh(C:Calls)(s:S)(n:aj)(au:Loc)(mu:Mu):Res (cB×Loc):=sx n (ni C (whC s)) (execs C (ip s)) au mu
section
variable(C:Calls)(s:S)(b:ag S)(n slot:aj)(au:Loc)(mu:Mu)(x:T)(r:ag T)(os:ag Q0)
theorem gA:(TP C 12).2 (whC s) au mu os λa os=>match a with
 |.ok x m=>
  match x with
   |true=>
    oG (exT C 12) (ip s) au m os λa Z=>match a with
     |.ok p m=>
      match p.1 with
       |.ret v=>Wh C s (n+1) au mu=.ok (.ret v,p.2) m
       |_=>∀q,Wh C s n p.2 m=q->Wh C s (n+1) au mu=q
     |_=>rV
   |false=>Wh C s (n+1) au mu=.ok (.next,au) m
 |_=>True:=(sU C 12).2 _ au mu os _ λos=>by
 have e:Wh C s (n+1) au mu=(n9 (ni C (whC s) au mu)).bind λx mu=>if x then(n9 (execs C (ip s) au mu)).bind λp mu=>oa p mu (Wh C s n) else .ok (.next,au) mu:=rfl
 rw[e];cases ni C (whC s) au mu with
 |ok x m=>
  cases x with
  |false=>exact rfl
  |true=>
   refine kH (zB 12) _ au m os _ λos=>?_;show match execs C (ip s) au m with |.ok p m=>_ |_=>_
   cases he:execs C (ip s) au m with
   |ok p m'=>
    obtain⟨fl,l⟩:=p;have e2:((n9 (Res.ok ae m)).bind λx mu=>if x then(n9 (execs C (ip s) au mu)).bind λp mu=>oa p mu (Wh C s n) else .ok (.next,au) mu)=oa (fl,l) m' (Wh C s n):=by
     show(n9 (execs C (ip s) au m)).bind _=_;rw[he];rfl
    rw[e2];cases fl with
    |ret v=>exact rfl
    |_=>exact λq h=>h
   |_=>exact trivial
 |_=>exact trivial
theorem iJ:oG (exT C 12) b (upd au slot (.t x)) mu os λa Z=>match a with
 |.ok p m=>
  match p.1 with
   |.ret v=>forL slot (execs C b) (x::r) au mu=.ok (.ret v,p.2) m
   |_=>∀q,forL slot (execs C b) r p.2 m=q->forL slot (execs C b) (x::r) au mu=q
 |_=>True:=kH (zB 12) b _ mu os _ λos=>by
 cases he:execs C b (upd au slot (.t x)) mu with
 |ok p m=>
  obtain⟨fl,l⟩:=p;have e:forL slot (execs C b) (x::r) au mu=oa (fl,l) m (forL slot (execs C b) r):=by
   show(n9 (execs C b (upd au slot (.t x)) mu)).bind _=_;rw[he];rfl
  rw[e];cases fl with
  |ret v=>exact rfl
  |_=>exact λq h=>h
 |_=>exact trivial
end
theorem mh{k:aj}(h:k<=bp):∃n,vp=n+1/\k<=n:=⟨1999999,rfl,ai h (by decide)⟩
noncomputable def BN(c:bE):Bool:=([.int 0,.int 9,.int 10,.int 12,.int 13,.int 32]:ag T).any (T.SS c)
noncomputable def abk(c:bE):Bool:=([.int 40,.int 41,.int 60,.int 62,.int 91,.int 93,.int 123,.int 125,.int 47,.int 37]:ag T).any (T.SS c)
noncomputable def sW(c:bE):Bool:=decide (0<=c)&&(!BN c&&!abk c)
section
variable{d r x y:ag aj}{i j n a:aj}{S:aj->Mu}{m:Mu}{c:bE}
theorem dk(h:d.drop a=x++y):d.drop (a+x.length)=y:=by rw[<-dP,h,lG]
theorem de(h:d.drop a=[]):d.length<=a:=GL.mp h
theorem Mh(h:d.drop a=r)(hd:d.length<=bp):r.length<=bp:=by rw[<-h,dD];exact ai (lQ ..) hd
theorem c1(h:Cl m):CN (n+1) 1 [.t (.int c)] m=.ok (.t (.bool (BN c))) m:=bg n 1 [.t (.int c)] m rfl rfl [.a,.s _] (bx h rfl)
theorem c2(h:Cl m):CN (n+1) 2 [.t (.int c)] m=.ok (.t (.bool (sW c))) m:=by
 unfold sW
 by_cases h0:0<=c
 ·rw[bc h0]
  cases hw:BN c with
  |true=>exact bg n 2 [.t (.int c)] m rfl rfl [.b ae,.a,.b af,.a,.s _] (av aa (bc h0)) (av (λb=>aa (!b)) hw) (bx h rfl)
  |false=>exact bg n 2 [.t (.int c)] m rfl rfl [.b ae,.a,.b ae,.a,.a,.s _] (av aa (bc h0)) (av (λb=>aa (!b)) hw) (bx h rfl)
 ·rw[aY h0]
  exact bg n 2 [.t (.int c)] m rfl rfl [.b af,.a,.s _] (av aa (aY h0)) (bx h rfl)
theorem c6e(z:Cu d i j S)(h:d.length<=a):CN (n+1) 6 [.m i] (S a)=.ok (.t (.int (-1))) (S a):=
 bg n 6 [.m i] (S a) rfl rfl [.v _,.v _,.v _,.b _,.s _] z.f1 Mf z.f2 (H9 h) z.d7
end
section
variable{d r x y w:ag aj}{i j n a b k t:aj}{S:aj->Mu}{m:Mu}{c:bE}
theorem gH{k l:aj}:k9 .add (.t (.int (k:aj))) (.t (.int (l:aj))) m=.ok (.t (.int (k+l:aj))) m:=rfl
theorem fO{k:aj}:k9 .add (.t (.int (k:aj))) (.t (.int 1)) m=.ok (.t (.int (k+1:aj))) m:=rfl
theorem sX{k l:bE}:k9 .sub (.t (.int k)) (.t (.int l)) m=.ok (.t (.int (k-l))) m:=rfl
theorem WG{k l:aj}(h:k<=l):eC .le (.t (.int (k:aj))) (.t (.int (l:aj))) m=aa true:=av aa (bc (dm.mpr h))
theorem abl{k l:aj}(h:l<k):eC .le (.t (.int (k:aj))) (.t (.int (l:aj))) m=aa false:=av aa (aY (lR.mpr (cf.mpr h)))
theorem TQ{x y:ag aj}(h:x=y):eC .eq (.t (.bytes x)) (.t (.bytes y)) m=aa true:=av aa (bT.mpr h)
theorem TR{x y:ag aj}(h:x≠y):eC .eq (.t (.bytes x)) (.t (.bytes y)) m=aa false:=av aa (aD.mpr h)
theorem jU(h:w.length<=bp):uf .len [.t (.bytes w)] m=.ok (.t (.int w.length)) m:=aA h
theorem len_app(h:d.drop a=x++y):a+x.length<=d.length\/x=[]:=by
 cases x with
 |nil=>exact .inr rfl
 |cons t x=>
  exact .inl (cH λq=>by
   have:=av jx h
   rw[dD,ah,aj.sub_eq_iff_eq_add' (cH λq=>by rw[nK (a9 q)] at h;cases h)] at this
   exact aQ q (eO.mpr (this▸bq (aw ..) a)))
theorem uM{k l:aj}(h:k<=l):clip l (k:bE)=k:=by
 unfold clip;rw[aL (jw.mpr (bR k)),UM (dm.mpr h),SK (bR k)];rfl
theorem slc(hd:d.length<=bp)(h1:a<=b)(h2:b<=d.length):lM (.t (.bytes d)) (aa (.t (.int (a:aj)))) (aa (.t (.int (b:aj)))) m=.ok (.t (.bytes ((d.drop a).take (b-a)))) m:=by
 have e:lH (.bytes d) (aa (a:bE)) (aa (b:bE))=aa (.bytes ((d.drop a).take (b-a))):=by
  simp only[lH];rw[aA hd];unfold cut;simp only[Yb];rw[uM (ai h1 h2),uM h2]
 show bS ((lH (.bytes d) (aa (a:bE)) (aa (b:bE))).map PV.t) m=_;rw[e];rfl
theorem TS(hd:d.length<=bp)(h:d.drop a=x++y)(ha:a<=d.length):lM (.t (.bytes d)) (aa (.t (.int (a:aj)))) (aa (.t (.int (a+x.length:aj)))) m=.ok (.t (.bytes x)) m:=by
 rw[slc hd (aw ..) ((len_app h).elim id λe=>by rw[e];exact ha),aU,h,qi]
theorem c8t(z:Cu d i j S)(hd:d.length<=bp)(hw:w.length<=bp)(h:d.drop a=w++r)(ha:a<=d.length):CN (n+1) 8 [.m i,.t (.bytes w)] (S a)=.ok (.t (.bool ae)) (S a):=
 bg n 8 [.m i,.t (.bytes w)] (S a) rfl rfl [.v _,.v _,.v _,.v _,.b _,.a,.v _,.v _,.v _,.v _,.v _,.v _,.b _,.s _] z.f1 (jU hw) gH z.f2 (WG ((len_app h).elim id λe=>by rw[e];exact ha)) z.f0 z.f1 z.f1 (jU hw) gH (TS hd h ha) (TQ rfl) z.d7
theorem c8f(z:Cu d i j S)(hd:d.length<=bp)(hw:w.length<=bp)(h:(d.drop a).take w.length≠w):CN (n+1) 8 [.m i,.t (.bytes w)] (S a)=.ok (.t (.bool af)) (S a):=by
 by_cases k:a+w.length<=d.length
 ·exact bg n 8 [.m i,.t (.bytes w)] (S a) rfl rfl [.v _,.v _,.v _,.v _,.b _,.a,.v _,.v _,.v _,.v _,.v _,.v _,.b _,.s _] z.f1 (jU hw) gH z.f2 (WG k) z.f0 z.f1 z.f1 (jU hw) gH (slc hd (aw ..) k) (TR (by rw[aU];exact h)) z.d7
 ·exact bg n 8 [.m i,.t (.bytes w)] (S a) rfl rfl [.v _,.v _,.v _,.v _,.b _,.a,.s _] z.f1 (jU hw) gH z.f2 (abl (gY k)) z.d7
theorem c9t(z:Cu d i j S)(hd:d.length<=bp)(hw:w.length<=bp)(h:d.drop a=w++r)(ha:a<=d.length):CN (n+2) 9 [.m i,.t (.bytes w)] (S a)=.ok (.t (.bool ae)) (S (a+w.length)):=
 bg (n+1) 9 [.m i,.t (.bytes w)] (S a) rfl rfl [.k _,.v _,.a,.v _,.v _,.v _,.s _,.s _] (z.ca rfl) (c8t z hd hw h ha) z.f1 (jU hw) gH z.s1 z.d7
theorem WH(z:Cu d i j S)(hd:d.length<=bp)(hw:w.length<=bp)(h:(d.drop a).take w.length≠w):CN (n+2) 9 [.m i,.t (.bytes w)] (S a)=.ok (.t (.bool af)) (S a):=
 bg (n+1) 9 [.m i,.t (.bytes w)] (S a) rfl rfl [.k _,.v _,.a,.s _] (z.ca rfl) (c8f z hd hw h) z.d7
noncomputable def Q5(c:bE):Int:=if c=110 then 10 else if c=114 then 13 else if c=116 then 9 else if c=98 then 8 else if c=102 then 12 else c
end
def kQ(ws:ag aj):Prop:=∀c∈ws,BN c=ae
def NoW(r:ag aj):Prop:=∀c r',r=c::r'->BN c=af/\c≠37
def Ia(r:ag aj):Prop:=∀c r',r=c::r'->sW c=af
def um(ws:ag aj):Prop:=∀c∈ws,sW c=ae
section
variable{d r x:ag aj}{i j n a b k t:aj}{S:aj->Mu}{m:Mu}{v:ar PV}{c:bE}{C:Calls}
theorem inW{b:aW}(h:BN c=b):eC .isIn (.t (.int c)) (.t (.tup [.int 0,.int 9,.int 10,.int 12,.int 13,.int 32])) m=aa b:=av aa h
theorem succ_pos{α:Type}{f:aj->α}{k:aj}:f (a+1+k)=f (a+(k+1)):=av f (Cp a k)
theorem l10(z:Cu d i j S)(hd:d.length<=bp)(hn:NoW r){x:ag aj}{n a:aj}{v:ar PV}(h:d.drop a=x++r)(hx:kQ x)(hl:x.length<=n):
 ∃v' fl,(fl=cB.next\/fl=.ret (.t .none))/\Wh C (dT ZN 0) (n+1) [aa (.m i),v,ac,ac,ac] (S a)=.ok (fl,[aa (.m i),v',ac,ac,ac]) (S (a+x.length)):=by
 induction x generalizing n a v with
 |nil=>
  cases r with
   |nil=>exact⟨v,_,.inl rfl,gA C (dT ZN 0) n [aa (.m i),v,ac,ac,ac] (S a) [.v _,.v _,.b _] z.f1 z.f2 (H9 (de h))⟩
   |cons t r=>exact⟨aa (.t (.int t)),_,.inr rfl,gA C (dT ZN 0) n [aa (.m i),v,ac,ac,ac] (S a) [.v _,.v _,.b _,.v _,.v _,.v _,.b _,.b _] z.f1 z.f2 (sV (dl h)) z.f0 z.f1 (iQ hd h) (fV (hn t r rfl).2) (inW (hn t r rfl).1)⟩
 |cons t x ih=>
  cases n with
   |zero=>exact aQ hl (fy _)
   |succ n=>
    have hw:=hx t (.head _);refine dZ (ih (v:=aa (.t (.int t))) (dn h) (λc m=>hx c (.tail _ m)) (bU hl)) λv' fl hf e=>?_;exact⟨v',fl,hf,(gA C (dT ZN 0) (n+1) [aa (.m i),v,ac,ac,ac] (S a) [.v _,.v _,.b _,.v _,.v _,.v _,.b _,.b _,.v _,.v _,.s _] z.f1 z.f2 (sV (dl h)) z.f0 z.f1 (iQ hd h) (fV λe=>aQ (e▸hw) (by decide)) (inW hw) z.f1 fO z.s1 _ e).trans (av (Res.ok _) (succ_pos (f:=S)))⟩
theorem c10(z:Cu d i j S)(hd:d.length<=bp)(h:d.drop a=x++r)(hx:kQ x)(hn:NoW r):CN (n+1) 10 [.m i] (S a)=.ok (.t .none) (S (a+x.length)):=by
 refine bH (mh (ai (by rw[ah];exact aw ..) (Mh h hd):x.length<=bp)) λf hf hl=>?_
 refine dZ (l10 (C:=CN n) (n:=f) (v:=ac) z hd hn h hx hl) λv' fl e h=>?_;rw[<-hf] at h;rcases e with rfl |rfl
 ·exact bg n 10 [.m i] (S a) rfl rfl [.l _,.s _] h z.d7
 ·exact bg n 10 [.m i] (S a) rfl rfl [.l _,.s _] h z.d7
end
section
variable{d r x:ag aj}{i j n a k t:aj}{S:aj->Mu}{m M:Mu}{v:ar PV}{c:bE}{C:Calls}{xs l:ag T}{cc:ar (ar aj)}
theorem l11(z:Cu d i j S)(hd:d.length<=bp)(hn:Ia r){x:ag aj}{f a:aj}(h:d.drop a=x++r)(hx:um x)(hl:x.length<=f):Wh (CN (n+1)) (dT ZO 1) (f+1) [aa (.m i),v,ac,ac,ac] (S a)=.ok (.next,[aa (.m i),v,ac,ac,ac]) (S (a+x.length)):=by
 induction x generalizing f a with
 |nil=>
  cases r with
   |nil=>exact gA _ (dT ZO 1) f [aa (.m i),v,ac,ac,ac] (S a) [.v _,.v _,.b _] z.f1 z.f2 (H9 (de h))
   |cons t r=>exact gA _ (dT ZO 1) f [aa (.m i),v,ac,ac,ac] (S a) [.v _,.v _,.b _,.v _,.v _,.v _,.v _,.b _] z.f1 z.f2 (sV (dl h)) z.f0 z.f1 (iQ hd h) (c2 (z.cl a)) (av aa (hn t r rfl))
 |cons t x ih=>
  cases f with
   |zero=>exact aQ hl (fy _)
   |succ f=>
    exact
     (gA _ (dT ZO 1) (f+1) [aa (.m i),v,ac,ac,ac] (S a) [.v _,.v _,.b _,.v _,.v _,.v _,.v _,.b _,.v _,.v _,.s _] z.f1 z.f2 (sV (dl h)) z.f0 z.f1 (iQ hd h) (c2 (z.cl a)) (av aa (hx t (.head _))) z.f1 fO z.s1 _
      (ih (dn h) (λc m=>hx c (.tail _ m)) (bU hl))).trans (av (Res.ok _) (succ_pos (f:=S)))
theorem DJ(h:d.drop a=x++r)(hd:d.length<=bp):x.length<=bp:=ai (by rw[ah];exact aw ..) (Mh h hd)
theorem c11(z:Cu d i j S)(hd:d.length<=bp)(h:d.drop a=x++r)(ha:a<=d.length)(hx:um x)(hn:Ia r):CN (n+2) 11 [.m i] (S a)=.ok (.t (.bytes x)) (S (a+x.length)):=by
 refine bH (mh (DJ h hd)) λf hf hl=>?_;have e:=l11 (n:=n) (v:=aa (.t (.int a))) z hd hn h hx hl;rw[<-hf] at e;exact bg (n+1) 11 [.m i] (S a) rfl rfl [.v _,.l _,.v _,.v _,.v _,.s _] z.f1 e z.f0 z.f1 (TS hd h ha) z.d7
theorem zC{k l:bE}(h:k<=l):eC .le (.t (.int k)) (.t (.int l)) m=aa true:=av aa (bc h)
theorem Mi{k l:bE}(h:¬k<=l):eC .le (.t (.int k)) (.t (.int l)) m=aa false:=av aa (aY h)
theorem pP{k l:bE}(h:k=l):eC .eq (.t (.int k)) (.t (.int l)) m=aa true:=av aa (bT.mpr h)
theorem mY{k l:bE}(h:k≠l):eC .eq (.t (.int k)) (.t (.int l)) m=aa false:=av aa (aD.mpr h)
theorem c34(h:Cl m):CN (n+1) 34 [.t (.int c)] m=.ok (.t (.int (Q5 c))) m:=by
 unfold Q5
 by_cases h1:c=110
 ·rw[aA h1];exact bg n 34 [.t (.int c)] m rfl rfl [.b _,.s _] (pP h1) (bx h rfl)
 rw[aL h1]
 by_cases h2:c=114
 ·rw[aA h2];exact bg n 34 [.t (.int c)] m rfl rfl [.b _,.b _,.s _] (mY h1) (pP h2) (bx h rfl)
 rw[aL h2]
 by_cases h3:c=116
 ·rw[aA h3];exact bg n 34 [.t (.int c)] m rfl rfl [.b _,.b _,.b _,.s _] (mY h1) (mY h2) (pP h3) (bx h rfl)
 rw[aL h3]
 by_cases h4:c=98
 ·rw[aA h4];exact bg n 34 [.t (.int c)] m rfl rfl [.b _,.b _,.b _,.b _,.s _] (mY h1) (mY h2) (mY h3) (pP h4) (bx h rfl)
 rw[aL h4]
 by_cases h5:c=102
 ·rw[aA h5];exact bg n 34 [.t (.int c)] m rfl rfl [.b _,.b _,.b _,.b _,.b _,.s _] (mY h1) (mY h2) (mY h3) (mY h4) (pP h5) (bx h rfl)
 rw[aL h5];exact bg n 34 [.t (.int c)] m rfl rfl [.b _,.b _,.b _,.b _,.b _,.s _] (mY h1) (mY h2) (mY h3) (mY h4) (mY h5) (bx h rfl)
noncomputable def TL(xs:ag T):MO:=.list (xs.map PV.t)
theorem Q6:∀(xs:ag T),eB (xs.map PV.t)=aa xs
 |[]=>rfl
 |x::xs=>by show(eB (xs.map PV.t)).map _=_;rw[Q6 xs];rfl
theorem r7{o:MO}(h:M.length=j):(M++[o])[j]? =aa o:=by rw[<-h,aZ (aP _),dA];rfl
theorem sY{o o':MO}(h:M.length=j):(M++[o]).set j o'=M++[o']:=by rw[<-h,cy _ _ (aP _),dA];rfl
theorem listE(h:M.length=j):listAt (M++[TL xs]) j=aa (xs.map PV.t):=by unfold listAt;rw[r7 h];rfl
theorem nl(h:M.length=j):DH [] M=.ok (.m j) (M++[TL []]):=h▸rfl
theorem kL(h:M.length=j)(hc:fq 3 n=cc):fq (kindOf (.m j) (M++[TL xs])) n=cc:=by
 unfold kindOf;dsimp only;rw[r7 h];exact hc
theorem BO{v:T}(h:M.length=j)(hl:xs.length<bp):ei C (.m j) 30 ac [.t v] (M++[TL xs])=.ok (.t .none) (M++[TL (xs++[v])]):=by
 show EM (.m j) (M++[TL xs]) (λi ys=>if ys.length<bp then Res.ok (PV.t .none) ((M++[TL xs]).set i (.list (ys++[.t v]))) else .aK)=_
 unfold EM;dsimp only;rw[listE h];show(if(xs.map PV.t).length<bp then Res.ok (PV.t .none) ((M++[TL xs]).set j (.list (xs.map PV.t++[.t v]))) else .aK)=_
 rw[aA (by rw[aq];exact hl),sY h]
 show Res.ok _ (M++[MO.list (xs.map PV.t++[PV.t v])])=Res.ok _ (M++[MO.list ((xs++[v]).map PV.t)]);rw[br];rfl
theorem m31(h:M.length=j)(hl:xs.length+l.length<bp):ei C (.m j) 31 ac [.t (.list l)] (M++[TL xs])=.ok (.t .none) (M++[TL (xs++l)]):=by
 show EM (.m j) (M++[TL xs]) (λi ys=>if ys.length+(l.map PV.t).length<bp then Res.ok (PV.t .none) ((M++[TL xs]).set i (.list (ys++l.map PV.t))) else .aK)=_
 unfold EM;dsimp only;rw[listE h];show(if(xs.map PV.t).length+(l.map PV.t).length<bp then Res.ok (PV.t .none) ((M++[TL xs]).set j (.list (xs.map PV.t++l.map PV.t))) else .aK)=_
 rw[aA (by rw[aq,aq];exact hl),sY h, <-br];rfl
end
noncomputable def nats(x:ag aj):ag T:=x.map λc:aj=>.int (c:bE)
theorem rJ{x:ag aj}{c:aj}:nats x++[.int (c:bE)]=nats (x++[c]):=by unfold nats;rw[br];rfl
theorem iw{x:ag aj}:(nats x).length=x.length:=aq ..
theorem sZ:∀(x:ag aj),nZ (nats x)=aa (x.map λc:aj=>(c:bE))
 |[]=>rfl
 |c::x=>by show(nZ (nats x)).map _=_;rw[sZ x];rfl
section
variable{d r x:ag aj}{i j n a b k t e:aj}{S:aj->Mu}{m M:Mu}{v st:ar PV}{c:bE}{xs l:ag T}
theorem Ib:(TL xs).closed n=true:=aE.mpr λp h=>by obtain⟨t,_,rfl⟩:=aT.mp h;rfl
theorem PV.up(h:n<=k){v:PV}(q:v.closed n=ae):v.closed k=true:=by
 cases v with
 |t=>rfl
 |m i=>exact bc (bw (bO q) h)
theorem MO.up(h:n<=k){o:MO}(q:o.closed n=ae):o.closed k=true:=by
 cases o with
 |list xs=>exact aE.mpr λp m=>PV.up h (aE.mp q p m)
 |inst c fs=>exact aE.mpr λp m=>PV.up h (aE.mp q p m)
 |_=>rfl
theorem Cl.tl(h:Cl m):Cl (m++[TL xs]):=aE.mpr λo q=>(bt.mp q).elim (λq=>MO.up (by rw[ah];exact aw ..) (aE.mp h o q)) λq=>by rw[aC.mp q];exact Ib
theorem Cu.tl(z:Cu d i j S):Cu d i (j+1) λb=>S b++[TL xs] where
 at_ b:=by rw[bo (ay.mp (z.at_ b)).1];exact z.at_ b
 set a b:=by rw[gz _ _ (ay.mp (z.at_ a)).1,z.set]
 cl b:=(z.cl b).tl
 len b:=by rw[ah,z.len];rfl
theorem Oo(z:Cu d i j S)(h:d.drop a=t::r):CN (n+1) 5 [.m i] (S a)=.ok (.t (.bool af)) (S a):=by rw[c5 z,aY (N2.mpr (dl h))]
theorem c37(z:Cu d i j S)(hd:d.length<=bp)(h:d.drop a=t::r)(h1:t≠10)(h2:t≠13)(h3:t<48\/55<t):CN (n+3) 37 [.m i] (S a)=.ok (.t (.list [.int (Q5 t)])) (S (a+1)):=by
 by_cases h4:48<=t
 ·exact bg (n+2) 37 [.m i] (S a) rfl rfl [.k _,.v _,.a,.k _,.v _,.a,.k _,.v _,.b _,.b _,.v _,.a,.s _] (z.ca rfl) (Oo z h) (z.ca rfl) (DI z hd h h1 h2) (z.ca rfl) (c7 z hd h) (zC (dm.mpr h4)) (Mi (lR.mpr (cf.mpr (h3.resolve_left (eO.mpr h4))))) (c34 (z.cl _)) z.d7
 ·exact bg (n+2) 37 [.m i] (S a) rfl rfl [.k _,.v _,.a,.k _,.v _,.a,.k _,.v _,.b _,.v _,.a,.s _] (z.ca rfl) (Oo z h) (z.ca rfl) (DI z hd h h1 h2) (z.ca rfl) (c7 z hd h) (Mi (lR.mpr (cf.mpr (gY h4)))) (c34 (z.cl _)) z.d7
theorem qB:∀(x:ag aj),(∀c∈x,c<256)->codes (x.map λc:aj=>(c:bE))=aa x
 |[],_=>rfl
 |c::x,h=>
  by
   show(if 0<=(c:bE)/\(c:bE)<256 then(codes (x.map λc:aj=>(c:bE))).map ((c:bE).toNat::·) else ac)=_
   rw[aA ⟨bR c,cf.mpr (h c (.head _))⟩,qB x λc m=>h c (.tail _ m)];rfl
theorem zD(h:M.length=j)(hb:∀c∈x,c<256)(hl:x.length<=bp):uf .bytes [.m j] (M++[TL (nats x)])=.ok (.t (.bytes x)) (M++[TL (nats x)]):=by
 have e:look (.m j) (M++[TL (nats x)])=aa (.list (nats x)):=by
  unfold look;dsimp only;rw[r7 h];show(eB ((nats x).map PV.t)).map T.list=_;rw[Q6];rfl
 show O9 (look (.m j) (M++[TL (nats x)])) (λl=>dO ((nZ l).bind codes) λcs=>jL cs (M++[TL (nats x)]))=_;rw[e];show dO ((nZ (nats x)).bind codes) _=_;rw[sZ,jR,qB x hb];exact aA hl
abbrev Oq:=aj×aW
noncomputable def zE(c:aj):Nat:=if c=13 then 114 else c
noncomputable def lb(t:Oq):ag Nat:=if t.2 then[92,zE t.1] else[t.1]
noncomputable def Yo(t:Oq):Prop:=if t.2 then t.1=13\/t.1=92\/t.1=40\/t.1=41 else t.1≠13/\t.1≠92/\t.1<256
noncomputable def BP:aj->ag Oq->Prop
 |k,[]=>k=0
 |k,(c,b)::r=>if b then BP k r else if c=40 then BP (k+1) r else if c=41 then(∃j,k=j+1/\BP j r) else BP k r
theorem WI{c:aj}(h:c=13\/c=92\/c=40\/c=41):Q5 (zE c:aj)=c/\zE c≠10/\zE c≠13/\(zE c<48\/55<zE c):=by
 rcases h with rfl |rfl |rfl |rfl<;>decide
theorem Mj{t:Oq}(h:Yo t):t.1<256:=by
 obtain⟨t,q⟩:=t;cases q with
 |true=>exact(show t=13\/t=92\/t=40\/t=41 from h).elim (λe=>e▸by decide) λh=>h.elim (λe=>e▸by decide) λh=>h.elim (λe=>e▸by decide) λe=>e▸by decide
 |false=>exact h.2.2
theorem WJ{k:aj}:k9 .sub (.t (.int ((k+1+1:aj):bE))) (.t (.int 1)) m=.ok (.t (.int ((k+1:aj):bE))) m:=av (λi=>Res.ok (PV.t (.int i)) m) (by omega)
theorem p1{k p:aj}(h:a+(k+1)+e=p):a+1+k+e=p:=by rw[<-h,cS a 1 k];rfl
theorem oo1{s l o:ag aj}(h:s++t::l=o):s++[t]++l=o:=by rw[<-h,az];rfl
theorem o2{s l o:ag aj}(h:s++t::l=o)(hl:o.length<bp):s.length+1<bp:=ax (by rw[<-h,ah];exact bq (bI (cF _)) _) hl
theorem l38(z:Cu d i j S)(hd:d.length<=bp){p:aj}{o:ag aj}(hc:∀c∈o,c<256)(hl:o.length<bp):∀{iP:ag Oq}{f a e:aj}{s:ag aj}{v:ar PV},d.drop a=iP.flatMap lb++41::r->(∀t∈iP,Yo t)->BP e iP->a+(iP.flatMap lb).length+1=p->s++iP.map (·.1)=o->iP.length<=f->
 Wh (CN (n+3)) (dT Th 3) (f+1) [aa (.m i),st,aa (.m j),aa (.t (.int (e+1:aj))),v,ac,ac,ac] (S a++[TL (nats s)])=.ok (.ret (.t (.bytes o)),[aa (.m i),st,aa (.m j),aa (.t (.int 0)),aa (.t (.int 41)),ac,ac,ac]) (S p++[TL (nats o)]):=by
 intro iP
 induction iP with
 |nil=>
  intro f a e s v h _ hb hp ho _;have z':=z.tl (xs:=nats o);cases (show e=0 from hb)
  cases hp;cases (aH s).symm.trans ho;exact gA _ (dT Th 3) f [aa (.m i),st,aa (.m j),aa (.t (.int (0+1:aj))),v,ac,ac,ac] (S a++[TL (nats o)]) [.k _,.v _,.a,.k _,.v _,.a,.k _,.v _,.a,.a,.a,.a,.a,.v _] (z'.ca rfl) (Oo z' h) (z'.ca rfl) (DI z' hd h (by decide) (by decide)) (z'.ca rfl) (c7 z' hd h) (zD (z.len _) hc (a9 hl))
 |cons tq iP ih=>
  intro f a e s v h hi hb hp ho hf;obtain⟨t,q⟩:=tq;cases f with
  |zero=>exact aQ hf (fy _)
  |succ f=>
  cases q with
  |true=>
   have z':=z.tl (xs:=nats s);refine ud (WI (hi (t,ae) (.head _))) λx1 x2 x3 x4=>?_;have h:d.drop a=92::zE t::(iP.flatMap lb++41::r):=h;have e5:=c37 (n:=n) z' hd (dn h) x2 x3 x4;rw[x1] at e5;exact gA _ (dT Th 3) (f+1) [aa (.m i),st,aa (.m j),aa (.t (.int (e+1:aj))),v,ac,ac,ac] (S a++[TL (nats s)]) [.k _,.v _,.a,.k _,.v _,.a,.k _,.v _,.a,.k _,.v _,.v _] (z'.ca rfl) (Oo z' h) (z'.ca rfl) (DI z' hd h (by decide) (by decide)) (z'.ca rfl) (c7 z' hd h) (kL (z.len _) rfl) e5 (m31 (z.len _) (iw▸o2 ho hl)) _
    (rJ▸ih (dn (dn h)) (λc m=>hi c (.tail _ m)) hb (p1 (p1 hp)) (oo1 ho) (bU hf))
  |false=>
   have z':=z.tl (xs:=nats s);have h:d.drop a=t::(iP.flatMap lb++41::r):=h;refine nY ((show t≠13/\t≠92/\t<256 from hi (t,af) (.head _))) λx1 x2 Z=>?_
   have ih:=λe v hb=>ih (e:=e) (v:=v) (dn h) (λc m=>hi c (.tail _ m)) hb (p1 hp) (oo1 ho) (bU hf);rw[<-rJ] at ih
   by_cases h10:t=10
   ·subst h10
    exact gA _ (dT Th 3) (f+1) [aa (.m i),st,aa (.m j),aa (.t (.int (e+1:aj))),v,ac,ac,ac] (S a++[TL (nats s)]) [.k _,.v _,.a,.k _,.v _,.a,.k _,.v _] (z'.ca rfl) (Oo z' h) (z'.ca rfl) (ahN z' hd h) (kL (z.len _) rfl) (BO (z.len _) (iw▸gB (o2 ho hl))) _ (ih _ _ hb)
   by_cases yC:t=40
   ·subst yC
    exact gA _ (dT Th 3) (f+1) [aa (.m i),st,aa (.m j),aa (.t (.int (e+1:aj))),v,ac,ac,ac] (S a++[TL (nats s)]) [.k _,.v _,.a,.k _,.v _,.a,.k _,.v _,.a,.a,.v _,.a,.k _,.v _] (z'.ca rfl) (Oo z' h) (z'.ca rfl) (DI z' hd h h10 x1) (z'.ca rfl) (c7 z' hd h) fO (kL (z.len _) rfl) (BO (z.len _) (iw▸gB (o2 ho hl))) _ (ih (e+1) _ hb)
   by_cases I2:t=41
   ·subst I2
    refine bH ((show ∃j,e=j+1/\BP j iP from hb)) λk z0 hk=>?_;subst z0
    exact gA _ (dT Th 3) (f+1) [aa (.m i),st,aa (.m j),aa (.t (.int (k+1+1:aj))),v,ac,ac,ac] (S a++[TL (nats s)]) [.k _,.v _,.a,.k _,.v _,.a,.k _,.v _,.a,.a,.a,.v _,.b _,.k _,.v _] (z'.ca rfl) (Oo z' h) (z'.ca rfl) (DI z' hd h h10 x1) (z'.ca rfl) (c7 z' hd h) WJ (fV (dW k)) (kL (z.len _) rfl) (BO (z.len _) (iw▸gB (o2 ho hl))) _ (ih k _ hk)
   have hb:BP e iP:=by
    have hb:(if t=40 then BP (e+1) iP else if t=41 then(∃j,e=j+1/\BP j iP) else BP e iP):=hb
    rwa[aL yC,aL I2] at hb
   exact gA _ (dT Th 3) (f+1) [aa (.m i),st,aa (.m j),aa (.t (.int (e+1:aj))),v,ac,ac,ac] (S a++[TL (nats s)]) [.k _,.v _,.a,.k _,.v _,.a,.k _,.v _,.b _,.b _,.b _,.k _,.v _] (z'.ca rfl) (Oo z' h) (z'.ca rfl) (DI z' hd h h10 x1) (z'.ca rfl) (c7 z' hd h) (fV x2) (fV yC) (fV I2) (kL (z.len _) rfl) (BO (z.len _) (iw▸gB (o2 ho hl))) _ (ih e _ hb)
theorem c38(z:Cu d i j S)(hd:d.length<=bp){iP:ag Oq}(h:d.drop a=iP.flatMap lb++41::r)(hi:∀t∈iP,Yo t)(hb:BP 0 iP)(hl:iP.length<bp):CN (n+4) 38 [.m i] (S a)=.ok (.t (.bytes (iP.map (·.1)))) (S (a+(iP.flatMap lb).length+1)):=by
 refine bH (mh (a9 hl)) λf hf hk=>?_;have e:=l38 (n:=n) (st:=aa (.t (.int ((a:bE)-1)))) (v:=ac) (s:=[]) z hd (o:=iP.map (·.1)) (λc m=>(aT.mp m).elim λt m=>m.2▸Mj (hi t m.1)) (by rw[aq];exact hl) h hi hb rfl rfl hk
 rw[<-hf] at e;exact bg (n+3) 38 [.m i] (S a) rfl rfl [.v _,.v _,.v _,.l _,.s _] z.f1 sX (nl (z.len _)) e z.gk
end
noncomputable def hx(k:aj):Nat:=if k<10 then 48+k else 55+k
noncomputable def oJ(c:aj):ag Nat:=[hx (c/16),hx (c%16)]
noncomputable def pl(c:aj):Bool:=!(decide (c<33)||decide (126<c)||c==35)&&sW c
noncomputable def wD(c:aj):ag Nat:=if pl c=ae then[c] else 35::oJ c
noncomputable def ones(s:ag aj):ag T:=(s.map λc=>[c]).map .str
theorem abm{s:ag aj}{c:aj}:ones s++[.str [c]]=ones (s++[c]):=by unfold ones;rw[br,br];rfl
theorem FG{s:ag aj}:(ones s).length=s.length:=by unfold ones;rw[aq,aq]
theorem mZ:∀s:ag aj,joined [] (s.map λc=>[c])=s
 |[]=>rfl
 |[c]=>rfl
 |c::b::r=>by show[c]++[]++joined [] ((b::r).map λc=>[c])=_;rw[mZ (b::r)];rfl
theorem BQ:∀ss:ag (ag aj),tK (ss.map T.str)=aa ss
 |[]=>rfl
 |s::r=>by show(tK (r.map T.str)).map _=_;rw[BQ r];rfl
section
variable{y w D:ag aj}{i j n a b k t e:aj}{m M:Mu}{v:ar PV}{c:bE}{C:Calls}{xs l:ag T}{u:PV}
theorem Mk(h:M.length=j):look (.m j) (M++[TL xs])=aa (.list xs):=by
 unfold look;dsimp only;rw[r7 h];show(eB (xs.map PV.t)).map T.list=_;rw[Q6];rfl
theorem Ml{ss:ag (ag aj)}(h:look u M=aa (.list (ss.map .str)))(hl:(joined [] ss).length<=bp):ei C (.t (.str [])) 34 ac [u] M=.ok (.t (.str (joined [] ss))) M:=by
 show O9 (look u M) (λl=>ST M l (.str []))=_;rw[h];show dO (tK (ss.map .str)) (λss=>xY (joined [] ss) M)=_;rw[BQ];exact aA hl
theorem Q7{as:ag PV}:uf .chr as M=xZ as (λa=>Ay a λa=>Jv a λa=>if 0<=a/\a<1114112 then .ok (.t (.str [a.toNat])) M else .aK):=rfl
theorem abn{f:PV->Res PV}:xZ [u] f=f u:=rfl
theorem abo{t:T}{f:T->Res PV}:Ay (.t t) f=f t:=rfl
theorem abp{i:bE}{f:bE->Res PV}:Jv (.int i) f=f i:=rfl
theorem Q8{c:aj}(h:c<256):uf .chr [.t (.int c)] M=.ok (.t (.str [c])) M:=by
 rw[Q7,abn,abo,abp,aA ⟨bR c,cf.mpr (bA h (by decide))⟩];rfl
theorem abq{p q:aj}:k9 .sub (.t (.int ((p+q:aj):bE))) (.t (.int (p:aj))) m=.ok (.t (.int (q:aj))) m:=av (λi=>Res.ok (PV.t (.int i)) m) (by omega)
theorem c33(h:Cl m)(hk:k<16):CN (n+1) 33 [.t (.int (hx k:aj))] m=.ok (.t (.int k)) m:=by
 unfold hx
 by_cases h1:k<10
 ·rw[aA h1]
  exact bg n 33 [.t (.int (48+k:aj))] m rfl rfl [.b _,.b _,.v _,.s _] (zC (dm.mpr (aw 48 k))) (zC (dm.mpr (by omega:48+k<=57))) (abq (p:=48)) (bx h rfl)
 ·rw[aL h1]
  exact bg n 33 [.t (.int (55+k:aj))] m rfl rfl [.b _,.b _,.b _,.b _,.v _,.s _] (zC (dm.mpr (by omega:48<=55+k))) (Mi (lR.mpr (cf.mpr (by omega:57<55+k)))) (zC (dm.mpr (by omega:65<=55+k))) (zC (dm.mpr (by omega:55+k<=70))) (abq (p:=55)) (bx h rfl)
theorem WK{k:aj}:eC .ge (.t (.int (k:aj))) (.t (.int 0)) m=aa true:=av aa (bc (bR k))
theorem zF{a b:bE}(h:mJ a=ae):G1 .mul (.int a) (.int b) m=.ok (.t (.int (a*b))) m:=aA (by rw[h];rfl)
theorem DK{o:O5}{t u:T}{q:Res PV}(h:G1 o t u m=q):k9 o (PV.t t) (PV.t u) m=q:=h
theorem Q9{p q:aj}(h:mJ (p:aj)=ae):k9 .mul (.t (.int (p:aj))) (.t (.int (q:aj))) m=.ok (.t (.int (p*q:aj))) m:=DK ((zF h).trans (av (λi=>Res.ok (PV.t (.int i)) m) (UE p q).symm))
theorem abr{c:aj}(h:pl c=ae):c≠35:=λe=>by subst e;exact aQ h (by decide)
theorem l35(hm:Cl M)(hj:M.length=j){s:ag aj}(hD:D.length<=bp)(hs:s.length<bp){at_:bE}:∀{q:ag aj}{f b:aj}{p:ag aj}{v y z:ar PV},D.drop b=q.flatMap wD->(∀c∈q,0<c/\c<256)->p++q=s->q.length<=f->
 ∃w v' y' z',Wh (CN (n+1)) (dT ZQ 2) (f+1) [aa (.t (.bytes D)),aa (.t (.int at_)),aa (.m j),aa (.t (.int (b:aj))),v,y,z,ac,ac,ac] (M++[TL (ones p)])=.ok (.next,[aa (.t (.bytes D)),aa (.t (.int at_)),aa (.m j),w,v',y',z',ac,ac,ac]) (M++[TL (ones s)]):=by
 intro q
 induction q with
 |nil=>
  intro f b p v y z h _ hp _;cases (aH p).symm.trans hp;exact⟨_,_,_,_,gA _ (dT ZQ 2) f [aa (.t (.bytes D)),aa (.t (.int at_)),aa (.m j),aa (.t (.int (b:aj))),v,y,z,ac,ac,ac] (M++[TL (ones s)]) [.v _,.b _] (jU hD) (H9 (de h))⟩
 |cons c q ih=>
  intro f b p v y z h hq hp hf;cases f with
  |zero=>exact aQ hf (fy _)
  |succ f=>
   have hc:=hq c (.head _);have hl:=gB (o2 hp hs);have ih:=λb v y z h=>ih (f:=f) (b:=b) (v:=v) (y:=y) (z:=z) h (λc m=>hq c (.tail _ m)) (oo1 hp) (bU hf);rw[<-abm] at ih;have h:D.drop b=wD c++q.flatMap wD:=h;unfold wD at h
   by_cases hpl:pl c=ae
   ·rw[aA hpl] at h
    have h:D.drop b=c::q.flatMap wD:=h;refine OX (ih (b+1) (aa (.t (.int c))) y z (dn h)) λw v' y' z' e=>?_;exact⟨w,v',y',z',gA _ (dT ZQ 2) (f+1) [aa (.t (.bytes D)),aa (.t (.int at_)),aa (.m j),aa (.t (.int (b:aj))),v,y,z,ac,ac,ac] (M++[TL (ones p)]) [.v _,.b _,.v _,.v _,.b _,.b _,.k _,.v _,.v _] (jU hD) (sV (dl h)) (iQ hD h) fO (fV (abr hpl)) (fV (jJ hc.1)) (kL hj rfl) (Q8 hc.2) (BO hj (FG▸hl)) _ e⟩
   ·rw[aL hpl] at h
    have h:D.drop b=35::hx (c/16)::hx (c%16)::q.flatMap wD:=h;refine OX (ih (b+1+2) (aa (.t (.int c))) (aa (.t (.int (c/16:aj)))) (aa (.t (.int (c%16:aj)))) (dn (dn (dn h)))) λw v' y' z' e=>?_;exact⟨w,v',y',z',gA _ (dT ZQ 2) (f+1) [aa (.t (.bytes D)),aa (.t (.int at_)),aa (.m j),aa (.t (.int (b:aj))),v,y,z,ac,ac,ac] (M++[TL (ones p)]) [.v _,.b _,.v _,.v _,.a,.v _,.v _,.b _,.v _,.v _,.v _,.v _,.v _,.b _,.b _,.v _,.v (.ok (.t (.int c)) _),.v _,.b _,.k _,.v _,.v _] (jU hD) (sV (dl h)) (iQ hD h) fO fO (jU hD) (sV (dl (dn (dn h)))) (iQ hD (dn h)) (c33 (hm.tl) (fx hc.2)) fO (iQ hD (dn (dn h))) (c33 (hm.tl) (o8 _ (by decide))) WK WK (Q9 (p:=16) (by decide)) (gH.trans (by rw[UN])) (gH (l:=2)) (fV (jJ hc.1)) (kL hj rfl) (Q8 hc.2) (BO hj (FG▸hl)) _ e⟩
theorem c35{s:ag aj}{at_:bE}(hm:Cl M)(hs:∀c∈s,0<c/\c<256)(hD:(s.flatMap wD).length<=bp)(hl:s.length<bp):CN (n+2) 35 [.t (.bytes (s.flatMap wD)),.t (.int at_)] M=.ok (.t (.str s)) M:=by
 refine bH (mh (a9 hl)) λf hf hk=>?_;refine OX (l35 (n:=n) (M:=M) (at_:=at_) (b:=0) (p:=[]) (v:=ac) (y:=ac) (z:=ac) hm rfl hD hl rfl hs rfl hk) λw v y z e=>?_;rw[<-hf] at e;exact bg (n+1) 35 [.t (.bytes (s.flatMap wD)),.t (.int at_)] M rfl rfl [.v _,.l _,.a,.v (.ok (.t (.str s)) _),.s _] (nl rfl) e ((Ml (Mk rfl) (by rw[mZ];exact a9 hl)).trans (by rw[mZ])) (gk hm rfl)
end
section
variable(C:Calls)(e:E)(as:ag E)(au:Loc)(mu:Mu)(os:ag Q0)
theorem gJ:(TP C 12).1 e au mu os λr Z=>ev C e au mu=r:=(sU C 12).1 e au mu os _ λZ=>rfl
theorem DL:(TP C 12).2 e au mu os λr Z=>ni C e au mu=r:=(sU C 12).2 e au mu os _ λZ=>rfl
theorem Ra:rI (TP C 12).1 as au mu os λr Z=>match r with
 |.ok vs m=>∀l,gi vs=aa l->io C (.range as) au mu=.ok (l,au) m
 |_=>True:=iV (sU C 12).1 as au mu os _ λZ=>by
 show match su C as au mu with |.ok vs m=>∀l,gi vs=aa l->(su C as au mu).bind _=_ |_=>rV
 cases su C as au mu with
 |ok vs m=>exact λl h=>by show bS ((gi vs).map _) m=_;rw[h];rfl
 |_=>exact trivial
end
section
variable{C:Calls}{elt e:E}{slot j:aj}{au gq:Loc}{mu m M:Mu}{it:It}{b:ag S}{xs ys:ag T}{N:aj->Mu}{t:T}{q:Res (cB×Loc)}{l:ag T}
theorem lN(h:ev C e au mu=.ok (.t t) m)(hi:lJ t=aa l):io C (.val e) au mu=.ok (l,au) m:=by
 show(ev C e au mu).bind _=_;rw[h];show bS ((lJ t).map _) m=_;rw[hi];rfl
theorem ix(hi:io C it au mu=.ok (xs,gq) m)(h:forL slot (execs C b) xs gq m=q):exec C (.for slot it b) au mu=q:=by
 show(io C it au mu).bind _=_;rw[hi];exact h
theorem uN(h:M.length=j)(hl:xs.length<bp):n8 j t (M++[TL xs])=.ok () (M++[TL (xs++[t])]):=by
 unfold n8;rw[listE h];show(if(xs.map PV.t).length<bp then _ else _)=_
 rw[aA (by rw[aq];exact hl),sY h]
 show Res.ok _ (M++[MO.list (xs.map PV.t++[PV.t t])])=Res.ok _ (M++[MO.list ((xs++[t]).map PV.t)]);rw[br];rfl
noncomputable abbrev ja(C:Calls)(elt:E)(dN:ag E)(j:aj):Loc->Mu->Res Unit:=λau d9=>(i6 C dN au d9).bind λb d9=>if b then(ev C elt au d9).bind λv d9=>(d0 v d9).bind λt d9=>n8 j t d9 else .ok () d9
theorem Rc(hj:∀k,(N k).length=j):∀{xs ys a8:ag T}{k:aj},a8.length+xs.length<=bp->xs.length=ys.length->(∀(i:aj) x y a8,xs[i]? =aa x->ys[i]? =aa y->ev C elt (upd au slot (.t x)) (N (k+i)++[TL a8])=.ok (.t y) (N (k+i+1)++[TL a8]))->
 dS (ja C elt [] j) slot au xs (N k++[TL a8])=.ok () (N (k+xs.length)++[TL (a8++ys)]):=by
 intro xs
 induction xs with
 |nil=>
  intro ys a8 k _ hl _;cases ey hl.symm;rw[aH];rfl
 |cons x xs ih=>
  intro ys a8 k hn hl st;cases ys with
  |nil=>cases hl
  |cons y ys=>
   show((ev C elt (upd au slot (.t x)) (N k++[TL a8])).bind λv d9=>(d0 v d9).bind λt d9=>n8 j t d9).bind _=_;have e0:ev C elt (upd au slot (.t x)) (N k++[TL a8])=.ok (.t y) (N (k+1)++[TL a8]):=st 0 x y a8 rfl rfl;rw[e0];show(n8 j y (N (k+1)++[TL a8])).bind (λZ mu=>dS (ja C elt [] j) slot au xs mu)=_;rw[uN (hj _) (bw (dE (gC _)) hn)];show dS (ja C elt [] j) slot au xs (N (k+1)++[TL (a8++[y])])=_;rw[ih (ys:=ys) (by rw[ah,bZ,bB [y].length];exact hn) (jf hl) λi x' y' a8 h1 h2=>by rw[cS k 1 i];exact st (i+1) x' y' a8 h1 h2,az,cS k 1];rfl
theorem FH(hit:io C it au mu=.ok (xs,gq) (N 0))(hj:∀k,(N k).length=j)(hc:∀k,Cl (N k))(hn:xs.length<=bp)(hl:xs.length=ys.length)
 (st:∀(i:aj) x y a8,xs[i]? =aa x->ys[i]? =aa y->ev C elt (upd gq slot (.t x)) (N i++[TL a8])=.ok (.t y) (N (i+1)++[TL a8])):ev C (.comp elt slot it []) au mu=.ok (.t (.list ys)) (N xs.length):=by
 show(io C it au mu).bind (λp mu=>(dS (ja C elt [] mu.length) slot p.2 p.1 (mu++[TL []])).bind λZ d9=>eD mu.length d9)=_;rw[hit];show(dS (ja C elt [] (N 0).length) slot gq xs (N 0++[TL []])).bind (λZ d9=>eD (N 0).length d9)=_;rw[hj 0,Rc hj (a8:=[]) (ys:=ys) (k:=0) (by rw[c0,bM];exact hn) hl λi x y a8 h1 h2=>by rw[bM];exact st i x y a8 h1 h2,bM]
 show eD j (N xs.length++[TL ys])=_;unfold eD;rw[aA (by rw[ah,hj];rfl),r7 (hj _)]
 show dO (eB (ys.map PV.t)) (λts=>eh j (PV.t (.list ts)) (N xs.length++[TL ys]))=_;rw[Q6];show eh j _ _=_;unfold eh;rw[gk (hc _) (hj _).symm];rfl
theorem comp_map(g:T->T)(hit:io C it au mu=.ok (xs,gq) M)(hc:Cl M)(hn:xs.length<=bp)(st:∀x∈xs,∀a8,ev C elt (upd gq slot (.t x)) (M++[TL a8])=.ok (.t (g x)) (M++[TL a8])):ev C (.comp elt slot it []) au mu=.ok (.t (.list (xs.map g))) M:=
 FH (N:=λZ=>M) hit (λZ=>rfl) (λZ=>hc) hn (aq ..).symm λi x y a8 h1 h2=>by
  rw[dh,h1] at h2;cases h2;exact st x (cp h1) a8
theorem uO{b:aj}(h:b<=2*bp):n7 (b:bE)=true:=bc ⟨tE (by decide) (bR b),cf.mpr (ax h (by decide))⟩
theorem DM{a b c:bE}{n:aj}{f:aj->T}(h:b-a<=bp)(ha:n7 a=ae)(hb:n7 b=ae)(hc:0<c)(Ld:n7 c=ae)(hn:(if a<b then(b-a-1)/c+1 else 0).toNat=n)(hf:∀j,T.int (a+(j:aj)*c)=f j):Jz a b c=aa ((be n).map f):=
 (aA ⟨h,ha,hb,hc,Ld⟩).trans (by unfold G2;rw[hn];exact av aa (IH λj Z=>hf j))
theorem DN{b:aj}(hb:b<=bp):gi [.t (.int b)]=aa ((be b).map λj:aj=>T.int (j:aj)):=
 DM (by omega) (by decide) (uO (by omega)) (by decide) (by decide) (by rw[adb];split<;>omega) λj=>av T.int (by omega)
theorem Mm{b:aj}(hb:2*b<=bp):gi [.t (.int 0),.t (.int (2*b:aj)),.t (.int 2)]=aa ((be b).map λj:aj=>T.int (2*j:aj)):=
 DM (by omega) (by decide) (uO (by omega)) (by decide) (by decide) (by split<;>omega) λj=>av T.int (by omega)
end
noncomputable def xh(o:ag aj):ag Nat:=o.flatMap λc=>[c/16,c%16]
theorem uP:∀o:ag aj,o.flatMap oJ=(xh o).map hx
 |[]=>rfl
 |c::r=>by show hx (c/16)::hx (c%16)::r.flatMap oJ=hx (c/16)::hx (c%16)::(xh r).map hx;rw[uP r]
theorem lE:∀o:ag aj,(xh o).length=2*o.length
 |[]=>rfl
 |c::r=>by show(xh r).length+1+1=2*(r.length+1);rw[lE r];rfl
theorem Mn:∀{o:ag aj},(∀c∈o,c<256)->∀k∈xh o,k<16
 |c::r,h,k,m=>(aJ.mp (show k∈c/16::c%16::xh r from m)).elim (λe=>e▸fx (h c (.head _))) λm=>(aJ.mp m).elim (λe=>e▸o8 _ (by decide)) (Mn (λc m=>h c (.tail _ m)) k)
theorem Mo:∀{o:ag aj}{j c:aj},o[j]? =aa c->(xh o)[2*j]? =aa (c/16)/\(xh o)[2*j+1]? =aa (c%16)
 |c::r,0,_,h=>by cases h;exact⟨rfl,rfl⟩
 |c::r,j+1,_,h=>Mo (o:=r) h
section
variable{d r x y w:ag aj}{i j n a b k e:aj}{S:aj->Mu}{L m M X:Mu}{v u st:ar PV}{c:bE}{C:Calls}{xs l:ag T}
theorem abt(h:k<16):hx k≠62:=by unfold hx;split<;>omega
theorem wF{u:PV}(h:vm u m=aa k)(hl:k<=bp):uf .len [u] m=.ok (.t (.int k)) m:=by
 show dO (vm u m) (λn=>if n<=bp then Res.ok (PV.t (T.int n)) m else .aK)=_
 rw[h];exact aA hl
theorem Mp(h:M.length=j)(hk:xs.length=k)(hl:k<=bp):uf .len [.m j] (M++[TL xs])=.ok (.t (.int k)) (M++[TL xs]):=
 wF (by unfold vm;dsimp only;rw[r7 h];show aa (xs.map PV.t).length=_;rw[aq,hk]) hl
theorem Mq{i:T}:mK (.m j) (.t i) m=m[j]?.bind (O7 i):=rfl
theorem Mr{l:ag PV}{i:bE}:O7 (.int i) (.list l)=idx l id i:=rfl
theorem Ic{v:T}(h:X[j]? =aa (TL xs))(hl:xs.length<=bp)(hk:xs[k]? =aa v):bS (mK (.m j) (.t (.int (k:aj))) X) X=.ok (.t v) X:=by
 rw[Mq,h,jR,TL,Mr,wz (f:=id) (x:=PV.t v) (by rw[dh,hk];rfl) (by rw[aq];exact hl)];rfl
theorem atL(h:M.length=j){o:MO}:(M++[o]++L)[j]? =aa o:=by rw[bo (by rw[ah,h];exact da j)];exact r7 h
theorem yD{a b:bE}(h:0<b):G1 .mod (.int a) (.int b) m=.ok (.t (.int (a%b))) m:=aA h
theorem mod2:k9 .mod (.t (.int (2*k:aj))) (.t (.int 2)) m=.ok (.t (.int 0)) m:=DK ((yD (by decide)).trans (av (λi=>Res.ok (PV.t (.int i)) m) (by omega)))
theorem zG(hb:∀c∈x,c<256)(hl:x.length<=bp):uf .bytes [.t (.list (nats x))] m=.ok (.t (.bytes x)) m:=by
 show dO ((nZ (nats x)).bind codes) (λcs=>jL cs m)=_;rw[sZ,jR,qB x hb];exact aA hl
theorem ahQ(h:M.length=j)(hm:Cl M){o:ag aj}(hl:2*o.length<=bp){u v w:ar PV}:ev C (.comp (.bin .add (.bin .mul (.c (.int 16)) (.sub (.au 2) (.au 5))) (.sub (.au 2) (.bin .add (.au 5) (.c (.int 1))))) 5 (.range [.c (.int 0),.bi .len [.au 2],.c (.int 2)]) []) [u,st,aa (.m j),v,w,ac,ac,ac] (M++[TL (nats (xh o))])=.ok (.t (.list (nats o))) (M++[TL (nats (xh o))]):=by
 have hn:(nats (xh o)).length=2*o.length:=iw.trans (lE o);refine FH (N:=λZ=>M++[TL (nats (xh o))]) (Ra C [.c (.int 0),.bi .len [.au 2],.c (.int 2)] [u,st,aa (.m j),v,w,ac,ac,ac] (M++[TL (nats (xh o))]) [.v _] (Mp h hn hl) _ (Mm hl)) (λZ=>rfl) (λZ=>hm.tl) (by rw[aq,fF];exact ai (EF _ (by decide)) hl) (by rw[aq,fF];exact iw.symm) λi x y a8 h1 h2=>?_
 have h2:(o.map λc:aj=>T.int (c:bE))[i]? =aa y:=h2;rw[dh] at h1 h2;refine bH (ed.mp h2) λc hc z0=>?_;subst z0;rw[IL (ay.mp hc).1] at h1;cases h1;refine gf (Mo hc) λn1 n2=>?_;have at_:∀{k v:aj},(xh o)[k]? =aa v->(nats (xh o))[k]? =aa (.int (v:aj)):=λq=>by unfold nats;rw[dh,q];rfl
 exact gJ C (.bin .add (.bin .mul (.c (.int 16)) (.sub (.au 2) (.au 5))) (.sub (.au 2) (.bin .add (.au 5) (.c (.int 1))))) [u,st,aa (.m j),v,w,aa (.t (.int (2*i:aj))),ac,ac] (M++[TL (nats (xh o))]++[TL a8]) [.v _,.v _,.v _,.v _,.v (.ok (.t (.int c)) _)] (Ic (atL h) (by rw[hn];exact hl) (at_ n1)) (Q9 (p:=16) (by decide)) fO (Ic (atL h) (by rw[hn];exact hl) (at_ n2)) (gH.trans (by rw[UN]))
theorem l39(z:Cu d i j S)(hd:d.length<=bp){p:aj}{o:ag aj}(hc:∀c∈o,c<256)(hl:2*o.length<bp):∀{ks:ag aj}{f a:aj}{s:ag aj}{v w:ar PV},d.drop a=ks.map hx++62::r->(∀k∈ks,k<16)->a+ks.length+1=p->s++ks=xh o->ks.length<=f->
 ∃l,Wh (CN (n+1)) (dT b39 2) (f+1) [aa (.m i),st,aa (.m j),v,w,ac,ac,ac] (S a++[TL (nats s)])=.ok (.ret (.t (.bytes o)),l) (S p++[TL (nats (xh o))]):=by
 intro ks
 induction ks with
 |nil=>
  intro f a s v w h _ hp hs _;cases hp;cases (aH s).symm.trans hs;have z':=z.tl (xs:=nats (xh o));have hn:(nats (xh o)).length=2*o.length:=iw.trans (lE o);exact⟨_,gA _ (dT b39 2) f [aa (.m i),st,aa (.m j),v,w,ac,ac,ac] (S a++[TL (nats (xh o))]) [.k _,.v _,.a,.k _,.v _,.a,.v _,.v _,.a,.v _,.v _] (z'.ca rfl) (Oo z' h) (z'.ca rfl) (c7 z' hd h)
   (Mp (z.len _) hn (a9 hl)) mod2 (ahQ (z.len _) (z.cl _) (a9 hl)) (zG hc (ai (EF _ (by decide)) (a9 hl)))⟩
 |cons k ks ih=>
  intro f a s v w h hk hp hs hf;cases f with
  |zero=>exact aQ hf (fy _)
  |succ f=>
   have z':=z.tl (xs:=nats s);have h:d.drop a=hx k::(ks.map hx++62::r):=h;have hk0:=hk k (.head _);obtain⟨l,e⟩:=ih (f:=f) (v:=aa (.t (.int (hx k:aj)))) (w:=aa (.t (.int (k:aj)))) (dn h) (λc m=>hk c (.tail _ m)) (p1 hp) (oo1 hs) (bU hf);rw[<-rJ] at e;exact⟨l,gA _ (dT b39 2) (f+1) [aa (.m i),st,aa (.m j),v,w,ac,ac,ac] (S a++[TL (nats s)]) [.k _,.v _,.a,.k _,.v _,.b _,.v _,.b _,.k _,.v _] (z'.ca rfl) (Oo z' h) (z'.ca rfl) (c7 z' hd h) (fV (abt hk0)) (c33 (z'.cl _) hk0) WK (kL (z.len _) rfl) (BO (z.len _) (iw▸gB (o2 hs (by rw[lE];exact hl)))) _ e⟩
theorem c39(z:Cu d i j S)(hd:d.length<=bp){o:ag aj}(h:d.drop a=o.flatMap oJ++62::r)(hc:∀c∈o,c<256)(hl:2*o.length<bp):CN (n+2) 39 [.m i] (S a)=.ok (.t (.bytes o)) (S (a+2*o.length+1)):=by
 rw[uP] at h;refine bH (mh (by rw[lE];exact a9 hl:(xh o).length<=bp)) λf hf hk=>?_
 refine fJ (l39 (n:=n) (st:=aa (.t (.int ((a:bE)-1)))) (v:=ac) (w:=ac) (s:=[]) z hd hc hl h (Mn hc) rfl rfl hk) λl e=>?_;rw[<-hf,lE] at e;exact bg (n+1) 39 [.m i] (S a) rfl rfl [.v _,.v _,.v _,.l _,.s _] z.f1 sX (nl (z.len _)) e z.gk
end
theorem TU:∀(ts:ag T)(m:Mu),kK (ts.map PV.t) m=aa (ts,m)
 |[],_=>rfl
 |t::ts,m=>by show(kK (ts.map PV.t) m).map (λq=>(t::q.1,q.2))=_;rw[TU ts m];rfl
section
variable{i j n a b k t f:aj}{m M X:Mu}{v:ar PV}{C:Calls}{ts:ag T}{as:ag PV}
theorem abu{fs:ag PV}(hi:mN k=aa f)(hk:AR k=ae)(hc:Cl M)(e:C f (.m M.length::as) (M++[.inst k []])=.ok (.t .none) (M++[.inst k fs]))(hf:kK fs M=aa (ts,X)):fm C k as M=.ok (.t (.inst k ts)) X:=by
 unfold fm;rw[hi];show(C f (.m M.length::as) (M++[.inst k []])).bind _=_;rw[e];show(if AR k=ae then sealed M.length k (M++[.inst k fs]) else _)=_
 rw[aA hk];unfold sealed;rw[r7 rfl];show(if k=k/\(M++[MO.inst k fs]).length=M.length+1 then dO (d7 M.length (M++[.inst k fs])) (λmu=>(lu (kK fs mu)).bind λts mu=>Res.ok (PV.t (.inst k ts)) mu) else .aK)=_
 rw[aA ⟨rfl,by rw[ah];rfl⟩,gk hc rfl]
 show(lu (kK fs M)).bind _=_;rw[hf];rfl
theorem Ms(hi:mN k=aa f)(hk:AR k=ae)(hc:Cl M)(e:C f (.m M.length::as) (M++[.inst k []])=.ok (.t .none) (M++[.inst k (ts.map PV.t)])):fm C k as M=.ok (.t (.inst k ts)) M:=abu hi hk hc e (TU ts M)
theorem fD{p q:aj}{fs:ag PV}{v:PV}(h:M.length=j)(hf:pd p q=aa fs.length):sr (.m j) q v (M++[.inst p fs])=aa (M++[.inst p (fs++[v])]):=by
 unfold sr;dsimp only;rw[r7 h];show(pd p q).bind (λk=>if k<fs.length then aa ((M++[MO.inst p fs]).set j (.inst p (fs.set k v))) else if k=fs.length then aa ((M++[MO.inst p fs]).set j (.inst p (fs++[v]))) else ac)=_
 rw[hf];show(if fs.length<fs.length then _ else if fs.length=fs.length then aa ((M++[MO.inst p fs]).set j (.inst p (fs++[v]))) else ac)=_
 rw[aL (cL _),aA rfl,sY h]
noncomputable def oK(top:bE):aj->bE×aj
 |0=>(top,0)
 |p+1=>if top%10=0 then oK (top/10) p else(top,p+1)
noncomputable def s6(t:bE)(p:aj):T:=.inst 1 [.int (oK t p).1,.int ((oK t p).2:aj)]
theorem FI{a b:bE}(h:0<b/\b<4611686018427387904):G1 .fdiv (.int a) (.int b) m=.ok (.t (.int (a/b))) m:=aA h
theorem Rd{k:aj}(h:0<k):eC .gt (.t (.int (k:aj))) (.t (.int 0)) m=aa true:=av aa (bc (cf.mpr h))
theorem DO{k:aj}:k9 .sub (.t (.int (k+1:aj))) (.t (.int 1)) m=.ok (.t (.int (k:aj))) m:=av (λi=>Res.ok (PV.t (.int i)) m) (by omega)
theorem l19:∀{p f:aj}{t:bE},p<=f->Wh C (dT ZP 0) (f+1) [v,aa (.t (.int t)),aa (.t (.int (p:aj))),ac,ac,ac] X=.ok (.next,[v,aa (.t (.int (oK t p).1)),aa (.t (.int ((oK t p).2:aj))),ac,ac,ac]) X:=by
 intro p
 induction p with
 |zero=>exact λ{f t} Z=>gA C (dT ZP 0) f [v,aa (.t (.int t)),aa (.t (.int (0:aj))),ac,ac,ac] X [.a]
 |succ p ih=>
  intro f t hf;cases f with
  |zero=>exact aQ hf (fy _)
  |succ f=>
   by_cases h:t%10=0
   ·rw[show oK t (p+1)=oK (t/10) p from aA h]
    exact gA C (dT ZP 0) (f+1) [v,aa (.t (.int t)),aa (.t (.int (p+1:aj))),ac,ac,ac] X [.b _,.v _,.b _,.v _,.v _] (Rd (gC p)) (DK (yD (by decide))) (pP h) (DK (FI (by decide))) DO _ (ih (bU hf))
   ·rw[show oK t (p+1)=(t,p+1) from aL h]
    exact gA C (dT ZP 0) (f+1) [v,aa (.t (.int t)),aa (.t (.int (p+1:aj))),ac,ac,ac] X [.b _,.v _,.b _] (Rd (gC p)) (DK (yD (by decide))) (mY h)
theorem c19{t:bE}{p:aj}(h:M.length=j)(hp:p<=bp):CN (n+1) 19 [.m j,.t (.int t),.t (.int (p:aj))] (M++[.inst 1 []])=.ok (.t .none) (M++[.inst 1 [.t (.int (oK t p).1),.t (.int ((oK t p).2:aj))]]):=by
 refine bH (mh hp) λf hf hk=>?_;have e:=l19 (C:=CN n) (v:=aa (.m j)) (X:=M++[.inst 1 []]) (t:=t) hk;rw[<-hf] at e;exact bg n 19 [.m j,.t (.int t),.t (.int (p:aj))] (M++[MO.inst 1 []]) rfl rfl [.l _,.s _,.s _] e (fD h rfl) (fD h rfl)
theorem WL{t:bE}{p:aj}(hc:Cl M)(hp:p<=bp):fm (CN (n+1)) 1 [.t (.int t),.t (.int (p:aj))] M=.ok (.t (s6 t p)) M:=Ms (ts:=[.int (oK t p).1,.int ((oK t p).2:aj)]) rfl rfl hc (c19 rfl hp)
end
noncomputable def gR(t k:aj)(p:ar aj):ag aj->ar (aj×aj×ar aj)
 |[]=>aa (t,k,p)
 |c::r=>if c=46/\p=ac then gR t k (aa 0) r else if 48<=c/\c<=57 then gR (10*t+(c-48)) (k+1) (p.map (· +1)) r else ac
noncomputable def pz:ar aj->bE
 |none=>-1
 |some p=>p
noncomputable def rK:ag aj->aj
 |c::_=>if c=43\/c=45 then 1 else 0
 |[]=>0
noncomputable def ng(b:aW)(t:aj):Int:=if b then -(t:bE) else t
noncomputable def WM(neg:aW)(t:aj):ar aj->T
 |none=>.int (ng neg t)
 |some p=>s6 (ng neg t) p
noncomputable def s7(neg:aW):ar (aj×aj×ar aj)->T
 |none=>.none
 |some (t,k,p)=>if k=0\/40<k then .none else WM neg t p
noncomputable def ml(o:ag aj)(g t k:aj)(p:ar aj)(v:ar PV):Loc:=[aa (.t (.bytes o)),aa (.t (.int (g:aj))),aa (.t (.int (t:aj))),aa (.t (.int (k:aj))),aa (.t (.int (pz p))),v,ac,ac,ac]
section
variable{o:ag aj}{g c:aj}{X m:Mu}{v:ar PV}{C:Calls}
def P32(o:ag aj)(g:aj)(X:Mu)(q:Res (cB×Loc)):ar (aj×aj×ar aj)->Prop
 |none=>∃l,q=.ok (.ret (.t .none),l) X
 |some (t,k,p)=>∃v,q=.ok (.next,ml o g t k p v) X
theorem FJ{k:aj}:eC .lt (.t (.int (k:aj))) (.t (.int 0)) m=aa false:=av aa (aY (jw.mpr (bR k)))
theorem dig{t c:aj}(h:48<=c):k9 .sub (.t (.int (10*t+c:aj))) (.t (.int 48)) m=.ok (.t (.int (10*t+(c-48):aj))) m:=av (λi=>Res.ok (PV.t (.int i)) m) ((YV (ai h (eW _ _))).symm.trans (av aj.cast (aj.add_sub_assoc h _)))
theorem l32:∀{cs:ag aj}{t k:aj}{p:ar aj}{v:ar PV},P32 o g X (forL 5 (execs C (ip (dT ug 5))) (cs.map λx=>T.int (x:aj)) (ml o g t k p v) X) (gR t k p cs):=by
 intro cs
 induction cs with
 |nil=>exact λ{t k p v}=>⟨v,rfl⟩
 |cons c r ih=>
  intro t k p v;show P32 o g X _ (if c=46/\p=ac then gR t k (aa 0) r else if 48<=c/\c<=57 then gR (10*t+(c-48)) (k+1) (p.map (· +1)) r else ac)
  by_cases h1:c=46/\p=ac
  ·rw[aA h1]
   obtain⟨rfl,rfl⟩:=h1;exact(iJ C (ip (dT ug 5)) 5 (ml o g t k ac v) X (.int (46:aj)) (r.map λx=>T.int (x:aj)) [] _ rfl).symm▸ih (t:=t) (k:=k) (p:=aa 0) (v:=aa (.t (.int (46:aj))))
  ·rw[aL h1]
   by_cases h2:48<=c/\c<=57
   ·rw[aA h2]
    have hc:c≠46:=λe=>aQ h2.1 (by rw[e];decide)
    have l1:eC .le (.t (.int 48)) (.t (.int (c:aj))) X=aa true:=zC (dm.mpr h2.1);have l2:eC .le (.t (.int (c:aj))) (.t (.int 57)) X=aa true:=zC (dm.mpr h2.2);cases p with
    |none=>exact(iJ C (ip (dT ug 5)) 5 (ml o g t k ac v) X (.int (c:aj)) (r.map λx=>T.int (x:aj)) [.b _,.b _,.a,.b _,.v _,.v _,.v _,.v _,.a] (fV hc) l1 l2 (Q9 (p:=10) (by decide)) gH (dig h2.1) fO _ rfl).symm▸ih (p:=ac)
    |some p=>exact(iJ C (ip (dT ug 5)) 5 (ml o g t k (aa p) v) X (.int (c:aj)) (r.map λx=>T.int (x:aj)) [.b _,.b _,.a,.b _,.v _,.v _,.v _,.v _,.b _,.v _] (fV hc) l1 l2 (Q9 (p:=10) (by decide)) gH (dig h2.1) fO WK fO _ rfl).symm▸ih (p:=aa (p+1))
   ·rw[aL h2]
    by_cases h3:c=46
    ·cases p with
     |none=>exact aQ ⟨h3,rfl⟩ h1
     |some p=>
      subst h3;exact⟨_,iJ C (ip (dT ug 5)) 5 (ml o g t k (aa p) v) X (.int (46:aj)) (r.map λx=>T.int (x:aj)) [.a,.b _,.a] FJ⟩
    ·by_cases h4:48<=c
     ·exact⟨_,iJ C (ip (dT ug 5)) 5 (ml o g t k p v) X (.int (c:aj)) (r.map λx=>T.int (x:aj)) [.b _,.b _,.a,.b _] (fV h3) (zC (dm.mpr h4)) (Mi (lR.mpr (cf.mpr (gY λq=>h2 ⟨h4,q⟩))))⟩
     ·exact⟨_,iJ C (ip (dT ug 5)) 5 (ml o g t k p v) X (.int (c:aj)) (r.map λx=>T.int (x:aj)) [.b _,.b _] (fV h3) (Mi (lR.mpr (cf.mpr (gY h4))))⟩
end
section
variable{C:Calls}{s:S}{b:ag S}{au eX:Loc}{mu d9:Mu}{q:Res (cB×Loc)}{v:PV}
theorem FK(h:exec C s au mu=.ok (.next,eX) d9):execs C (s::b) au mu=execs C b eX d9:=by
 show(exec C s au mu).bind _=_;rw[h];rfl
theorem WN(h:exec C s au mu=.ok (.ret v,eX) d9):execs C (s::b) au mu=.ok (.ret v,eX) d9:=by
 show(exec C s au mu).bind _=_;rw[h];rfl
theorem zH:∀(k:aj){b:ag S}{au:Loc}{mu:Mu},execs C (b.take k) au mu=.ok (.next,eX) d9->execs C b au mu=execs C (b.drop k) eX d9
 |0,b,au,mu,h=>by cases (show Res.ok (cB.next,au) mu=.ok (.next,eX) d9 from h);rfl
 |k+1,[],au,mu,h=>by cases (show Res.ok (cB.next,au) mu=.ok (.next,eX) d9 from h);rfl
 |k+1,s::b,au,mu,h=>
  by
   have h:((exec C s au mu).bind λp mu=>match p with |(.next,au)=>execs C (b.take k) au mu |p=>.ok p mu)=.ok (.next,eX) d9:=h
   cases e:exec C s au mu with
   |ok p m=>
    rw[e] at h;obtain⟨fl,l⟩:=p;cases fl with
    |next=>rw[FK e];exact zH k h
    |_=>cases h
   |_=>rw[e] at h;cases h
theorem ofX{n f:aj}{as:ag PV}{fn:Fn}{r:Res (cB×Loc)}(hf:FT f=aa fn)(ha:Md fn as=ae)(e:execs (CN n) fn.body (og fn (kM fn as)) mu=r)(os:ag Q0):Me fn mu.length r os λq=>CN (n+1) f as mu=q:=
 FE (by rw[show CN (n+1) f as mu=dO (FT f) λfn=>vr (CN n) fn as mu by unfold CN;rfl,hf, <-e];exact aA (bO ha))
end
section
variable{o w:ag aj}{g n c t k:aj}{X m:Mu}{v:ar PV}{C:Calls}{p:ar aj}
theorem abv(hd:o.length<=bp)(h:g<=o.length):lM (.t (.bytes o)) (aa (.t (.int (g:aj)))) ac m=.ok (.t (.bytes (o.drop g))) m:=by
 have e:lH (.bytes o) (aa (g:bE)) ac=aa (.bytes (o.drop g)):=by
  simp only[lH];rw[aA hd];unfold cut;simp only[Yb];rw[uM h,fY (by rw[dD];exact aP _)]
 show bS ((lH (.bytes o) (aa (g:bE)) ac).map PV.t) m=_;rw[e];rfl
theorem TV{k l:bE}(h:l<k):eC .gt (.t (.int k)) (.t (.int l)) m=aa true:=av aa (bc h)
theorem Mt{k l:bE}(h:¬l<k):eC .gt (.t (.int k)) (.t (.int l)) m=aa false:=av aa (aY h)
theorem ahS(hl:(c::w).length<=bp):execs C (ug.take 5) [aa (.t (.bytes (c::w))),ac,ac,ac,ac,ac,ac,ac,ac] X=.ok (.next,ml (c::w) (rK (c::w)) 0 0 ac ac) X:=by
 have s0:bS (mK (.t (.bytes (c::w))) (.t (.int 0)) X) X=.ok (.t (.int (c:aj))) X:=iQ (a:=0) hl rfl;have g0:eC .gt (.t (.int ((c::w).length:aj))) (.t (.int 0)) X=aa true:=Rd (gC _);show _=Res.ok (cB.next,ml (c::w) (if c=43\/c=45 then 1 else 0) 0 0 ac ac) X
 by_cases h1:c=43
 ·rw[aA (.inl h1)]
  exact run (C:=C) (ug.take 5) [aa (.t (.bytes (c::w))),ac,ac,ac,ac,ac,ac,ac,ac] X [.v _,.b _,.v _,.b _] (jU hl) g0 s0 (pP (av kb h1))
 by_cases h2:c=45
 ·rw[aA (.inr h2)]
  exact run (C:=C) (ug.take 5) [aa (.t (.bytes (c::w))),ac,ac,ac,ac,ac,ac,ac,ac] X [.v _,.b _,.v _,.b _,.v _,.b _] (jU hl) g0 s0 (fV h1) s0 (pP (av kb h2))
 rw[aL λh=>h.elim h1 h2];exact run (C:=C) (ug.take 5) [aa (.t (.bytes (c::w))),ac,ac,ac,ac,ac,ac,ac,ac] X [.v _,.b _,.v _,.b _,.v _,.b _] (jU hl) g0 s0 (fV h1) s0 (fV h2)
theorem ahT(hm:Cl X)(hl:(c::w).length<=bp)(hp:∀q,p=aa q->q<=k):∃l,execs (CN (n+1)) (ug.drop 6) (ml (c::w) g t k p v) X=.ok (.ret (.t (s7 (c==45) (aa (t,k,p)))),l) X:=by
 have s0:bS (mK (.t (.bytes (c::w))) (.t (.int 0)) X) X=.ok (.t (.int (c:aj))) X:=iQ (a:=0) hl rfl;show ∃l,_=Res.ok (cB.ret (PV.t (if k=0\/40<k then .none else WM (c==45) t p)),l) X
 by_cases h1:k=0
 ·rw[aA (.inl h1)]
  exact⟨_,run (C:=CN (n+1)) (ug.drop 6) (ml (c::w) g t k p v) X [.b _] (pP (av kb h1))⟩
 by_cases h2:40<k
 ·rw[aA (.inr h2)]
  exact⟨_,run (C:=CN (n+1)) (ug.drop 6) (ml (c::w) g t k p v) X [.b _,.b _] (fV h1) (TV (cf.mpr h2))⟩
 rw[aL λh=>h.elim h1 h2];have Cs:eC .gt (.t (.int (k:aj))) (.t (.int 40)) X=aa false:=Mt (λq=>h2 (cf.mp q))
 by_cases h3:c=45
 ·rw[show(c==45)=ae from bT.mpr h3]
  cases p with
  |none=>exact⟨_,run (C:=CN (n+1)) (ug.drop 6) (ml (c::w) g t k ac v) X [.b _,.b _,.v _,.b _,.a] (fV h1) Cs s0 (pP (av kb h3))⟩
  |some p=>exact⟨_,run (C:=CN (n+1)) (ug.drop 6) (ml (c::w) g t k (aa p) v) X [.b _,.b _,.v _,.b _,.b _,.v _] (fV h1) Cs s0 (pP (av kb h3)) FJ (WL hm (ai (hp p rfl) (ai (cH h2) (by decide))))⟩
 ·rw[show(c==45)=af from aD.mpr h3]
  cases p with
  |none=>exact⟨_,run (C:=CN (n+1)) (ug.drop 6) (ml (c::w) g t k ac v) X [.b _,.b _,.v _,.b _,.a] (fV h1) Cs s0 (fV h3)⟩
  |some p=>exact⟨_,run (C:=CN (n+1)) (ug.drop 6) (ml (c::w) g t k (aa p) v) X [.b _,.b _,.v _,.b _,.b _,.v _] (fV h1) Cs s0 (fV h3) FJ (WL hm (ai (hp p rfl) (ai (cH h2) (by decide))))⟩
theorem Rf{t' k' p':aj}:∀{s:ag aj}{t k:aj}{p:ar aj},gR t k p s=aa (t',k',aa p')->(∀q,p=aa q->q<=k)->p'<=k':=by
 intro s
 induction s with
 |nil=>exact λh hq=>by cases (h);exact hq _ rfl
 |cons c r ih=>
  intro t k p h hq;have h:(if c=46/\p=ac then gR t k (aa 0) r else if 48<=c/\c<=57 then gR (10*t+(c-48)) (k+1) (p.map (· +1)) r else ac)=aa (t',k',aa p'):=h
  by_cases h1:c=46/\p=ac
  ·rw[aA h1] at h;exact ih h λq e=>by cases (e);exact cF _
  ·rw[aL h1] at h
   by_cases h2:48<=c/\c<=57
   ·rw[aA h2] at h
    exact ih h λq e=>by
     cases p with
     |none=>cases (e)
     |some p=>cases (e);exact bI (hq p rfl)
   ·rw[aL h2] at h;cases (h)
theorem c32(hm:Cl X)(hl:(c::w).length<=bp):CN (n+2) 32 [.t (.bytes (c::w))] X=.ok (.t (s7 (c==45) (gR 0 0 ac ((c::w).drop (rK (c::w)))))) X:=by
 have hg:rK (c::w)<=(c::w).length:=by show(if c=43\/c=45 then 1 else 0)<=w.length+1;split<;>omega
 have ex:∃l,execs (CN (n+1)) ug [aa (.t (.bytes (c::w))),ac,ac,ac,ac,ac,ac,ac,ac] X=.ok (.ret (.t (s7 (c==45) (gR 0 0 ac ((c::w).drop (rK (c::w)))))),l) X:=by
  rw[zH 5 (ahS hl)];have e5:=l32 (o:=c::w) (g:=rK (c::w)) (C:=CN (n+1)) (X:=X) (cs:=(c::w).drop (rK (c::w))) (t:=0) (k:=0) (p:=ac) (v:=ac);have hf:∀{q},forL 5 (execs (CN (n+1)) (ip (dT ug 5))) (((c::w).drop (rK (c::w))).map λx=>T.int (x:aj)) (ml (c::w) (rK (c::w)) 0 0 ac ac) X=q->exec (CN (n+1)) (dT ug 5) (ml (c::w) (rK (c::w)) 0 0 ac ac) X=q:=λh=>
   ix (lN (gJ (CN (n+1)) (.slice (.au 0) (aa (.au 1)) ac) (ml (c::w) (rK (c::w)) 0 0 ac ac) X [.v _] (abv hl hg)) rfl) h
  cases hs:gR 0 0 ac ((c::w).drop (rK (c::w))) with
  |none=>rw[hs] at e5;exact e5.elim λl e5=>⟨l,WN (hf e5)⟩
  |some q=>
   obtain⟨t,k,p⟩:=q;rw[hs] at e5;refine fJ e5 λv e5=>?_;rw[show ug.drop 5=dT ug 5::ug.drop 6 from rfl,FK (hf e5)]
   exact ahT hm hl λq e=>Rf (hs.trans (by rw[e])) λZ e=>by cases e
 refine fJ ex λl e=>?_;exact ofX (n:=n+1) (f:=32) (as:=[.t (.bytes (c::w))]) (mu:=X) rfl rfl e [.s _] (bx hm rfl)
end
noncomputable def tk(k:ag aj)(v:T)(p:aj):T:=.tup [.str k,v,.int p]
noncomputable def il:ag Nat:=[119,111,114,100]
noncomputable def s8:ag Nat:=[105,110,116]
noncomputable def oM:ag Nat:=[114,101,97,108]
noncomputable def g8:ag Nat:=[110,97,109,101]
noncomputable def qC:ag Nat:=[115,116,114,105,110,103]
noncomputable def Ie:ag Nat:=[104,101,120]
noncomputable def fS:ag Nat:=[115,105,103,110]
noncomputable def BR:ag Nat:=[101,110,100]
noncomputable def uo:ag aj->T
 |c::w=>s7 (c==45) (gR 0 0 ac ((c::w).drop (rK (c::w))))
 |[]=>.none
noncomputable def tkN(x:ag aj)(p:aj):T->T
 |.none=>tk il (.bytes x) p
 |.int k=>tk s8 (.int k) p
 |v=>tk oM v p
noncomputable def m5(x:ag aj)(p:aj):T:=tkN x p (uo x)
theorem DP(b:aW)(s:ar (aj×aj×ar aj)):s7 b s=.none\/(∃k,s7 b s=.int k)\/∃t p,s7 b s=s6 t p:=by
 cases s with
 |none=>exact .inl rfl
 |some q=>
  obtain⟨t,k,p⟩:=q
  by_cases h:k=0\/40<k
  ·exact .inl (aA h)
  ·cases p with
   |none=>exact .inr (.inl ⟨_,aL h⟩)
   |some p=>exact .inr (.inr ⟨_,_,aL h⟩)
section
variable{d r x w:ag aj}{i j n a t p:aj}{S:aj->Mu}
theorem FN(h:d.drop a=x++r)(h0:x≠[]):a<=d.length:=(len_app h).elim (λq=>ai (aw ..) q) λe=>aQ e h0
theorem c40(z:Cu d i j S)(hd:d.length<=bp)(h:d.drop a=x++r)(hx:um x)(h0:x≠[])(hn:Ia r):CN (n+3) 40 [.m i,.t (.int (p:aj))] (S a)=.ok (.t (m5 x p)) (S (a+x.length)):=by
 have e11:=c11 (n:=n) z hd h (FN h h0) hx hn;cases x with
 |nil=>exact aQ rfl h0
 |cons c w=>
  have Rg:=c32 (n:=n) (z.cl (a+(c::w).length)) (DJ h hd);show _=Res.ok (PV.t (tkN (c::w) p (s7 (c==45) (gR 0 0 ac ((c::w).drop (rK (c::w))))))) _;rcases DP (c==45) (gR 0 0 ac ((c::w).drop (rK (c::w)))) with q |⟨k,q⟩ |⟨t,u,q⟩
  ·rw[q] at Rg ⊢
   exact bg (n+2) 40 [.m i,.t (.int (p:aj))] (S a) rfl rfl [.k _,.v _,.v _,.a,.a,.s _] (z.ca rfl) e11 Rg z.d7
  ·rw[q] at Rg ⊢
   exact bg (n+2) 40 [.m i,.t (.int (p:aj))] (S a) rfl rfl [.k _,.v _,.v _,.a,.a,.a,.s _] (z.ca rfl) e11 Rg z.d7
  ·rw[q] at Rg ⊢
   exact bg (n+2) 40 [.m i,.t (.int (p:aj))] (S a) rfl rfl [.k _,.v _,.v _,.a,.a,.a,.s _] (z.ca rfl) e11 Rg z.d7
def wG(w rest k:ag aj)(v:T):Prop:=∀{n i j a p:aj}{S:aj->Mu}{d:ag aj},Cu d i j S->d.length<=bp->d.drop a=w++rest->∀c w',w=c::w'->CN (n+5) 41 [.m i,.t (.int (c:aj)),.t (.int (p:aj))] (S a)=.ok (.t (tk k v p)) (S (a+w.length))
theorem WO{s:ag aj}(hs:∀c∈s,0<c/\c<256)(hn:Ia r)(he:um (s.flatMap wD))(hl:s.length<bp):wG (47::s.flatMap wD) r g8 (.str s):=λ{n i j a p S d} z hd h c w' e=>by
 cases e;have h':d.drop (a+1)=s.flatMap wD++r:=dn h;exact(bg (n+4) 41 [.m i,.t (.int (47:aj)),.t (.int (p:aj))] (S a) rfl rfl [.a,.k _,.v _,.k _,.v _,.v _,.a,.s _] (z.ca rfl) (c7 z hd h) (z.ca rfl) (c11 z hd h' (dl h) he hn) (c35 (z.cl _) hs (DJ h' hd) hl) z.d7).trans (av (Res.ok _) (succ_pos (f:=S)))
theorem abw{iP:ag Oq}(hi:∀t∈iP,Yo t)(hb:BP 0 iP)(hl:iP.length<bp):wG (40::(iP.flatMap lb++[41])) r qC (.bytes (iP.map (·.1))):=λ{n i j a p S d} z hd h c w' e=>by
 cases e;have h':d.drop (a+1)=iP.flatMap lb++41::r:=(dn h).trans (az ..);exact(bg (n+4) 41 [.m i,.t (.int (40:aj)),.t (.int (p:aj))] (S a) rfl rfl [.a,.a,.k _,.v _,.v _,.a,.s _] (z.ca rfl) (c7 z hd h) (c38 z hd h' hi hb hl) z.d7).trans (av (Res.ok _) (av S (by rw[aO,ah,Cp];rfl)))
theorem Rh{k:aj}(h:k<16):hx k≠60:=by unfold hx;split<;>omega
theorem abx{o:ag aj}(ho:∀c∈o,c<256)(hl:2*o.length<bp):wG (60::(o.flatMap oJ++[62])) r Ie (.bytes o):=λ{n i j a p S d} z hd h c w' e=>by
 cases (e);have h':d.drop (a+1)=o.flatMap oJ++62::r:=(dn h).trans (az ..);have n1:(d.drop a).take [60,60].length≠[60,60]:=λq=>by
  rw[h] at q;cases o with
  |nil=>cases (q)
  |cons c o=>exact Rh (fx (ho c (.head _))) (cg (cg q).2).1
 have n2:(d.drop a).take [62,62].length≠[62,62]:=λq=>by rw[h] at q;exact aQ (cg q).1 (by decide)
 exact(bg (n+4) 41 [.m i,.t (.int (60:aj)),.t (.int (p:aj))] (S a) rfl rfl [.a,.a,.k _,.v _,.a,.k _,.v _,.a,.a,.k _,.v _,.v _,.a,.s _] (z.ca rfl) (WH z hd (by decide) n1) (z.ca rfl) (WH z hd (by decide) n2) (z.ca rfl) (c7 z hd h) (c39 z hd h' ho hl) z.d7).trans
  (av (Res.ok _) (av S (by rw[aO,ah,uP,aq,lE,bZ a 1,bB 1];rfl)))
theorem Ri{c:aj}(hc:c=60\/c=62):wG [c,c] r fS (.bytes [c,c]):=λ{n i j a p S d} z hd h c' w' e=>by
 cases e;have hl:a<=d.length:=FN h (by simp)
 rcases hc with rfl |rfl
 ·exact bg (n+4) 41 [.m i,.t (.int (60:aj)),.t (.int (p:aj))] (S a) rfl rfl [.a,.a,.k _,.v _,.a,.a,.s _] (z.ca rfl) (c9t z hd (by decide) h hl) z.d7
 ·exact bg (n+4) 41 [.m i,.t (.int (62:aj)),.t (.int (p:aj))] (S a) rfl rfl [.a,.a,.k _,.v _,.a,.k _,.v _,.a,.a,.s _] (z.ca rfl) (WH z hd (by decide) λq=>by rw[h] at q;exact aQ (cg q).1 (by decide)) (z.ca rfl) (c9t z hd (by decide) h hl) z.d7
theorem Rj{c:aj}(hc:c=91\/c=93):wG [c] r fS (.bytes [c]):=λ{n i j a p S d} z hd h c' w' e=>by
 cases e;rcases hc with rfl |rfl
 ·exact bg (n+4) 41 [.m i,.t (.int (91:aj)),.t (.int (p:aj))] (S a) rfl rfl [.a,.a,.k _,.v _,.a,.k _,.v _,.a,.a,.a,.k _,.v _,.a,.a,.a,.s _] (z.ca rfl) (WH z hd (by decide) λq=>by rw[h] at q;exact aQ (cg q).1 (by decide)) (z.ca rfl) (WH z hd (by decide) λq=>by rw[h] at q;exact aQ (cg q).1 (by decide)) (z.ca rfl) (c7 z hd h) z.d7
 ·exact bg (n+4) 41 [.m i,.t (.int (93:aj)),.t (.int (p:aj))] (S a) rfl rfl [.a,.a,.k _,.v _,.a,.k _,.v _,.a,.a,.a,.k _,.v _,.a,.a,.a,.s _] (z.ca rfl) (WH z hd (by decide) λq=>by rw[h] at q;exact aQ (cg q).1 (by decide)) (z.ca rfl) (WH z hd (by decide) λq=>by rw[h] at q;exact aQ (cg q).1 (by decide)) (z.ca rfl) (c7 z hd h) z.d7
end
def Lex(w rest:ag aj)(v:aj->T):Prop:=∀{n i j a:aj}{S:aj->Mu}{d ws:ag aj},Cu d i j S->d.length<=bp->kQ ws->d.drop a=ws++(w++rest)->CN (n+6) 42 [.m i] (S a)=.ok (.t (v (a+ws.length))) (S (a+ws.length+w.length))
noncomputable def WQ(c:aj):Bool:=c==47||c==40||c==60||c==62||c==91||c==93
section
variable{d r x w w' k ws:ag aj}{i j n a p c:aj}{S:aj->Mu}{m:Mu}{v:T}
theorem BS(h:WQ c=ae):c=47\/c=40\/c=60\/c=62\/c=91\/c=93:=by
 unfold WQ at h;simp only[pa,bT,xQ] at h;exact h
theorem rM(hc:WQ c=ae)(h:wG (c::w') r k v):Lex (c::w') r (tk k v):=λ{n i j a S d ws} z hd hw hr=>by
 have hn:NoW (c::w'++r):=λc' r' e=>by
  cases e;rcases BS hc with rfl |rfl |rfl |rfl |rfl |rfl<;>decide
 have Yp:=c10 (n:=n+4) z hd hr hw hn;have e6:=c6 (n:=n+4) z hd (dk hr);have Yq:=h (n:=n) (p:=a+ws.length) z hd (dk hr) c w' rfl;rcases BS hc with rfl |rfl |rfl |rfl |rfl |rfl
 ·exact bg (n+5) 42 [.m i] (S a) rfl rfl [.k _,.v _,.v _,.k _,.v _,.a,.a,.v _,.s _] (z.ca rfl) Yp z.f1 (z.ca rfl) e6 Yq z.d7
 ·exact bg (n+5) 42 [.m i] (S a) rfl rfl [.k _,.v _,.v _,.k _,.v _,.a,.a,.a,.v _,.s _] (z.ca rfl) Yp z.f1 (z.ca rfl) e6 Yq z.d7
 ·exact bg (n+5) 42 [.m i] (S a) rfl rfl [.k _,.v _,.v _,.k _,.v _,.a,.a,.a,.a,.a,.v _,.s _] (z.ca rfl) Yp z.f1 (z.ca rfl) e6 Yq z.d7
 ·exact bg (n+5) 42 [.m i] (S a) rfl rfl [.k _,.v _,.v _,.k _,.v _,.a,.a,.a,.a,.a,.a,.v _,.s _] (z.ca rfl) Yp z.f1 (z.ca rfl) e6 Yq z.d7
 ·exact bg (n+5) 42 [.m i] (S a) rfl rfl [.k _,.v _,.v _,.k _,.v _,.a,.a,.a,.a,.a,.a,.a,.v _,.s _] (z.ca rfl) Yp z.f1 (z.ca rfl) e6 Yq z.d7
 ·exact bg (n+5) 42 [.m i] (S a) rfl rfl [.k _,.v _,.v _,.k _,.v _,.a,.a,.a,.a,.a,.a,.a,.v _,.s _] (z.ca rfl) Yp z.f1 (z.ca rfl) e6 Yq z.d7
theorem yE{c:bE}(h:sW c=ae):BN c=af/\abk c=false:=
 have h:=(aF.mp (aF.mp h).2)
 ⟨uc _▸h.1,uc _▸h.2⟩
theorem s9(h:sW c=ae){k:aj}(hk:sW k=af):c≠k:=λe=>by rw[e,hk] at h;cases h
theorem WR(h:sW c=ae):eC .isIn (.t (.int (c:aj))) (.t (.tup [.int 91,.int 93,.int 123,.int 125])) m=aa false:=
 av aa (show([.int 91,.int 93,.int 123,.int 125]:ag T).any (T.SS c)=af from mz.mpr λx m=>mz.mp (yE h).2 x (cU ([.int 40,.int 41,.int 60,.int 62]:ag T) (bY ([.int 47,.int 37]:ag T) m)))
theorem FO(hx:um x)(h0:x≠[])(hn:Ia r):Lex x r (m5 x):=λ{n i j a S d ws} z hd hw hr=>by
 have e40:=c40 (n:=n+2) (p:=a+ws.length) z hd (dk hr) hx h0 hn;cases x with
 |nil=>exact aQ rfl h0
 |cons c w=>
  have hc:=hx c (.head _);have hn:NoW (c::w++r):=λc' r' e=>by cases e;exact⟨(yE hc).1,s9 hc (k:=37) (by decide)⟩
  exact bg (n+5) 42 [.m i] (S a) rfl rfl [.k _,.v _,.v _,.k _,.v _,.b _,.b _,.b _,.b _,.b _,.b _,.b _,.v _,.s _] (z.ca rfl) (c10 z hd hr hw hn) z.f1 (z.ca rfl) (c6 z hd (dk hr)) (mY (EE (tE (by decide) (bR c)))) (fV (s9 hc (k:=47) (by decide))) (fV (s9 hc (k:=40) (by decide))) (fV (s9 hc (k:=41) (by decide))) (fV (s9 hc (k:=60) (by decide))) (fV (s9 hc (k:=62) (by decide))) (WR hc) e40 z.d7
theorem Rk(z:Cu d i j S)(hd:d.length<=bp)(hw:kQ ws)(hr:d.drop a=ws):CN (n+3) 42 [.m i] (S a)=.ok (.t (tk BR (.bytes []) (a+ws.length))) (S (a+ws.length)):=
 have hr:d.drop a=ws++[]:=hr.trans (aH ws).symm
 bg (n+2) 42 [.m i] (S a) rfl rfl [.k _,.v _,.v _,.k _,.v _,.a,.a,.s _] (z.ca rfl) (c10 z hd hr hw λc r' e=>by cases e) z.f1 (z.ca rfl) (c6e z (de (dk hr))) z.d7
end
noncomputable def kh:ag Nat:=[116,114,117,101]
noncomputable def iK:ag Nat:=[102,97,108,115,101]
noncomputable def mm:ag Nat:=[110,117,108,108]
noncomputable def FP(w:ag aj):T:=if w=kh then .bool ae else if w=iK then .bool af else .none
noncomputable def gE(mk:ag aj)(q:aj):MO:=.inst 5 [.t (.bytes mk),.m q]
section
variable{s w mk:ag aj}{i j n p k q:aj}{m M X:Mu}{v:T}{b:aW}{it:ag T}
theorem Mv(hm:Cl M):fm (CN (n+1)) 2 [.t (.str s)] M=.ok (.t (.inst 2 [.str s])) M:=
 Ms (ts:=[.str s]) rfl rfl hm (bg n 44 [.m M.length,.t (.str s)] (M++[MO.inst 2 []]) rfl rfl [.s _] (fD rfl rfl))
theorem aby(hm:Cl M):fm (CN (n+1)) 3 [.t (.bytes s),.t (.bool b)] M=.ok (.t (.inst 3 [.bytes s,.bool b])) M:=
 Ms (ts:=[.bytes s,.bool b]) rfl rfl hm (bg n 45 [.m M.length,.t (.bytes s),.t (.bool b)] (M++[MO.inst 3 []]) rfl rfl [.s _,.s _] (fD rfl rfl) (fD rfl rfl))
theorem FQ(hm:Cl M):fm (CN (n+1)) 3 [.t (.bytes s)] M=.ok (.t (.inst 3 [.bytes s,.bool af])) M:=
 Ms (ts:=[.bytes s,.bool af]) rfl rfl hm (bg n 45 [.m M.length,.t (.bytes s)] (M++[MO.inst 3 []]) rfl rfl [.s _,.s _] (fD rfl rfl) (fD rfl rfl))
theorem c58(hm:Cl M)(hw:w=kh\/w=iK\/w=mm):CN (n+1) 58 [.t (.bytes w),.t (.int (p:aj))] M=.ok (.t (FP w)) M:=by
 unfold FP;rcases hw with rfl |rfl |rfl
 ·rw[aA rfl];exact bg n 58 [.t (.bytes kh),.t (.int (p:aj))] M rfl rfl [.b ae,.s _] rfl (bx hm rfl)
 ·rw[aL (by decide),aA rfl];exact bg n 58 [.t (.bytes iK),.t (.int (p:aj))] M rfl rfl [.b af,.b ae,.s _] rfl rfl (bx hm rfl)
 ·rw[aL (by decide),aL (by decide)];exact bg n 58 [.t (.bytes mm),.t (.int (p:aj))] M rfl rfl [.b af,.b af,.b ae,.s _] rfl rfl rfl (bx hm rfl)
theorem abz{k l:bE}(h:l<=k):eC .ge (.t (.int k)) (.t (.int l)) m=aa true:=av aa (bc h)
theorem abA{k l:bE}(h:¬l<=k):eC .ge (.t (.int k)) (.t (.int l)) m=aa false:=av aa (aY h)
theorem Rl{k:bE}(hm:Cl M):CN (n+1) 59 [.m i,.t (tk s8 (.int k) p),.t (.bool af)] M=.ok (.t (.int k)) M:=by
 by_cases h:0<=k
 ·exact bg n 59 [.m i,.t (tk s8 (.int k) p),.t (.bool af)] M rfl rfl [.b ae,.b _,.a,.b ae,.s _] rfl (abz h) rfl (bx hm rfl)
 ·exact bg n 59 [.m i,.t (tk s8 (.int k) p),.t (.bool af)] M rfl rfl [.b ae,.b _,.b ae,.s _] rfl (abA h) rfl (bx hm rfl)
theorem Mw(hm:Cl M):CN (n+1) 59 [.m i,.t (tk oM v p),.t (.bool af)] M=.ok (.t v) M:=
 bg n 59 [.m i,.t (tk oM v p),.t (.bool af)] M rfl rfl [.b af,.b af,.b ae,.s _] rfl rfl rfl (bx hm rfl)
theorem wH(hm:Cl M):CN (n+2) 59 [.m i,.t (tk g8 (.str s) p),.t (.bool af)] M=.ok (.t (.inst 2 [.str s])) M:=
 bg (n+1) 59 [.m i,.t (tk g8 (.str s) p),.t (.bool af)] M rfl rfl [.b af,.b af,.b af,.b ae,.v _,.s _] rfl rfl rfl rfl (Mv hm) (bx hm rfl)
theorem Rm(hm:Cl M):CN (n+2) 59 [.m i,.t (tk qC (.bytes s) p),.t (.bool af)] M=.ok (.t (.inst 3 [.bytes s,.bool af])) M:=
 bg (n+1) 59 [.m i,.t (tk qC (.bytes s) p),.t (.bool af)] M rfl rfl [.b af,.b af,.b af,.b af,.b ae,.v _,.s _] rfl rfl rfl rfl rfl (FQ hm) (bx hm rfl)
theorem Ro(hm:Cl M):CN (n+2) 59 [.m i,.t (tk Ie (.bytes s) p),.t (.bool af)] M=.ok (.t (.inst 3 [.bytes s,.bool ae])) M:=
 bg (n+1) 59 [.m i,.t (tk Ie (.bytes s) p),.t (.bool af)] M rfl rfl [.b af,.b af,.b af,.b af,.b af,.b ae,.v _,.s _] rfl rfl rfl rfl rfl rfl (aby hm) (bx hm rfl)
theorem Mx(hm:Cl M)(hw:w=kh\/w=iK\/w=mm):CN (n+2) 59 [.m i,.t (tk il (.bytes w) p),.t (.bool af)] M=.ok (.t (FP w)) M:=
 bg (n+1) 59 [.m i,.t (tk il (.bytes w) p),.t (.bool af)] M rfl rfl [.b af,.b af,.b af,.b af,.b af,.b af,.b ae,.v _,.s _] rfl rfl rfl rfl rfl rfl rfl (c58 hm hw) (bx hm rfl)
theorem abB:fm (CN (n+1)) 5 [.t (.bytes w)] M=.ok (.m M.length) (M++[gE w (M.length+1),TL []]):=by
 have e:CN (n+1) 54 [.m M.length,.t (.bytes w)] (M++[MO.inst 5 []])=.ok (.t .none) (M++[gE w (M.length+1),TL []]):=
  bg n 54 [.m M.length,.t (.bytes w)] (M++[MO.inst 5 []]) rfl rfl [.s _,.v _,.s _] (fD rfl rfl) (nl (j:=M.length+1) (by rw[ah];rfl)) (by
   unfold sr;dsimp only;rw[az,aZ (aP _),dA];show aa ((M++([MO.inst 5 [.t (.bytes w)]]++[TL []])).set M.length (.inst 5 [.t (.bytes w),.m (M.length+1)]))=_;rw[cy _ _ (aP _),dA];rfl)
 show(CN (n+1) 54 (.m M.length::[.t (.bytes w)]) (M++[MO.inst 5 []])).bind _=_;rw[e];rfl
noncomputable def wk(mk:ag aj)(it:ag T):Bool:=mk==[60,60]&&it.length%2==0
theorem f10(h:X[p]? =aa (gE mk q)):bS (qq (.m p) 10 X) X=.ok (.t (.bytes mk)) X:=by unfold qq;dsimp only;rw[h];rfl
theorem WS(h:X[p]? =aa (gE mk q)):bS (qq (.m p) 11 X) X=.ok (.m q) X:=by unfold qq;dsimp only;rw[h];rfl
theorem Rp(h:X[q]? =aa (TL it))(hk:it.length=k)(hl:k<=bp):uf .len [.m q] X=.ok (.t (.int k)) X:=
 wF (by unfold vm;dsimp only;rw[h];show aa (it.map PV.t).length=_;rw[aq,hk]) hl
theorem My{k l:aj}(h:0<l):k9 .mod (.t (.int (k:aj))) (.t (.int (l:aj))) m=.ok (.t (.int (k%l:aj))) m:=DK (yD (cf.mpr h))
theorem Yr(hm:Cl X)(h:X[p]? =aa (gE mk q))(hq:X[q]? =aa (TL it))(hl:it.length<=bp):CN (n+1) 55 [.m p] X=.ok (.t (.bool (wk mk it))) X:=by
 unfold wk
 by_cases h1:mk=[60,60]
 ·rw[show(mk==[60,60])=ae from bT.mpr h1,Yc]
  refine bg n 55 [.m p] X rfl rfl [.v _,.b _,.a,.v _,.v _,.v _,.b (it.length%2==0),.s _] (f10 h) (TQ h1) (WS h) (Rp hq rfl hl) (My (l:=2) (by decide)) ?_ (bx hm rfl)
  cases e:it.length%2 with
  |zero=>rfl
  |succ k=>exact fV (dW k)
 ·rw[show(mk==[60,60])=af from aD.mpr h1]
  exact bg n 55 [.m p] X rfl rfl [.v _,.b _,.a,.s _] (f10 h) (TR h1) (bx hm rfl)
end
abbrev KV:=ag (ag aj×T)
noncomputable def ec(l:KV):ag (T×T):=l.map λx=>(.str x.1,x.2)
noncomputable def keysOf(l:KV):ag (ag aj):=l.map (·.1)
noncomputable def qa(l:KV):ag T:=l.flatMap λx=>[.inst 2 [.str x.1],x.2]
section
variable{k:ag aj}{v:T}{l l1 l2:KV}{M m X:Mu}{j q n:aj}{C:Calls}{x:ag aj×T}
theorem DQ:pe (.str k) (ec l)=true:=aE.mpr λt h=>by
 refine bH (aT.mp h) λp hp z0=>?_;subst z0;refine bH (aT.mp hp) λy Z z0=>?_;subst z0;rfl
theorem BU:∀{l:KV},k ∉ keysOf l->dput (.str k) v (ec l)=ec (l++[(k,v)]):=by
 intro l
 induction l with
 |nil=>exact λZ=>rfl
 |cons y l ih=>
  intro h;show(if(y.1==k)=ae then(T.str y.1,v)::ec l else(T.str y.1,y.2)::dput (.str k) v (ec l))=(T.str y.1,y.2)::ec (l++[(k,v)])
  rw[aL (λe=>h (aJ.mpr (.inl (eq_of_beq e).symm))),ih λm=>h (iG _ m)]
theorem Mz:∀{l:KV},(keysOf l).Nodup->(k,v)∈l->CE (.str k) (ec l)=aa v:=by
 intro l
 induction l with
 |nil=>exact λZ h=>by cases h
 |cons y l ih=>
  intro hn h;have hn:=eJ.mp (show(y.1::keysOf l).Nodup from hn)
  show(if(y.1==k)=ae then aa y.2 else CE (.str k) (ec l))=aa v
  rcases aJ.mp h with rfl |h
  ·rw[aA (dJ _)]
  ·rw[aL (λe=>hn.1 ((eq_of_beq e:y.1=k)▸IT (f:=(·.1)) h)),ih hn.2 h]
theorem Rq(hn:(keysOf l).Nodup)(h:(k,v)∈l):key (ec l) k=aa v:=by unfold key;rw[aA DQ,Mz hn h]
theorem lF(hn:(keysOf l).Nodup)(h:(k,v)∈l):bS (mK (.t (.dict (ec l))) (.t (.str k)) m) m=.ok (.t v) m:=by
 show bS ((key (ec l) k).map PV.t) m=_;rw[Rq hn h];rfl
theorem BV(h:M.length=j)(hk:k ∉ keysOf l)(hl:l.length<bp):AQ j (.str k) v (M++[.dict (ec l)]) (ec l)=.ok () (M++[.dict (ec (l++[(k,v)]))]):=by
 unfold AQ;rw[aA ⟨DQ,by unfold ec;rw[aq];exact hl⟩,BU hk,sY h]
theorem MB(h:M.length=j)(hk:k ∉ keysOf l)(hl:l.length<bp):xo (.m j) (.t (.str k)) (.t v) (M++[.dict (ec l)])=.ok () (M++[.dict (ec (l++[(k,v)]))]):=by
 show dO ((M++[MO.dict (ec l)])[j]?.bind MO.d?) (AQ j (.str k) v (M++[.dict (ec l)]))=_;rw[r7 h];exact BV h hk hl
theorem MC(h:M.length=j)(hk:k ∉ keysOf l)(hl:l.length<bp):JA j (.str k) v (M++[.dict (ec l)])=.ok () (M++[.dict (ec (l++[(k,v)]))]):=by
 unfold JA;rw[r7 h];exact BV h hk hl
theorem wI(h:(keysOf (l1++x::l2)).Nodup):x.1 ∉ keysOf l1:=λm=>by
 have h:(keysOf l1++x.1::keysOf l2).Nodup:=by have:=h;unfold keysOf at this ⊢;rwa[br] at this
 exact(ub.mp h).2.2 _ m _ (.head _) rfl
noncomputable abbrev yF(C:Calls)(k v:E)(dN:ag E)(j:aj):Loc->Mu->Res Unit:=λau d9=>(i6 C dN au d9).bind λb d9=>if b then(ev C k au d9).bind λx d9=>(ev C v au d9).bind λy d9=>dO (x.t?.bind T.s?) λs=>(d0 y d9).bind λy d9=>JA j (.str s) y d9 else .ok () d9
theorem MD{ke ve:E}{slot:aj}{dN:ag E}{au:Loc}(hj:M.length=j)(hl:l.length<bp)(hn:(keysOf l).Nodup)
 (st:∀x∈l,∀a8,i6 C dN (upd au slot (.t (.str x.1))) (M++[.dict a8])=.ok ae (M++[.dict a8])/\ev C ke (upd au slot (.t (.str x.1))) (M++[.dict a8])=.ok (.t (.str x.1)) (M++[.dict a8])/\ev C ve (upd au slot (.t (.str x.1))) (M++[.dict a8])=.ok (.t x.2) (M++[.dict a8])):
 ∀{l2 l1:KV},l1++l2=l->dS (yF C ke ve dN j) slot au (l2.map λx=>.str x.1) (M++[.dict (ec l1)])=.ok () (M++[.dict (ec l)]):=by
 intro l2
 induction l2 with
 |nil=>intro l1 e;rw[aH] at e;rw[e];rfl
 |cons x l2 ih=>
  intro l1 e;refine nY (st x (e▸cU _ (.head _)) (ec l1)) λe1 e2 e3=>?_;show(yF C ke ve dN j (upd au slot (.t (.str x.1))) (M++[.dict (ec l1)])).bind (λZ mu=>dS (yF C ke ve dN j) slot au (l2.map λx=>.str x.1) mu)=_;have e4:yF C ke ve dN j (upd au slot (.t (.str x.1))) (M++[.dict (ec l1)])=.ok () (M++[.dict (ec (l1++[x]))]):=by
   show(i6 C dN _ _).bind _=_;rw[e1];show(ev C ke _ _).bind _=_;rw[e2];show(ev C ve _ _).bind _=_;rw[e3];exact MC hj (wI (e▸hn)) (ax (by rw[<-e,ah];exact aw ..) hl)
  rw[e4];exact ih (by rw[az];exact e)
theorem Ig{ke ve:E}{slot:aj}{ie:It}{dN:ag E}{au gq:Loc}{mu:Mu}(hit:io C ie au mu=.ok (l.map λx=>.str x.1,gq) M)(hc:Cl M)(hl:l.length<bp)(hn:(keysOf l).Nodup)
 (st:∀x∈l,∀a8,i6 C dN (upd gq slot (.t (.str x.1))) (M++[.dict a8])=.ok ae (M++[.dict a8])/\ev C ke (upd gq slot (.t (.str x.1))) (M++[.dict a8])=.ok (.t (.str x.1)) (M++[.dict a8])/\ev C ve (upd gq slot (.t (.str x.1))) (M++[.dict a8])=.ok (.t x.2) (M++[.dict a8])):
 ev C (.qS ke ve slot ie dN) au mu=.ok (.t (.dict (ec l))) M:=by
 show(io C ie au mu).bind (λp mu=>(dS (yF C ke ve dN mu.length) slot p.2 p.1 (mu++[.dict []])).bind λZ d9=>eD mu.length d9)=_;rw[hit];show(dS (yF C ke ve dN M.length) slot gq (l.map λx=>.str x.1) (M++[.dict (ec [])])).bind (λZ d9=>eD M.length d9)=_;rw[MD rfl hl hn st (l1:=[]) rfl];show eD M.length (M++[.dict (ec l)])=_;unfold eD;rw[aA (by rw[ah];rfl),r7 rfl]
 show eh M.length _ _=_;unfold eh;rw[gk hc rfl];rfl
theorem kA:∀l:KV,(qa l).length=2*l.length
 |[]=>rfl
 |x::l=>by show(qa l).length+1+1=2*(l.length+1);rw[kA l];rfl
theorem WT:(qa (l1++x::l2))[2*l1.length]? =aa (.inst 2 [.str x.1])/\(qa (l1++x::l2))[2*l1.length+1]? =aa x.2:=by
 have e:qa (l1++x::l2)=qa l1++(.inst 2 [.str x.1]::x.2::qa l2):=by unfold qa;rw[qR];rfl
 rw[e, <-kA,aZ (aP _),aZ (aw _ 1),dA,aU];exact⟨rfl,rfl⟩
theorem wJ{au:Loc}(h:M.length=j):ev C (.newDict []) au M=.ok (.m j) (M++[MO.dict []]):=by
 show(Res.ok [] (M++[MO.dict []])).bind (λps d9=>if gD d9 M.length then Res.ok (PV.m M.length) (d9.set M.length (.dict ps)) else .aK)=_
 show(if gD (M++[MO.dict []]) M.length then Res.ok (PV.m M.length) ((M++[MO.dict []]).set M.length (.dict [])) else .aK)=_
 rw[show gD (M++[MO.dict []]) M.length=ae by unfold gD;rw[r7 rfl];rfl,sY rfl,h];rfl
theorem l60(hj:X.length=j)(hq:X[q]? =aa (TL (qa l)))(hl:2*l.length<bp)(hn:(keysOf l).Nodup){v3 v4 v5:ar PV}:∀{l2 l1:KV}{u:ar PV},l1++l2=l->
 ∃u',forL 2 (execs C (ip (dT b60 1))) ((ew l1.length l2.length).map λi:aj=>T.int (2*i:aj)) [aa (.m q),aa (.m j),u,v3,v4,v5] (X++[MO.dict (ec l1)])=.ok (.next,[aa (.m q),aa (.m j),u',v3,v4,v5]) (X++[MO.dict (ec l)]):=by
 intro l2
 induction l2 with
 |nil=>intro l1 u e;rw[aH] at e;rw[e];exact⟨u,rfl⟩
 |cons x l2 ih=>
  intro l1 u e;refine fJ (ih (l1:=l1++[x]) (u:=aa (.t (.int (2*l1.length:aj)))) (by rw[az];exact e)) λu' h=>?_
  rw[ah] at h;refine gf (WT (l1:=l1) (x:=x) (l2:=l2)) λn1 n2=>?_;rw[e] at n1 n2;have wK:l1.length<bp:=ax (by rw[<-e,ah];omega) hl
  have hX:(X++[MO.dict (ec l1)])[q]? =aa (TL (qa l)):=by rw[bo (ay.mp hq).1];exact hq
  have hle:(qa l).length<=bp:=by rw[kA];exact a9 hl
  exact⟨u',iJ C (ip (dT b60 1)) 2 [aa (.m q),aa (.m j),u,v3,v4,v5] (X++[MO.dict (ec l1)]) (.int (2*l1.length:aj)) ((ew (l1.length+1) l2.length).map λi:aj=>T.int (2*i:aj)) [.v _,.v _,.v _,.a,.s _] fO (Ic hX hle n2) (Ic hX hle n1) (MB hj (wI (e▸hn)) wK) _ h⟩
def nNN(l:KV):Prop:=∀x∈l,x.2≠.none
theorem zI(h:v≠.none):eC .kf (.t v) (.t .none) m=aa true:=by
 cases v<;>first |rfl |exact aQ rfl h
theorem all1{e:E}{au:Loc}(h:ni C e au X=.ok ae M):i6 C [e] au X=.ok ae M:=by
 show((ni C e au X).bind λb mu=>if b then i6 C [] au mu else .ok af mu)=_
 rw[h];rfl
theorem c60(hm:Cl X)(hq:X[q]? =aa (TL (qa l)))(hl:2*l.length<bp)(hn:(keysOf l).Nodup)(hv:nNN l):CN (n+1) 60 [.m q] X=.ok (.t (.dict (ec l))) X:=by
 have hX:(X++[MO.dict (ec [])])[q]? =aa (TL (qa l)):=by rw[bo (ay.mp hq).1];exact hq
 refine fJ (l60 (C:=CN n) (v3:=ac) (v4:=ac) (v5:=ac) (u:=ac) rfl hq hl hn (l2:=l) (l1:=[]) rfl) λu h=>?_;have hf:=ix (C:=CN n) (slot:=2) (b:=ip (dT b60 1)) (Ra (CN n) [.c (.int 0),.bi .len [.au 0],.c (.int 2)] [aa (.m q),aa (.m X.length),ac,ac,ac,ac] (X++[MO.dict (ec [])]) [.v _] (Rp hX (kA l) (a9 hl)) _ (Mm (a9 hl))) (qj▸h);have hd:ev (CN n) (.qS (.au 3) (.sub (.au 1) (.au 3)) 3 (.name 1) [.cmp .kf (.sub (.au 1) (.au 3)) (.c .none)]) [aa (.m q),aa (.m X.length),u,ac,ac,ac] (X++[MO.dict (ec l)])=.ok (.t (.dict (ec l))) (X++[MO.dead]):=by
  refine Ig (gq:=[aa (.m q),aa (.t (.dict (ec l))),u,ac,ac,ac]) ?_ ?_ (ax (by omega) hl) hn λx hx a8=>?_
  ·show(d0 (.m X.length) (X++[MO.dict (ec l)])).bind (λt mu=>bS ((lJ t).map λl=>(l,upd [aa (.m q),aa (.m X.length),u,ac,ac,ac] 1 (.t t))) mu)=_
   unfold d0 Cq;dsimp only;rw[r7 rfl];show(Res.ok (T.dict (ec l)) ((X++[MO.dict (ec l)]).set X.length .dead)).bind _=_;rw[sY rfl];show Res.ok ((ec l).map (·.1),_) _=_;unfold ec;rw[ba];rfl
  ·exact aE.mpr λo m=>(bt.mp m).elim (λm=>MO.up (by rw[ah];exact aw ..) (aE.mp hm o m)) λm=>by rw[aC.mp m];rfl
  ·exact⟨all1 (DL (CN n) (.cmp .kf (.sub (.au 1) (.au 3)) (.c .none)) [aa (.m q),aa (.t (.dict (ec l))),u,aa (.t (.str x.1)),ac,ac] (X++[MO.dead]++[MO.dict a8]) [.v _,.b _] (lF hn hx) (zI (hv x hx))),rfl,
    gJ (CN n) (.sub (.au 1) (.au 3)) [aa (.m q),aa (.t (.dict (ec l))),u,aa (.t (.str x.1)),ac,ac] (X++[MO.dead]++[MO.dict a8]) [.v _] (lF hn hx)⟩
 exact bg n 60 [.m q] X rfl rfl [.v _,.l _,.v _,.s _] (wJ rfl) hf hd (gk hm rfl)
end
noncomputable def sgB(v:T)(s:ag aj):Bool:=match v with
 |.bytes u=>u==s
 |_=>af
section
variable{s k:ag aj}{i n p q F:aj}{m M X:Mu}{v u:T}{b:aW}{C:Calls}{fs:ag PV}{z:PV}{c:ar (ar aj)}
theorem c43(hm:Cl M)(hv:k=fS->∃u,v=.bytes u):CN (n+1) 43 [.t (tk k v p),.t (.bytes s)] M=.ok (.t (.bool (k==fS&&sgB v s))) M:=by
 by_cases h:k=fS
 ·refine fJ (hv h) λu z0=>?_;subst z0
  rw[show(k==fS)=ae from bT.mpr h,Yc]
  exact bg n 43 [.t (tk k (.bytes u) p),.t (.bytes s)] M rfl rfl [.a,.b ae,.a,.a,.b (u==s),.s _] (av aa (bT.mpr h)) rfl (bx hm rfl)
 ·rw[show(k==fS)=af from aD.mpr h]
  exact bg n 43 [.t (tk k v p),.t (.bytes s)] M rfl rfl [.a,.b af,.a,.s _] (av aa (aD.mpr h)) (bx hm rfl)
theorem kG(h:X[F]? =aa (.list fs))(hc:fq 3 n=c):fq (kindOf (.m F) X) n=c:=by unfold kindOf;dsimp only;rw[h];exact hc
theorem eG(h:X[F]? =aa (.list fs)):eC .eq (.m F) (.t (.list [])) X=aa fs.isEmpty:=by
 show(listAt X F).map (·.isEmpty)=_;unfold listAt;rw[h];rfl
theorem abC(h:X[F]? =aa (.list fs))(hl:fs.length<=bp):uf .len [.m F] X=.ok (.t (.int fs.length)) X:=wF (by unfold vm;dsimp only;rw[h];rfl) hl
theorem WU(h:X[F]? =aa (.list fs))(hl:fs.length<bp):ei C (.m F) 30 ac [z] X=.ok (.t .none) (X.set F (.list (fs++[z]))):=by
 show EM (.m F) X (λi ys=>if ys.length<bp then Res.ok (PV.t .none) (X.set i (.list (ys++[z]))) else .aK)=_
 unfold EM listAt;dsimp only;rw[h];exact aA hl
theorem WV(h:X[F]? =aa (.list (fs++[z])))(hl:fs.length<bp):ei C (.m F) 32 ac [] X=.ok z (X.set F (.list fs)):=by
 show EM (.m F) X (λi xs=>dO xs.getLast? λv=>if xs.length<=bp then Res.ok v (X.set i (.list xs.dropLast)) else .aK)=_
 unfold EM listAt;dsimp only;rw[h];show dO (fs++[z]).getLast? (λv=>if(fs++[z]).length<=bp then Res.ok v (X.set F (.list (fs++[z]).dropLast)) else .aK)=_
 rw[kj,ag.dropLast_concat];exact aA (by rw[ah];exact hl)
theorem Ys(h:X[F]? =aa (.list (fs++[z]))):eC .eq (.m F) (.t (.list [])) X=aa false:=(eG h).trans (av aa (gn.mpr (cz _ (bf _ _))))
theorem mn(h:X[F]? =aa (.list (fs++[z])))(hl:fs.length<bp):bS (mK (.m F) (.t (.int (-1))) X) X=.ok z X:=by
 rw[Mq,h,jR,Mr];unfold idx Oa;rw[aA ⟨by decide,by decide⟩,aL (by decide),ah,ci,show(-1:bE)+((fs.length+1:aj):bE)=(fs.length:aj) by omega,aA (bR _)]
 show bS (((fs++[z])[fs.length]?).map id) X=_;rw[aZ (aP _),dA];rfl
theorem FR{x y:ag aj}(h:x=y):eC .ne (.t (.bytes x)) (.t (.bytes y)) m=aa false:=av (λb=>aa (!b)) (bT.mpr h)
theorem ahW(hF:X[F]? =aa (.list (fs++[.m p])))(hp:X[p]? =aa (gE [91] q))(hpF:F≠p)(hl:fs.length<bp){v:T}{M':Mu}(he:qT Vj X.length (.m q) (X.set F (.list fs))=.ok (.t v) M'):
 CN (n+1) 61 [.m F,.t (.bytes [93]),.t (.int (i:aj))] X=.ok (.t v) M':=
 bg n 61 [.m F,.t (.bytes [93]),.t (.int (i:aj))] X rfl rfl [.b ae,.a,.b _,.v _,.v _,.b _,.k _,.v _,.b ae,.v _,.v _] rfl (Ys hF) (mn hF hl) (f10 hp) (FR rfl) (kG hF rfl) (WV hF hl) rfl (WS (by rw[cn hpF];exact hp)) he
theorem Cl.set{o:MO}(h:Cl X)(ho:o.closed X.length=ae):Cl (X.set F o):=aE.mpr λx m=>by
 rw[bG];exact(lW m).elim (λm=>aE.mp h x m) λe=>e▸ho
theorem WW(h:Cl X){xs:ag PV}(hk:X[q]? =aa (.list xs)):xs.all (PV.closed X.length)=true:=aE.mp h (.list xs) (cp hk)
theorem Cl.pop(h:Cl X)(hF:X[F]? =aa (.list (fs++[z]))):Cl (X.set F (.list fs)):=h.set (by have:=WW h hF;rw[SM] at this;exact(aF.mp this).1)
theorem abE{l:KV}(hm:Cl X)(hF:X[F]? =aa (.list (fs++[.m p])))(hp:X[p]? =aa (gE [60,60] q))(hq:X[q]? =aa (TL (qa l)))(hpF:F≠p)(hqF:F≠q)(hl:fs.length<bp)(I3:2*l.length<bp)(hn:(keysOf l).Nodup)(hv:nNN l):
 CN (n+2) 61 [.m F,.t (.bytes [62,62]),.t (.int (i:aj))] X=.ok (.t (.dict (ec l))) (X.set F (.list fs)):=by
 have hm':=hm.pop hF;have Yt:(X.set F (.list fs))[p]? =aa (gE [60,60] q):=by rw[cn hpF];exact hp
 have Oj:(X.set F (.list fs))[q]? =aa (TL (qa l)):=by rw[cn hqF];exact hq
 have xA:=Yr (n:=n) hm' Yt Oj (by rw[kA];exact a9 I3)
 rw[show wk [60,60] (qa l)=ae by unfold wk;rw[kA,OP];rfl] at xA
 exact bg (n+1) 61 [.m F,.t (.bytes [62,62]),.t (.int (i:aj))] X rfl rfl [.b af,.a,.b _,.v _,.v _,.b _,.k _,.v _,.b af,.k (aa 55),.v _,.a,.v _,.v _,.s _] rfl (Ys hF) (mn hF hl) (f10 hp) (FR rfl) (kG hF rfl) (WV hF hl) rfl (by unfold kindOf;dsimp only;rw[Yt];rfl) xA (WS Yt) (c60 hm' Oj I3 hn hv) (bx hm' (bG ..).symm)
end
section
variable{d w mk k:ag aj}{i j n p q F a b:aj}{m M X H:Mu}{S:aj->Mu}{v u tok t2:T}{it:ag T}{C:Calls}{fs:ag PV}{x4 x5 x6 x7 x8:ar PV}
theorem Cu.wL(z:Cu d i j S)(h:H.all (MO.closed (j+H.length))=ae):Cu d i (j+H.length) λb=>S b++H where
 at_ b:=by rw[bo (ay.mp (z.at_ b)).1];exact z.at_ b
 set a b:=by rw[gz _ _ (ay.mp (z.at_ a)).1,z.set]
 cl b:=aE.mpr λo m=>by
  rw[ah,z.len];exact(bt.mp m).elim (λm=>MO.up (by rw[<-z.len b];exact aw ..) (aE.mp (z.cl b) o m)) (aE.mp h o)
 len b:=by rw[ah,z.len]
noncomputable abbrev rN(i F:aj)(tok:T)(x4 x5 x6 x7 x8:ar PV):Loc:=[aa (.m i),aa (.t tok),aa (.t (.bool af)),aa (.m F),x4,x5,x6,x7,x8,ac,ac,ac]
theorem rO(h:X[q]? =aa (TL it))(hl:it.length<bp):ei C (.m q) 30 ac [.t v] X=.ok (.t .none) (X.set q (TL (it++[v]))):=by
 rw[WU h (by rw[aq];exact hl)]
 show Res.ok _ (X.set q (.list (it.map PV.t++[PV.t v])))=Res.ok _ (X.set q (.list ((it++[v]).map PV.t)));rw[br];rfl
theorem kT(h:X[q]? =aa (TL it)){c:ar (ar aj)}(hc:fq 3 n=c):fq (kindOf (.m q) X) n=c:=by unfold kindOf;dsimp only;rw[h];exact hc
theorem kF(h:X[p]? =aa (gE mk q)):fq (kindOf (.m p) X) 51=aa (aa 55):=by unfold kindOf;dsimp only;rw[h];rfl
theorem neG(h:X[F]? =aa (.list fs)):eC .ne (.m F) (.t (.list [])) X=aa (!fs.isEmpty):=by
 show(Yg (.m F) (.t (.list [])) X).map (!·)=_;rw[show Yg (.m F) (.t (.list [])) X=aa fs.isEmpty from eG h];rfl
theorem DR{z:PV}(h:X[F]? =aa (.list (fs++[z]))):eC .ne (.m F) (.t (.list [])) X=aa true:=(neG h).trans (av (λb=>aa (!b)) (gn.mpr (cz _ (bf _ _))))
theorem nv{x y:ag aj}(h:x≠y):eC .eq (.t (.str x)) (.t (.str y)) m=aa false:=av aa (aD.mpr h)
theorem abF(hk:k≠fS)(hm:Cl X)(hF:X[F]? =aa (.list (fs++[.m p])))(hp:X[p]? =aa (gE mk q))(hq:X[q]? =aa (TL it))(qb:fs.length<bp)(hl:it.length<bp)(hw:wk mk it=af)
 (ME:CN (n+1) 59 [.m i,.t (tk k u a),.t (.bool af)] X=.ok (.t v) X) (tV:CN (n+1) 42 [.m i] (X.set q (TL (it++[v])))=.ok (.t t2) M) {f:aj} {Q:Res (cB×Loc)}
 (h:Wh (CN (n+1)) (dT r6 1) f (rN i F t2 (aa (.t (.str k))) (aa (.t u)) (aa (.t (.int (a:aj)))) (aa (.t (.bool af))) (aa (.t v))) M=Q):Wh (CN (n+1)) (dT r6 1) (f+1) (rN i F (tk k u a) x4 x5 x6 x7 x8) X=Q:=by
 have xA:=Yr (n:=n) hm hp hq (a9 hl);rw[hw] at xA;exact gA (CN (n+1)) (dT r6 1) f (rN i F (tk k u a) x4 x5 x6 x7 x8) X [.a,.b af,.a,.a,.b _,.v _,.k _,.v _,.a,.a,.b af,.v _,.a,.b af,.v _,.v _,.k _,.v _,.v _] (nv hk) (DR hF) (mn hF qb) (kF hp) xA (nv hk) ME (Ys hF) (mn hF qb) (WS hp) (kT hq rfl) (rO hq hl) tV Q h
theorem abG(hm:Cl X)(hF:X[F]? =aa (.list (fs++[.m p])))(hp:X[p]? =aa (gE mk q))(hq:X[q]? =aa (TL it))(qb:fs.length<bp)(hl:it.length<bp)(hw:wk mk it=ae)
 (ME:CN (n+1) 59 [.m i,.t (tk g8 u a),.t (.bool af)] X=.ok (.t v) X) (tV:CN (n+1) 42 [.m i] (X.set q (TL (it++[v])))=.ok (.t t2) M) {f:aj} {Q:Res (cB×Loc)}
 (h:Wh (CN (n+1)) (dT r6 1) f (rN i F t2 (aa (.t (.str g8))) (aa (.t u)) (aa (.t (.int (a:aj)))) (aa (.t (.bool af))) (aa (.t v))) M=Q):Wh (CN (n+1)) (dT r6 1) (f+1) (rN i F (tk g8 u a) x4 x5 x6 x7 x8) X=Q:=by
 have xA:=Yr (n:=n) hm hp hq (a9 hl);rw[hw] at xA;exact gA (CN (n+1)) (dT r6 1) f (rN i F (tk g8 u a) x4 x5 x6 x7 x8) X [.a,.b af,.a,.a,.b _,.v _,.k _,.v _,.a,.b af,.a,.b af,.v _,.a,.b af,.v _,.v _,.k _,.v _,.v _] rfl (DR hF) (mn hF qb) (kF hp) xA rfl rfl ME (Ys hF) (mn hF qb) (WS hp) (kT hq rfl) (rO hq hl) tV Q h
theorem abH(hk:k≠fS)(hF:X[F]? =aa (.list []))(ME:CN n 59 [.m i,.t (tk k u a),.t (.bool af)] X=.ok (.t v) X){f:aj}:
 Wh (CN n) (dT r6 1) (f+1) (rN i F (tk k u a) x4 x5 x6 x7 x8) X=.ok (.ret (.t v),rN i F (tk k u a) (aa (.t (.str k))) (aa (.t u)) (aa (.t (.int (a:aj)))) (aa (.t (.bool af))) (aa (.t v))) X:=
 gA (CN n) (dT r6 1) f (rN i F (tk k u a) x4 x5 x6 x7 x8) X [.a,.b af,.a,.a,.b _,.a,.b af,.v _,.a,.b _] (nv hk) (neG hF) (nv hk) ME (eG hF)
noncomputable def MF(w:ag aj):Bool:=T.eqB w (.bytes [91])||T.eqB w (.bytes [60,60])
noncomputable def cls(w:ag aj):Bool:=T.eqB w (.bytes [93])||T.eqB w (.bytes [62,62])
theorem tg:eC .isIn (.t (.bytes w)) (.t (.tup [.bytes [91],.bytes [60,60]])) m=aa (MF w):=by
 show aa (T.eqB w (.bytes [91])||(T.eqB w (.bytes [60,60])||false))=_;rw[AL];rfl
theorem zJ:eC .isIn (.t (.bytes w)) (.t (.tup [.bytes [93],.bytes [62,62]])) m=aa (cls w):=by
 show aa (T.eqB w (.bytes [93])||(T.eqB w (.bytes [62,62])||false))=_;rw[AL];rfl
theorem WX(hw:MF w=ae)(hF:X[F]? =aa (.list []))(tV:CN (n+1) 42 [.m i] ((X++[gE w (X.length+1),TL []]).set F (.list [.m X.length]))=.ok (.t t2) M){f:aj}{Q:Res (cB×Loc)}
 (h:Wh (CN (n+1)) (dT r6 1) f (rN i F t2 (aa (.t (.str fS))) (aa (.t (.bytes w))) (aa (.t (.int (a:aj)))) (aa (.t (.bool ae))) x8) M=Q):Wh (CN (n+1)) (dT r6 1) (f+1) (rN i F (tk fS (.bytes w) a) x4 x5 x6 x7 x8) X=Q:=
 have hX:(X++[gE w (X.length+1),TL []])[F]? =aa (.list []):=by rw[bo (ay.mp hF).1];exact hF
 gA (CN (n+1)) (dT r6 1) f (rN i F (tk fS (.bytes w) a) x4 x5 x6 x7 x8) X [.a,.b ae,.a,.a,.b ae,.a,.b _,.a,.v _,.b af,.k _,.v _,.v _,.v _] rfl (tg.trans (av aa hw)) (neG hF) (abC hF (by decide)) rfl (kG hF rfl) abB (WU hX (by decide)) tV Q h
theorem WY(hw:MF w=ae)(hm:Cl X)(hF:X[F]? =aa (.list (fs++[.m p])))(hp:X[p]? =aa (gE mk q))(hq:X[q]? =aa (TL it))(qb:(fs++[PV.m p]).length<40)(hl:it.length<bp)(hk:wk mk it=af)
 (tV:CN (n+1) 42 [.m i] ((X++[gE w (X.length+1),TL []]).set F (.list ((fs++[.m p])++[.m X.length])))=.ok (.t t2) M) {f:aj} {Q:Res (cB×Loc)}
 (h:Wh (CN (n+1)) (dT r6 1) f (rN i F t2 (aa (.t (.str fS))) (aa (.t (.bytes w))) (aa (.t (.int (a:aj)))) (aa (.t (.bool ae))) x8) M=Q):Wh (CN (n+1)) (dT r6 1) (f+1) (rN i F (tk fS (.bytes w) a) x4 x5 x6 x7 x8) X=Q:=by
 have hX:(X++[gE w (X.length+1),TL []])[F]? =aa (.list (fs++[.m p])):=by rw[bo (ay.mp hF).1];exact hF
 have h1:(fs++[PV.m p]).length<bp:=bA qb (by decide)
 have h2:fs.length<bp:=ax (by rw[ah];exact aw ..) h1
 have xA:=Yr (n:=n) hm hp hq (a9 hl);rw[hk] at xA;exact gA (CN (n+1)) (dT r6 1) f (rN i F (tk fS (.bytes w) a) x4 x5 x6 x7 x8) X [.a,.b ae,.a,.a,.b ae,.a,.b _,.v _,.k _,.v _,.a,.a,.v _,.b af,.k _,.v _,.v _,.v _] rfl (tg.trans (av aa hw)) (DR hF) (mn hF h2) (kF hp) xA (abC hF (a9 h1)) (fV (dB qb)) (kG hF rfl) abB (WU hX h1) tV Q h
theorem abI{X':Mu}{mk':ag aj}{q' p':aj}{QD:ag T}{gs:ag PV}(hw:cls w=ae)(ho:MF w=af)(hm:Cl X)(hF:X[F]? =aa (.list (fs++[.m p])))(hp:X[p]? =aa (gE mk q))(hq:X[q]? =aa (TL it))(qb:fs.length<bp)(hl:it.length<bp)(hk:wk mk it=af\/w=[62,62])
 (DS:CN (n+1) 61 [.m F,.t (.bytes w),.t (.int (a:aj))] X=.ok (.t v) X') (WZ:X'[F]? =aa (.list (gs++[.m p']))) (Yt:X'[p']? =aa (gE mk' q')) (Oj:X'[q']? =aa (TL QD)) (hgl:gs.length<bp) (pK:QD.length<bp)
 (tV:CN (n+1) 42 [.m i] (X'.set q' (TL (QD++[v])))=.ok (.t t2) M) {f:aj} {Q:Res (cB×Loc)}
 (h:Wh (CN (n+1)) (dT r6 1) f (rN i F t2 (aa (.t (.str fS))) (aa (.t (.bytes w))) (aa (.t (.int (a:aj)))) (aa (.t (.bool af))) (aa (.t v))) M=Q):Wh (CN (n+1)) (dT r6 1) (f+1) (rN i F (tk fS (.bytes w) a) x4 x5 x6 x7 x8) X=Q:=by
 have xA:=Yr (n:=n) hm hp hq (a9 hl);cases hb:wk mk it with
 |false=>
  rw[hb] at xA;exact gA (CN (n+1)) (dT r6 1) f (rN i F (tk fS (.bytes w) a) x4 x5 x6 x7 x8) X [.a,.b ae,.a,.a,.b af,.a,.b _,.v _,.k _,.v _,.a,.a,.b ae,.a,.b ae,.v _,.a,.b af,.v _,.v _,.k _,.v _,.v _] rfl (tg.trans (av aa ho)) (DR hF) (mn hF qb) (kF hp) xA rfl (zJ.trans (av aa hw)) DS (Ys WZ) (mn WZ hgl) (WS Yt) (kT Oj rfl) (rO Oj pK) tV Q h
 |true=>
  rw[hb] at xA;cases hk.resolve_left (by rw[hb];decide)
  exact gA (CN (n+1)) (dT r6 1) f (rN i F (tk fS (.bytes [62,62]) a) x4 x5 x6 x7 x8) X [.a,.b ae,.a,.a,.b af,.a,.b _,.v _,.k _,.v _,.a,.b ae,.v _,.a,.a,.b ae,.a,.b ae,.v _,.a,.b af,.v _,.v _,.k _,.v _,.v _] rfl (tg.trans (av aa ho)) (DR hF) (mn hF qb) (kF hp) xA rfl (c43 hm λZ=>⟨_,rfl⟩) rfl (zJ.trans (av aa hw)) DS (Ys WZ) (mn WZ hgl) (WS Yt) (kT Oj rfl) (rO Oj pK) tV Q h
theorem abJ{X':Mu}(hw:cls w=ae)(ho:MF w=af)(hm:Cl X)(hF:X[F]? =aa (.list (fs++[.m p])))(hp:X[p]? =aa (gE mk q))(hq:X[q]? =aa (TL it))(qb:fs.length<bp)(hl:it.length<bp)(hk:wk mk it=af\/w=[62,62])
 (DS:CN (n+1) 61 [.m F,.t (.bytes w),.t (.int (a:aj))] X=.ok (.t v) X') (WZ:X'[F]? =aa (.list [])) {f:aj}:
 Wh (CN (n+1)) (dT r6 1) (f+1) (rN i F (tk fS (.bytes w) a) x4 x5 x6 x7 x8) X=.ok (.ret (.t v),rN i F (tk fS (.bytes w) a) (aa (.t (.str fS))) (aa (.t (.bytes w))) (aa (.t (.int (a:aj)))) (aa (.t (.bool af))) (aa (.t v))) X':=by
 have xA:=Yr (n:=n) hm hp hq (a9 hl);cases hb:wk mk it with
 |false=>
  rw[hb] at xA;exact gA (CN (n+1)) (dT r6 1) f (rN i F (tk fS (.bytes w) a) x4 x5 x6 x7 x8) X [.a,.b ae,.a,.a,.b af,.a,.b _,.v _,.k _,.v _,.a,.a,.b ae,.a,.b ae,.v _,.a,.b _] rfl (tg.trans (av aa ho)) (DR hF) (mn hF qb) (kF hp) xA rfl (zJ.trans (av aa hw)) DS (eG WZ)
 |true=>
  rw[hb] at xA;cases hk.resolve_left (by rw[hb];decide)
  exact gA (CN (n+1)) (dT r6 1) f (rN i F (tk fS (.bytes [62,62]) a) x4 x5 x6 x7 x8) X [.a,.b ae,.a,.a,.b af,.a,.b _,.v _,.k _,.v _,.a,.b ae,.v _,.a,.a,.b ae,.a,.b ae,.v _,.a,.b _] rfl (tg.trans (av aa ho)) (DR hF) (mn hF qb) (kF hp) xA rfl (c43 hm λZ=>⟨_,rfl⟩) rfl (zJ.trans (av aa hw)) DS (eG WZ)
end
abbrev Tk:=ag aj×(aj->T)
def Ly:ag Tk->ag aj->ag aj->Prop
 |[],s,r=>s=r
 |t::ts,s,r=>∃wh s',s=wh++(t.1++s')/\kQ wh/\Lex t.1 s' t.2/\Ly ts s' r
section
variable{d r s:ag aj}{i j n F a:aj}{X X' X'':Mu}{S:aj->Mu}{t t1 t2 t3:T}{C:Calls}
theorem wM:∀{a b:ag Tk}{s r:ag aj},Ly (a++b) s r->∃m,Ly a s m/\Ly b m r:=by
 intro a
 induction a with
 |nil=>exact λh=>⟨_,rfl,h⟩
 |cons t a ih=>
  intro b s r h;refine vg ((show ∃wh s',s=wh++(t.1++s')/\kQ wh/\Lex t.1 s' t.2/\Ly (a++b) s' r from h)) λwh s' e w l h=>?_
  refine bH (ih h) λm h1 h2=>?_;exact⟨m,⟨wh,s',e,w,l,h1⟩,h2⟩
theorem jI{t:Tk}{ts:ag Tk}(h:Ly (t::ts) s r):∃m,Ly [t] s m/\Ly ts m r:=wM (a:=[t]) h
theorem jO{t:Tk}(h:Ly [t] (d.drop a) s):∃b p,d.drop b=s/\∀{n i j:aj}{S:aj->Mu},Cu d i j S->d.length<=bp->CN (n+6) 42 [.m i] (S a)=.ok (.t (t.2 p)) (S b):=by
 refine vg h λwh s' e w l h=>?_;cases (show s'=s from h)
 exact⟨a+wh.length+t.1.length,a+wh.length,dk (dk e),λz hd=>l z hd w e⟩
def Go(C:Calls)(i F k:aj)(t:T)(X:Mu)(t':T)(X':Mu):Prop:=∀x4 x5 x6 x7 x8,∃y4 y5 y6 y7 y8,∀f,Wh C (dT r6 1) (f+k) (rN i F t x4 x5 x6 x7 x8) X=Wh C (dT r6 1) f (rN i F t' y4 y5 y6 y7 y8) X'
theorem Go.refl:Go C i F 0 t X t X:=λx4 x5 x6 x7 x8=>⟨x4,x5,x6,x7,x8,λZ=>rfl⟩
theorem Go.trans{k l:aj}(h:Go C i F k t1 X t2 X')(g:Go C i F l t2 X' t3 X''):Go C i F (k+l) t1 X t3 X'':=λx4 x5 x6 x7 x8=>by
 refine UQ (h x4 x5 x6 x7 x8) λy4 y5 y6 y7 y8 h=>?_;refine UQ (g y4 y5 y6 y7 y8) λz4 z5 z6 z7 z8 g=>?_;exact⟨z4,z5,z6,z7,z8,λf=>by rw[bB k l, <-bZ,h,g]⟩
end
def VW(u:T):Prop:=∃w,u=.bytes w/\(w=kh\/w=iK\/w=mm)
def zK(t:Tk)(v:T):Prop:=∃k,(k≠fS/\k≠BR)/\∀p,(∃u,t.2 p=tk k u p/\(k=il->VW u))/\∀{n i:aj}{M:Mu},Cl M->CN (n+2) 59 [.m i,.t (t.2 p),.t (.bool af)] M=.ok (.t v) M
def DT(t:Tk)(s:ag aj):Prop:=∀p,t.2 p=tk g8 (.str s) p
noncomputable def fw(w:ag aj):Tk:=(w,tk fS (.bytes w))
section
variable{d s mk:ag aj}{i j n p q a b k:aj}{H:Mu}{S:aj->Mu}{t v:T}{fs:ag PV}{it:ag T}{o:MO}
theorem Cu.pQ(z:Cu d i j S):(S b++H)[j+k]? =H[k]?:=by rw[aZ (by rw[z.len];exact aw ..),z.len,aU]
theorem Cu.wN(z:Cu d i j S):(S b++H).set (j+k) o=S b++H.set k o:=by rw[cy _ _ (by rw[z.len];exact aw ..),z.len,aU]
structure Hd(d:ag aj)(i j:aj)(S:aj->Mu)(H:Mu)(fs:ag PV)(p q:aj)(mk:ag aj)(it:ag T):Prop where
 (cu:Cu d i j S) (hd:d.length<=bp) (cl:H.all (MO.closed (j+H.length))=ae) (hF:H[0]? =aa (.list (fs++[.m (j+p)]))) (hp:H[p]? =aa (gE mk (j+q))) (hq:H[q]? =aa (TL it))
theorem Hd.add(z:Hd d i j S H fs p q mk it):Hd d i j S (H.set q (TL (it++[v]))) fs p q mk (it++[v]) where
 cu:=z.cu
 hd:=z.hd
 cl:=aE.mpr λx m=>by
  rw[bG];exact(lW m).elim (aE.mp z.cl x) λe=>e▸Ib
 hF:=by rw[cn λe=>by have:=z.hq;rw[e,z.hF] at this;injection aM this with this;exact aQ (av Yd this) (by rw[kj,ag.getLast?_map];cases it.getLast?<;>exact λh=>by cases h)];exact z.hF
 hp:=by rw[cn λe=>by have:=z.hq;rw[e,z.hp] at this;cases this];exact z.hp
 hq:=cC (ay.mp z.hq).1
theorem MG{t t2:Tk}(hp:zK t v)(z:Hd d i j S H fs p q mk it)(qb:fs.length<bp)(hl:it.length<bp)(hw:wk mk it=af)(h2:Ly [t2] (d.drop a) s){p0:aj}:
 ∃b p2,d.drop b=s/\Go (CN (n+6)) i j 1 (t.2 p0) (S a++H) (t2.2 p2) (S b++H.set q (TL (it++[v]))):=by
 refine bH hp λk hk ME=>?_;obtain⟨⟨u,eu,_⟩,ME⟩:=ME p0;refine dZ (jO h2) λb p2 hb tV=>?_;have W1:=ME (n:=n+4) (i:=i) ((z.cu.wL z.cl).cl a);rw[eu] at W1 ⊢;refine⟨b,p2,hb,λx4 x5 x6 x7 x8=>⟨aa (.t (.str k)),aa (.t u),aa (.t (.int (p0:aj))),aa (.t (.bool af)),aa (.t v),λf=>?_⟩⟩;have DU:=tV (n:=n) (z.cu.wL (z.add (v:=v)).cl) z.hd;have F0:(S a++H)[j]? =aa (.list (fs++[.m (j+p)])):=(z.cu.pQ (k:=0)).trans z.hF;exact abF (n:=n+5) hk.1 ((z.cu.wL z.cl).cl a) F0 (z.cu.pQ.trans z.hp) (z.cu.pQ.trans z.hq) qb hl hw W1 (by rw[z.cu.wN];exact DU) rfl
theorem W2{t t2:Tk}{w:ag aj}(hp:DT t w)(z:Hd d i j S H fs p q mk it)(qb:fs.length<bp)(hl:it.length<bp)(hw:wk mk it=ae)(h2:Ly [t2] (d.drop a) s){p0:aj}:
 ∃b p2,d.drop b=s/\Go (CN (n+6)) i j 1 (t.2 p0) (S a++H) (t2.2 p2) (S b++H.set q (TL (it++[.inst 2 [.str w]]))):=by
 refine dZ (jO h2) λb p2 hb tV=>?_;have hm:=(z.cu.wL z.cl).cl a;have W1:=wH (n:=n+4) (i:=i) (s:=w) (p:=p0) hm;rw[hp p0];refine⟨b,p2,hb,λx4 x5 x6 x7 x8=>⟨aa (.t (.str g8)),aa (.t (.str w)),aa (.t (.int (p0:aj))),aa (.t (.bool af)),aa (.t (.inst 2 [.str w])),λf=>?_⟩⟩;have DU:=tV (n:=n) (z.cu.wL (z.add (v:=.inst 2 [.str w])).cl) z.hd;have F0:(S a++H)[j]? =aa (.list (fs++[.m (j+p)])):=(z.cu.pQ (k:=0)).trans z.hF;exact abG (n:=n+5) hm F0 (z.cu.pQ.trans z.hp) (z.cu.pQ.trans z.hq) qb hl hw W1 (by rw[z.cu.wN];exact DU) rfl
end
abbrev LV:=ag (ag Tk×T)
abbrev DV:=ag ((Tk×ag aj)×(ag Tk×T))
noncomputable def tW(l:LV):ag Tk:=l.flatMap (·.1)
noncomputable def ti(l:DV):ag Tk:=l.flatMap λx=>x.1.1::x.2.1
noncomputable def jB(l:DV):KV:=l.map λx=>(x.1.2,x.2.2)
def DW:aj->ag Tk->T->Prop
 |0,ts,v=>∃t,ts=[t]/\zK t v
 |dp+1,ts,v=>
  (∃t,ts=[t]/\zK t v)
   \/(∃l:LV,(∀x∈l,DW dp x.1 x.2)/\l.length<1000/\ts=fw [91]::(tW l++[fw [93]])/\v=.list (l.map (·.2)))
   \/(∃l:DV,(∀x∈l,DW dp x.2.1 x.2.2/\DT x.1.1 x.1.2/\x.2.2≠.none)/\2*l.length<1000/\(keysOf (jB l)).Nodup/\ts=fw [60,60]::(ti l++[fw [62,62]])/\v=.dict (ec (jB l)))
theorem uQ:∀{dp:aj}{ts:ag Tk}{v:T},DW dp ts v->∃t r,ts=t::r
 |0,ts,v,h=>h.elim λt h=>⟨t,[],h.1⟩
 |dp+1,ts,v,h=>h.elim (λh=>h.elim λt h=>⟨t,[],h.1⟩) λh=>h.elim (λh=>h.elim λl h=>⟨_,_,h.2.2.1⟩) λh=>h.elim λl h=>⟨_,_,h.2.2.2.1⟩
section
variable{d mk w:ag aj}{i j p q:aj}{H:Mu}{S:aj->Mu}{fs:ag PV}{it:ag T}
noncomputable abbrev Ih(j:aj)(H:Mu)(fs:ag PV)(w:ag aj):Mu:=H.set 0 (.list (fs++[.m (j+H.length)]))++[gE w (j+(H.length+1)),TL []]
theorem Rr:(Ih j H fs w).length=H.length+2:=by rw[ah,bG];rfl
theorem Hd.opened(z:Hd d i j S H fs p q mk it):Hd d i j S (Ih j H (fs++[.m (j+p)]) w) (fs++[.m (j+p)]) H.length (H.length+1) w [] where
 cu:=z.cu
 hd:=z.hd
 cl:=aE.mpr λx m=>by
  have hle:j+H.length<=j+(H.length+2):=aw _ 2;rw[Rr];rcases bt.mp m with m |m
  ·rcases lW m with m |rfl
   ·exact MO.up hle (aE.mp z.cl x m)
   ·show((fs++[PV.m (j+p)])++[PV.m (j+H.length)]).all (PV.closed (j+(H.length+2)))=ae
    rw[SM,cZ];exact⟨MO.up (o:=.list (fs++[PV.m (j+p)])) hle (aE.mp z.cl _ (cp z.hF)),by show(decide (j+H.length<j+(H.length+2))&&ae)=ae;rw[bc (r5 (dE (by decide)) j)];rfl⟩
  ·rcases aJ.mp m with rfl |m
   ·show(ae&&(decide (j+(H.length+1)<j+(H.length+2))&&ae))=ae
    rw[bc (r5 (da _) j)];rfl
   ·rw[aC.mp m];exact Ib
 hF:=by
  rw[bo (by rw[bG];exact(ay.mp z.hF).1),cC (ay.mp z.hF).1]
 hp:=by rw[aZ (by rw[bG];exact aP _),bG,dA];rfl
 hq:=by rw[aZ (by rw[bG];exact hY _),bG,aU];rfl
theorem W3(z:Cu d i j S)(h0:0<H.length){a:aj}:(S a++H++[gE w ((S a++H).length+1),TL []]).set j (.list (fs++[.m (S a++H).length]))=S a++Ih j H fs w:=by
 rw[az,ah,z.len];show(S a++(H++[gE w (j+H.length+1),TL []])).set (j+0) _=_;rw[z.wN,gz _ _ h0];rfl
theorem Rt{t2:Tk}{s:ag aj}{a p0 n:aj}(hw:MF w=ae)(z:Hd d i j S H fs p q mk it)(hk:wk mk it=af)(qb:(fs++[PV.m (j+p)]).length<40)(hl:it.length<bp)(h2:Ly [t2] (d.drop a) s):
 ∃b p2,d.drop b=s/\Go (CN (n+6)) i j 1 ((fw w).2 p0) (S a++H) (t2.2 p2) (S b++Ih j H (fs++[.m (j+p)]) w):=by
 refine dZ (jO h2) λb p2 hb tV=>?_;have DU:=tV (n:=n) (z.cu.wL (z.opened (w:=w)).cl) z.hd;refine⟨b,p2,hb,λx4 x5 x6 x7 x8=>⟨aa (.t (.str fS)),aa (.t (.bytes w)),aa (.t (.int (p0:aj))),aa (.t (.bool ae)),x8,λf=>?_⟩⟩;have F0:(S a++H)[j]? =aa (.list (fs++[.m (j+p)])):=(z.cu.pQ (k:=0)).trans z.hF;exact WY (n:=n+5) hw ((z.cu.wL z.cl).cl a) F0 (z.cu.pQ.trans z.hp) (z.cu.pQ.trans z.hq) qb hl hk (by rw[W3 z.cu (ay.mp z.hF).1];exact DU) rfl
end
section
variable{i n p q F:aj}{X:Mu}{fs:ag PV}{it:ag T}
theorem W4(hq:X[q]? =aa (TL it)):d0 (.m q) X=.ok (.list it) (X.set q .dead):=by
 unfold d0 Cq;dsimp only;rw[hq];show lu ((eB (it.map PV.t)).map λts=>(T.list ts,X.set q .dead))=_;rw[Q6];rfl
theorem abK(hm:Cl X)(hq:X[q]? =aa (TL it))(h:n=X.length):qT Vj n (.m q) X=.ok (.t (.list it)) (X.set q .dead):=by
 show(d0 (.m q) X).bind (λt mu=>eh n (PV.t t) mu)=_;rw[W4 hq];show eh n (PV.t (.list it)) (X.set q .dead)=_;unfold eh;rw[bx (hm.set rfl) (h.trans (bG ..).symm)];rfl
theorem abL(hm:Cl X)(hF:X[F]? =aa (.list (fs++[.m p])))(hp:X[p]? =aa (gE [91] q))(hq:X[q]? =aa (TL it))(hpF:F≠p)(hqF:F≠q)(hl:fs.length<bp):CN (n+1) 61 [.m F,.t (.bytes [93]),.t (.int (i:aj))] X=.ok (.t (.list it)) ((X.set F (.list fs)).set q .dead):=
 ahW hF hp hpF hl (abK (hm.pop hF) (by rw[cn hqF];exact hq) (bG ..).symm)
end
section
variable{d mk mk1 w s:ag aj}{i j n p q p1 q1 p0 a k:aj}{H G:Mu}{S:aj->Mu}{fs:ag PV}{it Yu:ag T}{v:T}{t2:Tk}
theorem Hd.lt(z:Hd d i j S H fs p q mk it):q<H.length:=(ay.mp z.hq).1
theorem Hd.ext(z:Hd d i j S H fs p q mk it)(h:G.all (MO.closed (j+(H.length+G.length)))=ae):Hd d i j S (H++G) fs p q mk it where
 cu:=z.cu
 hd:=z.hd
 cl:=aE.mpr λx m=>by
  rw[ah];exact(bt.mp m).elim (λm=>MO.up (bq (aw ..) j) (aE.mp z.cl x m)) (aE.mp h x)
 hF:=by rw[bo (ay.mp z.hF).1];exact z.hF
 hp:=by rw[bo (ay.mp z.hp).1];exact z.hp
 hq:=by rw[bo z.lt];exact z.hq
def To(n i j:aj)(d:ag aj)(S:aj->Mu)(k:aj)(t:T)(a:aj)(H:Mu)(t2:Tk)(s:ag aj)(H':Mu):Prop:=∃b p2,d.drop b=s/\Go (CN (n+6)) i j k t (S a++H) (t2.2 p2) (S b++H')
noncomputable abbrev pO(j:aj)(H:Mu)(fs:ag PV)(w:ag aj)(y:MO)(G:Mu):Mu:=H.set 0 (.list (fs++[.m (j+H.length)]))++(gE w (j+(H.length+1))::y::G)
theorem MH{R:Mu}(hw:cls w=ae)(ho:MF w=af)(z:Hd d i j S (H++R) fs p q mk it)(z1:Hd d i j S G (fs++[.m (j+p)]) p1 q1 mk1 Yu)(hk:wk mk1 Yu=af\/w=[62,62])(qb:(fs++[PV.m (j+p)]).length<bp)(hl:it.length<bp)(wK:Yu.length<bp)
 (DS:CN (n+6) 61 [.m j,.t (.bytes w),.t (.int (p0:aj))] (S a++G)=.ok (.t v) (S a++(H++R))) (h2:Ly [t2] (d.drop a) s):To n i j d S 1 ((fw w).2 p0) a G t2 s ((H++R).set q (TL (it++[v]))):=by
 refine dZ (jO h2) λb p2 hb tV=>?_;refine⟨b,p2,hb,λx4 x5 x6 x7 x8=>⟨aa (.t (.str fS)),aa (.t (.bytes w)),aa (.t (.int (p0:aj))),aa (.t (.bool af)),aa (.t v),λf=>?_⟩⟩;have DU:=tV (n:=n) (z.cu.wL (z.add (v:=v)).cl) z.hd;exact abI (n:=n+5) hw ho ((z.cu.wL z1.cl).cl a) ((z.cu.pQ (k:=0)).trans z1.hF) (z.cu.pQ.trans z1.hp) (z.cu.pQ.trans z1.hq) qb wK hk DS ((z.cu.pQ (k:=0)).trans z.hF) (z.cu.pQ.trans z.hp) (z.cu.pQ.trans z.hq) (ax (by rw[ah];exact aw ..) qb) hl (by rw[z.cu.wN];exact DU) rfl
theorem Ru{y:MO}:(Ih j H fs w++G).set (H.length+1) y=pO j H fs w y G:=by
 rw[az,cy _ _ (by rw[bG];exact hY _),bG,aU];rfl
theorem TX{y:MO}(h:H[0]? =aa (.list fs)):(pO j H fs w y G).set 0 (.list fs)=H++(gE w (j+(H.length+1))::y::G):=by
 rw[gz _ _ (by rw[bG];exact(ay.mp h).1),jH]
 congr 1;exact mD λk=>by
  cases k with
  |zero=>rw[cC (ay.mp h).1,h]
  |succ k=>rw[cn (dW k).symm]
theorem MI{H:Mu}{x:MO}(h:H[q]? =aa x):H.set q x=H:=mD λk=>by
 by_cases e:q=k
 ·rw[<-e,cC (ay.mp h).1,h]
 ·rw[cn e]
theorem mrg{G G':Mu}{x y:MO}(h:q<H.length):((H++G).set q x++G').set q y=(H++(G++G')).set q y:=by
 have h1:q<(H++G).length:=by rw[ah];exact bw h (aw ..)
 rw[gz _ _ (by rw[bG];exact h1),jH, <-az,gz _ _ h1]
end
def Ad(n i j:aj)(d:ag aj)(S:aj->Mu)(H:Mu)(fs:ag PV)(p q:aj)(mk:ag aj)(k:aj)(t:T)(a:aj)(t2:Tk)(s:ag aj)(QD:ag T):Prop:=
 ∃G b p2,d.drop b=s/\Hd d i j S ((H++G).set q (TL QD)) fs p q mk QD/\Go (CN (n+6)) i j k t (S a++H) (t2.2 p2) (S b++(H++G).set q (TL QD))
section
variable{d mk w w' s s2 s3:ag aj}{i j n p q p0 a k:aj}{H:Mu}{S:aj->Mu}{fs:ag PV}{it Yu it2 iP:ag T}{v t:T}{t0 t1 t2 t3:Tk}
theorem Ad.trans{l:aj}(z:Hd d i j S H fs p q mk it)(h:Ad n i j d S H fs p q mk k t a t2 s Yu)(g:∀b p2 H',d.drop b=s->Hd d i j S H' fs p q mk Yu->Ad n i j d S H' fs p q mk l (t2.2 p2) b t3 s3 it2):Ad n i j d S H fs p q mk (k+l) t a t3 s3 it2:=by
 refine ue h λG b p2 hb z1 h=>?_;refine ue (g b p2 _ hb z1) λG' c p3 hc z2 g=>?_;rw[mrg z.lt] at z2 g;exact⟨G++G',c,p3,hc,z2,h.trans g⟩
theorem Ad.nil(z:Hd d i j S H fs p q mk it)(h:d.drop a=s):Ad n i j d S H fs p q mk 0 (t2.2 p0) a t2 s it:=by
 refine⟨[],a,p0,h,?_⟩;rw[aH,MI z.hq];exact⟨z,Go.refl⟩
theorem BW(hp:zK t0 v)(z:Hd d i j S H fs p q mk it)(qb:fs.length<bp)(hl:it.length<bp)(hw:wk mk it=af)(h2:Ly [t2] (d.drop a) s):Ad n i j d S H fs p q mk 1 (t0.2 p0) a t2 s (it++[v]):=by
 obtain⟨b,p2,hb,g⟩:=MG hp z qb hl hw h2;refine⟨[],b,p2,hb,?_⟩;rw[aH];exact⟨z.add,g⟩
theorem BX(z:Hd d i j S H fs p q mk it)(ho:MF w=ae)(hc:cls w'=ae)(E6:MF w'=af)(hk:wk mk it=af)(qb:(fs++[PV.m (j+p)]).length<40)(hl:it.length<bp)(wK:iP.length<bp)(y1:Ly [t1] (d.drop a) s)
 (els:∀b p1,d.drop b=s->Ad n i j d S (Ih j H (fs++[.m (j+p)]) w) (fs++[.m (j+p)]) H.length (H.length+1) w k (t1.2 p1) b (fw w') s2 iP) (hkk:wk w iP=af\/w'=[62,62])
 (DS:∀b p2 G,Hd d i j S (pO j H (fs++[.m (j+p)]) w (TL iP) G) (fs++[.m (j+p)]) H.length (H.length+1) w iP->∃y:MO,(∀n,y.closed n=ae)/\CN (n+6) 61 [.m j,.t (.bytes w'),.t (.int (p2:aj))] (S b++pO j H (fs++[.m (j+p)]) w (TL iP) G)=.ok (.t v) (S b++(H++(gE w (j+(H.length+1))::y::G))))
 (h2:Ly [t2] s2 s3):Ad n i j d S H fs p q mk (1+(k+1)) ((fw w).2 p0) a t2 s3 (it++[v]):=by
 refine dZ (Rt (n:=n) (p0:=p0) ho z hk qb hl y1) λb p1 hb g0=>?_;refine ue (els b p1 hb) λG c p2 z0 z1 g1=>?_;subst z0;rw[Ru] at z1 g1;refine bH (DS c p2 G z1) λy hy DS=>?_;have z2:Hd d i j S (H++(gE w (j+(H.length+1))::y::G)) fs p q mk it:=z.ext (aE.mpr λx m=>by
  have hx:∀x∈gE w (j+(H.length+1))::TL iP::G,x.closed (j+(H.length+(G.length+2)))=true:=λx m=>by
   have:=aE.mp z1.cl x (cU _ m)
   rw[ah,bG] at this;exact this
  rcases aJ.mp m with rfl |m
  ·exact hx _ (.head _)
  ·rcases aJ.mp m with rfl |m
   ·exact hy _
   ·exact hx _ (.tail _ (.tail _ m)))
 refine dZ (MH hc E6 z2 z1 hkk (bA qb (by decide)) hl wK DS h2) λe p3 he g2=>?_
 exact⟨_,e,p3,he,z2.add,g0.trans (g1.trans g2)⟩
theorem MJ(z:Hd d i j S H fs p q mk it)(qb:(fs++[PV.m (j+p)]).length<40)(b p2:aj)(G:Mu)(z1:Hd d i j S (pO j H (fs++[.m (j+p)]) [91] (TL iP) G) (fs++[.m (j+p)]) H.length (H.length+1) [91] iP):
 ∃y:MO,(∀n,y.closed n=ae)/\CN (n+6) 61 [.m j,.t (.bytes [93]),.t (.int (p2:aj))] (S b++pO j H (fs++[.m (j+p)]) [91] (TL iP) G)=.ok (.t (.list iP)) (S b++(H++(gE [91] (j+(H.length+1))::y::G))):=by
 have h:=OQ z.lt;refine⟨.dead,λZ=>rfl,?_⟩;refine(abL (F:=j) (n:=n+5) ((z.cu.wL z1.cl).cl b) ((z.cu.pQ (k:=0)).trans z1.hF) (z.cu.pQ.trans z1.hp) (z.cu.pQ.trans z1.hq) (dB (dE h)) (dB (dE (gC _))) (bA qb (by decide))).trans (av (Res.ok _) ?_)
 show((S b++pO j H (fs++[.m (j+p)]) [91] (TL iP) G).set (j+0) _).set _ _=_;rw[z.cu.wN,TX z.hF,z.cu.wN,cy _ _ (aw _ 1),aU];rfl
theorem MK{l:KV}(z:Hd d i j S H fs p q mk it)(qb:(fs++[PV.m (j+p)]).length<40)(I3:2*l.length<bp)(hn:(keysOf l).Nodup)(hv:nNN l)(b p2:aj)(G:Mu)(z1:Hd d i j S (pO j H (fs++[.m (j+p)]) [60,60] (TL (qa l)) G) (fs++[.m (j+p)]) H.length (H.length+1) [60,60] (qa l)):
 ∃y:MO,(∀n,y.closed n=ae)/\CN (n+6) 61 [.m j,.t (.bytes [62,62]),.t (.int (p2:aj))] (S b++pO j H (fs++[.m (j+p)]) [60,60] (TL (qa l)) G)=.ok (.t (.dict (ec l))) (S b++(H++(gE [60,60] (j+(H.length+1))::y::G))):=by
 have h:=OQ z.lt;refine⟨TL (qa l),λZ=>Ib,?_⟩;refine(abE (F:=j) (n:=n+4) ((z.cu.wL z1.cl).cl b) ((z.cu.pQ (k:=0)).trans z1.hF) (z.cu.pQ.trans z1.hp) (z.cu.pQ.trans z1.hq) (dB (dE h)) (dB (dE (gC _))) (bA qb (by decide)) I3 hn hv).trans (av (Res.ok _) ?_)
 show(S b++pO j H (fs++[.m (j+p)]) [60,60] (TL (qa l)) G).set (j+0) _=_;rw[z.cu.wN,TX z.hF]
end
def VG(n i j:aj)(d:ag aj)(S:aj->Mu)(dp:aj):Prop:=∀{ts:ag Tk}{v:T},DW dp ts v->∀{t0:Tk}{kq:ag Tk}{t2:Tk}{H:Mu}{fs:ag PV}{p q:aj}{mk:ag aj}{it:ag T}{a p0:aj}{s2 s3:ag aj},
 ts=t0::kq->Hd d i j S H fs p q mk it->fs.length+dp+2<40->it.length<5000->wk mk it=af->Ly kq (d.drop a) s2->Ly [t2] s2 s3->Ad n i j d S H fs p q mk ts.length (t0.2 p0) a t2 s3 (it++[v])
section
variable{d mk s2 s3:ag aj}{i j n p q p0 a k dp:aj}{H:Mu}{S:aj->Mu}{fs:ag PV}{it:ag T}{v t:T}{t0 t1 t2 tc:Tk}{ts kq:ag Tk}
theorem jP{α:Type}{l:ag α}{tc:α}:∃t2 ts2,l++[tc]=t2::ts2:=by
 cases l with
 |nil=>exact⟨_,_,rfl⟩
 |cons=>exact⟨_,_,rfl⟩
theorem tu{k:aj}(h:k<5000):k<bp:=bA h (by decide)
theorem ah0{k:aj}(h:k+dp+2<40):k<bp:=ax (ai (aw k dp) (aw _ 2)) (bA h (by decide))
theorem ML(ih:VG n i j d S dp){l:LV}:∀{t0 kq H it a p0 s2},(∀x∈l,DW dp x.1 x.2)->tW l++[tc]=t0::kq->Hd d i j S H fs p q [91] it->it.length+l.length<5000->fs.length+dp+2<40->Ly kq (d.drop a) s2->
 Ad n i j d S H fs p q [91] (tW l).length (t0.2 p0) a tc s2 (it++l.map (·.2)):=by
 induction l with
 |nil=>
  intro t0 kq H it a p0 s2 hr e z hl hf hy;cases (e);rw[show it++([]:LV).map (·.2)=it from aH _]
  exact .nil z hy
 |cons x l ih2=>
  intro t0 kq H it a p0 s2 hr e z hl hf hy;have hx:=hr x (.head _);refine gU (uQ hx) λt xs ex=>?_;rw[show tW (x::l)=x.1++tW l from rfl,ex,az] at e
  rw[show tW (x::l)=x.1++tW l from rfl,ah]
  refine gf (cg (show t::(xs++(tW l++[tc]))=t0::kq from e)) λe0 e1=>?_
  refine gU (jP (l:=tW l) (tc:=tc)) λt2 ts2 e2=>?_;rw[<-e1,e2] at hy;rw[<-e0];refine bH (wM hy) λsm y1 y2=>?_;refine bH (jI y2) λs3 y3 y4=>?_;rw[show it++(x::l).map (·.2)=(it++[x.2])++l.map (·.2) by rw[az];rfl]
  refine Ad.trans z (ih hx ex z hf (ax (aw ..) hl) rfl y1 y3) λb p2 H' hb z'=>?_;exact ih2 (λx h=>hr x (.tail _ h)) e2 z' (by rw[ah,bZ,bB [x.2].length];exact hl) hf (by rw[hb];exact y4)
theorem FS(ih:VG n i j d S dp){l:DV}:∀{t0 kq H it a p0 s2},(∀x∈l,DW dp x.2.1 x.2.2/\DT x.1.1 x.1.2/\x.2.2≠.none)->ti l++[tc]=t0::kq->Hd d i j S H fs p q [60,60] it->it.length%2=0->it.length+2*l.length<5000->fs.length+dp+2<40->Ly kq (d.drop a) s2->
 Ad n i j d S H fs p q [60,60] (ti l).length (t0.2 p0) a tc s2 (it++qa (jB l)):=by
 induction l with
 |nil=>
  intro t0 kq H it a p0 s2 hr e z h2 hl hf hy;cases (e);rw[show it++qa (jB [])=it from aH _]
  exact .nil z hy
 |cons x l ih2=>
  intro t0 kq H it a p0 s2 hr e z h2 hl hf hy;refine nY (hr x (.head _)) λhx hkt Z=>?_;refine gU (uQ hx) λt xs ex=>?_;have e1:ti (x::l)=x.1.1::(x.2.1++ti l):=rfl;rw[e1,ex] at e;rw[e1,aO,ah,bB];refine gf (cg (show x.1.1::((t::xs++ti l)++[tc])=t0::kq from e)) λe0 e1=>?_
  refine gU (jP (l:=ti l) (tc:=tc)) λt2 ts2 e2=>?_;rw[<-e1,az,e2] at hy;rw[<-e0];refine bH (jI hy) λsk k1 hy=>?_;refine bH (wM hy) λsm y1 y2=>?_;refine bH (jI y2) λs3 y3 y4=>?_;have wK:it.length+1<5000:=ax (bq (bI (cF _)) _) hl;rw[show it++qa (jB (x::l))=(it++[T.inst 2 [.str x.1.2]]++[x.2.2])++qa (jB l) by rw[az,az];rfl]
  refine dZ (W2 (n:=n) (p0:=p0) hkt z (ah0 hf) (tu (gB wK)) (by unfold wk;rw[h2];rfl) k1) λb0 p1 hb0 g0=>?_
  have a0:Ad n i j d S H fs p q [60,60] 1 (x.1.1.2 p0) a t sk (it++[.inst 2 [.str x.1.2]]):=⟨[],b0,p1,hb0,by rw[aH];exact⟨z.add,g0⟩⟩
  refine Ad.trans z a0 λb p2 H' hb z'=>Ad.trans z' (ih hx ex z' hf (by rw[ah];exact wK) (by unfold wk;rw[ah,aj.add_mod,h2];rfl) (by rw[hb];exact y1) y3) λb p2 H' hb z'=>?_
  exact ih2 (λx h=>hr x (.tail _ h)) e2 z' (by rw[ah,ah];exact(OR it.length 2).trans h2) (by rw[ah,ah];exact ax (cX (cS _ 2 _)) hl) hf (by rw[hb];exact y4)
theorem oO{l:DV}:(jB l).length=l.length:=aq ..
theorem MM:VG n i j d S dp:=by
 induction dp with
 |zero=>
  intro ts v hr t0 kq t2 H fs p q mk it a p0 s2 s3 e z hf hl hw h1 h2;refine bH hr λt z0 hp=>?_;subst z0;cases (e);cases (h1);exact BW hp z (tu (by omega)) (tu hl) hw h2
 |succ dp ih=>
  intro ts v hr t0 kq t2 H fs p q mk it a p0 s2 s3 e z hf hl hw h1 h2;have hf1:(fs++[PV.m (j+p)]).length+dp+2<40:=by rw[ah];exact(show fs.length+1+dp+2<40 by omega)
  have hf2:(fs++[PV.m (j+p)]).length<40:=ax (ai (aw _ dp) (aw _ 2)) hf1;rcases hr with⟨t,rfl,hp⟩ |⟨l,wK,BY,rfl,rfl⟩ |⟨l,wK,BY,hnd,rfl,rfl⟩
  ·cases (e)
   cases (h1);exact BW hp z (tu (by omega)) (tu hl) hw h2
  ·cases (e)
   refine gU (jP (l:=tW l) (tc:=fw [93])) λt1 ts1 et=>?_;rw[et] at h1;refine bH (jI h1) λsa y1 y2=>?_;rw[show(fw [91]::(tW l++[fw [93]])).length=1+((tW l).length+1) by rw[aO,ah,bB];rfl]
   exact BX z rfl rfl rfl hw hf2 (tu hl) (by rw[gx,aq];exact tu (bA BY (by decide))) y1 (λb p1 hb=>ML ih wK et z.opened (by rw[c0,bM];exact bA BY (by decide)) hf1 (by rw[hb];exact y2)) (.inl rfl) (MJ z hf2) h2
  ·cases (e)
   refine gU (jP (l:=ti l) (tc:=fw [62,62])) λt1 ts1 et=>?_;rw[et] at h1;refine bH (jI h1) λsa y1 y2=>?_;rw[show(fw [60,60]::(ti l++[fw [62,62]])).length=1+((ti l).length+1) by rw[aO,ah,bB];rfl]
   exact BX z rfl rfl rfl hw hf2 (tu hl) (by rw[gx,kA,oO];exact tu (bA BY (by decide))) y1 (λb p1 hb=>FS ih wK et z.opened rfl (by rw[c0,bM];exact bA BY (by decide)) hf1 (by rw[hb];exact y2)) (.inr rfl) (MK z hf2 (by rw[oO];exact tu (bA BY (by decide))) hnd λx hx=>by
    refine bH (aT.mp hx) λy hy z0=>?_;subst z0;exact(wK y hy).2.2) h2
end
section
variable{d w w' s s2:ag aj}{i j n p0 a k dp:aj}{S:aj->Mu}{iP:ag T}{v:T}{t0 t1:Tk}{ts kq:ag Tk}
noncomputable abbrev Hf1(j:aj)(w:ag aj):Mu:=[.list [.m (j+1)],gE w (j+2),TL []]
theorem Hd.first(z:Cu d i j S)(hd:d.length<=bp):Hd d i j S (Hf1 j w) [] 1 2 w [] where
 cu:=z
 hd:=hd
 cl:=by
  show((decide (j+1<j+3)&&ae)&&((ae&&(decide (j+2<j+3)&&ae))&&(ae&&ae)))=ae;rw[bc (r5 (by decide) j),bc (da _)];rfl
 hF:=rfl
 hp:=rfl
 hq:=rfl
theorem MN(z:Cu d i j S)(hd:d.length<=bp)(ho:MF w=ae)(hc:cls w'=ae)(E6:MF w'=af)(wK:iP.length<bp)(y1:Ly [t1] (d.drop a) s)
 (els:∀b p1,d.drop b=s->Ad n i j d S (Hf1 j w) [] 1 2 w k (t1.2 p1) b (fw w') s2 iP) (hkk:wk w iP=af\/w'=[62,62])
 (DS:∀b p2 H,Hd d i j S H [] 1 2 w iP->∃H',CN (n+6) 61 [.m j,.t (.bytes w'),.t (.int (p2:aj))] (S b++H)=.ok (.t v) (S b++H')/\H'[0]? =aa (.list [])):
 ∃b au H',d.drop b=s2/\∀f,Wh (CN (n+6)) (dT r6 1) (f+(k+2)) (rN i j ((fw w).2 p0) ac ac ac ac ac) (S a++[.list []])=.ok (.ret (.t v),au) (S b++H'):=by
 refine dZ (jO y1) λb p1 hb tV=>?_;refine ue (els b p1 hb) λG c p2 hc2 z1 g=>?_;refine UQ (g (aa (.t (.str fS))) (aa (.t (.bytes w))) (aa (.t (.int (p0:aj)))) (aa (.t (.bool ae))) ac) λy4 y5 y6 y7 y8 g=>?_;refine bH (DS c p2 _ z1) λH' DS h0=>?_;have DU:=tV (n:=n) (z.wL (Hd.first (w:=w) z hd).cl) hd;have el:(S a++[MO.list []]).length=j+1:=by rw[ah,z.len];rfl
 have es:(S a++[MO.list []]++[gE w ((S a++[MO.list []]).length+1),TL []]).set j (.list [.m (S a++[MO.list []]).length])=S a++Hf1 j w:=by
  rw[el,az];exact z.wN (k:=0)
 rw[<-es] at DU;exact⟨c,_,H',hc2,λf=>WX (n:=n+5) (f:=f+(k+1)) ho (z.pQ (k:=0)) DU ((av (λf=>Wh (CN (n+6)) (dT r6 1) f (rN i j (t1.2 p1) (aa (.t (.str fS))) (aa (.t (.bytes w))) (aa (.t (.int (p0:aj)))) (aa (.t (.bool ae))) ac) (S b++Hf1 j w)) (show f+(k+1)=(f+1)+k by omega)).trans ((g (f+1)).trans (abJ (n:=n+5) (w:=w') hc E6 ((z.wL z1.cl).cl c) ((z.pQ (k:=0)).trans z1.hF) (z.pQ.trans z1.hp) (z.pQ.trans z1.hq) (by decide) wK hkk DS ((z.pQ (k:=0)).trans h0))))⟩
theorem ah5{H:Mu}(b p2:aj)(z:Hd d i j S H [] 1 2 [91] iP):∃H',CN (n+6) 61 [.m j,.t (.bytes [93]),.t (.int (p2:aj))] (S b++H)=.ok (.t (.list iP)) (S b++H')/\H'[0]? =aa (.list []):=by
 refine⟨(H.set 0 (.list [])).set 2 .dead,?_,?_⟩
 ·refine(abL (F:=j) (n:=n+5) ((z.cu.wL z.cl).cl b) ((z.cu.pQ (k:=0)).trans z.hF) (z.cu.pQ.trans z.hp) (z.cu.pQ.trans z.hq) (dB (da _)) (dB (dE (by decide))) (by decide)).trans (av (Res.ok _) ?_)
  show((S b++H).set (j+0) _).set (j+2) _=_;rw[z.cu.wN,z.cu.wN]
 ·rw[cn (by decide),cC (ay.mp z.hF).1]
theorem ah6{H:Mu}{l:KV}(I3:2*l.length<bp)(hn:(keysOf l).Nodup)(hv:nNN l)(b p2:aj)(z:Hd d i j S H [] 1 2 [60,60] (qa l)):∃H',CN (n+6) 61 [.m j,.t (.bytes [62,62]),.t (.int (p2:aj))] (S b++H)=.ok (.t (.dict (ec l))) (S b++H')/\H'[0]? =aa (.list []):=by
 refine⟨H.set 0 (.list []),?_,cC (ay.mp z.hF).1⟩;refine(abE (F:=j) (n:=n+4) ((z.cu.wL z.cl).cl b) ((z.cu.pQ (k:=0)).trans z.hF) (z.cu.pQ.trans z.hp) (z.cu.pQ.trans z.hq) (dB (da _)) (dB (dE (by decide))) (by decide) I3 hn hv).trans (av (Res.ok _) ?_)
 exact z.cu.wN (k:=0)
theorem c62(z:Cu d i j S)(hd:d.length<=bp)(hr:DW dp ts v)(e:ts=t0::kq)(TY:dp+2<40)(Oe:ts.length<=bp)(hy:Ly kq (d.drop a) s2):
 ∃b,d.drop b=s2/\CN (n+7) 62 [.m i,.t (t0.2 p0),.t (.bool af)] (S a)=.ok (.t v) (S b):=by
 have key:∃b au H',d.drop b=s2/\∀f,Wh (CN (n+6)) (dT r6 1) (f+ts.length) (rN i j (t0.2 p0) ac ac ac ac ac) (S a++[.list []])=.ok (.ret (.t v),au) (S b++H'):=by
  have plain:∀t,ts=[t]->zK t v->∃b au H',d.drop b=s2/\∀f,Wh (CN (n+6)) (dT r6 1) (f+ts.length) (rN i j (t0.2 p0) ac ac ac ac ac) (S a++[.list []])=.ok (.ret (.t v),au) (S b++H'):=by
   rintro t rfl ⟨k,⟨hk,_⟩,h⟩
   cases (e);obtain⟨⟨u,hu,_⟩,ME⟩:=h p0;have W1:=ME (n:=n+4) (i:=i) (z.wL (H:=[.list []]) rfl |>.cl a);rw[hu] at W1 ⊢;exact⟨a,_,[.list []],hy,λf=>abH hk (z.pQ (k:=0)) W1⟩
  cases dp with
  |zero=>exact hr.elim λt h=>plain t h.1 h.2
  |succ dp=>
   rcases hr with⟨t,h1,h2⟩ |⟨l,wK,BY,rfl,rfl⟩ |⟨l,wK,BY,hnd,rfl,rfl⟩
   ·exact plain t h1 h2
   ·cases (e)
    refine gU (jP (l:=tW l) (tc:=fw [93])) λt1 ts1 et=>?_;rw[et] at hy;refine bH (jI hy) λsa y1 y2=>?_;rw[show(fw [91]::(tW l++[fw [93]])).length=(tW l).length+2 by rw[aO,ah];rfl]
    exact MN z hd rfl rfl rfl (by rw[gx,aq];exact tu (bA BY (by decide))) y1 (λb p1 hb=>ML MM wK et (Hd.first z hd) (by rw[c0,bM];exact bA BY (by decide)) (by rw[c0,bM];exact bA (da _) (by rw[cS] at TY;exact TY)) (by rw[hb];exact y2)) (.inl rfl) λb p2 H z=>ah5 b p2 z
   ·cases (e)
    refine gU (jP (l:=ti l) (tc:=fw [62,62])) λt1 ts1 et=>?_;rw[et] at hy;refine bH (jI hy) λsa y1 y2=>?_;rw[show(fw [60,60]::(ti l++[fw [62,62]])).length=(ti l).length+2 by rw[aO,ah];rfl]
    exact MN z hd rfl rfl rfl (by rw[gx,kA,oO];exact tu (bA BY (by decide))) y1 (λb p1 hb=>FS MM wK et (Hd.first z hd) rfl (by rw[c0,bM];exact bA BY (by decide)) (by rw[c0,bM];exact bA (da _) (by rw[cS] at TY;exact TY)) (by rw[hb];exact y2)) (.inr rfl) (λb p2 H z=>ah6 (by rw[oO];exact tu (bA BY (by decide))) hnd (λx hx=>by
     refine bH (aT.mp hx) λy hy z0=>?_;subst z0;exact(wK y hy).2.2) b p2 z)
 refine yS key λb au H' hb h=>?_;refine⟨b,hb,?_⟩;obtain⟨f,hf⟩ :∃f,vp=f+ts.length:=⟨vp-ts.length,(lO (ai Oe (by decide))).symm⟩
 have h:=h f;rw[<-hf] at h;exact bg (n+6) 62 [.m i,.t (t0.2 p0),.t (.bool af)] (S a) rfl rfl [.v _,.l _,.s _] (nl (z.len a)) h z.gk
end
def opW(w:ag aj):Prop:=w≠kh/\w≠iK/\w≠mm
noncomputable def xi(w:ag aj)(xs:ag T):T:=.inst 4 [.str w,.list xs]
section
variable{w d k:ag aj}{n p a q:aj}{M:Mu}{u v:T}{xs:ag T}{C:Calls}
theorem MP(hm:Cl M)(h:k=il->VW u):CN (n+1) 82 [.t (tk k u p)] M=.ok (.t (.bool af)) M:=by
 by_cases hk:k=il
 ·refine bH (h hk) λw z0 hw=>?_;subst z0
  rw[hk];exact bg n 82 [.t (tk il (.bytes w) p)] M rfl rfl [.a,.b ae,.a,.a,.b af,.s _] rfl (by rcases hw with rfl |rfl |rfl<;>rfl) (bx hm rfl)
 ·exact bg n 82 [.t (tk k u p)] M rfl rfl [.a,.b af,.a,.s _] (av aa (aD.mpr hk)) (bx hm rfl)
theorem DX{x y:ag aj}(h:x≠y):T.eqB x (.bytes y)=false:=aD.mpr h.symm
theorem zM(hm:Cl M)(h:opW w):CN (n+1) 82 [.t (tk il (.bytes w) p)] M=.ok (.t (.bool ae)) M:=
 bg n 82 [.t (tk il (.bytes w) p)] M rfl rfl [.a,.b ae,.a,.a,.b ae,.s _] rfl (by
  show aa (!(T.eqB w (.bytes kh)||(T.eqB w (.bytes iK)||(T.eqB w (.bytes mm)||false))))=_;rw[DX h.1,DX h.2.1,DX h.2.2];rfl) (bx hm rfl)
noncomputable def abN:T->T
 |.int k=>.str [k.toNat]
 |_=>.none
theorem ah7:(nats w).map abN=ones w:=by
 unfold nats ones;rw[ba,ba];rfl
theorem c83(hm:Cl M)(hw:∀c∈w,c<256)(hl:w.length<=bp):CN (n+1) 83 [.t (.bytes w)] M=.ok (.t (.str w)) M:=by
 have e:=comp_map (C:=CN n) (elt:=.bi .chr [.au 1]) (slot:=1) (it:=.name 0) (au:=[aa (.t (.bytes w)),ac,ac,ac]) (mu:=M) (xs:=nats w) (M:=M) abN rfl hm (by rw[iw];exact hl) λx hx a8=>by
  refine bH (aT.mp hx) λc hc z0=>?_;subst z0;exact gJ (CN n) (.bi .chr [.au 1]) [aa (.t (.bytes w)),aa (.t (.int (c:aj))),ac,ac] (M++[TL a8]) [.v _] (Q8 (hw c hc))
 rw[ah7] at e;have f:=Ml (C:=CN n) (M:=M) (u:=.t (.list (ones w))) (ss:=w.map λc=>[c]) rfl (by rw[mZ];exact hl)
 rw[mZ] at f;exact bg n 83 [.t (.bytes w)] M rfl rfl [.a,.v _,.v _,.s _] e f (bx hm rfl)
theorem e80{z:PV}:CN (n+1) 80 [.m M.length,.t u,z] (M++[.inst 4 []])=.ok (.t .none) (M++[.inst 4 [.t u,z]]):=
 bg n 80 [.m M.length,.t u,z] (M++[MO.inst 4 []]) rfl rfl [.s _,.s _] (fD rfl rfl) (fD rfl rfl)
theorem Ii(hm:Cl M):fm (CN (n+1)) 4 [.t u,.t v] M=.ok (.t (.inst 4 [u,v])) M:=Ms (ts:=[u,v]) rfl rfl hm e80
theorem abO(hm:Cl M)(hq:M[q]? =aa (TL xs)):fm (CN (n+1)) 4 [.t (.str w),.m q] M=.ok (.t (xi w xs)) (M.set q .dead):=
 abu (ts:=[.str w,.list xs]) rfl rfl hm e80 (by
  show((M[q]?.bind (O6 q M)).bind λp=>(kK [] p.2).map λq=>(p.1::q.1,q.2)).map (λq=>(T.str w::q.1,q.2))=_;rw[hq];show((((eB (xs.map PV.t)).map λts=>(T.list ts,M.set q .dead))).bind λp=>(kK [] p.2).map λq=>(p.1::q.1,q.2)).map (λq=>(T.str w::q.1,q.2))=_;rw[Q6];rfl)
theorem ah8(hd:d.length<=bp)(e:CN (n+1) 4 (.m M.length::[.t (.bytes d),.t (.int (a:aj))]) (M++[.inst 0 []])=.ok (.t .none) (M++[cur d a])):fm (CN (n+1)) 0 [.t (.bytes d),.t (.int (a:aj))] M=.ok (.m M.length) (M++[cur d a]):=by
 show(CN (n+1) 4 (.m M.length::[.t (.bytes d),.t (.int (a:aj))]) (M++[.inst 0 []])).bind _=_;rw[e];rfl
theorem TZ(hd:d.length<=bp):fm (CN (n+1)) 0 [.t (.bytes d),.t (.int (a:aj))] M=.ok (.m M.length) (M++[cur d a]):=
 ah8 hd (bg n 4 [.m M.length,.t (.bytes d),.t (.int (a:aj))] (M++[MO.inst 0 []]) rfl rfl [.s _,.s _,.b ae,.v _,.s _] (fD rfl rfl) (fD rfl rfl) rfl (jU hd) (fD rfl rfl))
theorem abP(hd:d.length<=bp):fm (CN (n+1)) 0 [.t (.bytes d)] M=.ok (.m M.length) (M++[cur d 0]):=
 (show fm (CN (n+1)) 0 [.t (.bytes d)] M=(CN (n+1) 4 (.m M.length::[.t (.bytes d)]) (M++[.inst 0 []])).bind _ from rfl).trans (by
  rw[bg n 4 [.m M.length,.t (.bytes d)] (M++[MO.inst 0 []]) rfl rfl [.s _,.s _,.b ae,.v _,.s _] (fD rfl rfl) (fD rfl rfl) rfl (jU hd) (fD rfl rfl)];rfl)
end
noncomputable def MQ:ag aj->aW
 |[]=>ae
 |x::_=>BN x
noncomputable def Ij:ag aj->aW
 |c::x::y::r=>([x,y]==[69,73])&&(BN c&&MQ r)
 |_=>af
noncomputable abbrev endAt(s:ag aj)(e:aj):Bool:=Ij (s.drop e)
noncomputable def Ik(d:ag aj)(k:aj):Bool:=(d.drop k).take 2==[69,73]
section
variable{d s r:ag aj}{i j n a b e k t K:aj}{M m:Mu}{S:aj->Mu}{C:Calls}{c:aj}
theorem Rv(h:Ij s=ae):∃c r,s=c::69::73::r:=by
 cases s with
 |nil=>cases h
 |cons c s=>
  cases s with
  |nil=>cases h
  |cons x s=>
   cases s with
   |nil=>cases h
   |cons y r=>
    have:=(cg (bT.mp (aF.mp (show([x,y]==[69,73]&&(BN c&&MQ r))=ae from h)).1))
    rw[this.1,(cg this.2).1];exact⟨c,r,rfl⟩
theorem W5(h:Ik d (k+1)=ae):∃c r,d.drop k=c::69::73::r:=by
 have h1:d.drop (k+1)=[69,73]++(d.drop (k+1)).drop 2:=by
  conv=>lhs;rw[<-pG 2 (d.drop (k+1)),bT.mp h]
 cases hs:d.drop k with
 |nil=>rw[show d.drop (k+1)=[] by rw[<-dP,hs];rfl] at h1;cases h1
 |cons c r=>exact⟨c,_,by rw[show r=d.drop (k+1) by rw[<-dP,hs];rfl,h1];rfl⟩
theorem DY(h:Ik d k=ae):k+2<=d.length:=by
 have:=av jx (bT.mp h)
 rw[f9,dD] at this;exact have h:=ai (cX this.symm) (Su 2 _);(aj.le_sub_iff_add_le' (a9 (aj.lt_of_sub_pos (bw aj.two_pos h)))).mp h
theorem W6(h:d.drop k=c::69::73::r):Ik d (k+1)=true:=by unfold Ik;rw[<-dP,h];rfl
theorem c85(z:Cu d i j S)(hd:d.length<=bp)(h:Ik d (k+1)=ae):CN (n+2) 85 [.m i,.t (.int (k+1:aj))] (S a)=.ok (.t (.bool (endAt d k))) (S a):=by
 refine gU (W5 h) λc r hr=>?_;rw[endAt,hr];show _=Res.ok (PV.t (.bool (BN c&&MQ r))) (S a);have e1:=c1 (n:=n) (c:=(c:aj)) (z.cl a);cases hw:BN c with
 |false=>rw[hw] at e1;exact bg (n+1) 85 [.m i,.t (.int (k+1:aj))] (S a) rfl rfl [.v _,.v _,.v _,.v _,.a,.s _] z.f0 DO (iQ hd hr) e1 z.d7
 |true=>
  rw[hw] at e1;cases r with
  |nil=>
   have hl:k+3=d.length:=by
    have:=av jx hr
    rw[dD] at this;have:=dl hr
    exact(show d.length-k=3->k<d.length->k+3=d.length from λe h=>(av (k+·) e.symm).trans (i5 (a9 h))) ‹_› this
   exact bg (n+1) 85 [.m i,.t (.int (k+1:aj))] (S a) rfl rfl [.v _,.v _,.v _,.v _,.a,.v _,.v _,.b ae,.a,.s _] z.f0 DO (iQ hd hr) e1 (gH (l:=2)) z.f2 (pP (av kb hl)) z.d7
  |cons t r=>
   have hr3:=dn (dn (dn hr));exact bg (n+1) 85 [.m i,.t (.int (k+1:aj))] (S a) rfl rfl [.v _,.v _,.v _,.v _,.a,.v _,.v _,.b af,.a,.v _,.v _,.v _,.v _,.s _] z.f0 DO (iQ hd hr) e1 (gH (l:=2)) z.f2 (fV (dB (dl hr3))) z.f0 (gH (l:=2)) (iQ hd hr3) (c1 (c:=(t:aj)) (z.cl a)) z.d7
theorem Il(h:Ik d e=ae):∀{f a:aj},a<=e->e<a+f->∃k,a<=k/\k<=e/\Ik d k=ae/\n6 d [69,73] d.length f a=aa k:=by
 intro f
 induction f with
 |zero=>exact λh1 h2=>aQ h2 (eO.mpr h1)
 |succ f ih=>
  intro a h1 h2;have e0:n6 d [69,73] d.length (f+1) a=if a+2<=d.length then(if Ik d a=ae then aa a else n6 d [69,73] d.length f (a+1)) else none:=rfl
  rw[e0,aA (ai (bN h1 2) (DY h))];cases hk:Ik d a with
  |true=>exact⟨a,aP _,h1,hk,aA rfl⟩
  |false=>
   have Bk:a≠e:=λq=>by rw[q,h] at hk;cases hk
   refine CB (ih (jy h1 Bk) (by omega)) λk h3 h4 h5 h6=>?_
   exact⟨k,dq h3,h4,h5,(aL (by decide)).trans h6⟩
set_option smartUnfolding true in
theorem m33{w l:ag aj}{x y:bE}:ei C (.t (.bytes l)) 33 ac [.t (.bytes w),.t (.int x),.t (.int y)] M=EN l w x y M:=rfl
theorem c15(z:Cu d i j S)(hd:d.length<=bp)(h:Ik d e=ae)(hk:a<=e):∃k,a<=k/\k<=e/\Ik d k=ae/\CN (n+1) 15 [.m i,.t (.bytes [69,73]),.t (.int (a:aj))] (S b)=.ok (.t (.int (k:aj))) (S b):=by
 have he:=DY h;refine CB (Il h (f:=d.length+1) hk (by omega)) λk h1 h2 h3 h4=>?_
 have e:ei (CN n) (.t (.bytes d)) 33 ac [.t (.bytes [69,73]),.t (.int (a:aj)),.t (.int (d.length:aj))] (S b)=.ok (.t (.int (k:aj))) (S b):=by
  rw[m33];unfold EN;rw[aA ⟨bR _,by unfold qp;unfold bp at hd;omega,bR _,bE.le_refl _,by decide⟩,uB,uB,h4]
 exact⟨k,h1,h2,h3,bg n 15 [.m i,.t (.bytes [69,73]),.t (.int (a:aj))] (S b) rfl rfl [.v _,.k _,.v (.ok (.t (.int (a:aj))) (S b)),.v _,.v (.ok (.t (.int (k:aj))) (S b)),.s _] z.f0 rfl (av (λq=>Res.ok (PV.t (.int q)) (S b)) (aL (jw.mpr (bR a)))) z.f2 e z.d7⟩
theorem l86(z:Cu d i j S)(hd:d.length<=bp)(he:Ik d (K+1)=ae)(hK:endAt d K=ae){q:aj}(iZ:∀k,q<=k->k<K->endAt d k=af){u:PV}:∀{f k:aj},q<=k->k<=K->Ik d (k+1)=ae->K<=k+f->
 Wh (CN (n+2)) (dT ZS 4) (f+1) [aa (.m i),aa u,aa (.t (.int (k+1:aj))),ac,ac,ac] (S a)=.ok (.next,[aa (.m i),aa u,aa (.t (.int (K+1:aj))),ac,ac,ac]) (S a):=by
 intro f
 induction f with
 |zero=>
  intro k _ h1 h2 h3;cases gy h1 h3;have e1:=c85 (n:=n) (a:=a) z hd he;rw[hK] at e1;exact gA (CN (n+2)) (dT ZS 4) 0 [aa (.m i),aa u,aa (.t (.int (K+1:aj))),ac,ac,ac] (S a) [.b ae,.v _,.a] WK e1
 |succ f ih=>
  intro k h0 h1 h2 h3;have e1:=c85 (n:=n) (a:=a) z hd h2
  by_cases hk:k=K
  ·rw[hk] at e1 ⊢
   rw[hK] at e1;exact gA (CN (n+2)) (dT ZS 4) (f+1) [aa (.m i),aa u,aa (.t (.int (K+1:aj))),ac,ac,ac] (S a) [.b ae,.v _,.a] WK e1
  ·rw[iZ k h0 (jy h1 hk)] at e1
   refine CB (c15 (n:=n+1) (b:=a) (a:=k+1+1) z hd he (bI (jy h1 hk))) λk2 z1 z2 z3 z4=>?_;cases k2 with
   |zero=>cases z1
   |succ k2=>exact gA (CN (n+2)) (dT ZS 4) (f+1) [aa (.m i),aa u,aa (.t (.int (k+1:aj))),ac,ac,ac] (S a) [.b ae,.v _,.a,.k _,.v _,.v _] WK e1 (z.ca rfl) fO z4 _ (ih (ai h0 (dq (bU z1))) (bU z2) z3 (by omega))
theorem c86(z:Cu d i j S)(hd:d.length<=bp)(hr:d.drop a=t::s)(ht:BN t=ae)(he:endAt s e=ae)(iZ:∀k,k<e->endAt s k=af):CN (n+3) 86 [.m i] (S a)=.ok (.t (.bytes (s.take e))) (S (a+1+e+3)):=by
 have hs:=dn hr;have ea:∀k,endAt s k=endAt d (a+1+k):=λk=>by rw[<-hs,endAt,dP]
 refine gU (Rv (show Ij (d.drop (a+1+e))=ae by rw[<-hs,endAt,dP] at he;exact he)) λc r hy=>?_
 have hE:=W6 hy;refine CB (c15 (n:=n+1) (b:=a+1) (a:=a+1+1) z hd hE (by omega)) λk0 q1 q2 q3 q4=>?_
 have e3:=c1 (n:=n+1) (c:=(t:aj)) (z.cl a);rw[ht] at e3;have hl:=DY hE;cases k0 with
 |zero=>cases q1
 |succ k0=>
  have w:=l86 (n:=n) (a:=a+1) (u:=.t (.int (a+1:aj))) z hd hE (by rw[<-ea];exact he) (q:=a+1) (λk h1 h2=>by
   have:=iZ (k-(a+1)) (mC h1 h2)
   rw[ea,i5 h1] at this;exact this) (f:=1999999) (bU q1) (bU q2) q3 (by unfold bp at hd;omega)
  have sl:=slc (m:=S (a+1+e+1+2)) (a:=a+1) (b:=a+1+e) hd (aw ..) (by omega)
  rw[hs,aU] at sl;exact bg (n+2) 86 [.m i] (S a) rfl rfl [.k _,.v _,.v _,.a,.k _,.v _,.v _,.k _,.v _,.v _,.l _,.b af,.v _,.s _,.v _,.v _,.v _,.s _] (z.ca rfl) (c6 z hd hr) e3 (z.ca rfl) (c7 z hd hr) z.f1 (z.ca rfl) fO q4 w FJ (gH (l:=2)) z.s1 z.f0 DO sl z.d7
end
noncomputable def wt(w:ag aj):Tk:=(w,tk il (.bytes w))
noncomputable def qc:ag Nat:=[66,73]
noncomputable def uR:ag Nat:=[73,68]
noncomputable def BZ(kv:KV)(o:ag aj):T:=xi qc [.dict (ec kv),.inst 3 [.bytes o,.bool af]]
def Yv(l:DV):Prop:=(∀x∈l,DW 3 x.2.1 x.2.2/\DT x.1.1 x.1.2/\x.2.2≠.none/\x.2.1.length<=bp)/\(keysOf (jB l)).Nodup/\2*l.length<1000
section
variable{d s s2 s3 sm k:ag aj}{i j n a b e p0 dp:aj}{m:Mu}{S:aj->Mu}{u v:T}{it:ag T}{ts kq:ag Tk}{t0 t2 t:Tk}{x3 x4 x5:ar PV}
theorem DT.pt(h:DT t s):zK t (.inst 2 [.str s]):=⟨g8,by decide,λp=>⟨⟨.str s,h p,nofun⟩,λhm=>by rw[h p];exact wH hm⟩⟩
theorem B0(hr:DW dp ts v)(e:ts=t0::kq)(p:aj):∃k u,t0.2 p=tk k u p/\k≠BR/\(k=il->VW u):=by
 have pl:∀t,ts=[t]->zK t v->∃k u,t0.2 p=tk k u p/\k≠BR/\(k=il->VW u):=by
  rintro t rfl ⟨k,⟨_,hk⟩,h⟩
  cases e;obtain⟨⟨u,h1,h2⟩,_⟩:=h p;exact⟨k,u,h1,hk,h2⟩
 have sg:∀w r,ts=fw w::r->∃k u,t0.2 p=tk k u p/\k≠BR/\(k=il->VW u):=by
  rintro w r rfl
  cases e;exact⟨fS,_,rfl,by decide,nofun⟩
 cases dp with
 |zero=>exact hr.elim λt h=>pl t h.1 h.2
 |succ dp=>exact hr.elim (λh=>h.elim λt h=>pl t h.1 h.2) λh=>h.elim (λh=>h.elim λl h=>sg _ _ h.2.2.1) λh=>h.elim λl h=>sg _ _ h.2.2.2.1
theorem W7{k l:aj}:eC .eq (.t (.int (k:aj))) (.t (.int (l:aj))) m=aa (k==l):=by
 by_cases h:k=l
 ·rw[h,dJ];exact pP rfl
 ·rw[aD.mpr h];exact fV h
theorem Im{x y:T}:wy [.t x,.t y] m=.ok (.t (.list [x,y])) m:=by
 show h9 [x,y] m=_;exact aA (show 2<=bp by decide)
theorem t84(z:Cu d i j S)(hd:d.length<=bp)(hr:DW dp ts v)(e:ts=t0::kq)(e0:t0.2 p0=tk k u p0)(hv:k=il->VW u)(TY:dp+2<40)(Oe:ts.length<=bp)(hy:Ly kq (d.drop a) sm)(h2:Ly [t2] sm s3)(hl:it.length<bp)(hk:it.length%2=0->k=g8):
 ∃b p2,d.drop b=s3/\∀f q,Wh (CN (n+7)) (dT Vk 2) f [aa (.m i),aa (.m j),aa (.t (t2.2 p2)),x3,x4,x5] (S b++[TL (it++[v])])=q->Wh (CN (n+7)) (dT Vk 2) (f+1) [aa (.m i),aa (.m j),aa (.t (t0.2 p0)),x3,x4,x5] (S a++[TL it])=q:=by
 refine bH (c62 (n:=n) (p0:=p0) (z.tl (xs:=it)) hd hr e TY Oe hy) λb1 Rx Yw=>?_;rw[<-Rx] at h2;refine dZ (jO h2) λb2 p2 W8 tV=>?_;have DU:=tV (n:=n+1) (z.tl (xs:=it++[v])) hd;have e82:=MP (n:=n+6) (p:=p0) ((z.tl (xs:=it)).cl a) hv;rw[e0] at Yw ⊢;refine⟨b2,p2,W8,λf q h=>?_⟩;cases hb:it.length%2==0 with
 |true=>
  cases hk (bT.mp hb);exact gA (CN (n+7)) (dT Vk 2) f [aa (.m i),aa (.m j),aa (.t (tk g8 u p0)),x3,x4,x5] (S a++[TL it]) [.v _,.a,.v _,.v _,.b ae,.a,.b af,.k _,.v _,.v _,.v _] e82 (Mp (z.len a) rfl (a9 hl)) (My (l:=2) (by decide)) (W7.trans (av aa hb)) rfl (kL (z.len a) rfl) Yw (BO (z.len b1) hl) DU q h
 |false=>exact gA (CN (n+7)) (dT Vk 2) f [aa (.m i),aa (.m j),aa (.t (tk k u p0)),x3,x4,x5] (S a++[TL it]) [.v _,.a,.v _,.v _,.b af,.k _,.v _,.v _,.v _] e82 (Mp (z.len a) rfl (a9 hl)) (My (l:=2) (by decide)) (W7.trans (av aa hb)) (kL (z.len a) rfl) Yw (BO (z.len b1) hl) DU q h
theorem l84(z:Cu d i j S)(hd:d.length<=bp){f:aj}{l:DV}:∀{t0 kq it a p0},(∀x∈l,DW 3 x.2.1 x.2.2/\DT x.1.1 x.1.2/\x.2.2≠.none/\x.2.1.length<=bp)->ti l++[wt uR]=t0::kq->it.length%2=0->it.length+2*l.length<1000->Ly kq (d.drop a) s2->
 ∃b p2,d.drop b=s2/\Wh (CN (n+7)) (dT Vk 2) (f+1+2*l.length) [aa (.m i),aa (.m j),aa (.t (t0.2 p0)),x3,x4,x5] (S a++[TL it])=.ok (.next,[aa (.m i),aa (.m j),aa (.t (tk il (.bytes uR) p2)),x3,x4,x5]) (S b++[TL (it++qa (jB l))]):=by
 induction l with
 |nil=>
  intro t0 kq it a p0 _ e h2 hl hy;cases (e);rw[show it++qa (jB [])=it from aH _]
  exact⟨a,p0,hy,gA (CN (n+7)) (dT Vk 2) f [aa (.m i),aa (.m j),aa (.t (tk il (.bytes uR) p0)),x3,x4,x5] (S a++[TL it]) [.v _,.a] (zM ((z.tl (xs:=it)).cl a) ⟨by decide,by decide,by decide⟩)⟩
 |cons x l ih=>
  intro t0 kq it a p0 hr e h2 hl hy;refine ud (hr x (.head _)) λhx hkt Z Kz=>?_;refine gU (uQ hx) λt xs ex=>?_;rw[show ti (x::l)=x.1.1::(x.2.1++ti l) from rfl,ex] at e
  refine gf (cg (show x.1.1::((t::xs++ti l)++[wt uR])=t0::kq from e)) λe0 e1=>?_
  refine gU (jP (l:=ti l) (tc:=wt uR)) λt2 ts2 e2=>?_;rw[<-e1,az,e2] at hy;rw[<-e0];refine bH (jI hy) λsk k1 hy=>?_;refine bH (wM hy) λsm y1 y2=>?_;refine bH (jI y2) λs3 y3 y4=>?_;have Ot:it.length<bp:=bA (ax (aw ..) hl) (by decide)
  refine dZ (t84 (n:=n) (p0:=p0) (x3:=x3) (x4:=x4) (x5:=x5) (dp:=0) (ts:=[x.1.1]) z hd ⟨x.1.1,rfl,hkt.pt⟩ rfl (hkt p0) nofun (by decide) (show 1<=bp by decide) rfl k1 Ot λZ=>rfl) λb1 p1 Rx g1=>?_
  refine k8 (B0 hx ex p1) λk u ek Z hv=>?_;rw[<-Rx] at y1;refine dZ (t84 (n:=n) (x3:=x3) (x4:=x4) (x5:=x5) z hd hx ex ek hv (by decide) Kz y1 y3 (it:=it++[.inst 2 [.str x.1.2]]) (by rw[ah,ci];exact ax (bq (bI (cF _)) _) (bA hl (by decide))) (λh=>by rw[ah,ci] at h;omega)) λb2 p2 W8 g2=>?_
  refine dZ (ih (p0:=p2) (it:=it++[.inst 2 [.str x.1.2]]++[x.2.2]) (λx h=>hr x (.tail _ h)) e2 (by rw[ah,ah];exact(OR it.length 2).trans h2) (by rw[ah,ah];exact ax (cX (cS _ 2 _)) hl) (by rw[W8];exact y4)) λb p3 hb g=>?_
  rw[show it++qa (jB (x::l))=(it++[T.inst 2 [.str x.1.2]]++[x.2.2])++qa (jB l) by rw[az,az];rfl]
  exact⟨b,p3,hb,g1 _ _ (g2 _ _ g)⟩
theorem c84(z:Cu d i j S)(hd:d.length<=bp){l:DV}(hl:Yv l)(hy:Ly (ti l++[wt uR]) (d.drop a) s2):∃b,d.drop b=s2/\CN (n+8) 84 [.m i] (S a)=.ok (.t (.dict (ec (jB l)))) (S b):=by
 refine nY hl λh1 h2 h3=>?_;refine gU (jP (l:=ti l) (tc:=wt uR)) λt0 kq e=>?_;rw[e] at hy;refine bH (jI hy) λsm y1 y2=>?_;refine dZ (jO y1) λb0 p0 hb0 tV=>?_;obtain⟨f,hf⟩ :∃f,vp=f+1+2*l.length:=⟨vp-1-2*l.length,yR (ai (a9 h3) (by decide))⟩
 refine dZ (l84 (n:=n) (p0:=p0) (x3:=ac) (x4:=ac) (x5:=ac) (f:=f) (it:=[]) z hd h1 e rfl (by rw[c0,bM];exact h3) (by rw[hb0];exact y2)) λb p hb g=>?_
 rw[<-hf] at g;have I3:2*(jB l).length<bp:=by rw[oO];exact bA h3 (by decide)
 have e60:=c60 (n:=n+6) (X:=S b++[TL (qa (jB l))]) ((z.tl (xs:=qa (jB l))).cl b) (r7 (z.len b)) I3 h2 λx hx=>by
  refine bH (aT.mp hx) λy hy z0=>?_;subst z0;exact(h1 y hy).2.2.1
 exact⟨b,hb,bg (n+7) 84 [.m i] (S a) rfl rfl [.v _,.v _,.l _,.a,.b af,.v _,.v _,.b af,.v _,.s _] (nl (z.len a)) (tV (n:=n+1) (z.tl (xs:=[])) hd) g rfl (Mp (k:=2*(jB l).length) (z.len b) (kA _) (a9 I3)) (My (l:=2) (by decide)) (by rw[OP];rfl) e60 z.gk⟩
theorem c87(z:Cu d i j S)(hd:d.length<=bp){l:DV}(hl:Yv l)(hy:Ly (ti l++[wt uR]) (d.drop a) (32::s))(he:endAt s e=ae)(iZ:∀k,k<e->endAt s k=af):
 ∃b,d.drop b=s.drop (e+3)/\CN (n+9) 87 [.m i] (S a)=.ok (.t (BZ (jB l) (s.take e))) (S b):=by
 refine bH (c84 (n:=n) z hd hl hy) λb hb e84=>?_;refine⟨b+1+e+3,by rw[bZ (b+1), <-dP,dn hb],?_⟩
 exact bg (n+8) 87 [.m i] (S a) rfl rfl [.v _,.v _,.v _,.v (.ok (.t (.list [.dict (ec (jB l)),.inst 3 [.bytes (s.take e),.bool af]])) (S (b+1+e+3))),.v _,.s _] e84 (c86 z hd hb rfl he iZ) (FQ (z.cl _)) Im (Ii (z.cl _)) z.d7
end
inductive I4 where
 |T1 (w:ag aj) (l:LV)
 |Ry (l:DV) (o:ag aj)
noncomputable def Io:I4->T
 |.T1 w l=>xi w (l.map (·.2))
 |.Ry l o=>BZ (jB l) o
def T2(w:ag aj)(l:LV):Prop:=opW w/\w≠qc/\(∀c∈w,c<256)/\w.length<=100/\(∀x∈l,DW 3 x.1 x.2/\x.1.length<=bp)
noncomputable def RdO:I4->ag aj->ag aj->Prop
 |.T1 w l,s,m=>Ly (tW l++[wt w]) s m/\T2 w l/\l.length<1000
 |.Ry l o,s,m=>∃s' e,Ly (wt qc::(ti l++[wt uR])) s (32::s')/\endAt s' e=ae/\(∀k,k<e->endAt s' k=af)/\o=s'.take e/\m=s'.drop (e+3)/\Yv l
noncomputable def RC:ag I4->ag aj->Prop
 |[],s=>kQ s
 |op::ops,s=>∃m,RdO op s m/\RC ops m
noncomputable def tv:ag I4->aj
 |[]=>0
 |.T1 _ l::r=>tv r+1+l.length
 |.Ry _ _::r=>tv r+1
def PD(tok:T)(s:ag aj):ag I4->Prop
 |[]=>∃p,tok=tk BR (.bytes []) p
 |.T1 w l::ops=>T2 w l/\l.length<1000/\∃t0 kq p0 m,tW l++[wt w]=t0::kq/\tok=t0.2 p0/\Ly kq s m/\RC ops m
 |.Ry l o::ops=>Yv l/\∃p0 s' e,tok=tk il (.bytes qc) p0/\Ly (ti l++[wt uR]) s (32::s')/\endAt s' e=ae/\(∀k,k<e->endAt s' k=af)/\o=s'.take e/\RC ops (s'.drop (e+3))
section
variable{d s s2 s3 sm k w:ag aj}{i j n a b e p0 dp g f:aj}{M m:Mu}{S:aj->Mu}{C:Calls}{u v tok:T}{xs fd:ag T}{ts kq:ag Tk}{t0 t2 t:Tk}{ops:ag I4}
theorem zO(h:RC ops (d.drop a)):∃b tok,PD tok (d.drop b) ops/\∀{n i j:aj}{S:aj->Mu},Cu d i j S->d.length<=bp->CN (n+6) 42 [.m i] (S a)=.ok (.t tok) (S b):=by
 cases ops with
 |nil=>exact⟨_,_,⟨_,rfl⟩,λz hd=>Rk z hd h rfl⟩
 |cons op ops=>
  refine bH h λm h1 h2=>?_;cases op with
  |T1 w l=>
   refine nY h1 λhy hk hl=>?_;refine gU (jP (l:=tW l) (tc:=wt w)) λt0 kq et=>?_;rw[et] at hy;refine bH (jI hy) λsm y1 y2=>?_;refine dZ (jO y1) λb p2 z0 hN=>?_;subst z0;exact⟨b,_,⟨hk,hl,t0,kq,p2,m,et,rfl,y2,h2⟩,hN⟩
  |Ry l o=>
   refine OW h1 λs' e hy he iZ ho z0 hk=>?_;subst z0;refine bH (jI hy) λsm y1 y2=>?_;refine dZ (jO y1) λb p2 z0 hN=>?_;subst z0;exact⟨b,_,⟨hk,p2,s',e,rfl,y2,he,iZ,ho,h2⟩,hN⟩
noncomputable def R88(fd:ag T)(g:aj)(xs:ag T):Mu:=TL fd::(cj g .dead++[TL xs])
noncomputable def St(M:Mu)(d:ag aj)(fd:ag T)(g:aj)(xs:ag T)(b:aj):Mu:=M++cur d b::R88 fd g xs
noncomputable abbrev FU(d:ag aj)(j g:aj)(tok:T):Loc:=[aa (.t (.bytes d)),aa (.m j),aa (.m (j+1)),aa (.m (j+(2+g))),aa (.t tok),ac,ac,ac]
theorem Rz:(R88 fd g xs).length=g+2:=by show(cj g MO.dead++[TL xs]).length+1=_;rw[ah,dX];rfl
theorem wQ(hm:Cl M):Cu d M.length (M.length+(g+3)) (St M d fd g xs) where
 at_ b:=by unfold St;rw[aZ (aP _),dA];rfl
 set a b:=by unfold St;rw[cy _ _ (aP _),dA];rfl
 len b:=by unfold St;rw[ah,aO,Rz]
 cl b:=aE.mpr λo h=>by
  unfold St at h;rcases bt.mp h with h |h
  ·exact MO.up (by unfold St;rw[ah];exact aw ..) (aE.mp hm o h)
  ·rcases aJ.mp h with rfl |h
   ·rfl
   ·rcases aJ.mp h with rfl |h
    ·exact Ib
    ·rcases bt.mp h with h |h
     ·rw[(ag.mem_replicate.mp h).2];rfl
     ·rw[aC.mp h];exact Ib
theorem FV:(St M d fd g xs b)[M.length+1]? =aa (TL fd):=by unfold St;rw[aZ (aw ..),aU];rfl
theorem T3{o:MO}:(St M d fd g xs b).set (M.length+1) o=M++cur d b::o::(cj g .dead++[TL xs]):=by unfold St;rw[cy _ _ (aw ..),aU];rfl
theorem abQ:(cj g MO.dead++[TL xs])[g]? =aa (TL xs):=by rw[aZ (by rw[dX];exact aP _),dX,dA];rfl
theorem abR{o:MO}:(cj g MO.dead++[TL xs]).set g o=cj g .dead++[o]:=by rw[cy _ _ (by rw[dX];exact aP _),dX,dA];rfl
theorem B1:(St M d fd g xs b)[M.length+(2+g)]? =aa (TL xs):=by
 unfold St;rw[aZ (aw ..),aU,bB];exact abQ
theorem FW{o:MO}:(St M d fd g xs b).set (M.length+(2+g)) o=M++cur d b::TL fd::(cj g .dead++[o]):=by
 unfold St;rw[cy _ _ (aw ..),aU,bB 2 g];show M++cur d b::TL fd::(cj g MO.dead++[TL xs]).set g o=_;rw[abR]
theorem v88(hm:Cl M)(hd:d.length<=bp)(hr:DW dp ts v)(e:ts=t0::kq)(TY:dp+2<40)(Oe:ts.length<=bp)(hy:Ly kq (d.drop a) sm)(h2:Ly [t2] sm s3)(hl:xs.length<bp):
 ∃b p2,d.drop b=s3/\∀f q,Wh (CN (n+10)) (dT E5 4) f (FU d M.length g (t2.2 p2)) (St M d fd g (xs++[v]) b)=q->Wh (CN (n+10)) (dT E5 4) (f+1) (FU d M.length g (t0.2 p0)) (St M d fd g xs a)=q:=by
 have z:=wQ (d:=d) (fd:=fd) (g:=g) (xs:=xs) hm;refine bH (c62 (n:=n+3) (p0:=p0) z hd hr e TY Oe hy) λb1 Rx Yw=>?_;rw[<-Rx] at h2;refine dZ (jO h2) λb2 p2 W8 tV=>?_;refine k8 (B0 hr e p0) λk u e0 Bk hv=>?_;have DU:=tV (n:=n+4) (wQ (d:=d) (fd:=fd) (g:=g) (xs:=xs++[v]) hm) hd;have e82:=MP (n:=n+9) (p:=p0) (z.cl a) hv;have tX:=rO (C:=CN (n+10)) (v:=v) (B1 (M:=M) (d:=d) (fd:=fd) (g:=g) (xs:=xs) (b:=b1)) hl;rw[FW] at tX;rw[e0] at Yw ⊢;exact⟨b2,p2,W8,λf q h=>gA (CN (n+10)) (dT E5 4) f (FU d M.length g (tk k u p0)) (St M d fd g xs a) [.a,.b ae,.v _,.a,.k _,.v _,.v _,.v _] (av (λb=>aa (!b)) (aD.mpr Bk)) e82 (kT B1 rfl) Yw tX DU q h⟩
theorem w88(hm:Cl M)(hd:d.length<=bp){l:LV}:∀{t0 kq xs a p0 F},(∀x∈l,DW 3 x.1 x.2/\x.1.length<=bp)->tW l++[wt w]=t0::kq->xs.length+l.length<2000->Ly kq (d.drop a) s2->
 ∃b p2,d.drop b=s2/\∀q,Wh (CN (n+10)) (dT E5 4) F (FU d M.length g (tk il (.bytes w) p2)) (St M d fd g (xs++l.map (·.2)) b)=q->Wh (CN (n+10)) (dT E5 4) (F+l.length) (FU d M.length g (t0.2 p0)) (St M d fd g xs a)=q:=by
 induction l with
 |nil=>
  intro t0 kq xs a p0 F _ e hl hy;cases (e);rw[show xs++([]:LV).map (·.2)=xs from aH _]
  exact⟨a,p0,hy,λq h=>h⟩
 |cons x l ih=>
  intro t0 kq xs a p0 F hr e hl hy;refine gf (hr x (.head _)) λhx Kz=>?_;refine gU (uQ hx) λt r ex=>?_;rw[show tW (x::l)=x.1++tW l from rfl,ex,az] at e
  refine gf (cg (show t::(r++(tW l++[wt w]))=t0::kq from e)) λe0 e1=>?_
  refine gU (jP (l:=tW l) (tc:=wt w)) λt2 ts2 e2=>?_;rw[<-e1,e2] at hy;rw[<-e0];refine bH (wM hy) λsm y1 y2=>?_;refine bH (jI y2) λs3 y3 y4=>?_;have Ot:xs.length<bp:=bA (ax (aw ..) hl) (by decide)
  refine dZ (v88 (n:=n) (p0:=p0) (g:=g) (fd:=fd) hm hd hx ex (by decide) Kz y1 y3 Ot) λb1 p1 Rx g1=>?_
  refine dZ (ih (p0:=p1) (xs:=xs++[x.2]) (F:=F) (λx h=>hr x (.tail _ h)) e2 (by rw[ah,bZ,bB [x.2].length];exact hl) (by rw[Rx];exact y4)) λb2 p2 W8 g2=>?_
  rw[show xs++(x::l).map (·.2)=(xs++[x.2])++l.map (·.2) by rw[az];rfl]
  exact⟨b2,p2,W8,λq h=>g1 _ q (g2 q h)⟩
theorem o88(hm:Cl M)(hd:d.length<=bp)(h1:opW w)(h2:w≠qc)(h3:∀c∈w,c<256)(h4:w.length<=bp)(hf:fd.length<bp)(hN:∀{n i j:aj}{S:aj->Mu},Cu d i j S->d.length<=bp->CN (n+6) 42 [.m i] (S a)=.ok (.t tok) (S b)){q:Res (cB×Loc)}
 (h:Wh (CN (n+10)) (dT E5 4) f (FU d M.length (g+1) tok) (St M d (fd++[xi w xs]) (g+1) [] b)=q):Wh (CN (n+10)) (dT E5 4) (f+1) (FU d M.length g (tk il (.bytes w) p0)) (St M d fd g xs a)=q:=by
 have z:=wQ (d:=d) (fd:=fd) (g:=g) (xs:=xs) hm;have e4:=abO (n:=n+9) (w:=w) (z.cl a) B1;rw[FW] at e4;have tX:=rO (C:=CN (n+10)) (v:=xi w xs) (X:=M++cur d a::TL fd::(cj g .dead++[.dead])) (q:=M.length+1) (it:=fd) (by rw[aZ (aw ..),aU];rfl) hf
 rw[show(M++cur d a::TL fd::(cj g MO.dead++[MO.dead])).set (M.length+1) (TL (fd++[xi w xs]))=M++cur d a::TL (fd++[xi w xs])::cj (g+1) .dead by rw[cy _ _ (aw ..),aU,ag.replicate_succ'];rfl] at tX
 have en:DH [] (M++cur d a::TL (fd++[xi w xs])::cj (g+1) MO.dead)=.ok (.m (M.length+(2+(g+1)))) (St M d (fd++[xi w xs]) (g+1) [] a):=by
  rw[nl (j:=M.length+(2+(g+1))) (by rw[ah,aO,aO,dX,bB 2]),az];rfl
 exact gA (CN (n+10)) (dT E5 4) f (FU d M.length g (tk il (.bytes w) p0)) (St M d fd g xs a) [.a,.b ae,.v _,.a,.a,.b ae,.k _,.a,.v _,.v _,.v _,.v _,.v _] rfl (zM (z.cl a) h1) (av (λb=>aa (!b)) (aD.mpr h2)) (kT FV rfl) (c83 (z.cl a) h3 h4) e4 tX en (hN (wQ hm) hd) q h
theorem i88(hm:Cl M)(hd:d.length<=bp){l:DV}(hl:Yv l)(hy:Ly (ti l++[wt uR]) (d.drop a) (32::s))(he:endAt s e=ae)(iZ:∀k,k<e->endAt s k=af)(hf:fd.length<bp)(h2:RC ops (s.drop (e+3))):
 ∃b tok,PD tok (d.drop b) ops/\∀f q,Wh (CN (n+10)) (dT E5 4) f (FU d M.length g tok) (St M d (fd++[BZ (jB l) (s.take e)]) g [] b)=q->Wh (CN (n+10)) (dT E5 4) (f+1) (FU d M.length g (tk il (.bytes qc) p0)) (St M d fd g [] a)=q:=by
 have z:=wQ (d:=d) (fd:=fd) (g:=g) (xs:=[]) hm;refine bH (c87 (n:=n+1) z hd hl hy he iZ) λb1 Rx e87=>?_;rw[<-Rx] at h2;refine dZ (zO h2) λb tok hp hN=>?_;have tX:=rO (C:=CN (n+10)) (v:=BZ (jB l) (s.take e)) (FV (M:=M) (d:=d) (fd:=fd) (g:=g) (xs:=[]) (b:=b1)) hf;rw[T3] at tX;exact⟨b,tok,hp,λf q h=>gA (CN (n+10)) (dT E5 4) f (FU d M.length g (tk il (.bytes qc) p0)) (St M d fd g [] a) [.a,.b ae,.v _,.a,.a,.b af,.a,.b ae,.k _,.v _,.v _,.v _] rfl (zM (z.cl a) ⟨by decide,by decide,by decide⟩) rfl (eG B1) (kT FV rfl) e87 tX (hN (n:=n+4) (wQ hm) hd) q h⟩
theorem l88(hm:Cl M)(hd:d.length<=bp):∀{fd g tok a f},PD tok (d.drop a) ops->fd.length+ops.length<1000->∃b g' p,Wh (CN (n+10)) (dT E5 4) (f+1+tv ops) (FU d M.length g tok) (St M d fd g [] a)=.ok (.next,FU d M.length g' (tk BR (.bytes []) p)) (St M d (fd++ops.map Io) g' [] b):=by
 induction ops with
 |nil=>
  rintro fd g tok a f ⟨p,rfl⟩ hl
  rw[show fd++([]:ag I4).map Io=fd from aH _]
  exact⟨a,g,p,gA (CN (n+10)) (dT E5 4) f (FU d M.length g (tk BR (.bytes []) p)) (St M d fd g [] a) [.a,.a]⟩
 |cons op ops ih=>
  intro fd g tok a f hp hl;have Ot:fd.length<bp:=bA (ax (aw ..) hl) (by decide)
  have wK:∀v,(fd++[v]).length+ops.length<1000:=λv=>by rw[ah,bZ,bB [v].length];exact hl
  have hc:fd++(op::ops).map Io=(fd++[Io op])++ops.map Io:=by rw[az];rfl
  rw[hc];cases op with
  |T1 w l=>
   obtain⟨⟨w1,w2,w3,w4,w5⟩,I3,t0,kq,p0,m,et,rfl,hy,W9⟩:=hp;refine dZ (w88 (n:=n) (p0:=p0) (g:=g) (fd:=fd) (xs:=[]) (F:=f+1+(tv ops+1)) hm hd w5 et (by rw[c0,bM];exact bA I3 (by decide)) hy) λb p hb g1=>?_
   rw[<-hb] at W9;refine dZ (zO W9) λb2 tok hp hN=>?_;obtain⟨b',g',p',h⟩:=ih (f:=f) (g:=g+1) hp (wK _);rw[show f+1+tv (.T1 w l::ops)=f+1+(tv ops+1)+l.length from(bZ ..).symm]
   exact⟨b',g',p',g1 _ (o88 hm hd w1 w2 w3 (ai w4 (by decide)) Ot hN h)⟩
  |Ry l o=>
   obtain⟨hdo,p0,s',e,rfl,hy,he,iZ,rfl,W9⟩:=hp;refine dZ (i88 (n:=n) (p0:=p0) (g:=g) hm hd hdo hy he iZ Ot W9) λb tok hp g1=>?_;obtain⟨b',g',p',h⟩:=ih (f:=f) (g:=g) hp (wK _);exact⟨b',g',p',g1 _ _ h⟩
theorem c88(hm:Cl M)(hd:d.length<=bp)(hr:RC ops d)(hf:tv ops<1000000)(hl:ops.length<1000):CN (n+11) 88 [.t (.bytes d)] M=.ok (.t (.list (ops.map Io))) M:=by
 refine dZ (zO (a:=0) hr) λb tok hp hN=>?_;obtain⟨f,ef⟩ :∃f,vp=f+1+tv ops:=⟨vp-1-tv ops,yR (ai (a9 hf) (by decide))⟩
 refine YY (l88 (n:=n) (M:=M) (g:=0) (fd:=[]) (f:=f) hm hd hp (by rw[c0,bM];exact hl)) λb' g' p' h=>?_
 rw[<-ef] at h;have e1:DH [] (M++[cur d 0])=.ok (.m (M.length+1)) (M++[cur d 0,TL []]):=by rw[nl (j:=M.length+1) (by rw[ah];rfl),az];rfl
 have e2:DH [] (M++[cur d 0,TL []])=.ok (.m (M.length+2)) (St M d [] 0 [] 0):=by rw[nl (j:=M.length+2) (by rw[ah];rfl),az];rfl
 have fz:qT ZT M.length (.m (M.length+1)) (St M d (ops.map Io) g' [] b')=.ok (.t (.list (ops.map Io))) M:=by
  show(d0 (.m (M.length+1)) (St M d (ops.map Io) g' [] b')).bind (λt mu=>eh M.length (PV.t t) mu)=_;rw[W4 FV,T3];show eh M.length (PV.t (.list (ops.map Io))) (M++_)=_;unfold eh;rw[gk hm rfl];rfl
 exact bg (n+10) 88 [.t (.bytes d)] M rfl rfl [.v _,.v _,.v _,.v _,.l _,.a,.b af,.v _] (abP hd) e1 e2 (hN (n:=n+4) (wQ hm) hd) h (neG B1) fz
end
section
variable{C:Calls}{elt:E}{dN:ag E}{slot j:aj}{au gq:Loc}{mu m M:Mu}{it:It}{a8:ag T}
def Sel(C:Calls)(elt:E)(dN:ag E)(au:Loc)(mu:Mu):ar T->Prop
 |none=>i6 C dN au mu=.ok af mu
 |some y=>i6 C dN au mu=.ok ae mu/\ev C elt au mu=.ok (.t y) mu
theorem abS{α:Type}(f:α->T)(g:α->ar T)(hj:M.length=j){l:ag α}:∀{a8:ag T},a8.length+l.length<=bp->(∀x∈l,∀a8,Sel C elt dN (upd au slot (.t (f x))) (M++[TL a8]) (g x))->
 dS (ja C elt dN j) slot au (l.map f) (M++[TL a8])=.ok () (M++[TL (a8++l.filterMap g)]):=by
 induction l with
 |nil=>intro a8 _ _;rw[ag.filterMap_nil,aH];rfl
 |cons x l ih=>
  intro a8 hn st;have s:=st x (.head _) a8;show((i6 C dN (upd au slot (.t (f x))) (M++[TL a8])).bind λb d9=>if b then(ev C elt (upd au slot (.t (f x))) d9).bind λv d9=>(d0 v d9).bind λt d9=>n8 j t d9 else .ok () d9).bind (λZ mu=>dS (ja C elt dN j) slot au (l.map f) mu)=_
  have zy:a8.length+1+l.length<=bp:=by rw[bZ,bB 1];exact hn
  cases h:g x with
  |none=>
   rw[h] at s;rw[show i6 C dN (upd au slot (.t (f x))) (M++[TL a8])=.ok af (M++[TL a8]) from s,mI h]
   exact ih (ai (bN (aw ..) _) zy) λx m=>st x (.tail _ m)
  |some y=>
   rw[h] at s;rw[show i6 C dN (upd au slot (.t (f x))) (M++[TL a8])=.ok ae (M++[TL a8]) from s.1,jb h,show a8++y::l.filterMap g=(a8++[y])++l.filterMap g by rw[az];rfl]
   show((ev C elt (upd au slot (.t (f x))) (M++[TL a8])).bind λv d9=>(d0 v d9).bind λt d9=>n8 j t d9).bind (λZ mu=>dS (ja C elt dN j) slot au (l.map f) mu)=_;rw[s.2];show(n8 j y (M++[TL a8])).bind (λZ mu=>dS (ja C elt dN j) slot au (l.map f) mu)=_;rw[uN hj (bw (da _) (ai (aw ..) zy))];exact ih (by rw[ah];exact zy) λx m=>st x (.tail _ m)
theorem uS{α:Type}(f:α->T)(g:α->ar T){l:ag α}(hit:io C it au mu=.ok (l.map f,gq) M)(hc:Cl M)(hn:l.length<=bp)(st:∀x∈l,∀a8,Sel C elt dN (upd gq slot (.t (f x))) (M++[TL a8]) (g x)):ev C (.comp elt slot it dN) au mu=.ok (.t (.list (l.filterMap g))) M:=by
 show(io C it au mu).bind (λp mu=>(dS (ja C elt dN mu.length) slot p.2 p.1 (mu++[TL []])).bind λZ d9=>eD mu.length d9)=_;rw[hit];show(dS (ja C elt dN M.length) slot gq (l.map f) (M++[TL []])).bind (λZ d9=>eD M.length d9)=_;rw[abS f g rfl (a8:=[]) (by rw[c0,bM];exact hn) st]
 show eD M.length (M++[TL (l.filterMap g)])=_;unfold eD;rw[aA (by rw[ah];rfl),r7 rfl]
 show dO (eB ((l.filterMap g).map PV.t)) (λts=>eh M.length (PV.t (.list ts)) (M++[TL (l.filterMap g)]))=_;rw[Q6];show eh M.length _ _=_;unfold eh;rw[gk hc rfl];rfl
theorem ju{α:Type}(f g:α->T){l:ag α}(hit:io C it au mu=.ok (l.map f,gq) M)(hc:Cl M)(hn:l.length<=bp)(st:∀x∈l,∀a8,Sel C elt dN (upd gq slot (.t (f x))) (M++[TL a8]) (aa (g x))):ev C (.comp elt slot it dN) au mu=.ok (.t (.list (l.map g))) M:=by
 rw[<-ag.filterMap_eq_map];exact uS f (aa ∘ g) hit hc hn st
end
def Dg(l:ag aj):Prop:=∀c∈l,48<=c/\c<=57
noncomputable def zP(t:aj)(l:ag aj):Nat:=l.foldl (λt c=>10*t+(c-48)) t
theorem MR{t c:aj}{l:ag aj}:zP t (c::l)=zP (10*t+(c-48)) l:=by unfold zP;rw(config:={}) [gr]
theorem rP{l r:ag aj}{t:aj}:zP t (l++r)=zP (zP t l) r:=ag.foldl_append
theorem Dg.nil:Dg []:=nofun
theorem Dg.wL{l r:ag aj}(h:Dg l)(h2:Dg r):Dg (l++r):=λc m=>(bt.mp m).elim (h c) (h2 c)
theorem Dg.one{c:aj}(h:48<=c/\c<=57):Dg [c]:=λx m=>by rw[aC.mp m];exact h
theorem Dg.lt{l:ag aj}(h:Dg l):∀c∈l,c<256:=λc m=>ax (h c m).2 (by decide)
theorem zQ{r:ag aj}:∀{l:ag aj}{t k:aj}{p:ar aj},Dg l->gR t k p (l++r)=gR (zP t l) (k+l.length) (p.map (· +l.length)) r:=by
 intro l
 induction l with
 |nil=>intro t k p _;cases p<;>rfl
 |cons c l ih=>
  intro t k p h;have hc:=h c (.head _);have e:gR t k p (c::(l++r))=gR (10*t+(c-48)) (k+1) (p.map (· +1)) (l++r):=(aL (λq=>by rw[q.1] at hc;exact aQ hc.1 (by decide))).trans (aA hc)
  rw(config:={}) [iN,e,ih λx m=>h x (.tail _ m),aO,bZ,bB 1,MR];refine av (λp=>gR (zP (10*t+(c-48)) l) (k+(l.length+1)) p r) ?_;cases p with
  |none=>rfl
  |some p=>exact av aa ((bZ p 1 _).trans (av (p+·) (bB 1 _)))
theorem FX{t c:aj}:zP t [c]=10*t+(c-48):=by rw[MR];exact UO
set_option smartUnfolding true in
theorem dF:∀{f n:aj},n<10^(f+1)->Dg (iU (f+1) n)/\zP 0 (iU (f+1) n)=n/\1<=(iU (f+1) n).length/\∀k,n<10^(k+1)->(iU (f+1) n).length<=k+1:=by
 intro f
 induction f with
 |zero=>
  intro n h;have hn:n<10:=h;rw[show iU 1 n=[48+n] from aA hn]
  exact⟨.one ⟨aw ..,by omega⟩,by rw[FX];omega,aP _,λk Z=>eW ..⟩
 |succ f ih=>
  intro n h
  by_cases hn:n<10
  ·rw[show iU (f+1+1) n=[48+n] from aA hn]
   exact⟨.one ⟨aw ..,by omega⟩,by rw[FX];omega,aP _,λk Z=>eW ..⟩
  ·rw[show iU (f+1+1) n=iU (f+1) (n/10)++[48+n%10] from aL hn]
   refine ud (ih (n:=n/10) (fx (by rw[ade];exact h))) λh1 h2 h3 h4=>?_
   refine⟨h1.wL (.one ⟨aw ..,by omega⟩),by rw[rP,h2,FX];omega,by rw[ah];exact eW ..,λk hk=>?_⟩
   rw[ah];cases k with
   |zero=>exact aQ hk hn
   |succ k=>exact bI (h4 k (fx (by rw[ade];exact hk)))
theorem I5{n:aj}(h:n<10^20):Dg (digits n)/\zP 0 (digits n)=n/\1<=(digits n).length/\∀k,n<10^(k+1)->(digits n).length<=k+1:=dF (f:=63) (bA h (by decide))
noncomputable def sgn(k:bE):ag Nat:=if k<0 then[45] else[]
theorem uT{k:bE}:(sgn k).length<=1:=by unfold sgn;split<;>decide
theorem i4{k:bE}:eM k=sgn k++digits k.natAbs:=by unfold eM sgn;split<;>rfl
theorem oP{k:bE}(h:k.natAbs<10^20):(eM k).length<=21:=by
 rw[i4,ah,bB];exact cG ((I5 h).2.2.2 19 h) uT
section
variable{n:aj}{m M:Mu}{s:ag aj}{k:bE}
noncomputable def abT:T->T
 |.str [c]=>.int c
 |_=>.none
theorem ah9:(ones s).map abT=nats s:=by
 unfold nats ones;rw[ba,ba];rfl
theorem c63(hm:Cl M)(hs:∀c∈s,c<256)(hl:s.length<=bp):CN (n+1) 63 [.t (.str s)] M=.ok (.t (.bytes s)) M:=by
 have e:=comp_map (C:=CN n) (elt:=.bi .ord [.au 1]) (slot:=1) (it:=.name 0) (au:=[aa (.t (.str s)),ac,ac,ac]) (mu:=M) (xs:=ones s) (M:=M) (gq:=[aa (.t (.str s)),ac,ac,ac]) abT (by unfold ones;rw[ba];rfl) hm (by rw[FG];exact hl) λx hx a8=>by
  refine bH (aT.mp hx) λt ht z0=>?_;subst z0;refine bH (aT.mp ht) λc hc z0=>?_;subst z0;exact gJ (CN n) (.bi .ord [.au 1]) [aa (.t (.str s)),aa (.t (.str [c])),ac,ac] (M++[TL a8]) [.a]
 rw[ah9] at e;exact bg n 63 [.t (.str s)] M rfl rfl [.v _,.v _,.s _] e (zG hs hl) (bx hm rfl)
theorem abU{k l:bE}(h:k<l):eC .lt (.t (.int k)) (.t (.int l)) m=aa true:=av aa (bc h)
theorem abV{k l:bE}(h:¬k<l):eC .lt (.t (.int k)) (.t (.int l)) m=aa false:=av aa (aY h)
theorem c31(hm:Cl M):CN (n+1) 31 [.t (.int k)] M=.ok (.t (.str (sgn k))) M:=by
 unfold sgn
 by_cases h:k<0
 ·rw[aA h];exact bg n 31 [.t (.int k)] M rfl rfl [.b ae,.s _] (abU h) (bx hm rfl)
 ·rw[aL h];exact bg n 31 [.t (.int k)] M rfl rfl [.b af,.s _] (abV h) (bx hm rfl)
theorem zR(h:k.natAbs<10^20):uf .str [.t (.int k)] m=.ok (.t (.str (eM k))) m:=aA (bA h (by decide))
theorem qd{q:aj}(h:q<=100):k9 .pow (.t (.int 10)) (.t (.int (q:aj))) m=.ok (.t (.int ((10^q:aj):bE))) m:=by
 show(if 0<=(q:bE)/\(q:bE)<=100/\(0:bE)<=10/\(10:bE)<=100 then Res.ok (PV.t (.int ((10:bE)^(q:bE).toNat))) m else .aK)=_
 rw[aA ⟨bR q,dm.mpr h,by decide,by decide⟩,uB,bE.natCast_pow];rfl
theorem B2(h:k.natAbs<10^20):eC .ge (.t (.int (k.natAbs:aj))) (.t (.int ((10^40:aj):bE))) m=aa false:=WE (bA h (by decide))
theorem c66(hm:Cl M)(h:k.natAbs<10^20)(hs:∀c∈eM k,c<256):CN (n+2) 66 [.t (.int k)] M=.ok (.t (.bytes (eM k))) M:=
 bg (n+1) 66 [.t (.int k)] M rfl rfl [.a,.v _,.b _,.v _,.v _,.s _] (qd (q:=40) (by decide)) (B2 h) (zR h) (c63 hm hs (ai (oP h) (by decide))) (bx hm rfl)
end
noncomputable def j4(a:bE)(q:aj):T:=.inst 1 [.int a,.int (q:aj)]
noncomputable def tw(a q:aj):ag Nat:=cj (q+1-(digits a).length) 48++digits a
noncomputable def Ct(a q:aj):ag Nat:=(tw a q).take ((tw a q).length-q)
noncomputable def AC(a q:aj):ag Nat:=(tw a q).drop ((tw a q).length-q)
section
variable{n j a q k:aj}{m M:Mu}{s x y:ag aj}{z:bE}{C:Calls}
theorem T4:zP 0 (cj k 48)=0:=by
 induction k with
 |zero=>exact UO
 |succ k ih=>rw[kU,MR];exact ih
theorem T5(h:a<10^20):Dg (tw a q):=Dg.wL (λc m=>by rw[ag.eq_of_mem_replicate m];decide) (I5 h).1
theorem DZ(h:a<10^20)(hq:q<=9):q+1<=(tw a q).length/\(tw a q).length<=20:=by
 have:=(I5 h).2.2.2 19 h
 unfold tw;rw[ah,dX];omega
theorem abW:Ct a q++AC a q=tw a q:=pG _ _
theorem zS(h:a<10^20)(hq:q<=9):(AC a q).length=q:=by
 unfold AC;rw[dD];exact SJ (dq (DZ h hq).1)
theorem D0(h:a<10^20)(hq:q<=9):1<=(Ct a q).length/\(Ct a q).length<=20:=by
 have:=DZ h hq
 unfold Ct;rw[f9];omega
theorem T6(h:a<10^20):Dg (Ct a q):=λc m=>T5 h c (ag.mem_of_mem_take m)
theorem T7(h:a<10^20):Dg (AC a q):=λc m=>T5 h c (GP m)
theorem Xb(h:a<10^20):zP 0 (Ct a q++AC a q)=a:=by
 rw[abW];unfold tw;rw[rP,T4,(I5 h).2.1]
theorem aia(h:a<10^20)(hq:0<q)(hk:a<10^q):zP 0 (AC a q)=a:=by
 refine fJ (aj.exists_eq_succ_of_ne_zero (jJ hq)) λq z0=>?_;subst z0;have hl:=(I5 h).2.2.2 q hk;have e:tw a (q+1)=48::(cj (q+1-(digits a).length) 48++digits a):=by
  unfold tw;rw[show q+1+1-(digits a).length=q+1-(digits a).length+1 from EA hl,kU];rfl
 unfold AC;rw[e,aO,ah,dX,lO hl,aU,ag.drop_succ_cons,jE,rP,T4,(I5 h).2.1]
theorem Xc(h:s.length<=bp):uf .len [.t (.str s)] m=.ok (.t (.int s.length)) m:=wF rfl h
theorem D1(h:x.length+y.length<=bp):k9 .add (.t (.str x)) (.t (.str y)) m=.ok (.t (.str (x++y))) m:=aA (by rw[ah];exact h)
theorem MS{l h:ar bE}{u v:ar PV}(hl:s.length<=bp)(e1:mO u=aa l)(e2:mO v=aa h)(e:cut s l h=x):lM (.t (.str s)) u v m=.ok (.t (.str x)) m:=by
 show dO (mO u) (λl=>dO (mO v) λh=>bS ((lH (.str s) l h).map PV.t) m)=_;rw[e1,e2];show bS ((if s.length<=bp then aa (T.str (cut s l h)) else ac).map PV.t) m=_
 rw[aA hl,e];rfl
theorem FY(h:k<=j)(h0:0<k):clip j (-(k:bE))=j-k:=by
 unfold clip;rw[aA (by omega),(adf _ _).trans (YV h).symm,UM (dm.mpr (lQ j k)),SK (bR _)];rfl
theorem RA(hl:s.length<=bp)(h:k<=s.length)(h0:0<k):lM (.t (.str s)) ac (aa (.t (.int (-(k:bE))))) m=.ok (.t (.str (s.take (s.length-k)))) m:=
 MS hl rfl rfl (by show(s.drop 0).take (clip s.length (-(k:bE))-0)=_;rw[FY h h0];rfl)
theorem RD(hl:s.length<=bp)(h:k<=s.length)(h0:0<k):lM (.t (.str s)) (aa (.t (.int (-(k:bE))))) ac m=.ok (.t (.str (s.drop (s.length-k)))) m:=
 MS hl rfl rfl (by show(s.drop (clip s.length (-(k:bE)))).take (s.length-clip s.length (-(k:bE)))=_;rw[FY h h0,fY (by rw[dD];exact aP _)])
theorem RE(hl:s.length<=bp)(h:k<=s.length):lM (.t (.str s)) (aa (.t (.int (k:aj)))) ac m=.ok (.t (.str (s.drop k))) m:=
 MS hl rfl rfl (by show(s.drop (clip s.length (k:aj))).take (s.length-clip s.length (k:aj))=_;rw[uM h,fY (by rw[dD];exact aP _)])
theorem MT:∀k:aj,ji [48] k=cj k 48
 |0=>rfl
 |k+1=>by rw[kU, <-MT k];rfl
theorem aib(hq:q<=9)(hk:k<=30):k9 .mul (.t (.str [48])) (.t (.int (((q+1:aj):bE)-(k:aj)))) m=.ok (.t (.str (cj (q+1-k) 48))) m:=by
 show(if -1000000<=((q+1:aj):bE)-(k:aj)/\((q+1:aj):bE)-(k:aj)<=1000000 then xY (ji [48] (((q+1:aj):bE)-(k:aj)).toNat) m else .aK)=_
 rw[aA ⟨by omega,by omega⟩,YW,MT]
 exact aA (by rw[dX];unfold bp;omega)
theorem abX(h:∀c∈x,c≠46):(x++46::y).findIdx? (· ==46)=aa x.length:=by
 induction x with
 |nil=>exact sf
 |cons c x ih=>
  rw[iN,sf,show(c==46)=af from aD.mpr (h c (.head _)),ih λc m=>h c (.tail _ m)];rfl
set_option smartUnfolding true in
theorem m35(h:∀c∈x,c≠46):ei C (.t (.str (x++46::y))) 35 ac [.t (.str [46])] m=.ok (.t (.int x.length)) m:=by
 show dO ((x++46::y).findIdx? (· ==46)) (λk=>Res.ok (PV.t (.int k)) m)=_;rw[abX h];rfl
noncomputable def zT(a:bE)(q:aj):ag Nat:=sgn a++(Ct a.natAbs q++[46]++AC a.natAbs q)
theorem uU:zT z q=(sgn z++Ct z.natAbs q)++46::AC z.natAbs q:=by unfold zT;rw[az,az];rfl
theorem abY(h:z.natAbs<10^20):∀c∈sgn z++Ct z.natAbs q,c≠46:=λc m e=>by
 rw[e] at m;rcases bt.mp m with m |m
 ·unfold sgn at m
  split at m
  ·exact aQ (aC.mp m) (by decide)
  ·cases m
 ·exact aQ (T6 h _ m).1 (by decide)
theorem B3(h:z.natAbs<10^20)(hq:q<=9):(zT z q).length<=31:=by
 rw[uU,ah,ah,aO,zS h hq];have:=(D0 h hq).2
 have:=uT (k:=z)
 omega
theorem RG(h:z.natAbs<10^20):uf .str [.t (.int (z.natAbs:aj))] m=.ok (.t (.str (digits z.natAbs))) m:=by
 rw[zR (k:=(z.natAbs:aj)) h,i4];unfold sgn;rw[aL (jw.mpr (bR _))];rfl
theorem small{α:Type}{p:ag α}(h:p.length<=31):p.length<=bp:=ai h (by decide)
theorem c29(hm:Cl M)(h:z.natAbs<10^20)(h0:0<q)(hq:q<=9):CN (n+2) 29 [.t (j4 z q)] M=.ok (.t (.str (zT z q))) M:=by
 have hd:=(I5 h).2.2.2 19 h;have hz:=DZ h hq;have hx:=B3 h hq;have hl:(tw z.natAbs q).length<=bp:=ai hz.2 (by decide)
 have hi:(Ct z.natAbs q++[46]).length+(AC z.natAbs q).length<=30:=by
  rw[ah,zS h hq];have:=(D0 h hq).2
  exact(show(Ct z.natAbs q).length+1+q<=30 by omega)
 have e1:=D1 (m:=M) (x:=cj (q+1-(digits z.natAbs).length) 48) (y:=digits z.natAbs) (by rw[<-ah];exact hl)
 have e2:=D1 (m:=M) (x:=Ct z.natAbs q) (y:=[46]) (by rw[<-ah];exact ai (ai (aw ..) hi) (by decide))
 have e3:=D1 (m:=M) (x:=Ct z.natAbs q++[46]) (y:=AC z.natAbs q) (ai hi (by decide))
 have e4:=D1 (m:=M) (x:=sgn z) (y:=Ct z.natAbs q++[46]++AC z.natAbs q) (by rw[<-ah];exact ai hx (by decide))
 exact bg (n+1) 29 [.t (j4 z q)] M rfl rfl [.a,.a,.v _,.a,.b ae,.a,.v _,.v _,.v _,.v _,.v _,.a,.v _,.v _,.a,.v _,.v _,.a,.v _,.v _,.s _] (RG h) (Rd h0) fO (Xc (ai hd (by decide))) sX (aib hq (ai hd (by decide))) e1 (RA hl (dq hz.1) h0) e2 (RD hl (dq hz.1) h0) e3 (c31 hm) e4 (bx hm rfl)
theorem aid(hm:Cl M)(h:z.natAbs<10^20)(h0:0<q)(hq:q<=9)(hk:10^q<=z.natAbs):CN (n+3) 30 [.t (j4 z q)] M=.ok (.t (.str (zT z q))) M:=
 bg (n+2) 30 [.t (j4 z q)] M rfl rfl [.k _,.v _,.a,.a,.a,.v _,.b ae,.s _] rfl (c29 hm h h0 hq) (qd (ai hq (by decide))) (ahM hk) (bx hm rfl)
theorem aie(hm:Cl M)(h:z.natAbs<10^20)(h0:0<q)(hq:q<=9)(hk:z.natAbs<10^q)(hz:z≠0):CN (n+3) 30 [.t (j4 z q)] M=.ok (.t (.str (sgn z++46::AC z.natAbs q))) M:=by
 have hx:=B3 h hq;have hc:=c29 (n:=n) hm h h0 hq;rw[uU] at hx hc;have hp:(sgn z++Ct z.natAbs q).length<=((sgn z++Ct z.natAbs q)++46::AC z.natAbs q).length:=(Jh _ _).length_le;have sl:=RE (m:=M) (small hx) hp;rw[lG] at sl;have e4:=D1 (m:=M) (x:=sgn z) (y:=46::AC z.natAbs q) (by
  rw[aO,zS h hq];have:=uT (k:=z)
  unfold bp;omega)
 exact bg (n+2) 30 [.t (j4 z q)] M rfl rfl [.k _,.v _,.a,.a,.a,.v _,.b af,.a,.b af,.a,.v _,.k _,.v _,.v _,.v _,.s _] rfl hc (qd (ai hq (by decide))) (WE hk) (mY hz) (c31 hm) rfl (m35 (abY h)) sl e4 (bx hm rfl)
end
noncomputable def m6(l:aW)(a:bE)(q:aj):ag Nat:=if q=0 then eM a++(if l then[46] else[46,48]) else if l=ae/\a.natAbs<10^q then sgn a++46::AC a.natAbs q else zT a q
section
variable{n q k c:aj}{m M:Mu}{s x y I F w:ag aj}{z:bE}{C:Calls}{l:aW}{p:ar aj}{t:aj}
theorem B4(h:c≠43/\c≠45):uo (sgn z++c::w)=s7 (decide (z<0)) (gR 0 0 ac (c::w)):=by
 unfold sgn
 by_cases hz:z<0
 ·rw[aA hz,bc hz];rfl
 ·rw[aL hz,aY hz]
  show s7 (c==45) (gR 0 0 ac ((c::w).drop (if c=43\/c=45 then 1 else 0)))=_
  rw[aL (λe=>e.elim h.1 h.2),aD.mpr h.2];rfl
theorem zU:ng (decide (z<0)) z.natAbs=z:=by
 unfold ng
 by_cases hz:z<0
 ·rw[bc hz,aA rfl];exact(av Neg.neg (Ao (iR hz))).trans (bE.neg_neg z)
 ·rw[aY hz,aL (by decide)];exact iM (jw.mp hz)
theorem FZ{b:aW}(h:1<=k)(h2:k<=40):s7 b (aa (t,k,p))=WM b t p:=aL (by omega)
theorem T8(h:Dg (c::w)):c≠43/\c≠45:=⟨λe=>aQ (h c (.head _)).1 (by rw[e];decide),λe=>aQ (h c (.head _)).1 (by rw[e];decide)⟩
theorem B5(h:z.natAbs<10^20):uo (eM z)=.int z:=by
 refine ud (I5 h) λd1 d2 d3 d4=>?_;have sc:=zQ (r:=[]) (t:=0) (k:=0) (p:=ac) d1;rw[aH,d2] at sc;rw[i4];have yC:=ai (d4 19 h) (show 20<=40 by decide)
 cases e:digits z.natAbs with
 |nil=>rw[e] at d3;cases d3
 |cons c w=>
  rw[e] at d1 sc d3 yC;rw[B4 (T8 d1),sc];show s7 _ (aa (z.natAbs,0+(c::w).length,ac))=_;rw[bM,FZ d3 yC];exact av T.int zU
theorem RH:gR t k ac (46::w)=gR t k (aa 0) w:=rfl
theorem MU(hI:Dg I)(hF:Dg F)(h1:1<=I.length+F.length)(h2:I.length+F.length<=40):uo (sgn z++(I++46::F))=s6 (ng (decide (z<0)) (zP 0 (I++F))) F.length:=by
 have sF:=zQ (r:=[]) (t:=zP 0 I) (k:=I.length) (p:=aa 0) hF;rw[aH] at sF;have sc:gR 0 0 ac (I++46::F)=aa (zP 0 (I++F),I.length+F.length,aa F.length):=by
  rw[zQ hI,bM,rP];refine RH.trans (sF.trans ?_);show aa (_,_,aa (0+F.length))=_;rw[bM]
 have fin:∀{c w},I++46::F=c::w->c≠43/\c≠45->uo (sgn z++(I++46::F))=s6 (ng (decide (z<0)) (zP 0 (I++F))) F.length:=λe hc=>by
  rw[e] at sc ⊢;rw[B4 hc,sc,FZ h1 h2];rfl
 cases I with
 |nil=>exact fin rfl (by decide)
 |cons c w=>exact fin rfl (T8 hI)
theorem D2(h:q=0\/z%10≠0):s6 z q=j4 z q:=by
 cases q with
 |zero=>rfl
 |succ q=>
  unfold s6;rw[show oK z (q+1)=(z,q+1) from aL (h.resolve_left (dW q))];rfl
theorem RI:s6 (z*10) 1=j4 z 0:=by
 unfold s6;rw[show oK (z*10) 1=oK (z*10/10) 0 from aA (bE.mul_emod_left ..),bE.mul_ediv_cancel _ (by decide)];rfl
theorem abZ:ng (decide (z<0)) (10*z.natAbs)=z*10:=by
 unfold ng
 by_cases hz:z<0
 ·rw[bc hz,aA rfl];omega
 ·rw[aY hz,aL (by decide)];omega
theorem rQ(h:z.natAbs<10^20)(hq:q<=9)(hn:q=0\/z%10≠0):∃I F,m6 l z q=sgn z++(I++46::F)/\Dg I/\Dg F/\1<=I.length+F.length/\I.length+F.length<=29/\s6 (ng (decide (z<0)) (zP 0 (I++F))) F.length=j4 z q:=by
 unfold m6
 by_cases h0:q=0
 ·refine ud (I5 h) λd1 d2 d3 d4=>?_
  have h20:=d4 19 h;rw[h0,aA rfl,i4,az];cases l with
  |true=>exact⟨_,[],rfl,d1,.nil,d3,ai h20 (by decide),by rw[aH,d2,zU];rfl⟩
  |false=>
   refine⟨_,[48],rfl,d1,.one (by decide),eW ..,cG h20 (show 1<=9 by decide),?_⟩
   rw[rP,d2,FX];show s6 (ng _ (10*z.natAbs)) 1=_;rw[abZ,RI]
 ·rw[aL h0]
  have hf:=zS h hq;have hi:=D0 h hq
  by_cases hk:l=ae/\z.natAbs<10^q
  ·rw[aA hk]
   exact⟨[],_,rfl,.nil,T7 h,by rw[hf];exact(show 1<=0+q by omega),by rw[hf];exact(show 0+q<=29 by omega),by rw[gx,aia h (aj.pos_of_ne_zero h0) hk.2,zU,hf];exact D2 hn⟩
  ·rw[aL hk]
   exact⟨_,_,by rw[uU,az],T6 h,T7 h,ai hi.1 (aw ..),by rw[hf];exact cG hi.2 hq,by rw[Xb h,zU,hf];exact D2 hn⟩
theorem B6(h:z.natAbs<10^20)(hq:q<=9)(hn:q=0\/z%10≠0):uo (m6 l z q)=j4 z q:=by
 refine OW (rQ (l:=l) h hq hn) λI F e h1 h2 h3 h4 h5=>?_;rw[e,MU h1 h2 h3 (ai h4 (by decide)),h5]
theorem aif(h:48<=c/\c<=57):sW c=true:=by
 have:∀k,k<10->sW ((48+k:aj):bE)=true:=by decide
 have:=this (c-48) (mC h.1 (ux h.2))
 rwa[i5 h.1] at this
theorem Dg.T9(h:Dg s):um s:=λc m=>aif (h c m)
theorem zV(h:um x)(h2:um y):um (x++y):=λc m=>(bt.mp m).elim (h c) (h2 c)
theorem oQ(h:sW c=ae)(h2:um y):um (c::y):=λb m=>(aJ.mp m).elim (λe=>e▸h) (h2 b)
theorem F1:um (sgn z):=by
 unfold sgn;split
 ·exact oQ (by decide) nofun
 ·exact nofun
theorem B7(h:z.natAbs<10^20):um (eM z):=by rw[i4];exact zV F1 (I5 h).1.T9
theorem MV(h:z.natAbs<10^20)(hq:q<=9)(hn:q=0\/z%10≠0):um (m6 l z q):=by
 refine vg (rQ (l:=l) h hq hn) λI F e h1 h2 Z=>?_;rw[e];exact zV F1 (zV h1.T9 (oQ (by decide) h2.T9))
theorem B8(h:z.natAbs<10^20)(hq:q<=9)(hn:q=0\/z%10≠0):(m6 l z q).length<=31:=by
 refine OW (rQ (l:=l) h hq hn) λI F e h1 h2 h3 h4 Z=>?_;have:=uT (k:=z)
 rw[e,ah,ah,aO];omega
theorem D3(h:y≠[]):x++y≠[]:=λe=>h (ee.mp e).2
theorem D4(h:z.natAbs<10^20):eM z≠[]:=by rw[i4];exact D3 (ag.ne_nil_of_length_pos (I5 h).2.2.1)
theorem RJ(h:z.natAbs<10^20)(hq:q<=9)(hn:q=0\/z%10≠0):m6 l z q≠[]:=by
 refine dZ (rQ (l:=l) h hq hn) λI F e Z=>?_;rw[e];exact D3 (D3 (bf _ _))
theorem mq(h:c≠43/\c≠45/\c≠46/\(c<48\/57<c)):uo (c::w)=.none:=by
 show s7 (c==45) (gR 0 0 ac ((c::w).drop (if c=43\/c=45 then 1 else 0)))=_
 rw[aL (λe=>e.elim h.1 h.2.1),jE,show gR 0 0 ac (c::w)=ac from(aL λe=>h.2.2.1 e.1).trans (aL (by omega))];rfl
theorem MW:∀c∈sgn z,c<256:=λc m=>by
 unfold sgn at m;split at m
 ·rw[aC.mp m];decide
 ·cases m
theorem wR(h:∀c∈x,c<256)(h2:∀c∈y,c<256):∀c∈x++y,c<256:=λc m=>(bt.mp m).elim (h c) (h2 c)
theorem fc(h:c<256)(h2:∀c∈y,c<256):∀b∈c::y,b<256:=λb m=>(aJ.mp m).elim (λe=>e▸h) (h2 b)
theorem D5(h:z.natAbs<10^20):∀c∈eM z,c<256:=by rw[i4];exact wR MW (I5 h).1.lt
theorem RK(h:z.natAbs<10^20)(hq:q<=9)(hn:q=0\/z%10≠0):∀c∈m6 l z q,c<256:=by
 refine vg (rQ (l:=l) h hq hn) λI F e h1 h2 Z=>?_;rw[e];exact wR MW (wR h1.lt (fc (by decide) h2.lt))
noncomputable def fig(c:aj):ar T:=if c=45\/c=46 then ac else aa (.str [c])
theorem aii{u v:ar PV}(hm:Cl M)(hs:∀c∈s,c<256)(hl:s.length<=31):∃au,execs (CN (n+1)) (PC.drop 2) [u,v,aa (.t (.str s)),ac,ac,ac] M=.ok (.ret (.t (.bytes s)),au) M:=by
 have e:=uS (C:=CN (n+1)) (elt:=.au 3) (dN:=[.cmp .pZ (.au 3) (.c (.str [45,46]))]) (slot:=3) (it:=.name 2) (au:=[u,v,aa (.t (.str s)),ac,ac,ac]) (mu:=M) (l:=s) (M:=M) (gq:=[u,v,aa (.t (.str s)),ac,ac,ac]) (λc=>.str [c]) fig rfl hm (small hl) λc Z a8=>by
  have h:U3 (.str [c]) (.str [45,46])=aa (45==c||(46==c||false)):=rfl;have hB:∀b,U3 (.str [c]) (.str [45,46])=aa b->i6 (CN (n+1)) [.cmp .pZ (.au 3) (.c (.str [45,46]))] [u,v,aa (.t (.str s)),aa (.t (.str [c])),ac,ac] (M++[TL a8])=.ok (!b) (M++[TL a8]):=λb hb=>by
   show((bS ((U3 (.str [c]) (.str [45,46])).map (!·)) (M++[TL a8])).bind λb mu=>if b then Res.ok ae mu else .ok af mu)=_
   rw[hb];cases b<;>rfl
  unfold fig
  by_cases hc:c=45\/c=46
  ·rw[aA hc]
   exact hB ae (by rcases hc with rfl |rfl<;>rfl)
  ·rw[aL hc]
   exact⟨hB af (h.trans (by rw[aD.mpr λe=>hc (.inl e.symm),aD.mpr λe=>hc (.inr e.symm)];rfl)),rfl⟩
 have hG:(s.filterMap fig).length<=31:=ai (AM ..) hl;exact⟨_,run (C:=CN (n+1)) (PC.drop 2) [u,v,aa (.t (.str s)),ac,ac,ac] M [.v _,.v _,.b af,.v _] e (wF rfl (small hG)) (Mt (by omega)) (c63 hm hs (small hl))⟩
end
section
variable{n q k:aj}{m M:Mu}{z:bE}{l:aW}
theorem yG{k l:aj}(h:k<=l):eC .gt (.t (.int (k:aj))) (.t (.int (l:aj))) m=aa false:=Mt (jw.mpr (dm.mpr h))
noncomputable abbrev Ua(z:bE)(q:aj)(l:aW)(u:ar PV):Loc:=[aa (.t (j4 z q)),aa (.t (.bool l)),u,ac,ac,ac]
theorem aij(hm:Cl M)(h:z.natAbs<10^20)(hq:q<=9)(hn:q=0\/z%10≠0):execs (CN (n+3)) (PC.take 2) (Ua z q l ac) M=.ok (.next,Ua z q l (aa (.t (.str (m6 l z q))))) M:=by
 have yC:=yG (m:=M) (ai hq (show 9<=40 by decide))
 have ht:=oP h;cases q with
 |zero=>
  cases l with
  |true=>exact run (C:=CN (n+3)) (PC.take 2) (Ua z 0 ae ac) M [.a,.a,.v _,.b af,.a,.b af,.a,.b ae,.a,.v _,.a,.v _] (qd (q:=40) (by decide)) (B2 h) yC rfl (zR h) (D1 (y:=[46]) (ai (bN ht 1) (by decide)))
  |false=>exact run (C:=CN (n+3)) (PC.take 2) (Ua z 0 af ac) M [.a,.a,.v _,.b af,.a,.b af,.a,.b ae,.a,.v _,.a,.v _] (qd (q:=40) (by decide)) (B2 h) yC rfl (zR h) (D1 (y:=[46,48]) (ai (bN ht 2) (by decide)))
 |succ q=>
  have e:m6 l z (q+1)=if l=ae/\z.natAbs<10^(q+1) then sgn z++46::AC z.natAbs (q+1) else zT z (q+1):=aL (dW q)
  rw[e];cases l with
  |false=>
   rw[aL (λe=>aQ e.1 (by decide))]
   exact run (C:=CN (n+3)) (PC.take 2) (Ua z (q+1) af ac) M [.a,.a,.v _,.b af,.a,.b af,.a,.b af,.a,.k _,.v _] (qd (q:=40) (by decide)) (B2 h) yC (fV (dW q)) rfl (c29 hm h (gC q) hq)
  |true=>
   have g:∀{x},CN (n+3) 30 [.t (j4 z (q+1))] M=.ok (.t x) M->execs (CN (n+3)) (PC.take 2) (Ua z (q+1) ae ac) M=.ok (.next,Ua z (q+1) ae (aa (.t x))) M:=λg=>
    run (C:=CN (n+3)) (PC.take 2) (Ua z (q+1) ae ac) M [.a,.a,.v _,.b af,.a,.b af,.a,.b af,.a,.k _,.v _] (qd (q:=40) (by decide)) (B2 h) yC (fV (dW q)) rfl g
   by_cases hk:z.natAbs<10^(q+1)
   ·rw[aA ⟨rfl,hk⟩]
    exact g (aie hm h (gC q) hq hk λe=>hn.elim (dW q) λh=>h (by rw[e];rfl))
   ·rw[aL λe=>hk e.2]
    exact g (aid hm h (gC q) hq (cH hk))
theorem c67(hm:Cl M)(h:z.natAbs<10^20)(hq:q<=9)(hn:q=0\/z%10≠0):CN (n+4) 67 [.t (j4 z q),.t (.bool l)] M=.ok (.t (.bytes (m6 l z q))) M:=by
 refine fJ (aii (n:=n+2) (u:=aa (.t (j4 z q))) (v:=aa (.t (.bool l))) hm (RK (l:=l) h hq hn) (B8 h hq hn)) λau e=>?_;exact ofX (f:=67) (as:=[.t (j4 z q),.t (.bool l)]) rfl rfl ((zH 2 (aij (n:=n) hm h hq hn)).trans e) [.s _] (bx hm rfl)
end
theorem zW{C:Calls}{slot:aj}{b:ag S}{α:Type}{L:ar PV->ar PV->Loc}{St:ag T->Mu}{f:α->T}{g:α->ag T}{K:aj}{xs:ag α}(st:∀x∈xs,∀a8 u v,a8.length+(g x).length<=K->∃u' v',∀r q,forL slot (execs C b) r (L u' v') (St (a8++g x))=q->forL slot (execs C b) (f x::r) (L u v) (St a8)=q):
 ∀{a8 u v},a8.length+(xs.flatMap g).length<=K->∃u' v',forL slot (execs C b) (xs.map f) (L u v) (St a8)=.ok (.next,L u' v') (St (a8++xs.flatMap g)):=by
 induction xs with
 |nil=>exact λ{a8 u v} Z=>⟨u,v,by rw[ag.flatMap_nil,aH];rfl⟩
 |cons x xs ih=>
  intro a8 u v hk;rw[dY, <-az];rw[dY,ah, <-bZ] at hk;refine gU (st x (.head _) a8 u v (ai (aw ..) hk)) λu v h=>?_;refine gU (ih (λx m=>st x (.tail _ m)) (a8:=a8++g x) (u:=u) (v:=v) (by rw[ah];exact hk)) λu' v' h'=>?_
  exact⟨u',v',h _ _ h'⟩
def pR(s:ag aj):Prop:=∀c∈s,0<c/\c<256
noncomputable def ab0:ag Nat:=[48,49,50,51,52,53,54,55,56,57,65,66,67,68,69,70]
noncomputable def oN(s:ag aj):ag Nat:=47::s.flatMap wD
section
variable{n j k c:aj}{m M:Mu}{s o x y:ag aj}
theorem F2:∀k,k<16->ab0.drop k=hx k::ab0.drop (k+1):=by decide
theorem Ub:∀k,k<16->hx k<256:=by decide
theorem ab1:∀k,k<16->sW (hx k:aj)=true:=by decide
theorem d16(h:c<256):c/16<16:=fx h
theorem c64(hm:Cl M)(h:c<256):CN (n+1) 64 [.t (.int (c:aj))] M=.ok (.t (.list (nats (oJ c)))) M:=
 bg n 64 [.t (.int (c:aj))] M rfl rfl [.v (.ok (.t (.int (c/16:aj))) M),.v _,.v _,.v _,.v _,.s _] (DK (FI (by decide))) (iQ (by decide) (F2 _ (d16 h))) (My (by decide)) (iQ (by decide) (F2 _ (o8 _ (by decide)))) Im (bx hm rfl)
theorem oR:nats (x++y)=nats x++nats y:=br
theorem rR{f:aj->ag aj}:∀{s:ag aj},s.flatMap (λc=>nats (f c))=nats (s.flatMap f)
 |[]=>rfl
 |c::s=>by rw[dY,dY,oR,rR]
theorem F3(h:c<256):∀k∈oJ c,k<256:=fc (Ub _ (d16 h)) (fc (Ub _ (o8 _ (by decide))) nofun)
theorem MX{α:Type}{l:ag α}{f:α->ag aj}(h:∀x∈l,∀c∈f x,c<256):∀c∈l.flatMap f,c<256:=λc m=>by
 refine bH (gT.mp m) λx hx m=>?_;exact h x hx c m
theorem wU:(o.flatMap oJ).length=2*o.length:=by rw[uP,aq,lE]
theorem wV{u:T}(h:M.length=j):DH [.t u] M=.ok (.m j) (M++[TL [u]]):=by rw[<-h];exact aA (show 1<=bp by decide)
theorem c70(hm:Cl M)(ho:∀c∈o,c<256)(hl:o.length<=1000):CN (n+2) 70 [.t (.bytes o)] M=.ok (.t (.bytes (60::(o.flatMap oJ++[62])))) M:=by
 have e2:([60]++o.flatMap oJ).length<=2001:=by rw[ah,wU];exact(show 1+2*o.length<=2001 by omega)
 obtain⟨u,v,e⟩:=zW (C:=CN (n+1)) (slot:=2) (b:=ip (dT b70 1)) (L:=λu v=>[aa (.t (.bytes o)),aa (.m M.length),u,v,ac,ac]) (St:=λx=>M++[TL x]) (f:=λc:aj=>T.int (c:aj)) (g:=λc=>nats (oJ c)) (K:=3000) (xs:=o) (λc hc a8 u v hk=>
  ⟨_,_,λr=>iJ (CN (n+1)) (ip (dT b70 1)) 2 [aa (.t (.bytes o)),aa (.m M.length),u,v,ac,ac] (M++[TL a8]) (.int (c:aj)) r [.k _,.v _,.v _] (kL rfl rfl) (c64 hm.tl (ho c hc)) (m31 rfl (ax hk (by decide)))⟩) (a8:=nats [60]) (u:=ac) (v:=ac) (by rw[rR,iw,iw, <-ah];exact ai e2 (by decide))
 rw[rR, <-oR] at e;have e3:=BO (C:=CN (n+1)) (j:=M.length) (v:=.int ((62:aj):bE)) (M:=M) (xs:=nats ([60]++o.flatMap oJ)) rfl (by rw[iw];exact ax e2 (by decide))
 rw[rJ,az] at e3;exact bg (n+1) 70 [.t (.bytes o)] M rfl rfl [.v _,.l _,.k _,.v _,.v _,.s _] (wV rfl) (ix (xs:=nats o) rfl e) (kL rfl rfl) e3 (zD (x:=60::(o.flatMap oJ++[62])) rfl (fc (by decide) (wR (MX λc hc=>F3 (ho c hc)) (fc (by decide) nofun))) (by rw[aO,ah,wU];exact(show 2*o.length+1+1<=bp by unfold bp;omega))) (gk hm rfl)
theorem F4(h:pl c=ae):wD c=[c]:=aA h
theorem F5(h:pl c=af):wD c=35::oJ c:=aL (by rw[h];decide)
theorem Xd(h:c<256):∀k∈wD c,k<256:=by
 cases hp:pl c with
 |true=>rw[F4 hp];exact fc h nofun
 |false=>rw[F5 hp];exact fc (by decide) (F3 h)
theorem MY:(wD c).length<=3:=by
 cases hp:pl c with
 |true=>rw[F4 hp];exact(show 1<=3 by decide)
 |false=>rw[F5 hp];exact aP 3
theorem MZ{α β:Type}{f:α->ag β}{k:aj}(h:∀c,(f c).length<=k){s:ag α}:(s.flatMap f).length<=k*s.length:=by
 induction s with
 |nil=>exact cF _
 |cons c s ih=>rw[dY,ah,aO,oZ,bB];exact cG ih (h c)
theorem ab2(h:pl c=ae):sW c=true:=(aF.mp h).2
theorem F6(hs:pR s):um (s.flatMap wD):=λx hx=>by
 refine bH (gT.mp hx) λc hc m=>?_;cases hp:pl c with
 |true=>rw[F4 hp] at m;rw[aC.mp m];exact ab2 hp
 |false=>
  rw[F5 hp] at m;exact oQ (by decide) (oQ (ab1 _ (d16 (hs c hc).2)) (oQ (y:=[]) (ab1 _ (o8 _ (by decide))) nofun)) x m
theorem t65(hm:Cl M)(hc:0<c/\c<256){a8:ag T}{r:ag T}{a1 u v:ar PV}(hk:a8.length+(nats (wD c)).length<=4000)(q:Res (cB×Loc))(h:forL 2 (execs (CN (n+1)) (ip (dT PA 1))) r [a1,aa (.m M.length),aa (.t (.str [c])),aa (.t (.int (c:aj))),ac,ac,ac] (M++[TL (a8++nats (wD c))])=q):
 forL 2 (execs (CN (n+1)) (ip (dT PA 1))) (.str [c]::r) [a1,aa (.m M.length),u,v,ac,ac,ac] (M++[TL a8])=q:=by
 have e0:∀{k:aj},k<c\/c<k->eC .eq (.t (.int (c:aj))) (.t (.int (k:aj))) (M++[TL a8])=aa false:=λh=>fV (by omega)
 have e1:=e0 (k:=0) (.inl hc.1);have e2:=yG (m:=M++[TL a8]) (fH hc.2);have e4:=c2 (n:=n) (c:=(c:aj)) (hm.tl (xs:=a8));have ha:a8.length<bp:=ax (ai (aw ..) hk) (by decide)
 cases hp:pl c with
 |true=>
  rw[F4 hp] at h;rw[ab2 hp] at e4;have hp:=(aF.mp hp).1;rw[uc,df,df] at hp;exact iJ (CN (n+1)) (ip (dT PA 1)) 2 [a1,aa (.m M.length),u,v,ac,ac,ac] (M++[TL a8]) (.str [c]) r [.a,.b af,.b af,.b af,.b af,.b af,.v _,.a,.k _,.v _] e1 e2 (H9 (l:=33) (cH (Ye hp.1.1))) (yG (l:=126) (cH (Ye hp.1.2))) (fV (l:=35) (ne_of_beq_false hp.2)) e4 (kL rfl rfl) (BO rfl ha) q h
 |false=>
  rw[F5 hp] at h hk;have e5:=BO (C:=CN (n+1)) (j:=M.length) (v:=.int ((35:aj):bE)) (M:=M) (xs:=a8) rfl ha;have e6:=m31 (C:=CN (n+1)) (j:=M.length) (l:=nats (oJ c)) (M:=M) (xs:=a8++[.int ((35:aj):bE)]) rfl (by rw[ah,bZ,bB [_].length];exact ax hk (by decide))
  rw[az] at e6;have e7:=c64 (n:=n) (c:=c) (hm.tl (xs:=a8++[.int ((35:aj):bE)])) hc.2
  by_cases q1:c<33
  ·exact iJ (CN (n+1)) (ip (dT PA 1)) 2 [a1,aa (.m M.length),u,v,ac,ac,ac] (M++[TL a8]) (.str [c]) r [.a,.b af,.b af,.b ae,.k _,.v _,.k _,.v _,.v _] e1 e2 (sV (l:=33) q1) (kL rfl rfl) e5 (kL rfl rfl) e7 e6 q h
  ·have f1:=H9 (m:=M++[TL a8]) (l:=33) (k:=c) (cH q1)
   by_cases q2:126<c
   ·exact iJ (CN (n+1)) (ip (dT PA 1)) 2 [a1,aa (.m M.length),u,v,ac,ac,ac] (M++[TL a8]) (.str [c]) r [.a,.b af,.b af,.b af,.b ae,.k _,.v _,.k _,.v _,.v _] e1 e2 f1 (TV (cf.mpr q2)) (kL rfl rfl) e5 (kL rfl rfl) e7 e6 q h
   ·have f2:=yG (m:=M++[TL a8]) (l:=126) (k:=c) (cH q2)
    by_cases q3:c=35
    ·exact iJ (CN (n+1)) (ip (dT PA 1)) 2 [a1,aa (.m M.length),u,v,ac,ac,ac] (M++[TL a8]) (.str [c]) r [.a,.b af,.b af,.b af,.b af,.b ae,.k _,.v _,.k _,.v _,.v _] e1 e2 f1 f2 (pP (av kb q3)) (kL rfl rfl) e5 (kL rfl rfl) e7 e6 q h
    ·have q4:sW c=false:=by
      unfold pl at hp;rw[aY q1,aY q2,aD.mpr q3] at hp;exact hp
     rw[q4] at e4;exact iJ (CN (n+1)) (ip (dT PA 1)) 2 [a1,aa (.m M.length),u,v,ac,ac,ac] (M++[TL a8]) (.str [c]) r [.a,.b af,.b af,.b af,.b af,.b af,.v _,.a,.k _,.v _,.k _,.v _,.v _] e1 e2 f1 f2 (fV (l:=35) q3) e4 (kL rfl rfl) e5 (kL rfl rfl) e7 e6 q h
theorem c65(hm:Cl M)(hs:pR s)(hl:s.length<=1000):CN (n+2) 65 [.t (.str s)] M=.ok (.t (.bytes (oN s))) M:=by
 have e2:([47]++s.flatMap wD).length<=3001:=by rw[ah,bB];exact bI (ai (MZ λZ=>MY) (cm 3 hl))
 refine gU (zW (C:=CN (n+1)) (slot:=2) (b:=ip (dT PA 1)) (L:=λu v=>[aa (.t (.str s)),aa (.m M.length),u,v,ac,ac,ac]) (St:=λx=>M++[TL x]) (f:=λc:aj=>T.str [c]) (g:=λc=>nats (wD c)) (K:=4000) (xs:=s) (λc hc a8 u v hk=>⟨_,_,λr=>t65 hm (hs c hc) hk⟩) (a8:=nats [47]) (u:=ac) (v:=ac) (by rw[rR,iw,iw, <-ah];exact ai e2 (by decide))) λu v e=>?_
 rw[rR, <-oR] at e;exact bg (n+1) 65 [.t (.str s)] M rfl rfl [.v _,.l _,.v _,.s _] (wV rfl) (ix (xs:=s.map λc=>.str [c]) rfl e) (zD (x:=oN s) rfl (fc (by decide) (MX λc hc=>Xd (hs c hc).2)) (ai e2 (by decide))) (gk hm rfl)
end
noncomputable def kB:ag aj->aj->aj
 |[],_=>0
 |c::r,d=>if c=40 then kB r (d+1)-1 else if c=41 then(match d with |0=>kB r 0 |e+1=>kB r e+1) else kB r d
noncomputable abbrev nx(c d:aj):Nat:=if c=40 then d+1 else if c=41 then d-1 else d
noncomputable def F7:ag aj->aj->aj->aW
 |[],_,_=>af
 |c::r,d,0=>(c==40&&kB r (d+1)==0)||(c==41&&d==0)
 |c::r,d,i+1=>F7 r (nx c d) i
noncomputable def fl:ag aj->aj->ag Oq
 |[],_=>[]
 |c::r,d=>(c,(c==13||c==92)||F7 (c::r) d 0)::fl r (nx c d)
noncomputable def iD(l:ag aj):ag (T×T):=l.map λk=>(.int (k:aj),.bool ae)
noncomputable def ad(l:ag aj)(k:aj):ag Nat:=if k∈l then l else l++[k]
section
variable{j k c d x:aj}{m M X:Mu}{s r l:ag aj}{C:Calls}{o1 o2 o3:MO}{it:ag T}{v:T}
theorem RL:∀{s d},kB s d<=d:=by
 intro s
 induction s with
 |nil=>exact λ{d}=>cF d
 |cons c r ih=>
  intro d;unfold kB;split
  ·exact IK ih
  ·split
   ·cases d with
    |zero=>exact ih
    |succ e=>exact bI ih
   ·exact ih
theorem M0:∀{s d},(fl s d).map (·.1)=s:=by
 intro s
 induction s with
 |nil=>exact λ{d}=>rfl
 |cons c r ih=>exact λ{d}=>av (c::·) ih
theorem M1{s d}:(fl s d).length=s.length:=(aq ..).symm.trans (av jx M0)
theorem Xe:∀{s d},BP (kB s d) (fl s d):=by
 intro s
 induction s with
 |nil=>exact λ{d}=>rfl
 |cons c r ih=>
  intro d
  by_cases yC:c=40
  ·subst yC
   show if(kB r (d+1)==0||false)=ae then BP (kB r (d+1)-1) (fl r (d+1)) else BP (kB r (d+1)-1+1) (fl r (d+1))
   have:=ih (d:=d+1)
   cases h:kB r (d+1) with
   |zero=>rw[h] at this;exact this
   |succ k=>rw[h] at this;exact this
  ·by_cases I2:c=41
   ·subst I2
    cases d with
    |zero=>exact ih (d:=0)
    |succ e=>exact⟨_,rfl,ih⟩
   ·have e1:F7 (c::r) d 0=false:=by show((c==40&&_)||(c==41&&_))=af;rw[aD.mpr yC,aD.mpr I2];rfl
    have e2:kB (c::r) d=kB r d:=(aL yC).trans (aL I2);have e3:fl (c::r) d=(c,(c==13||c==92))::fl r d:=by show(c,(c==13||c==92)||F7 (c::r) d 0)::fl r (if c=40 then d+1 else if c=41 then d-1 else d)=_;rw[e1,AL,aL yC,aL I2]
    rw[e2,e3];show if(c==13||c==92)=ae then BP (kB r d) (fl r d) else if c=40 then _ else if c=41 then _ else BP (kB r d) (fl r d)
    split
    ·exact ih
    ·exact ih
theorem Uc:∀{s d},(∀c∈s,c<256)->∀t∈fl s d,Yo t:=by
 intro s
 induction s with
 |nil=>exact λZ=>nofun
 |cons c r ih=>
  intro d h t ht;rcases aJ.mp ht with rfl |ht
  ·show if((c==13||c==92)||((c==40&&_)||(c==41&&_)))=ae then _ else _
   by_cases RM:c=13
   ·subst RM;exact .inl rfl
   by_cases Ud:c=92
   ·subst Ud;exact .inr (.inl rfl)
   split
   ·rename_i hb
    rw[aD.mpr RM,aD.mpr Ud,AG,AG,pa,cZ,cZ] at hb;exact .inr (.inr (hb.imp (λh=>bT.mp h.1) λh=>bT.mp h.1))
   ·exact⟨RM,Ud,h c (.head _)⟩
  ·exact ih (λc m=>h c (.tail _ m)) t ht
theorem RN:dput (.int (k:aj)) (.bool ae) (iD l)=iD (ad l k):=by
 unfold ad
 induction l with
 |nil=>rfl
 |cons a l ih=>
  show(if((a:bE)==(k:bE))=ae then(T.int (a:aj),T.bool ae)::iD l else(T.int (a:aj),T.bool ae)::dput (.int (k:aj)) (.bool ae) (iD l))=_
  by_cases h:a=k
  ·rw[h,aA (dJ _),aA (.head _)];rfl
  ·rw[aL (show ¬(((a:aj):bE)==((k:aj):bE))=ae from λe=>h (lm (bT.mp e))),ih]
   by_cases hk:k∈l
   ·rw[aA hk,aA (.tail _ hk)];rfl
   ·rw[aL hk,aL λm=>(aJ.mp m).elim (λe=>h e.symm) hk];rfl
theorem M2:x∈ad l k↔x∈l\/x=k:=by
 unfold ad;split
 ·exact⟨.inl,λh=>h.elim id λe=>e▸‹_›⟩
 ·rw[bt,aC]
theorem M3:(ad l k).length<=l.length+1:=by
 unfold ad;split
 ·exact aw ..
 ·rw[ah];exact aP _
theorem F8:((iD l).map (·.1)).all T.SR=true:=aE.mpr λt h=>by
 refine bH (aT.mp h) λy hy z0=>?_;subst z0;refine bH (aT.mp hy) λk Z z0=>?_;subst z0;rfl
theorem F9(h:X[j]? =aa (.dict (iD l)))(hl:l.length<bp):xo (.m j) (.t (.int (k:aj))) (.t (.bool ae)) X=.ok () (X.set j (.dict (iD (ad l k)))):=by
 show dO X[j]? (setM j (k:aj) (.t (.bool ae)) X)=_;rw[h];show(if pe (.int (k:aj)) (iD l)=ae/\(iD l).length<bp then Res.ok () (X.set j (.dict (dput (.int (k:aj)) (.bool ae) (iD l)))) else .aK)=_
 rw[aA ⟨F8,by unfold iD;rw[aq];exact hl⟩,RN]
theorem ab3:eC .isIn (.t (.int (k:aj))) (.t (.dict (iD l))) m=aa (decide (k∈l)):=by
 show(if((iD l).map (·.1)).all T.SR=ae then aa (((iD l).map (·.1)).any (T.SS (k:aj))) else ac)=_
 rw[aA F8];refine av aa (eV.mpr ?_);rw[cb,OH];exact⟨λq9=>bH q9 λt h e=>by
  refine bH (aT.mp h) λy hy z0=>?_;subst z0;refine bH (aT.mp hy) λa ha z0=>?_;subst z0;exact lm (bT.mp e)▸ha,λh=>⟨.int (k:aj),aT.mpr ⟨_,aT.mpr ⟨k,h,rfl⟩,rfl⟩,bT.mpr rfl⟩⟩
theorem Ip(h:M.length=j):(M++[o1,o2])[j]? =aa o1:=by rw[<-h,aZ (aP _),dA];rfl
theorem Xf(h:M.length=j):(M++[o1,o2])[j+1]? =aa o2:=by rw[<-h,aZ (aw ..),aU];rfl
theorem M4(h:M.length=j):(M++[o1,o2]).set j o3=M++[o3,o2]:=by rw[<-h,cy _ _ (aP _),dA];rfl
theorem M5(h:M.length=j):(M++[o1,o2]).set (j+1) o3=M++[o1,o3]:=by rw[<-h,cy _ _ (aw ..),aU];rfl
theorem ab4(h:X[j]? =aa (TL (it++[v])))(hl:it.length<bp):ei C (.m j) 32 ac [] X=.ok (.t v) (X.set j (TL it)):=
 WV (by rw[h];show aa (MO.list ((it++[v]).map PV.t))=_;rw[br];rfl) (by rw[aq];exact hl)
theorem RP(h:X[j]? =aa (TL it))(hl:it.length<=bp):truth (.m j) X=aa (!it.isEmpty):=by
 show(X[j]?.bind MO.l?).bind _=_;rw[h];show(if(it.map PV.t).length<=bp then aa (!(it.map PV.t).isEmpty) else ac)=_
 rw[aA (by rw[aq];exact hl),ag.isEmpty_map]
end
def Fd(s:ag aj)(p:aj)(je ln qD AD:ag aj):Prop:=∀x,(x∈AD\/x∈qD)↔(x∈ln\/x∈je.take (je.length-kB s je.length))\/∃i,x=p+i/\F7 s je.length i=ae
section
variable{n i j k c p d x:aj}{m M:Mu}{s r o l je ln qD AD:ag aj}{C:Calls}{u v:ar PV}
theorem Ga:(∃i,x=p+i/\F7 (c::r) d i=ae)↔(x=p/\F7 (c::r) d 0=ae)\/∃i,x=p+1+i/\F7 r (nx c d) i=true:=by
 constructor
 ·rintro ⟨i,h,e⟩
  cases i with
  |zero=>exact .inl ⟨h,e⟩
  |succ i=>exact .inr ⟨i,h.trans (by omega),e⟩
 ·rintro (⟨h,e⟩ |⟨i,h,e⟩)
  ·exact⟨0,h,e⟩
  ·exact⟨i+1,h.trans (by omega),e⟩
theorem Fd.other(h1:c≠40)(h2:c≠41)(h:Fd r (p+1) je ln qD AD):Fd (c::r) p je ln qD AD:=λx=>(h x).trans (by
 rw[Ga,show nx c je.length=je.length from(aL h1).trans (aL h2),show kB (c::r) je.length=kB r je.length from(aL h1).trans (aL h2)]
 show _↔_\/(x=p/\(c==40&&_||c==41&&_)=ae)\/_;rw[aD.mpr h1,aD.mpr h2];exact EG ⟨.inr,λh=>h.elim (λh=>nomatch h.2) id⟩)
theorem Fd.open(h:Fd r (p+1) (je++[p]) ln qD AD):Fd (40::r) p je ln qD AD:=λx=>(h x).trans (by
 rw[Ga,ah,ci];show _↔(_\/x∈je.take (je.length-(kB r (je.length+1)-1)))\/(x=p/\(kB r (je.length+1)==0||false)=ae)\/_;cases e:kB r (je.length+1) with
 |zero=>
  rw[EH,fY (by rw[ah];exact aP _),bt,aC]
  show _↔(_\/x∈je.take je.length)\/(x=p/\ae=ae)\/_;rw[nz,eq_self,and_true, <-xQ, <-xQ];exact Iff.rfl
 |succ k=>
  rw[GQ,xd (lQ ..)];exact EG ⟨.inr,λh=>h.elim (λh=>nomatch h.2) id⟩)
theorem Fd.ail(h:Fd r (p+1) [] (ad ln p) qD AD):Fd (41::r) p [] ln qD AD:=λx=>(h x).trans (by
 rw[Ga,M2,rW,rW];show((_\/_)\/x∈[])\/_↔(_\/x∈[])\/(x=p/\ae=ae)\/_;rw[eq_self,and_true, <-xQ,or_right_comm (b:=x=p)];exact Iff.rfl)
theorem Fd.close(h:Fd r (p+1) je ln qD AD):Fd (41::r) p (je++[k]) ln qD AD:=λx=>(h x).trans (by
 rw[Ga,ah,ci];show _↔(_\/x∈(je++[k]).take (je.length+1-(kB r je.length+1)))\/(x=p/\(af||false)=ae)\/_;rw[GQ,xd (lQ ..)];exact EG ⟨.inr,λh=>h.elim (λh=>nomatch h.2) id⟩)
noncomputable abbrev Xg(M:Mu)(je ln:ag aj):Mu:=M++[TL (nats je),.dict (iD ln)]
noncomputable abbrev I6(o:ag aj)(j:aj)(v u:ar PV):Loc:=[aa (.t (.bytes o)),v,aa (.m (j+1)),u,ac,ac,ac]
theorem aim(hj:M.length=j)(ho:o.length<=bp):∀{s p je ln u},o.drop p=s->je.length<=p->ln.length<=p->∃u' qD AD,(Fd s p je ln qD AD/\qD.length<=p+s.length/\AD.length<=p+s.length)/\forL 3 (execs C (ip (dT PE 2))) ((ew p s.length).map λi:aj=>T.int (i:aj)) (I6 o j (aa (.m j)) u) (Xg M je ln)=.ok (.next,I6 o j (aa (.m j)) u') (Xg M qD AD):=by
 intro s
 induction s with
 |nil=>exact λ{p je ln u} Z h1 h2=>⟨u,je,ln,⟨λx=>by rw[show kB [] je.length=0 from rfl,EH,nz];exact⟨.inl,λh=>h.elim id λ⟨_,_,h⟩=>nomatch h⟩,h1,h2⟩,rfl⟩
 |cons c r ih=>
  intro p je ln u h h1 h2;have hp:p<bp:=bw (dl h) ho;have hs1:je.length<bp:=ax h1 hp;have el:p+1+r.length=p+(c::r).length:=by rw[aO,bZ,bB 1]
  have sb:=λm=>iQ (m:=m) ho h;have I:=λje ln h1 h2=>ih (p:=p+1) (je:=je) (ln:=ln) (u:=aa (.t (.int (p:aj)))) (dn h) h1 h2;rw[el] at I
  by_cases yC:c=40
  ·subst yC
   obtain⟨u',s',l',⟨f,g⟩,e⟩:=I (je++[p]) ln (by rw[ah];exact bI h1) (jK h2)
   have tX:=rO (C:=C) (v:=.int (p:aj)) (Ip (M:=M) (o1:=TL (nats je)) (o2:=.dict (iD ln)) hj) (by rw[iw];exact hs1)
   rw[M4 hj,rJ] at tX;exact⟨u',s',l',⟨f.open,g⟩,iJ C (ip (dT PE 2)) 3 (I6 o j (aa (.m j)) u) (Xg M je ln) (.int (p:aj)) _ [.v _,.b ae,.k _,.v _] (sb _) rfl (kT (Ip hj) rfl) tX _ e⟩
  by_cases I2:c=41
  ·subst I2
   have tr:=RP (Ip (M:=M) (o1:=TL (nats je)) (o2:=.dict (iD ln)) hj) (by rw[iw];exact a9 hs1)
   cases Tq:je.reverse with
   |nil=>
    have Tq:je=[]:=ag.reverse_eq_nil_iff.mp Tq;subst Tq;obtain⟨u',s',l',⟨f,g⟩,e⟩:=I [] (ad ln p) (cF _) (ai M3 (bI h2));have es:=F9 (k:=p) (Xf (M:=M) (o1:=TL (nats [])) (o2:=.dict (iD ln)) hj) (ax h2 hp);rw[M5 hj] at es;exact⟨u',s',l',⟨f.ail,g⟩,iJ C (ip (dT PE 2)) 3 (I6 o j (aa (.m j)) u) (Xg M [] ln) (.int (p:aj)) _ [.v _,.b af,.v _,.b ae,.b af,.s _] (sb _) rfl (sb _) rfl tr es _ e⟩
   |cons k q=>
    have Tq:je=q.reverse++[k]:=by rw[<-N7, <-Tq,GR]
    subst Tq;have hq:q.reverse.length<=p:=ai (Jh _ _).length_le h1;obtain⟨u',s',l',⟨f,g⟩,e⟩:=I q.reverse ln (jK hq) (jK h2);rw[<-rJ] at tr;rw[gn.mpr (cz _ (bf _ _))] at tr;have Rg:=ab4 (C:=C) (v:=.int (k:aj)) (it:=nats q.reverse) (Ip (M:=M) (o1:=TL (nats q.reverse++[.int (k:aj)])) (o2:=.dict (iD ln)) hj) (by rw[iw];exact ax hq hp)
    rw[M4 hj] at Rg;show ∃u' qD AD,_/\forL 3 (execs C (ip (dT PE 2))) _ _ (M++[TL (nats (q.reverse++[k])),.dict (iD ln)])=_;rw[<-rJ];exact⟨u',s',l',⟨f.close,g⟩,iJ C (ip (dT PE 2)) 3 (I6 o j (aa (.m j)) u) (M++[TL (nats q.reverse++[T.int (k:aj)]),.dict (iD ln)]) (.int (p:aj)) _ [.v _,.b af,.v _,.b ae,.b ae,.k _,.v _] (sb _) rfl (sb _) rfl tr (kT (Ip hj) rfl) Rg _ e⟩
  ·obtain⟨u',s',l',⟨f,g⟩,e⟩:=I je ln (jK h1) (jK h2)
   exact⟨u',s',l',⟨f.other yC I2,g⟩,iJ C (ip (dT PE 2)) 3 (I6 o j (aa (.m j)) u) (Xg M je ln) (.int (p:aj)) _ [.v _,.b af,.v _,.b af] (sb _) (fV yC) (sb _) (fV I2) _ e⟩
theorem ab5(hj:M.length=j){v:ar PV}:∀{je ln u},ln.length+je.length<=bp->∃u' AD,(∀x,x∈AD↔x∈ln\/x∈je)/\forL 3 (execs C (ip (dT PE 3))) (nats je) (I6 o j v u) (M++[.dead,.dict (iD ln)])=.ok (.next,I6 o j v u') (M++[.dead,.dict (iD AD)]):=by
 intro je
 induction je with
 |nil=>exact λ{ln u} Z=>⟨u,ln,λx=>⟨.inl,λh=>h.elim id nofun⟩,rfl⟩
 |cons k je ih=>
  intro ln u hl;rw[aO,bB je.length, <-bZ] at hl;refine dZ (ih (ln:=ad ln k) (u:=aa (.t (.int (k:aj)))) (ai (bN M3 _) hl)) λu' l' f e=>?_;have es:=F9 (k:=k) (Xf (M:=M) (o1:=.dead) (o2:=.dict (iD ln)) hj) (bw (da _) (ai (aw (ln.length+1) je.length) hl));rw[M5 hj] at es;have r:=iJ C (ip (dT PE 3)) 3 (I6 o j v u) (M++[.dead,.dict (iD ln)]) (.int (k:aj)) (nats je) [.s (M++[.dead,.dict (iD (ad ln k))])];have r:=r es;refine⟨u',l',λx=>(f x).trans (by rw[M2,xQ,aJ]),?_⟩
  exact r _ e
theorem M6{au:Loc}{w:ag aj}(hw:w.length<=bp)(h:gV au 0=aa (.t (.bytes w))):io C (.range [.bi .len [.au 0]]) au m=.ok ((ew 0 w.length).map λi:aj=>T.int (i:aj),au) m:=by
 rw[<-qj];show((((bS (gV au 0) m).bind λv mu=>(Res.ok [] mu).bind λvs mu=>.ok (v::vs) mu).bind λvs mu=>uf .len vs mu).bind λv mu=>(Res.ok [] mu).bind λvs mu=>.ok (v::vs) mu).bind (λvs mu=>bS ((gi vs).map λl=>(l,au)) mu)=_;rw[h];show((uf .len [.t (.bytes w)] m).bind λv mu=>(Res.ok [] mu).bind λvs mu=>.ok (v::vs) mu).bind (λvs mu=>bS ((gi vs).map λl=>(l,au)) mu)=_;rw[jU hw];show bS ((gi [.t (.int w.length)]).map λl=>(l,au)) m=_;rw[DN hw];rfl
theorem c68(hm:Cl M)(ho:o.length<=1000):∃L,(∀i,decide (i∈L)=F7 o 0 i)/\CN (n+1) 68 [.t (.bytes o)] M=.ok (.t (.dict (iD L))) M:=by
 have hl:o.length<=bp:=ai ho (by decide)
 obtain⟨u1,s1,l1,⟨f1,g1,g2⟩,e1⟩:=aim (C:=CN n) (s:=o) (M:=M) (u:=ac) (p:=0) (je:=[]) (ln:=[]) rfl hl rfl (aP _) (aP _);rw[bM] at g1 g2;refine dZ (ab5 (C:=CN n) (M:=M) (o:=o) (v:=aa (.t (.list (nats s1)))) (u:=u1) (ln:=l1) (je:=s1) rfl (ai (cG g2 g1) (ai (cG ho ho) (by decide)))) λu2 l2 f2 e2=>?_
 refine⟨l2,λi=>eV.mpr (by
  rw[cb,f2,f1];exact⟨λh=>h.elim (λh=>h.elim nofun λh=>by rw[rW] at h;cases h) λq9=>bH q9 λk e h=>by rw[e,bM];exact h,λh=>.inr ⟨i,(bM i).symm,h⟩⟩),?_⟩
 have fz:io (CN n) (.name 1) (I6 o M.length (aa (.m M.length)) u1) (Xg M s1 l1)=.ok (nats s1,I6 o M.length (aa (.t (.list (nats s1)))) u1) (M++[.dead,.dict (iD l1)]):=by
  show(d0 (.m M.length) (Xg M s1 l1)).bind (λt mu=>bS ((lJ t).map λl=>(l,upd (I6 o M.length (aa (.m M.length)) u1) 1 (.t t))) mu)=_;rw[W4 (Ip rfl),M4 rfl];rfl
 have sh:qT ZR M.length (.m (M.length+1)) (M++[.dead,.dict (iD l2)])=.ok (.t (.dict (iD l2))) M:=by
  show(lu ((M++[MO.dead,.dict (iD l2)])[M.length+1]?.bind (O6 (M.length+1) (M++[.dead,.dict (iD l2)])))).bind (λt mu=>eh M.length (PV.t t) mu)=_;rw[Xf rfl];show eh M.length (PV.t (.dict (iD l2))) ((M++[MO.dead,.dict (iD l2)]).set (M.length+1) .dead)=_;rw[M5 rfl];unfold eh;rw[gk hm rfl];rfl
 have nd:=wJ (C:=CN n) (au:=[aa (.t (.bytes o)),aa (.m M.length),ac,ac,ac,ac,ac]) (M:=M++[TL []]) (j:=M.length+1) (by rw[ah];rfl)
 rw[az] at nd;exact bg n 68 [.t (.bytes o)] M rfl rfl [.v _,.v _,.l _,.l _,.v _] (nl rfl) nd (ix (M6 hl rfl) e1) (ix fz e2) sh
end
noncomputable def oL(o:ag aj):ag Nat:=40::((fl o 0).flatMap lb++[41])
noncomputable def oH(o:ag aj):ag Nat:=60::(o.flatMap oJ++[62])
noncomputable def oS(l:aW)(o:ag aj)(h:aW):ag Nat:=if l then(if(oL o).length<=(oH o).length then oL o else oH o) else if h then oH o else oL o
section
variable{n i j k c p d:aj}{m M:Mu}{s r o L:ag aj}{C:Calls}{xs:ag T}{h l:aW}
theorem ain{w:ag aj}(hj:M.length=j)(hl:xs.length+w.length<bp):ei C (.m j) 31 ac [.t (.bytes w)] (M++[TL xs])=.ok (.t .none) (M++[TL (xs++nats w)]):=by
 have e:ei C (.m j) 31 ac [.t (.bytes w)] (M++[TL xs])=EM (.m j) (M++[TL xs]) λi ys=>if ys.length+(w.map λx:aj=>PV.t (.int (x:bE))).length<bp then .ok (.t .none) ((M++[TL xs]).set i (.list (ys++w.map λx:aj=>PV.t (.int (x:bE))))) else .aK:=rfl
 rw[e];unfold EM;dsimp only;rw[listE hj];show(if(xs.map PV.t).length+(w.map λx:aj=>PV.t (.int (x:bE))).length<bp then _ else _)=_
 rw[aA (by rw[aq,aq];exact hl),sY hj]
 show Res.ok _ (M++[MO.list (xs.map PV.t++w.map λx:aj=>PV.t (.int (x:bE)))])=Res.ok _ (M++[MO.list ((xs++nats w).map PV.t)]);unfold nats;rw[br,ba];rfl
theorem Ue{t:Oq}:(lb t).length<=2:=by
 unfold lb;split
 ·exact aP 2
 ·exact hY 1
noncomputable abbrev Yx(o L:ag aj)(j:aj)(u v:ar PV):Loc:=[aa (.t (.bytes o)),aa (.t (.dict (iD L))),aa (.m j),u,v,ac,ac,ac]
theorem aio(hj:M.length=j)(ho:o.length<=bp):∀{s p d a8 u v},o.drop p=s->(∀i,decide (p+i∈L)=F7 s d i)->a8.length+2*s.length<bp->∃u' v',forL 3 (execs C (ip (dT Yk 2))) ((ew p s.length).map λi:aj=>T.int (i:aj)) (Yx o L j u v) (M++[TL (nats a8)])=.ok (.next,Yx o L j u' v') (M++[TL (nats (a8++(fl s d).flatMap lb))]):=by
 intro s
 induction s with
 |nil=>exact λ{p d a8 u v} Z Z Z=>⟨u,v,by rw[show(fl [] d).flatMap lb=[] from rfl,aH];rfl⟩
 |cons c r ih=>
  intro p d a8 u v h hL hl;have hl:a8.length+2+2*r.length<bp:=by rw[aO] at hl;omega
  have ha:a8.length+2<bp:=ax (aw _ (2*r.length)) hl;have h0:decide (p∈L)=F7 (c::r) d 0:=hL 0;refine gU (ih (p:=p+1) (d:=nx c d) (a8:=a8++lb (c,(c==13||c==92)||F7 (c::r) d 0)) (u:=aa (.t (.int (p:aj)))) (v:=aa (.t (.int (c:aj)))) (dn h) (λi=>by rw[bZ,bB 1];exact hL (i+1)) (by rw[ah];exact ax (bN (bq Ue _) _) hl)) λu' v' e=>?_
  rw[az] at e;rw[show(fl (c::r) d).flatMap lb=lb (c,(c==13||c==92)||F7 (c::r) d 0)++(fl r (nx c d)).flatMap lb from rfl]
  refine⟨u',v',?_⟩;have sb:=iQ (m:=M++[TL (nats a8)]) ho h;have Yy:=m31 (C:=C) (j:=j) (M:=M) (xs:=nats a8) (l:=nats [92,c]) hj (by rw[iw];exact ha)
  rw[<-oR] at Yy
  by_cases RM:c=13
  ·subst RM
   have Yy:=ain (C:=C) (j:=j) (M:=M) (xs:=nats a8) (w:=[92,114]) hj (by rw[iw];exact ha)
   rw[<-oR] at Yy;exact iJ C (ip (dT Yk 2)) 3 (Yx o L j u v) (M++[TL (nats a8)]) (.int (p:aj)) _ [.v _,.b ae,.k _,.v _] sb rfl (kL hj rfl) Yy _ e
  by_cases Ud:c=92
  ·subst Ud
   exact iJ C (ip (dT Yk 2)) 3 (Yx o L j u v) (M++[TL (nats a8)]) (.int (p:aj)) _ [.v _,.b af,.b ae,.k _,.v _,.v _] sb rfl rfl (kL hj rfl) Im Yy _ e
  rw[aD.mpr RM,aD.mpr Ud] at e ⊢;have i0:=ab3 (k:=p) (l:=L) (m:=M++[TL (nats a8)]);rw[h0] at i0;cases hb:F7 (c::r) d 0 with
  |true=>
   rw[hb] at e i0;rw[show lb (c,af||false||true)=[92,c] from av (λx=>[92,x]) (aL RM)] at e ⊢
   exact iJ C (ip (dT Yk 2)) 3 (Yx o L j u v) (M++[TL (nats a8)]) (.int (p:aj)) _ [.v _,.b af,.b af,.b ae,.k _,.v _,.v _] sb (fV RM) (fV Ud) i0 (kL hj rfl) Im Yy _ e
  |false=>
   rw[hb] at e i0;have tX:=BO (C:=C) (j:=j) (M:=M) (xs:=nats a8) (v:=.int (c:aj)) hj (by rw[iw];exact ax (aw _ 2) ha)
   rw[rJ] at tX;exact iJ C (ip (dT Yk 2)) 3 (Yx o L j u v) (M++[TL (nats a8)]) (.int (p:aj)) _ [.v _,.b af,.b af,.b af,.k _,.v _] sb (fV RM) (fV Ud) i0 (kL hj rfl) tX _ e
theorem RQ(h:c<256):zE c<256:=by unfold zE;split;decide;exact h
theorem ab6{t:Oq}(h:Yo t):∀c∈lb t,c<256:=by
 have:=Mj h
 unfold lb;split
 ·exact fc (by decide) (fc (RQ this) nofun)
 ·exact fc this nofun
theorem Gb:((fl o d).flatMap lb).length<=2*o.length:=by rw[<-M1 (s:=o) (d:=d)];exact MZ λZ=>Ue
theorem c69(hm:Cl M)(ho:∀c∈o,c<256)(hl:o.length<=1000):CN (n+2) 69 [.t (.bytes o)] M=.ok (.t (.bytes (oL o))) M:=by
 refine bH (c68 (n:=n) hm hl) λL hL e68=>?_;have E6:o.length<=bp:=ai hl (by decide)
 refine gU (aio (C:=CN (n+1)) (M:=M) (s:=o) (p:=0) (L:=L) (d:=0) (a8:=[40]) (u:=ac) (v:=ac) rfl E6 rfl (λi=>by rw[bM];exact hL i) (show 1+2*o.length<bp by unfold bp;omega)) λu v e=>?_
 have hq:(40::(fl o 0).flatMap lb).length<=2001:=by rw[aO];have:=Gb (o:=o) (d:=0);omega
 have tX:=BO (C:=CN (n+1)) (j:=M.length) (M:=M) (xs:=nats ([40]++(fl o 0).flatMap lb)) (v:=.int ((41:aj):bE)) rfl (by rw[iw];exact ax hq (by decide))
 rw[rJ] at tX;exact bg (n+1) 69 [.t (.bytes o)] M rfl rfl [.v _,.v _,.l _,.k _,.v _,.v _,.s _] e68 (wV rfl) (ix (M6 E6 rfl) e) (kL rfl rfl) tX (zD (x:=oL o) rfl (fc (by decide) (wR (MX λt ht=>ab6 (Uc ho t ht)) (fc (by decide) nofun))) (by unfold oL;rw[<-iN,ah];exact ai (bN hq 1) (by decide))) (gk hm rfl)
theorem M7:(oL o).length<=2*o.length+2:=by unfold oL;rw[aO,ah];exact bN Gb 2
theorem M8:(oH o).length=2*o.length+2:=by unfold oH;rw[aO,ah,wU];rfl
theorem c71(hm:Cl M)(ho:∀c∈o,c<256)(hl:o.length<=1000):CN (n+3) 71 [.t (.inst 3 [.bytes o,.bool h]),.t (.bool l)] M=.ok (.t (.bytes (oS l o h))) M:=by
 have eL:=c69 (n:=n) hm ho hl;have eH:CN (n+2) 70 [.t (.bytes o)] M=.ok (.t (.bytes (oH o))) M:=c70 hm ho hl;cases l with
 |true=>
  have hb:(2*o.length+2:aj)<=bp:=by unfold bp;omega
  have b1:=jU (m:=M) (w:=oL o) (ai M7 hb);have b2:=jU (m:=M) (w:=oH o) (ai (cX M8) hb);show _=Res.ok (PV.t (.bytes (if(oL o).length<=(oH o).length then oL o else oH o))) M
  by_cases hk:(oL o).length<=(oH o).length
  ·rw[aA hk]
   exact bg (n+2) 71 [.t (.inst 3 [.bytes o,.bool h]),.t (.bool ae)] M rfl rfl [.a,.a,.v _,.a,.v _,.v _,.v _,.b ae,.s _] eL eH b1 b2 (WG hk) (bx hm rfl)
  ·rw[aL hk]
   exact bg (n+2) 71 [.t (.inst 3 [.bytes o,.bool h]),.t (.bool ae)] M rfl rfl [.a,.a,.v _,.a,.v _,.v _,.v _,.b af,.s _] eL eH b1 b2 (abl (gY hk)) (bx hm rfl)
 |false=>
  cases h with
  |true=>exact bg (n+2) 71 [.t (.inst 3 [.bytes o,.bool ae]),.t (.bool af)] M rfl rfl [.a,.a,.a,.a,.v _,.s _] eH (bx hm rfl)
  |false=>exact bg (n+2) 71 [.t (.inst 3 [.bytes o,.bool af]),.t (.bool af)] M rfl rfl [.a,.a,.a,.a,.v _,.s _] eL (bx hm rfl)
end
noncomputable def B9:ag Nat:=[110,117,108,108]
noncomputable def oU:ag Nat:=[116,114,117,116,104]
noncomputable def ms:ag Nat:=[97,114,114,97,121]
noncomputable def g9:ag Nat:=[100,105,99,116]
noncomputable def D6:ag Nat:=[115,116,114,101,97,109]
noncomputable def ab7:ag Nat:=[114,101,102]
noncomputable def m7(b:ag aj):Bool:=(b.getLast?.map λc=>sW (c:aj)).getD ae||b==[47]
def Gc(t:Tk):Prop:=t.1≠[]/\∀r,(m7 t.1=af\/Ia r)->Lex t.1 r t.2
structure VD where
 (v:T) (ts:aW->ag Tk) (u:aW->T) (t:T)
def Gd(v:T)(k:ag aj):Prop:=∀{n:aj}{M:Mu},Cl M->CN (n+1) 49 [.t v] M=.ok (.t (.str k)) M
def Ug(d:aj)(v t:T):Prop:=∀{n:aj}{M:Mu},Cl M->CN (n+d+2) 51 [.t v] M=.ok (.t t) M
noncomputable def tb(ts:ag Tk):ag T:=ts.map λt=>.bytes t.1
def Lay(d:aj)(v:T)(l:aW)(ts:ag Tk):Prop:=∀{n j:aj}{M:Mu}{a8:ag T},Cl M->M[j]? =aa (TL a8)->a8.length+ts.length<=20000->CN (n+2*d+6) 75 [.m j,.t v,.t (.bool l)] M=.ok (.t .none) (M.set j (TL (a8++tb ts)))
noncomputable def i3(v:T)(a:aj):T:=.tup [v,.int (a:aj)]
noncomputable abbrev Ou(v:T)(j k:aj)(x y z:ar PV):Loc:=[aa (.t v),aa (.t (.int (k:aj))),aa (.m j),x,y,z,ac,ac,ac]
def M9(d c:aj)(iP:aj->ag T):Prop:=∀{n a k:aj}{M:Mu}{line:ag T}{v0:T}{x y z:ar PV},Cl M->line.length+4*d<500->∃m k' x' y' z',m<=c/\k'<=max k (a+d)/\∀f q,Wh (CN (n+3)) (dT Od 2) f (Ou v0 M.length k' x' y' z') (M++[TL line])=q->Wh (CN (n+3)) (dT Od 2) (f+m) (Ou v0 M.length k x y z) (M++[TL (line++iP a)])=q
noncomputable def tt(ts:ag Tk):Nat:=(ts.map λt=>t.1.length+1).sum
structure Wv(d:aj)(x:VD):Prop where
 knd:∃k,Gd x.v k/\k≠D6
 lay:∀l,Lay d x.v l (x.ts l)
 rd:∀l,DW d (x.ts l) (x.u l)
 gt:∀l,∀t∈x.ts l,Gc t
 tx:Ug d x.v x.t
 back:∀l,Ug d (x.u l) x.t
 flat:∀k,T.flat (k+(2*d+2)) x.t=ae
 Uh:M9 d (4^(d+1)) λa=>[i3 x.v a]
 tt:∀l,tt (x.ts l)<=41*4^(d+1)
 le:Mine.tt (x.ts ae)<=Mine.tt (x.ts af)
 last:∀l,(∃t,x.ts l=[t])\/∃a w,x.ts l=a++[(w,tk fS (.bytes w))]/\w≠[47]
 nn:x.v≠.none->∀l,x.u l≠.none
section
variable{n j d k:aj}{m M X:Mu}{v t:T}{kd o x s:ag aj}{l:aW}{C:Calls}{z:bE}{q:aj}
theorem ab8{x:ag aj}(hx:um x)(h0:x≠[]){h:m7 x=af}:False:=by
 unfold m7 at h;rw[fu h0] at h;have h:=(df.mp h).1;rw[show((aa (x.getLast h0)).map λc:aj=>sW (c:aj)).getD ae=sW (x.getLast h0:aj) from rfl,hx _ (vf h0)] at h
 cases h
theorem tA(hx:um x)(h0:x≠[]):Gc (x,m5 x):=⟨h0,λr hr=>FO hx h0 (hr.elim (λh=>(ab8 (h:=h) hx h0).elim) id)⟩
theorem ab9{x:ag aj}{c:aj}(hx:um x)(h0:x≠[]){h:m7 (c::x)=af}:False:=by
 refine gU (cQ h0) λy r z0=>?_;subst z0;unfold m7 at h;rw[ag.getLast?_cons_cons,fu h0] at h;have h:=(df.mp h).1;rw[show((aa ((y::r).getLast h0)).map λc:aj=>sW (c:aj)).getD ae=sW ((y::r).getLast h0:aj) from rfl,hx _ (vf h0)] at h
 cases h
theorem zX(hs:pR s)(hl:s.length<bp):Gc (oN s,tk g8 (.str s)):=by
 refine⟨bf _ _,λr hr=>rM rfl (WO hs (hr.elim (λh=>?_) id) (F6 hs) hl)⟩;cases he:s.flatMap wD with
 |nil=>unfold oN at h;rw[he] at h;cases h
 |cons c y=>
  have hR:=F6 hs;unfold oN at h;rw[he] at h hR;exact(ab9 (h:=h) hR (bf _ _)).elim
theorem Xh(ho:∀c∈o,c<256)(hl:2*o.length<bp):Gc (oH o,tk Ie (.bytes o)):=⟨bf _ _,λr Z=>rM rfl (abx ho hl)⟩
theorem gt_str(ho:∀c∈o,c<256)(hl:o.length<bp):Gc (oL o,tk qC (.bytes o)):=by
 refine⟨bf _ _,λr Z=>rM rfl ?_⟩;have h:wG (40::((fl o 0).flatMap lb++[41])) r qC (.bytes ((fl o 0).map (·.1))):=abw (Uc ho) (by have:=Xe (s:=o) (d:=0);rwa[aj.le_zero.mp RL] at this) (by rw[M1];exact hl)
 rw[M0] at h;exact @h
theorem Na{c:aj}(h:c=91\/c=93):Gc (fw [c]):=⟨bf _ _,λr Z=>rM (by rcases h with rfl |rfl<;>rfl) (Rj h)⟩
theorem Nb{c:aj}(h:c=60\/c=62):Gc (fw [c,c]):=⟨bf _ _,λr Z=>rM (by rcases h with rfl |rfl<;>rfl) (Ri h)⟩
theorem D7:um mm/\um kh/\um iK:=by unfold um;decide
theorem yH(hk:Gd v kd)(h1:kd≠ms)(h2:kd≠g9)(h3:kd≠D6)(h50:∀{n M},Cl M->CN (n+1) 50 [.t (.str kd),.t v] M=.ok (.t t) M):Ug d v t:=λ{n M} hm=>
 bg (n+d+1) 51 [.t v] M rfl rfl [.v _,.b af,.b af,.b af,.v _,.s _] (hk hm) (nv h1) (nv h2) (nv h3) (h50 hm) (bx hm rfl)
theorem Iq(hk:Gd v kd)(h1:kd≠ms)(h2:kd≠g9)(h3:kd≠ab7){t:Tk}(h72:∀{n M},Cl M->CN (n+5) 72 [.t (.str kd),.t v,.t (.bool l)] M=.ok (.t (.bytes t.1)) M):Lay d v l [t]:=λ{n j M a8} hm hj hl=>by
 have tX:=rO (C:=CN (n+2*d+5)) (v:=.bytes t.1) hj (ax (ai (aw ..) hl) (by decide))
 exact bg (n+2*d+5) 75 [.m j,.t v,.t (.bool l)] M rfl rfl [.v _,.b af,.b af,.b af,.k _,.v _,.v _,.s _] (hk hm) (nv h1) (nv h2) (nv h3) (kT hj rfl) (h72 hm) tX (bx (hm.set Ib) (bG ..).symm)
theorem aca:eC .isIn (.t (.str kd)) (.t (.tup [.str ms,.str g9,.str D6])) m=aa (ms==kd||(g9==kd||(D6==kd||false))):=rfl
theorem acb(h:M.length=j){it:ag T}{v:T}(hl:it.length<bp):ei C (.m j) 32 ac [] (M++[TL (it++[v])])=.ok (.t v) (M++[TL it]):=by rw[ab4 (r7 h) hl,sY h]
theorem Ir(hk:Gd v kd)(h1:kd≠ms)(h2:kd≠g9)(h3:kd≠D6):M9 d (4^(d+1)) λa=>[i3 v a]:=λ{n a k M line v0 x y z} hm hl=>
 have hl:line.length<500:=ax (aw ..) hl
 ⟨1,k,_,_,_,IU (by decide),xV ..,λf q h=>by
  have tr:=RP (X:=M++[TL (line++[i3 v a])]) (r7 rfl) (by rw[ah];exact ai (aj.succ_le_of_lt hl) (by decide))
  rw[gn.mpr (cz _ (bf _ _))] at tr;exact gA (CN (n+3)) (dT Od 2) f (Ou v0 M.length k x y z) (M++[TL (line++[i3 v a])]) [.b ae,.k _,.v _,.v _,.a,.b af] tr (kL rfl rfl) (acb rfl (bA hl (by decide))) (hk hm.tl) (aca.trans (by rw[aD.mpr h1.symm,aD.mpr h2.symm,aD.mpr h3.symm];rfl)) q h⟩
end
noncomputable def Xi(l:aW)(o:ag aj)(h:aW):Bool:=if l then !decide ((oL o).length<=(oH o).length) else h
section
variable{n d k:aj}{M:Mu}{v u t:T}{kd o x s:ag aj}{l b h:aW}{z:bE}{q:aj}
theorem yI{o:aW->ag aj}{tf:aW->aj->T}{u:aW->T}(hk:Gd v kd)(hu:∀l,Gd (u l) kd)(h1:kd≠ms)(h2:kd≠g9)(h3:kd≠D6)(h4:kd≠ab7)(h72:∀{l n M},Cl M->CN (n+5) 72 [.t (.str kd),.t v,.t (.bool l)] M=.ok (.t (.bytes (o l))) M)
 (h50:∀{n M},Cl M->CN (n+1) 50 [.t (.str kd),.t v] M=.ok (.t t) M) (air:∀{l n M},Cl M->CN (n+1) 50 [.t (.str kd),.t (u l)] M=.ok (.t t) M) (pt:∀l,zK (o l,tf l) (u l)) (gt:∀l,Gc (o l,tf l)) (fl:∀k,T.flat (k+(2*d+2)) t=ae) (len:∀l,(o l).length<=40) (le:(o ae).length<=(o af).length) (nn:v≠.none->∀l,u l≠.none):
 Wv d ⟨v,λl=>[(o l,tf l)],u,t⟩ where
 knd:=⟨kd,hk,h3⟩
 lay l:=Iq hk h1 h2 h4 h72
 rd l:=by
  cases d with
  |zero=>exact⟨_,rfl,pt l⟩
  |succ d=>exact .inl ⟨_,rfl,pt l⟩
 gt l t ht:=by rw[aC.mp ht];exact gt l
 tx:=yH hk h1 h2 h3 h50
 back l:=yH (hu l) h1 h2 h3 air
 flat:=fl
 Uh:=Ir hk h1 h2 h3
 tt l:=ai (bI (len l)) (aj.le_mul_of_pos_right 41 (IU (by decide)))
 le:=bI le
 last l:=.inl ⟨_,rfl⟩
 nn:=nn
theorem oV{r:T}(e:uo x=r)(p:aj):m5 x p=tkN x p r:=by unfold m5;rw[e]
theorem zY(hn:uo x=.none)(hx:x=kh\/x=iK\/x=mm)(hv:FP x=v):zK (x,m5 x) v:=
 ⟨il,by decide,λp=>⟨⟨.bytes x,oV hn p,λZ=>⟨x,rfl,hx⟩⟩,λhm=>by rw[show(x,m5 x).2 p=tk il (.bytes x) p from oV hn p, <-hv];exact Mx hm hx⟩⟩
theorem RR:Wv d ⟨.none,λZ=>[(mm,m5 mm)],λZ=>.none,.tup [.str B9]⟩:=
 yI (o:=λZ=>mm) (tf:=λZ=>m5 mm) (kd:=B9) (λ{n M} hm=>bg n 49 [.t .none] M rfl rfl [.a,.s _] (bx hm rfl)) (λZ {n M} hm=>bg n 49 [.t .none] M rfl rfl [.a,.s _] (bx hm rfl)) (by decide) (by decide) (by decide) (by decide) (λ{l n M} hm=>bg (n+4) 72 [.t (.str B9),.t .none,.t (.bool l)] M rfl rfl [.a,.s _] (bx hm rfl))
  (λ{n M} hm=>bg n 50 [.t (.str B9),.t .none] M rfl rfl [.a,.a,.s _] (bx hm rfl)) (λ{l n M} hm=>bg n 50 [.t (.str B9),.t .none] M rfl rfl [.a,.a,.s _] (bx hm rfl)) (λZ=>zY (mq (by decide)) (.inr (.inr rfl)) rfl) (λZ=>tA D7.1 (by decide)) (λZ=>rfl) (λZ=>by decide) (aP _) λh=>aQ rfl h
theorem Nc:Gd (.bool b) oU:=λ{n M} hm=>bg n 49 [.t (.bool b)] M rfl rfl [.a,.a,.s _] (bx hm rfl)
theorem Nd:∀{n M},Cl M->CN (n+1) 50 [.t (.str oU),.t (.bool b)] M=.ok (.t (.tup [.str oU,.int (if b then 1 else 0)])) M:=λ{n M} hm=>by
 cases b
 ·exact bg n 50 [.t (.str oU),.t (.bool af)] M rfl rfl [.a,.a,.a,.a,.s _] (bx hm rfl)
 ·exact bg n 50 [.t (.str oU),.t (.bool ae)] M rfl rfl [.a,.a,.a,.a,.s _] (bx hm rfl)
theorem Ge:Wv d ⟨.bool b,λZ=>[(if b then kh else iK,m5 (if b then kh else iK))],λZ=>.bool b,.tup [.str oU,.int (if b then 1 else 0)]⟩:=
 yI (o:=λZ=>if b then kh else iK) (tf:=λZ=>m5 (if b then kh else iK)) Nc (λZ=>Nc) (by decide) (by decide) (by decide) (by decide) (λ{l n M} hm=>by
  cases b
  ·exact bg (n+4) 72 [.t (.str oU),.t (.bool af),.t (.bool l)] M rfl rfl [.a,.a,.a,.s _] (bx hm rfl)
  ·exact bg (n+4) 72 [.t (.str oU),.t (.bool ae),.t (.bool l)] M rfl rfl [.a,.a,.a,.s _] (bx hm rfl))
  Nd Nd (λZ=>by
   cases b
   ·exact zY (x:=iK) (mq (by decide)) (.inr (.inl rfl)) rfl
   ·exact zY (x:=kh) (mq (by decide)) (.inl rfl) rfl) (λZ=>by
   cases b
   ·exact tA (x:=iK) D7.2.2 (by decide)
   ·exact tA (x:=kh) D7.2.1 (by decide)) (λZ=>rfl) (λZ=>by cases b<;>decide) (aP _) λZ Z=>nofun
theorem Ui:Gd (.int z) s8:=λ{n M} hm=>bg n 49 [.t (.int z)] M rfl rfl [.a,.a,.a,.s _] (bx hm rfl)
theorem Uj:∀{n M},Cl M->CN (n+1) 50 [.t (.str s8),.t (.int z)] M=.ok (.t (.tup [.str s8,.int z])) M:=λ{n M} hm=>bg n 50 [.t (.str s8),.t (.int z)] M rfl rfl [.a,.a,.a,.a,.s _] (bx hm rfl)
theorem Nf(h:z.natAbs<10^20):Wv d ⟨.int z,λZ=>[(eM z,m5 (eM z))],λZ=>.int z,.tup [.str s8,.int z]⟩:=
 yI (o:=λZ=>eM z) (tf:=λZ=>m5 (eM z)) Ui (λZ=>Ui) (by decide) (by decide) (by decide) (by decide) (λ{l n M} hm=>bg (n+4) 72 [.t (.str s8),.t (.int z),.t (.bool l)] M rfl rfl [.a,.a,.a,.v _,.s _] (c66 hm h (D5 h)) (bx hm rfl)) Uj Uj
  (λZ=>⟨s8,by decide,λp=>⟨⟨.int z,oV (B5 h) p,nofun⟩,λhm=>by rw[show(eM z,m5 (eM z)).2 p=tk s8 (.int z) p from oV (B5 h) p];exact Rl hm⟩⟩) (λZ=>tA (B7 h) (D4 h)) (λZ=>rfl) (λZ=>ai (oP h) (by decide)) (aP _) λZ Z=>nofun
theorem Uk:Gd (j4 z q) oM:=λ{n M} hm=>bg n 49 [.t (j4 z q)] M rfl rfl [.a,.a,.a,.a,.s _] (bx hm rfl)
theorem Ul:∀{n M},Cl M->CN (n+1) 50 [.t (.str oM),.t (j4 z q)] M=.ok (.t (.tup [.str oM,.int z,.int (q:aj)])) M:=λ{n M} hm=>bg n 50 [.t (.str oM),.t (j4 z q)] M rfl rfl [.a,.a,.a,.a,.a,.a,.a,.s _] (bx hm rfl)
theorem RS(h:z.natAbs<10^20)(hq:q<=9):(m6 ae z q).length<=(m6 af z q).length:=by
 unfold m6
 by_cases h0:q=0
 ·rw[aA h0,aA h0,ah,ah];exact hY _
 ·rw[aL h0,aL h0,show(if af=ae/\z.natAbs<10^q then sgn z++46::AC z.natAbs q else zT z q)=zT z q from aL λe=>aQ e.1 (by decide)]
  split
  ·rw[uU,ah,ah,ah];omega
  ·exact aP _
theorem Xj(h:z.natAbs<10^20)(hq:q<=9)(hn:q=0\/z%10≠0):Wv d ⟨j4 z q,λl=>[(m6 l z q,m5 (m6 l z q))],λZ=>j4 z q,.tup [.str oM,.int z,.int (q:aj)]⟩:=
 yI (o:=λl=>m6 l z q) (tf:=λl=>m5 (m6 l z q)) Uk (λZ=>Uk) (by decide) (by decide) (by decide) (by decide) (λ{l n M} hm=>bg (n+4) 72 [.t (.str oM),.t (j4 z q),.t (.bool l)] M rfl rfl [.a,.a,.a,.a,.v _,.s _] (c67 hm h hq hn) (bx hm rfl)) Ul Ul
  (λl=>⟨oM,by decide,λp=>⟨⟨j4 z q,oV (B6 h hq hn) p,nofun⟩,λhm=>by rw[show(m6 l z q,m5 (m6 l z q)).2 p=tk oM (j4 z q) p from oV (B6 h hq hn) p];exact Mw hm⟩⟩) (λZ=>tA (MV h hq hn) (RJ h hq hn)) (λZ=>rfl) (λZ=>ai (B8 h hq hn) (by decide)) (RS h hq) λZ Z=>nofun
theorem Ng:Gd (.inst 2 [.str s]) g8:=λ{n M} hm=>bg n 49 [.t (.inst 2 [.str s])] M rfl rfl [.a,.a,.a,.a,.a,.s _] (bx hm rfl)
theorem acd:∀{n M},Cl M->CN (n+1) 50 [.t (.str g8),.t (.inst 2 [.str s])] M=.ok (.t (.tup [.str g8,.str s])) M:=λ{n M} hm=>bg n 50 [.t (.str g8),.t (.inst 2 [.str s])] M rfl rfl [.a,.a,.a,.a,.a,.a,.a,.s _] (bx hm rfl)
theorem D8(hl:s.length<=3):(oN s).length<=10:=bI (ai (MZ λZ=>MY) (cm 3 hl))
theorem uV(h:pR s)(hl:s.length<=3):Wv d ⟨.inst 2 [.str s],λZ=>[(oN s,tk g8 (.str s))],λZ=>.inst 2 [.str s],.tup [.str g8,.str s]⟩:=
 yI (o:=λZ=>oN s) (tf:=λZ=>tk g8 (.str s)) Ng (λZ=>Ng) (by decide) (by decide) (by decide) (by decide) (λ{l n M} hm=>bg (n+4) 72 [.t (.str g8),.t (.inst 2 [.str s]),.t (.bool l)] M rfl rfl [.a,.a,.a,.a,.a,.a,.v _,.s _] (c65 hm h (ai hl (by decide))) (bx hm rfl)) acd acd
  (λZ=>⟨g8,by decide,λp=>⟨⟨.str s,rfl,nofun⟩,λhm=>wH hm⟩⟩) (λZ=>zX h (ax hl (by decide))) (λZ=>rfl) (λZ=>ai (D8 hl) (by decide)) (aP _) λZ Z=>nofun
theorem Um:Gd (.inst 3 [.bytes o,.bool h]) qC:=λ{n M} hm=>bg n 49 [.t (.inst 3 [.bytes o,.bool h])] M rfl rfl [.a,.a,.a,.a,.a,.a,.s _] (bx hm rfl)
theorem ace:∀{n M},Cl M->CN (n+1) 50 [.t (.str qC),.t (.inst 3 [.bytes o,.bool h])] M=.ok (.t (.tup [.str qC,.bytes o])) M:=λ{n M} hm=>bg n 50 [.t (.str qC),.t (.inst 3 [.bytes o,.bool h])] M rfl rfl [.a,.a,.a,.a,.a,.a,.a,.a,.a,.s _] (bx hm rfl)
noncomputable def sT(o:ag aj):aW->aj->T
 |true=>tk Ie (.bytes o)
 |false=>tk qC (.bytes o)
theorem Un:oS l o h=(if Xi l o h then oH o else oL o):=by
 unfold oS Xi;cases l with
 |true=>
  by_cases hk:(oL o).length<=(oH o).length
  ·rw[aA rfl,aA hk,aA rfl,bc hk];rfl
  ·rw[aA rfl,aL hk,aA rfl,aY hk];rfl
 |false=>rfl
theorem acf:(oS ae o h).length<=(oS af o h).length:=by
 show(if(oL o).length<=(oH o).length then oL o else oH o).length<=(if h=ae then oH o else oL o).length
 split<;>split<;>omega
theorem Xk:(oS l o h).length<=2*o.length+2:=by
 rw[Un];split
 ·exact cX M8
 ·exact M7
theorem Nh(ho:∀c∈o,c<256)(hl:o.length<=18):Wv d ⟨.inst 3 [.bytes o,.bool h],λl=>[(oS l o h,sT o (Xi l o h))],λl=>.inst 3 [.bytes o,.bool (Xi l o h)],.tup [.str qC,.bytes o]⟩:=
 yI (o:=λl=>oS l o h) (tf:=λl=>sT o (Xi l o h)) Um (λZ=>Um) (by decide) (by decide) (by decide) (by decide) (λ{l n M} hm=>bg (n+4) 72 [.t (.str qC),.t (.inst 3 [.bytes o,.bool h]),.t (.bool l)] M rfl rfl [.a,.a,.a,.a,.a,.a,.v _,.s _] (c71 hm ho (ai hl (by decide))) (bx hm rfl)) ace ace
  (λl=>by
   cases Xi l o h with
   |true=>exact⟨Ie,by decide,λp=>⟨⟨.bytes o,rfl,nofun⟩,λhm=>Ro hm⟩⟩
   |false=>exact⟨qC,by decide,λp=>⟨⟨.bytes o,rfl,nofun⟩,λhm=>Rm hm⟩⟩) (λl=>by
   rw[Un];cases Xi l o h with
   |true=>exact Xh ho (by unfold bp;omega)
   |false=>exact gt_str ho (by unfold bp;omega)) (λZ=>rfl) (λZ=>ai Xk (by omega)) acf λZ Z=>nofun
end
noncomputable def wW{α:Type}(x:ag aj×α):ag (ag aj×α)->ag (ag aj×α)
 |[]=>[x]
 |y::r=>if fh x.1 y.1 then x::y::r else y::wW x r
noncomputable def gK{α:Type}:ag (ag aj×α)->ag (ag aj×α)
 |[]=>[]
 |x::r=>wW x (gK r)
noncomputable def ord{α:Type}(l:aW)(kv:ag (ag aj×α)):ag (ag aj×α):=if l then gK kv else kv
noncomputable def cD{α β:Type}(f:α->β)(l:ag (ag aj×α)):ag (ag aj×β):=l.map λx=>(x.1,f x.2)
section
variable{α β:Type}{f:α->β}{kv l:ag (ag aj×α)}{x:ag aj×α}{b:aW}
theorem Iu:(wW x l).map (·.1)=lI x.1 (l.map dQ):=by
 induction l with
 |nil=>rfl
 |cons y r ih=>
  show(if fh x.1 y.1 then x::y::r else y::wW x r).map (·.1)=if fh x.1 y.1 then x.1::y.1::r.map (·.1) else y.1::lI x.1 (r.map (·.1))
  split
  ·rfl
  ·exact av (y.1::·) ih
theorem D9:(gK l).map (·.1)=km (l.map dQ):=by
 induction l with
 |nil=>rfl
 |cons x r ih=>exact Iu.trans (av (lI x.1) ih)
theorem Ni:wW (x.1,f x.2) (cD f l)=cD f (wW x l):=by
 induction l with
 |nil=>rfl
 |cons y r ih=>
  show(if fh x.1 y.1 then(x.1,f x.2)::(y.1,f y.2)::cD f r else(y.1,f y.2)::wW (x.1,f x.2) (cD f r))=cD f (if fh x.1 y.1 then x::y::r else y::wW x r)
  split
  ·rfl
  ·exact av ((y.1,f y.2)::·) ih
theorem pD:gK (cD f l)=cD f (gK l):=by
 induction l with
 |nil=>rfl
 |cons x r ih=>exact(av (wW (x.1,f x.2)) ih).trans Ni
theorem Iv:(wW x l).Perm (x::l):=by
 induction l with
 |nil=>exact .refl _
 |cons y r ih=>
  show(if fh x.1 y.1 then x::y::r else y::wW x r).Perm (x::y::r)
  split
  ·exact .refl _
  ·exact(ih.cons y).trans (.swap x y r)
theorem iy:(gK l).Perm l:=by
 induction l with
 |nil=>exact .refl _
 |cons x r ih=>exact Iv.trans (ih.cons x)
theorem f6:(ord b kv).Perm kv:=by
 unfold ord;split
 ·exact iy
 ·exact .refl _
theorem Iw:∀{a b:ag aj},fh a b=af->fh b a=true:=by
 intro a
 induction a with
 |nil=>exact λh=>nomatch h
 |cons x a ih=>
  intro b h;cases b with
  |nil=>rfl
  |cons y b=>
   have h:(if x<y then ae else if y<x then af else fh a b)=false:=h
   show(if y<x then ae else if x<y then af else fh b a)=ae
   by_cases h1:x<y
   ·rw[aA h1] at h;cases h
   ·rw[aL h1] at h ⊢
    by_cases h2:y<x
    ·exact aA h2
    ·rw[aL h2] at h ⊢;exact ih h
theorem Nj(h:kv.length<=2):gK (ord b kv)=gK kv:=by
 unfold ord;cases b with
 |false=>rfl
 |true=>
  cases kv with
  |nil=>rfl
  |cons x r=>
   cases r with
   |nil=>rfl
   |cons y r=>
    cases r with
    |cons=>exact aQ h (N2.mpr (eW ..))
    |nil=>
     show gK (if fh x.1 y.1 then[x,y] else[y,x])=if fh x.1 y.1 then[x,y] else[y,x]
     cases e:fh x.1 y.1 with
     |true=>show(if fh x.1 y.1 then[x,y] else[y,x])=_;rw[e]
     |false=>show(if fh y.1 x.1 then[y,x] else[x,y])=_;rw[Iw e];rfl
end
section
variable{n d k:aj}{m M X:Mu}{t:T}{au:Loc}{l b:aW}{C:Calls}{xs:ag T}{kv:KV}
theorem wX:Gd (.list xs) ms:=λ{n M} hm=>bg n 49 [.t (.list xs)] M rfl rfl [.a,.a,.a,.a,.a,.a,.a,.s _] (bx hm rfl)
theorem wY{kv:ag (T×T)}:Gd (.dict kv) g9:=λ{n M} hm=>bg n 49 [.t (.dict kv)] M rfl rfl [.a,.a,.a,.a,.a,.a,.a,.a,.s _] (bx hm rfl)
theorem Xl{l:ag T}(h:l.length<=bp):uf .tuple [.t (.list l)] m=.ok (.t (.tup l)) m:=aA h
theorem acg{a b:ag T}(h:a.length+b.length<=bp):k9 .add (.t (.tup a)) (.t (.tup b)) m=.ok (.t (.tup (a++b))) m:=aA (by rw[ah];exact h)
theorem Ca{α:Type}(f g:α->T){l:ag α}(h:∀x∈l,Ug d (f x) (g x))(hl:l.length<=1000):Ug (d+1) (.list (l.map f)) (.tup (.str ms::l.map g)):=λ{n M} hm=>by
 have pK:l.length<=bp:=ai hl (by decide)
 have e:=ju (C:=CN (n+d+2)) (elt:=.call 51 [.au 2]) (dN:=[]) (slot:=2) (it:=.name 0) (au:=[aa (.t (.list (l.map f))),aa (.t (.str ms)),ac,ac,ac]) (mu:=M) (M:=M) (gq:=[aa (.t (.list (l.map f))),aa (.t (.str ms)),ac,ac,ac]) f g (l:=l) rfl hm pK λx hx a8=>
  ⟨rfl,gJ (CN (n+d+2)) (.call 51 [.au 2]) [aa (.t (.list (l.map f))),aa (.t (.str ms)),aa (.t (f x)),ac,ac] (M++[TL a8]) [.v _] (h x hx hm.tl)⟩
 have e2:=acg (m:=M) (a:=[.str ms]) (b:=l.map g) (by rw[aq];exact ai (bq hl 1) (by decide))
 exact bg (n+d+2) 51 [.t (.list (l.map f))] M rfl rfl [.v _,.b ae,.a,.v _,.v _,.v _,.s _] (wX hm) rfl e (Xl (by rw[aq];exact pK)) e2 (bx hm rfl)
theorem Nk:∀{kv:KV},strKeys (ec kv)=aa (keysOf kv)
 |[]=>rfl
 |x::kv=>by show(strKeys (ec kv)).map (x.1::·)=_;rw[Nk];rfl
theorem pE(h:kv.length<64):uf .sorted [.t (.dict (ec kv))] m=.ok (.t (.list ((gK kv).map λx=>T.str x.1))) m:=by
 show dO (strKeys (ec kv)) (λks=>if ks.length<64 then h9 ((km ks).map .str) m else .aK)=_
 rw[Nk];show(if(kv.map (·.1)).length<64 then h9 ((km (kv.map (·.1))).map .str) m else .aK)=_
 rw[aA (by rw[aq];exact h), <-D9,ba]
 exact aA (by rw[aq,iy.length_eq];exact ai (a9 h) (by decide))
theorem Nl{a b:KV}(h:a.Perm b)(hn:(keysOf b).Nodup):(keysOf a).Nodup:=(h.map λx:ag aj×T=>x.1).nodup_iff.mpr hn
theorem wZ{e:E}{b:aW}(h:ni C e au X=.ok b X):i6 C [e] au X=.ok b X:=by
 show((ni C e au X).bind λb mu=>if b then i6 C [] au mu else .ok af mu)=_
 rw[h];cases b<;>rfl
theorem uq{x y:T}:abg [.t x,.t y] m=.ok (.t (.tup [x,y])) m:=by
 show vk [x,y] m=_;exact aA (show 2<=bp by decide)
theorem Cb{α:Type}(f g:α->T){l:ag (ag aj×α)}(h:∀x∈l,f x.2≠.none/\Ug d (f x.2) (g x.2))(hn:(keysOf (cD f l)).Nodup)(hl:l.length<64):Ug (d+1) (.dict (ec (cD f l))) (.tup (.str g9::(gK l).map λx=>.tup [.str x.1,g x.2])):=λ{n M} hm=>by
 have hs:=iy (l:=l);have pK:(gK l).length<=63:=by rw[hs.length_eq];exact fH hl
 have so:=pE (m:=M) (kv:=cD f l) (by unfold cD;rw[aq];exact hl)
 rw[pD,show(cD f (gK l)).map (λx=>T.str x.1)=(gK l).map (λx=>T.str x.1) from ba] at so
 have e:=ju (C:=CN (n+d+2)) (elt:=.tup [.au 2,.call 51 [.sub (.au 0) (.au 2)]]) (dN:=[.cmp .kf (.sub (.au 0) (.au 2)) (.c .none)]) (slot:=2) (it:=.val (.bi .sorted [.au 0])) (au:=[aa (.t (.dict (ec (cD f l)))),aa (.t (.str g9)),ac,ac,ac]) (mu:=M) (M:=M) (gq:=[aa (.t (.dict (ec (cD f l)))),aa (.t (.str g9)),ac,ac,ac]) (λx=>.str x.1) (λx=>.tup [.str x.1,g x.2]) (l:=gK l) (lN (gJ (CN (n+d+2)) (.bi .sorted [.au 0]) [aa (.t (.dict (ec (cD f l)))),aa (.t (.str g9)),ac,ac,ac] M [.v _] so) rfl) hm (ai pK (by decide)) λx hx a8=>by
  have hx:=hs.mem_iff.mp hx;refine gf (h x hx) λh1 h2=>?_;have sb:=lF (m:=M++[TL a8]) hn (aT.mpr ⟨x,hx,rfl⟩);exact⟨wZ (DL (CN (n+d+2)) (.cmp .kf (.sub (.au 0) (.au 2)) (.c .none)) [aa (.t (.dict (ec (cD f l)))),aa (.t (.str g9)),aa (.t (.str x.1)),ac,ac] (M++[TL a8]) [.v _,.b ae] sb (zI h1)),
   gJ (CN (n+d+2)) (.tup [.au 2,.call 51 [.sub (.au 0) (.au 2)]]) [aa (.t (.dict (ec (cD f l)))),aa (.t (.str g9)),aa (.t (.str x.1)),ac,ac] (M++[TL a8]) [.v _,.v _,.v _] sb (h2 hm.tl) uq⟩
 have e2:=acg (m:=M) (a:=[.str g9]) (b:=(gK l).map λx=>.tup [.str x.1,g x.2]) (by rw[aq];exact ai (bq pK 1) (by decide))
 exact bg (n+d+2) 51 [.t (.dict (ec (cD f l)))] M rfl rfl [.v _,.b af,.b ae,.a,.v _,.v _,.v _,.s _] (wY hm) rfl rfl e (Xl (by rw[aq];exact ai pK (by decide))) e2 (bx hm rfl)
theorem yJ{s:ag aj}{ts:ag T}(h:∀t∈ts,T.flat (k+1) t=ae):T.flat (k+1+1) (.tup (.str s::ts))=true:=by
 show(ae&&ts.all (T.flat (k+1)))=ae;rw[aE.mpr h];rfl
end
noncomputable def Gf(s:ag aj):Tk:=(oN s,tk g8 (.str s))
abbrev qE:=ag (ag aj×VD)
noncomputable def ents(l:aW)(kx:qE):ag Tk:=(ord l kx).flatMap λx=>Gf x.1::x.2.ts l
section
variable{n j d:aj}{m M:Mu}{v u:T}{l b:aW}{C:Calls}{xs:ag VD}{kx:qE}{a8:ag T}{a1:ar PV}
theorem zZ{a b:ag Tk}:tb (a++b)=tb a++tb b:=br
theorem setC(h:M[j]? =aa (TL a8)){ys zs:ag T}:(M.set j (TL ys))[j]? =aa (TL ys)/\(M.set j (TL ys)).set j (TL zs)=M.set j (TL zs):=⟨cC (ay.mp h).1,jH ..⟩
theorem RU(hx:∀x∈xs,Lay d x.v l (x.ts l))(hm:Cl M){a0:ag T}(hj:M[j]? =aa (TL a0)):∀{a8 u},a8.length+(xs.flatMap λx=>x.ts l).length<=20000->
 ∃u',forL 4 (execs (CN (n+2*d+6)) (ip (dT (ip (dT b75 1)) 1))) (xs.map VD.v) [aa (.m j),a1,aa (.t (.bool l)),aa (.t (.str ms)),u,ac,ac,ac] (M.set j (TL a8))=.ok (.next,[aa (.m j),a1,aa (.t (.bool l)),aa (.t (.str ms)),u',ac,ac,ac]) (M.set j (TL (a8++tb (xs.flatMap λx=>x.ts l)))):=by
 induction xs with
 |nil=>exact λ{a8 u} Z=>⟨u,by rw[show tb (([]:ag VD).flatMap λx=>x.ts l)=[] from rfl,aH];rfl⟩
 |cons x xs ih=>
  intro a8 u hl;rw[dY,ah, <-bZ] at hl;have h1:=hx x (.head _) (n:=n) (hm.set (F:=j) (o:=TL a8) Ib) (setC hj (zs:=[])).1 (ai (aw ..) hl);rw[jH] at h1;obtain⟨u',h⟩:=ih (λx m=>hx x (.tail _ m)) (a8:=a8++tb (x.ts l)) (u:=aa (.t x.v)) (by rw[ah];unfold tb;rw[aq];exact hl)
  rw[az, <-zZ] at h;exact⟨u',iJ (CN (n+2*d+6)) (ip (dT (ip (dT b75 1)) 1)) 4 [aa (.m j),a1,aa (.t (.bool l)),aa (.t (.str ms)),u,ac,ac,ac] (M.set j (TL a8)) x.v _ [.v _] h1 _ h⟩
theorem Nm(hx:∀x∈xs,Lay d x.v l (x.ts l)):Lay (d+1) (.list (xs.map VD.v)) l (fw [91]::(xs.flatMap (λx=>x.ts l)++[fw [93]])):=λ{n j M a8} hm hj hl=>by
 rw[aO,ah,ci] at hl;have Ot:a8.length<bp:=ax (ai (aw ..) hl) (by decide)
 have e1:=rO (C:=CN (n+2*d+7)) (v:=.bytes [91]) hj Ot;obtain⟨u,e⟩:=RU (n:=n+1) (a1:=aa (.t (.list (xs.map VD.v)))) hx hm hj (a8:=a8++[.bytes [91]]) (u:=ac) (by rw[ah,ci];exact ai (by omega) hl)
 rw[cS n 1] at e;have h2:=setC hj (ys:=a8++[.bytes [91]]++tb (xs.flatMap λx=>x.ts l)) (zs:=a8++[.bytes [91]]++tb (xs.flatMap λx=>x.ts l)++[.bytes [93]]);have e2:=rO (C:=CN (n+2*d+7)) (v:=.bytes [93]) h2.1 (ax (by unfold tb;rw[ah,ah,aq,ci];omega) (show 20000<bp by decide))
 rw[h2.2] at e2;have ea:tb (fw [91]::(xs.flatMap (λx=>x.ts l)++[fw [93]]))=[.bytes [91]]++tb (xs.flatMap λx=>x.ts l)++[.bytes [93]]:=av (T.bytes [91]::·) zZ;rw[ea, <-az, <-az];exact bg (n+2*d+7) 75 [.m j,.t (.list (xs.map VD.v)),.t (.bool l)] M rfl rfl [.v _,.b ae,.k _,.v _,.l _,.k _,.v _,.s _] (wX hm) rfl (kT hj rfl) e1 (ix (xs:=xs.map VD.v) rfl e) (kT h2.1 rfl) e2 (bx (hm.set Ib) (bG ..).symm)
theorem RW{kv:KV}(h:kv.length<64){o3:ar PV}{lc:Loc}:io C (.val (.qK (.au 2) (.bi .sorted [.au 1]) (.au 1))) (o3::aa (.t (.dict (ec kv)))::aa (.t (.bool l))::lc) M=.ok ((ord l kv).map λx=>T.str x.1,o3::aa (.t (.dict (ec kv)))::aa (.t (.bool l))::lc) M:=by
 cases l with
 |true=>exact lN (gJ C (.qK (.au 2) (.bi .sorted [.au 1]) (.au 1)) (o3::aa (.t (.dict (ec kv)))::aa (.t (.bool ae))::lc) M [.a,.v _] (pE h)) rfl
 |false=>exact lN (gJ C (.qK (.au 2) (.bi .sorted [.au 1]) (.au 1)) (o3::aa (.t (.dict (ec kv)))::aa (.t (.bool af))::lc) M [.a]) (av aa ba)
theorem Nn(hn:(keysOf (cD VD.v kx)).Nodup)(hm:Cl M){a0:ag T}(hj:M[j]? =aa (TL a0)){r:qE}(hx:∀x∈r,x∈kx/\pR x.1/\x.1.length<=3/\x.2.v≠.none/\Lay d x.2.v l (x.2.ts l)):∀{a8 u},a8.length+(r.flatMap λx=>Gf x.1::x.2.ts l).length<=20000->
 ∃u',forL 3 (execs (CN (n+2*d+6)) (ip (dT b74 1))) (r.map λx=>T.str x.1) [aa (.m j),aa (.t (.dict (ec (cD VD.v kx)))),aa (.t (.bool l)),u,ac,ac,ac] (M.set j (TL a8))=.ok (.next,[aa (.m j),aa (.t (.dict (ec (cD VD.v kx)))),aa (.t (.bool l)),u',ac,ac,ac]) (M.set j (TL (a8++tb (r.flatMap λx=>Gf x.1::x.2.ts l)))):=by
 induction r with
 |nil=>exact λ{a8 u} Z=>⟨u,by rw[show tb (([]:qE).flatMap λx=>Gf x.1::x.2.ts l)=[] from rfl,aH];rfl⟩
 |cons x r ih=>
  intro a8 u hl;rw[dY,ah,aO, <-bZ,bB (x.2.ts l).length 1, <-bZ] at hl;refine YX (hx x (.head _)) λhk h1 h2 h3 h4=>?_;have hc:=setC hj (ys:=a8++[.bytes (oN x.1)]) (zs:=[]);have tX:=rO (C:=CN (n+2*d+6)) (v:=.bytes (oN x.1)) (setC hj (ys:=a8) (zs:=[])).1 (ax (by omega) (show 20000<bp by decide))
  rw[jH] at tX;have e75:=h4 (n:=n) (hm.set (F:=j) (o:=TL (a8++[.bytes (oN x.1)])) Ib) hc.1 (by rw[ah];exact ai (aw ..) hl)
  rw[jH] at e75;refine fJ (ih (λx m=>hx x (.tail _ m)) (a8:=a8++[.bytes (oN x.1)]++tb (x.2.ts l)) (u:=aa (.t (.str x.1))) (by unfold tb;rw[ah,ah,aq];exact hl)) λu' h=>?_
  rw[show a8++[.bytes (oN x.1)]++tb (x.2.ts l)++tb (r.flatMap λx=>Gf x.1::x.2.ts l)=a8++tb ((x::r).flatMap λx=>Gf x.1::x.2.ts l) by rw[az,az];exact av (a8++·) (av (T.bytes (oN x.1)::·) zZ.symm)] at h
  have sb:=λm=>lF (m:=m) hn (aT.mpr ⟨x,hk,rfl⟩);exact⟨u',iJ (CN (n+2*d+6)) (ip (dT b74 1)) 3 [aa (.m j),aa (.t (.dict (ec (cD VD.v kx)))),aa (.t (.bool l)),u,ac,ac,ac] (M.set j (TL a8)) (.str x.1) _ [.v _,.b ae,.k _,.v _,.v _,.v _,.v _] (sb _) (zI h3) (kT (setC hj (zs:=[])).1 rfl) (c65 (n:=n+2*d+4) (hm.set Ib) h1 (ai h2 (by decide))) tX (sb _) e75 _ h⟩
theorem mw{α β:Type}{f:α->β}{l:ag (ag aj×α)}:(cD f l).length=l.length:=aq ..
theorem RX{α β:Type}{f:α->β}{q:ag (ag aj×α)}:ord l (cD f q)=cD f (ord l q):=by
 unfold ord;split
 ·exact pD
 ·rfl
theorem Np(hn:(keysOf (cD VD.v kx)).Nodup)(hl:kx.length<=2)(hx:∀x∈kx,pR x.1/\x.1.length<=3/\x.2.v≠.none/\Lay d x.2.v l (x.2.ts l)):Lay (d+1) (.dict (ec (cD VD.v kx))) l (fw [60,60]::(ents l kx++[fw [62,62]])):=λ{n j M a8} hm hj BY=>by
 rw[aO,ah,ci] at BY;have Ot:a8.length<bp:=ax (ai (aw ..) BY) (by decide)
 have e1:=rO (C:=CN (n+2*d+6)) (v:=.bytes [60,60]) hj Ot;obtain⟨u,e⟩:=Nn (n:=n) (r:=ord l kx) hn hm hj (λx m=>⟨f6.mem_iff.mp m,hx x (f6.mem_iff.mp m)⟩) (a8:=a8++[.bytes [60,60]]) (u:=ac) (by rw[ah];exact ai (by unfold ents;rw[bZ,bB [_].length];exact bq (hY _) _) BY)
 have h2:=setC hj (ys:=a8++[.bytes [60,60]]++tb (ents l kx)) (zs:=a8++[.bytes [60,60]]++tb (ents l kx)++[.bytes [62,62]]);have e2:=rO (C:=CN (n+2*d+6)) (v:=.bytes [62,62]) h2.1 (ax (by unfold tb;rw[ah,ah,aq,ci];omega) (show 20000<bp by decide))
 rw[h2.2] at e2;have ea:tb (fw [60,60]::(ents l kx++[fw [62,62]]))=[.bytes [60,60]]++tb (ents l kx)++[.bytes [62,62]]:=av (T.bytes [60,60]::·) zZ;rw[ea, <-az, <-az];have ki:=RW (C:=CN (n+2*d+6)) (M:=M.set j (TL (a8++[.bytes [60,60]]))) (l:=l) (kv:=cD VD.v kx) (by rw[mw];exact ax hl (by decide)) (o3:=aa (.m j)) (lc:=[ac,ac,ac,ac])
 rw[RX,show(cD VD.v (ord l kx)).map (λx=>T.str x.1)=(ord l kx).map (λx=>T.str x.1) from ba] at ki
 have e74:CN (n+2*d+7) 74 [.m j,.t (.dict (ec (cD VD.v kx))),.t (.bool l)] M=.ok (.t .none) (M.set j (TL (a8++[.bytes [60,60]]++tb (ents l kx)++[.bytes [62,62]]))):=
  bg (n+2*d+6) 74 [.m j,.t (.dict (ec (cD VD.v kx))),.t (.bool l)] M rfl rfl [.k _,.v _,.l _,.k _,.v _,.s _] (kT hj rfl) e1 (ix ki e) (kT h2.1 rfl) e2 (bx (hm.set Ib) (bG ..).symm)
 exact bg (n+2*d+7) 75 [.m j,.t (.dict (ec (cD VD.v kx))),.t (.bool l)] M rfl rfl [.v _,.b af,.b ae,.v _,.s _] (wY hm) rfl rfl e74 (bx (hm.set Ib) (bG ..).symm)
end
section
variable{n d k c a:aj}{m M X:Mu}{v u t:T}{kd:ag aj}{au:Loc}{l b:aW}{C:Calls}{ps:ag VD}{kx:qE}{line:ag T}{v0:T}{x y z:ar PV}
theorem ais(hm:Cl M)(hl:ps.length<=bp):CN (n+2) 52 [.t (.list (ps.map VD.v))] M=.ok (.t (.list (ps.map VD.v))) M:=
 bg (n+1) 52 [.t (.list (ps.map VD.v))] M rfl rfl [.v _,.b ae,.v (.ok (.t (.list (ps.map VD.v))) M),.s _] (wX hm) rfl (aA (by rw[aq];exact hl)) (bx hm rfl)
theorem ait(hm:Cl M)(hl:kx.length<=2)(hn:(keysOf (cD VD.v kx)).Nodup):CN (n+2) 52 [.t (.dict (ec (cD VD.v kx)))] M=.ok (.t (.list ((gK kx).map λx=>x.2.v))) M:=by
 have so:=pE (m:=M) (kv:=cD VD.v kx) (by rw[mw];exact ax hl (by decide))
 rw[pD,show(cD VD.v (gK kx)).map (λx=>T.str x.1)=(gK kx).map (λx=>T.str x.1) from ba] at so
 have e:=ju (C:=CN (n+1)) (elt:=.sub (.au 0) (.au 2)) (dN:=[]) (slot:=2) (it:=.val (.bi .sorted [.au 0])) (au:=[aa (.t (.dict (ec (cD VD.v kx)))),aa (.t (.str g9)),ac,ac,ac]) (mu:=M) (M:=M) (gq:=[aa (.t (.dict (ec (cD VD.v kx)))),aa (.t (.str g9)),ac,ac,ac]) (λx=>.str x.1) (λx=>x.2.v) (l:=gK kx) (lN (gJ (CN (n+1)) (.bi .sorted [.au 0]) [aa (.t (.dict (ec (cD VD.v kx)))),aa (.t (.str g9)),ac,ac,ac] M [.v _] so) rfl) hm (by rw[iy.length_eq];exact ai hl (by decide)) λx hx a8=>
  ⟨rfl,gJ (CN (n+1)) (.sub (.au 0) (.au 2)) [aa (.t (.dict (ec (cD VD.v kx)))),aa (.t (.str g9)),aa (.t (.str x.1)),ac,ac] (M++[TL a8]) [.v _] (lF hn (aT.mpr ⟨x,iy.mem_iff.mp hx,rfl⟩))⟩
 exact bg (n+1) 52 [.t (.dict (ec (cD VD.v kx)))] M rfl rfl [.v _,.b af,.b ae,.v _,.s _] (wY hm) rfl rfl e (bx hm rfl)
theorem aiu{k l:aj}:uf .max [.t (.int (k:aj)),.t (.int (l:aj))] m=.ok (.t (.int (max k l:aj))) m:=by
 show Res.ok (PV.t (.int (if(k:bE)<(l:bE) then(l:bE) else(k:bE)))) m=_
 by_cases h:k<l
 ·rw[aA (cf.mpr h),aj.max_eq_right (a9 h)]
 ·rw[aL (λe=>h (cf.mp e)),aj.max_eq_left (cH h)]
theorem RY{qs:ag VD}(h:∀w∈qs,M9 d c λa=>[i3 w.v a]):∀{n a k M line v0 x y z},Cl M->line.length+qs.length+4*d<500->∃m k' x' y' z',m<=c*qs.length/\k'<=max k (a+d)/\∀f q,Wh (CN (n+3)) (dT Od 2) f (Ou v0 M.length k' x' y' z') (M++[TL line])=q->Wh (CN (n+3)) (dT Od 2) (f+m) (Ou v0 M.length k x y z) (M++[TL (line++(qs.map λx=>i3 x.v a).reverse)])=q:=by
 induction qs with
 |nil=>exact λ{n a k M line v0 x y z} Z Z=>⟨0,k,x,y,z,cF _,xV ..,λf q h=>by rw[show(([]:ag VD).map λx=>i3 x.v a).reverse=[] from rfl,aH];exact h⟩
 |cons w qs ih=>
  intro n a k M line v0 x y z hm hl;rw[aO] at hl;refine xn (h w (.head _) (n:=n) (a:=a) (k:=k) (v0:=v0) (x:=x) (y:=y) (z:=z) (line:=line++(qs.map λx=>i3 x.v a).reverse) hm (by rw[ah,fU,aq];omega)) λm1 k1 x1 y1 z1 h1 h2 h3=>?_
  refine xn (ih (λx m=>h x (.tail _ m)) (n:=n) (a:=a) (k:=k1) (v0:=v0) (x:=x1) (y:=y1) (z:=z1) (line:=line) hm (ax (bN (bq (hY _) _) _) hl)) λm2 k2 x2 y2 z2 g1 g2 g3=>?_;refine⟨m2+m1,k2,x2,y2,z2,by rw[aO,oZ];exact cG g1 h1,ai g2 (N8.mpr ⟨h2,xe ..⟩),λf q hq=>?_⟩
  rw[bX,N7, <-az, <-bZ];exact h3 _ q (g3 f q hq)
theorem z9{α β:Type}{f:α->β}:∀{l:ag α},l.flatMap (λx=>[f x])=l.map f
 |[]=>rfl
 |x::l=>av (f x::·) z9
theorem Cc(hk:Gd v kd)(hkd:kd=ms\/kd=g9)(h52:∀{n M},Cl M->CN (n+2) 52 [.t v] M=.ok (.t (.list (ps.map VD.v))) M)(hl:ps.length<=2)(h:∀w∈ps,M9 d c λa=>[i3 w.v a]):M9 (d+1) (c*2+1) λa=>[i3 v a]:=λ{n a k M line v0 x y z} hm I3=>by
 have hl4:line.length+2+4*d<500:=by omega
 have tr:=RP (X:=M++[TL (line++[i3 v a])]) (r7 rfl) (by rw[ah,ci];unfold bp;omega)
 rw[gn.mpr (cz _ (bf _ _))] at tr;refine gU (zW (C:=CN (n+3)) (slot:=5) (b:=ip (dT (ip (dT (ip (dT Od 2)) 1)) 1)) (L:=λu Z=>Ou v0 M.length (max k (a+1)) (aa (.t v)) (aa (.t (.int (a:aj)))) u) (St:=λx=>M++[TL x]) (f:=VD.v) (g:=λx=>[i3 x.v (a+1)]) (K:=600) (xs:=ps) (λw Z a8 u v' hk=>
  ⟨_,ac,λr=>iJ (CN (n+3)) (ip (dT (ip (dT (ip (dT Od 2)) 1)) 1)) 5 (Ou v0 M.length (max k (a+1)) (aa (.t v)) (aa (.t (.int (a:aj)))) u) (M++[TL a8]) w.v r [.k _,.v _,.v _,.v _] (kL rfl rfl) fO uq (BO rfl (bw (da _) (ai hk (by decide))))⟩) (a8:=line) (u:=z) (v:=ac) (by rw[z9 (f:=λx:VD=>i3 x.v (a+1)),aq];omega)) λu' v' e=>?_
 rw[z9 (f:=λx:VD=>i3 x.v (a+1))] at e;refine xn (RY (qs:=ps.reverse) (λx m=>h x (OS.mp m)) (n:=n) (a:=a+1) (k:=max k (a+1)) (v0:=v0) (x:=aa (.t v)) (y:=aa (.t (.int (a:aj)))) (z:=u') (line:=line) hm (by rw[fU];omega)) λm2 k2 x2 y2 z2 g1 g2 g3=>?_
 rw[OT,GR] at g3;rw[fU] at g1;refine⟨m2+1,k2,x2,y2,z2,bI (ai g1 (cm c hl)),ai g2 (N8.mpr ⟨N8.mpr ⟨xV _ _,ai (bq (eW 1 d) a) (xe _ _)⟩,ai (cX ((bZ a 1 d).trans (av (a+·) (bB 1 d)))) (xe _ _)⟩),λf q hq=>?_⟩;have inA:eC .isIn (.t (.str kd)) (.t (.tup [.str ms,.str g9,.str D6])) (M++[TL line])=aa true:=by rcases hkd with rfl |rfl<;>rfl
 exact gA (CN (n+3)) (dT Od 2) (f+m2) (Ou v0 M.length k x y z) (M++[TL (line++[i3 v a])]) [.b ae,.k _,.v _,.v _,.a,.b ae,.v _,.v _,.l _] tr (kL rfl rfl) (acb rfl (by unfold bp;omega)) (hk hm.tl) inA fO aiu (ix (lN (gJ (CN (n+3)) (.call 52 [.au 3]) (Ou v0 M.length (max k (a+1)) (aa (.t v)) (aa (.t (.int (a:aj)))) z) (M++[TL line]) [.v _] (h52 (n:=n+1) hm.tl)) rfl) e) q (g3 f q hq)
theorem tB{a b:ag Tk}:tt (a++b)=tt a+tt b:=by unfold tt;rw[br,SN]
theorem xB{t:Tk}{a:ag Tk}:tt (t::a)=t.1.length+1+tt a:=AN
theorem Uo{α:Type}{f:α->ag Tk}{k:aj}{l:ag α}(h:∀x∈l,tt (f x)<=k):tt (l.flatMap f)<=k*l.length:=by
 induction l with
 |nil=>exact cF _
 |cons x l ih=>rw[dY,tB,aO,oZ,bB];exact cG (ih λx m=>h x (.tail _ m)) (h x (.head _))
theorem Up{α:Type}{f g:α->ag Tk}{l:ag α}(h:∀x∈l,tt (f x)<=tt (g x)):tt (l.flatMap f)<=tt (l.flatMap g):=by
 induction l with
 |nil=>exact aP _
 |cons x l ih=>rw[dY,tB,dY,tB];exact cG (h x (.head _)) (ih λx m=>h x (.tail _ m))
theorem RZ{a b:ag Tk}(h:a.Perm b):tt a=tt b:=(h.map _).sum_nat
theorem Nq{w w':ag aj}{a:ag Tk}(h:w.length<=2)(h':w'.length<=2):tt (fw w::(a++[fw w']))<=tt a+6:=by
 rw[xB,tB,xB];show w.length+1+(tt a+(w'.length+1+0))<=_;omega
theorem Iy:4^(d+1)*4=4^(d+1+1)/\1<=4^(d+1):=⟨rfl,IU (by decide)⟩
theorem Ea{a:ag Tk}:a.length<=tt a:=by
 induction a with
 |nil=>exact cF _
 |cons t a ih=>rw[xB,aO];omega
end
section
variable{d c c':aj}{l:aW}{xs:ag VD}{kx:qE}{iP:aj->ag T}
theorem M9.mono(h:M9 d c iP)(hc:c<=c'):M9 d c' iP:=λhm hl=>by
 refine UR (h hm hl) λm k' x' y' z' h1 h2=>⟨m,k',x',y',z',ai h1 hc,h2⟩
theorem Cd{w w':ag aj}{a:ag Tk}(h:Gc (fw w))(h':Gc (fw w'))(ha:∀t∈a,Gc t):∀t∈fw w::(a++[fw w']),Gc t:=λt m=>
 (aJ.mp m).elim (λe=>e▸h) λm=>(bt.mp m).elim (ha t) λm=>aC.mp m▸h'
theorem Nr{w w':ag aj}{a:ag Tk}{n:aj}(h:w.length<=2)(h':w'.length<=2)(ha:tt a<=41*4^(d+1)*n+11*n)(hn:n<=2):tt (fw w::(a++[fw w']))<=41*4^(d+1+1):=by
 have:=Nq (a:=a) h h'
 have h2:41*4^(d+1)*n<=41*4^(d+1)*2:=cm _ hn;have:=(Iy (d:=d)).2
 have e:=(Iy (d:=d)).1;omega
theorem Gg{w w':ag aj}{a b:ag Tk}(h:tt a<=tt b):tt (fw w::(a++[fw w']))<=tt (fw w::(b++[fw w'])):=by
 rw[xB,tB,xB,xB,tB,xB];exact bq (bN h _) _
theorem Gh(h:∀x∈xs,Wv d x)(hl:xs.length<=2):Wv (d+1) ⟨.list (xs.map VD.v),λl=>fw [91]::(xs.flatMap (λx=>x.ts l)++[fw [93]]),λl=>.list (xs.map λx=>x.u l),.tup (.str ms::xs.map VD.t)⟩ where
 knd:=⟨ms,wX,by decide⟩
 lay l:=Nm λx m=>(h x m).lay l
 rd l:=.inr (.inl ⟨xs.map λx=>(x.ts l,x.u l),λy hy=>by
  refine bH (aT.mp hy) λx hm z0=>?_;subst z0;exact(h x hm).rd l,by rw[aq];exact ax hl (by decide),by unfold tW;rw[gS],by rw[ba];rfl⟩)
 gt l:=Cd (Na (.inl rfl)) (Na (.inr rfl)) λt m=>by
  refine bH (gT.mp m) λx hx m=>?_;exact(h x hx).gt l t m
 tx:=Ca VD.v VD.t (λx m=>(h x m).tx) (ai hl (by decide))
 back l:=Ca (λx=>x.u l) VD.t (λx m=>(h x m).back l) (ai hl (by decide))
 flat k:=yJ (k:=k+(2*d+2)) λt m=>by
  refine bH (aT.mp m) λx hm z0=>?_;subst z0;rw[cS k _ 1];exact(h x hm).flat (k+1)
 Uh:=M9.mono (Cc wX (.inl rfl) (λhm=>ais hm (ai hl (by decide))) hl λw m=>(h w m).Uh) ((Iy (d:=d)).1▸ai (bq (Iy (d:=d)).2 (4^(d+1)*2)) (cm (4^(d+1)) (by decide:3<=4)))
 tt l:=Nr (by decide) (by decide) (ai (Uo λx m=>(h x m).tt l) (aw ..)) hl
 le:=Gg (Up λx m=>(h x m).le)
 last l:=.inr ⟨_,[93],(iN ..).symm,by decide⟩
 nn _ l:=nofun
theorem kJ{α β:Type}{f:α->β}{q:ag (ag aj×α)}:(cD f q).map dQ=q.map dQ:=by unfold cD;rw[ba];rfl
def Uq(d:aj)(x:ag aj×VD):Prop:=pR x.1/\x.1.length<=3/\x.2.v≠.none/\Wv d x.2
theorem R0{x:ag aj×VD}(h:Uq d x):tt (Gf x.1::x.2.ts l)<=41*4^(d+1)+11:=by
 rw[xB,bB];exact cG (h.2.2.2.tt l) (bI (D8 h.2.1))
theorem Aa{β:Type}{f:VD->β}(hn:(kx.map dQ).Nodup){q:ag (ag aj×β)}(e:q=cD f (ord l kx)):(q.map dQ).Nodup:=by
 rw[e,kJ];exact(f6.map dQ).nodup_iff.mpr hn
theorem Gi(h:∀x∈kx,Uq d x)(hl:kx.length<=2)(hn:(kx.map dQ).Nodup):Wv (d+1) ⟨.dict (ec (cD VD.v kx)),λl=>fw [60,60]::(ents l kx++[fw [62,62]]),λl=>.dict (ec (cD (λx=>x.u l) (ord l kx))),.tup (.str g9::(gK kx).map λx=>.tup [.str x.1,x.2.t])⟩:=
 have zy:(keysOf (cD VD.v kx)).Nodup:=by show((cD VD.v kx).map dQ).Nodup;rw[kJ];exact hn
 have ho:∀l,∀x∈ord l kx,Uq d x:=λl x m=>h x (f6.mem_iff.mp m)
 {
  knd:=⟨g9,wY,by decide⟩
  lay:=λl=>Np zy hl λx m=>⟨(h x m).1,(h x m).2.1,(h x m).2.2.1,(h x m).2.2.2.lay l⟩
  rd:=λl=>.inr (.inr ⟨(ord l kx).map λx=>((Gf x.1,x.1),(x.2.ts l,x.2.u l)),λy hy=>by
   obtain⟨x,hm,rfl⟩:=aT.mp hy;have:=ho l x hm
   exact⟨this.2.2.2.rd l,λp=>rfl,this.2.2.2.nn this.2.2.1 l⟩,by rw[aq,f6.length_eq];omega,Aa hn (f:=λx=>x.u l) (by unfold jB;rw[ba];rfl),by unfold ti ents;rw[gS],by unfold jB;rw[ba];rfl⟩)
  gt:=λl=>Cd (Nb (.inl rfl)) (Nb (.inr rfl)) λt m=>by
   refine bH (gT.mp m) λx hx m=>?_;have:=ho l x hx
   exact(aJ.mp m).elim (λe=>e▸zX this.1 (ax this.2.1 (by decide))) (this.2.2.2.gt l t)
  tx:=Cb VD.v VD.t (λx m=>⟨(h x m).2.2.1,(h x m).2.2.2.tx⟩) zy (ax hl (by decide))
  back:=λl=>Nj (b:=l) hl▸Cb (λx=>x.u l) VD.t (l:=ord l kx) (λx m=>⟨(ho l x m).2.2.2.nn (ho l x m).2.2.1 l,(ho l x m).2.2.2.back l⟩) (Aa hn (f:=λx=>x.u l) rfl) (by rw[f6.length_eq];exact ax hl (by decide))
  flat:=λk=>yJ (k:=k+(2*d+2)) λt m=>by
   obtain⟨x,hm,rfl⟩:=aT.mp m;show(ae&&(T.flat (k+(2*d+2)) x.2.t&&ae))=ae;rw[(h x (iy.mem_iff.mp hm)).2.2.2.flat k];rfl
  Uh:=M9.mono (Cc (ps:=(gK kx).map ua) wY (.inr rfl) (λhm=>by rw[ba];exact ait hm hl zy) (by rw[aq,iy.length_eq];exact hl) λw m=>by
   obtain⟨x,hm,rfl⟩:=aT.mp m;exact(h x (iy.mem_iff.mp hm)).2.2.2.Uh) ((Iy (d:=d)).1▸ai (bq (Iy (d:=d)).2 (4^(d+1)*2)) (cm (4^(d+1)) (by decide:3<=4)))
  tt:=λl=>Nr (by decide) (by decide) (by rw[<-aj.add_mul];exact Uo λx m=>R0 (ho l x m)) (by rw[f6.length_eq];exact hl)
  le:=Gg (ai (Up (l:=ord ae kx) (g:=λx=>Gf x.1::x.2.ts af) λx m=>by rw[xB,xB];exact bq (ho ae x m).2.2.2.le _) (cX (RZ (ag.Perm.flatMap_right _ f6))))
  last:=λl=>.inr ⟨_,[62,62],(iN ..).symm,by decide⟩
  nn:=λZ l=>nofun}
end
noncomputable def rt(x y:ag aj):Bool:=(y.head?.map λc=>sW (c:aj)).getD af&&m7 x
noncomputable def Ov(l:aW)(x y:ag aj):ag Nat:=if l then(if rt x y then[32] else[]) else[32]
noncomputable def jt(l:aW)(x:ag aj)(r:ag (ag aj)):ag Nat:=match r with
 |[]=>[]
 |y::r=>Ov l x y++(y++jt l y r)
noncomputable def jn(l:aW)(x:ag aj)(r:ag (ag aj)):ag Nat:=x++jt l x r
abbrev Pc:=ag Tk×ag aj
def R1(x:Pc):Prop:=x.1≠[]/\x.2≠[]/\∀r,(m7 x.2=af\/Ia r)->Ly x.1 (x.2++r) r
noncomputable def lst{α:Type}(x:α)(r:ag α):α:=match r with
 |[]=>x
 |y::r=>lst y r
section
variable{n i j k:aj}{m M:Mu}{ts a b:ag Tk}{s r w x y R ws:ag aj}{l:aW}{C:Calls}{v:PV}{bs:ag (ag aj)}{ps:ag Pc}{p q:Pc}{t:Tk}
theorem Eb(hw:kQ ws)(h0:ts≠[])(h:Ly ts s r):Ly ts (ws++s) r:=by
 cases ts with
 |nil=>exact aQ rfl h0
 |cons t ts=>
  refine vg h λwh s' e h1 h2 h3=>?_;exact⟨ws++wh,s',by rw[e,az],λc hc=>(bt.mp hc).elim (hw c) (h1 c),h2,h3⟩
theorem Xm(h:Ly b w r):∀{a s},Ly a s w->Ly (a++b) s r:=by
 intro a
 induction a with
 |nil=>exact λ{s} e=>(show s=w from e)▸h
 |cons t a ih=>
  intro s h1;refine vg h1 λwh s' e hw hl h1=>?_;exact⟨wh,s',e,hw,hl,ih h1⟩
theorem Ab(h:Gc t):R1 ([t],t.1):=⟨bf _ _,h.1,λr hr=>⟨[],r,rfl,nofun,h.2 r hr,rfl⟩⟩
theorem Ce:kQ (Ov l x y):=λc hc=>by
 unfold Ov at hc;split at hc
 ·split at hc
  ·rw[aC.mp hc];decide
  ·cases hc
 ·rw[aC.mp hc];decide
theorem Nt:Ia (32::r):=λc r' e=>by cases e;decide
theorem Ur{c:aj}(hy:y=c::r):m7 x=af\/Ia (Ov l x y++(y++R)):=by
 cases l with
 |false=>exact .inr Nt
 |true=>
  show _\/Ia ((if rt x y then[32] else[])++_)
  cases h:rt x y with
  |true=>exact .inr Nt
  |false=>
   unfold rt at h;rw[hy] at h ⊢;rcases EC.mp h with h |h
   ·exact .inr λc' r' e=>by cases e;exact h
   ·exact .inl h
theorem aci:∀{p:Pc},(∀z∈p::ps,R1 z)->(m7 (lst p ps).2=af\/Ia R)->Ly ((p::ps).flatMap (·.1)) (jn l p.2 (ps.map (·.2))++R) R:=by
 induction ps with
 |nil=>
  intro p h hR;show Ly (p.1++[]) ((p.2++[])++R) R;rw[aH,aH];exact(h p (.head _)).2.2 R hR
 |cons q ps ih=>
  intro p h hR;have hq:=h q (.tail _ (.head _));have g:=ih (p:=q) (λz m=>h z (.tail _ m)) hR;show Ly (p.1++(q::ps).flatMap (·.1)) ((p.2++(Ov l p.2 q.2++jn l q.2 (ps.map (·.2))))++R) R;rw[az,az];refine gU (cQ hq.2.1) λc r e=>?_;refine Xm (Eb Ce (λe=>hq.1 (ee.mp e).1) g) ((h p (.head _)).2.2 _ ?_);unfold jn;rw[az];exact Ur e
theorem Us(h:x≠[]){r:ag (ag aj)}:jn l x r≠[]:=λe=>h (ee.mp e).1
theorem Gj:∀{x:ag aj},(∀z∈x::bs,z≠[])->(jn l x bs).getLast? =(lst x bs).getLast?:=by
 induction bs with
 |nil=>exact λ{x} Z=>by show(x++[]).getLast? =x.getLast?;rw[aH]
 |cons y bs ih=>
  intro x h;have hy:=h y (.tail _ (.head _));show(x++(Ov l x y++jn l y bs)).getLast? =(lst y bs).getLast?;rw[<-ih λz m=>h z (.tail _ m),kj,kj,fu (Us hy)];rfl
theorem Gk{α β:Type}{f:α->β}:∀{r:ag α}{x:α},lst (f x) (r.map f)=f (lst x r)
 |[],_=>rfl
 |y::r,_=>Gk (r:=r) (x:=y)
theorem acj(h:∀z∈p::ps,R1 z)(hl:ps=[]\/(lst p ps).2≠[47]):R1 ((p::ps).flatMap (·.1),jn l p.2 (ps.map (·.2))):=by
 have h0:=h p (.head _);refine⟨λe=>h0.1 (ee.mp e).1,Us h0.2.1,λR hR=>aci h (hR.imp_left λhb=>?_)⟩;rcases hl with rfl |hl
 ·rw[show jn l p.2 (([]:ag Pc).map (·.2))=p.2 from aH _] at hb;exact hb
 ·unfold m7 at hb ⊢
  rw[df] at hb ⊢;have e:=Gj (l:=l) (bs:=ps.map (·.2)) (x:=p.2) λz m=>by
   rw[<-bX (f:=λx:Pc=>x.2)] at m;refine bH (aT.mp m) λy hy z0=>?_;subst z0;exact(h y hy).2.1
  rw[e,Gk (f:=λx:Pc=>x.2)] at hb;exact⟨hb.1,aD.mpr hl⟩
def R2(v:PV)(M:Mu)(bs:ag (ag aj)):Prop:=v=.t (.list (bs.map .bytes))\/∃j,v=.m j/\M[j]? =aa (TL (bs.map .bytes))
theorem R3(h:R2 v M bs):look v M=aa (.list (bs.map .bytes)):=by
 rcases h with rfl |⟨j,rfl,h⟩
 ·rfl
 ·show M[j]?.bind SP=_
  rw[h];show(eB ((bs.map T.bytes).map PV.t)).map T.list=_;rw[Q6];rfl
theorem Xn(h:R2 v M bs)(hl:bs.length<=bp):uf .len [v] M=.ok (.t (.int bs.length)) M:=by
 rcases h with rfl |⟨j,rfl,h⟩
 ·exact wF (av aa (aq ..)) hl
 ·exact Rp h (aq ..) hl
theorem Ec{l:ag T}{i:bE}:mK (.t (.list l)) (.t (.int i)) M=idx l PV.t i:=rfl
theorem Ed(h:R2 v M bs)(hl:bs.length<=bp)(hk:bs[k]? =aa x):bS (mK v (.t (.int (k:aj))) M) M=.ok (.t (.bytes x)) M:=by
 have KW:(bs.map T.bytes)[k]? =aa (.bytes x):=by rw[dh,hk];rfl
 rcases h with rfl |⟨j,rfl,h⟩
 ·rw[Ec,wz (f:=PV.t) KW (by rw[aq];exact hl)];rfl
 ·exact Ic h (by rw[aq];exact hl) KW
theorem R2.wL(h:R2 v M bs){r:Mu}:R2 v (M++r) bs:=h.imp_right λq9=>bH q9 λj e h=>⟨j,e,by rw[bo (ay.mp h).1];exact h⟩
theorem Ut(hx:x≠[])(hl:x.length<=bp):bS (mK (.t (.bytes x)) (.t (.int (-1))) M) M=.ok (.t (.int ((x.getLast hx:aj):bE))) M:=by
 have h0:=IV.mpr hx;rw[Mg];unfold idx Oa;rw[aA ⟨by decide,by decide⟩,aL (by decide),aA (by omega),show((-1:bE)+(x.length:aj)).toNat=x.length-1 from(av bE.toNat (adf _ _)).trans (YW x.length 1),jR,bz (aj.sub_lt h0 aj.one_pos),ag.getLast_eq_getElem];rfl
theorem c76(hm:Cl M)(hx:x≠[])(hy:y≠[])(Kz:x.length<=bp)(hyl:y.length<=bp):CN (n+2) 76 [.t (.bytes x),.t (.bytes y)] M=.ok (.t (.bool (rt x y))) M:=by
 refine gU (cQ hy) λc t z0=>?_;subst z0;have e1:=iQ (m:=M) (a:=0) hyl rfl;have e3:=c2 (n:=n) (c:=(c:aj)) hm;have e5:=c2 (n:=n) (c:=((x.getLast hx:aj):bE)) hm;rw[show rt x (c::t)=(sW c&&(sW (x.getLast hx:aj)||x==[47])) by unfold rt m7;rw[fu hx];rfl]
 cases h1:sW c with
 |false=>rw[h1] at e3;exact bg (n+1) 76 [.t (.bytes x),.t (.bytes (c::t))] M rfl rfl [.v _,.v _,.a,.s _] e1 e3 (bx hm rfl)
 |true=>
  rw[h1] at e3;cases h2:sW (x.getLast hx:aj) with
  |true=>rw[h2] at e5;exact bg (n+1) 76 [.t (.bytes x),.t (.bytes (c::t))] M rfl rfl [.v _,.v _,.a,.v _,.v _,.a,.s _] e1 e3 (Ut hx Kz) e5 (bx hm rfl)
  |false=>rw[h2] at e5;exact bg (n+1) 76 [.t (.bytes x),.t (.bytes (c::t))] M rfl rfl [.v _,.v _,.a,.v _,.v _,.a,.b (x==[47]),.s _] e1 e3 (Ut hx Kz) e5 rfl (bx hm rfl)
theorem Gl:∀{bs:ag (ag aj)},O8 (bs.map T.bytes)=aa bs
 |[]=>rfl
 |b::bs=>by show(O8 (bs.map T.bytes)).map (b::·)=_;rw[Gl];rfl
theorem Gm{sep:ag aj}(h:look v M=aa (.list (bs.map .bytes)))(hs:sep.length<=100)(hl:(joined sep bs).length<=bp):ei C (.t (.bytes sep)) 34 ac [v] M=.ok (.t (.bytes (joined sep bs))) M:=by
 show O9 (look v M) (λl=>dO (O8 l) λss=>if sep.length<=100 then jL (joined sep ss) M else .aK)=_
 rw[h];show dO (O8 (bs.map T.bytes)) _=_;rw[Gl];show(if sep.length<=100 then jL (joined sep bs) M else .aK)=_
 rw[aA hs];exact aA hl
theorem kR:∀{bs:ag (ag aj)},joined [] bs=bs.flatten
 |[]=>rfl
 |[x]=>(aH x).symm
 |x::y::r=>by show x++[]++joined [] (y::r)=x++(y::r).flatten;rw[aH,kR]
theorem w0:∀{r:ag (ag aj)}{x},joined [32] (x::r)=jn af x r
 |[],x=>(aH x).symm
 |y::r,x=>by show x++[32]++joined [32] (y::r)=x++([32]++jn af y r);rw[w0,az]
end
section
variable{n j k:aj}{m M:Mu}{x y:ag aj}{l:aW}{C:Calls}{v:PV}{bs:ag (ag aj)}{u:ar PV}
theorem Uu:∀{r:ag (ag aj)}{x},(jt l x r).length<=(r.map λb=>b.length+1).sum
 |[],x=>cF _
 |y::r,x=>
  by
   have h1:(Ov l x y).length<=1:=by
    unfold Ov;split
    ·split
     ·exact aP 1
     ·exact cF 1
    ·exact aP 1
   have:=Uu (r:=r) (x:=y)
   show(Ov l x y++(y++jt l y r)).length<=_;rw[ah,ah,bX,AN];omega
noncomputable def qf(bs:ag (ag aj)):Nat:=(bs.map λb=>b.length+1).sum
theorem Gn:(jn l x bs).length+1<=qf (x::bs):=by
 have:=Uu (l:=l) (r:=bs) (x:=x)
 show(x++jt l x bs).length+1<=(_::_).sum;rw[ah,AN];show _<=x.length+1+(bs.map λb=>b.length+1).sum;omega
theorem Uv:∀{bs:ag (ag aj)}{x},(jn af x bs).length+1=qf (x::bs)
 |[],x=>by show(x++[]).length+1=(x.length+1)+0;rw[aH]
 |y::bs,x=>
  by
   have:=Uv (bs:=bs) (x:=y)
   show(x++([32]++jn af y bs)).length+1=(x.length+1)+qf (y::bs);rw[ah,ah, <-this];show x.length+(1+_)+1=_;omega
theorem R4(h:x∈bs):x.length+1<=qf bs:=by
 induction bs with
 |nil=>cases h
 |cons y bs ih=>
  show _<=y.length+1+qf bs;rcases aJ.mp h with rfl |h
  ·exact aw ..
  ·exact ai (ih h) (eW ..)
theorem uW:bs.length<=qf bs:=by
 induction bs with
 |nil=>exact cF _
 |cons y bs ih=>show bs.length+1<=y.length+1+qf bs;omega
theorem Xo{a k:aj}(h:a+k<=bp):gi [.t (.int (a:aj)),.t (.int (a+k:aj))]=aa ((ew a k).map λj:aj=>T.int (j:aj)):=
 (DM (n:=k) (f:=λj=>T.int ((a+j:aj):bE)) (by omega) (uO (by omega)) (uO (by omega)) (by decide) (by decide) (by rw[adb];split<;>omega) λj=>av T.int (by omega)).trans
  (by rw[ag.range'_eq_map_range,ba];rfl)
noncomputable abbrev Xp(v:PV)(j:aj)(u:ar PV):Loc:=[aa v,aa (.t (.bool ae)),aa (.m j),u,ac,ac,ac]
theorem aiw(hm:Cl M)(h:R2 v M bs)(hb:∀b∈bs,b≠[])(hl:qf bs<=400000){r:ag (ag aj)}:∀{p:aj}{x:ag aj}{a8:ag (ag aj)}{u:ar PV},bs.drop p=x::r->a8.length+2*r.length<bp->∃(u':ar PV) (F:ag (ag aj)),F.flatten=a8.flatten++jt ae x r/\forL 3 (execs (CN (n+2)) (ip (dT b77 2))) ((ew (p+1) r.length).map λj:aj=>T.int (j:aj)) (Xp v M.length u) (M++[TL (a8.map .bytes)])=.ok (.next,Xp v M.length u') (M++[TL (F.map .bytes)]):=by
 induction r with
 |nil=>exact λ{p x a8 u} Z Z=>⟨u,a8,(aH _).symm,rfl⟩
 |cons y r ih=>
  intro p x a8 u hp ha;have hy:bs.drop (p+1)=y::r:=by rw[<-dP,hp];rfl
  have at_:∀{q:aj}{z:ag aj}{s:ag (ag aj)},bs.drop q=z::s->bs[q]? =aa z:=λh=>by rw[<-o9,h];rfl
  have m1:=cp (at_ hp);have m2:=cp (at_ hy);have P9:bs.length<=bp:=ai (ai uW hl) (by decide)
  have sz:∀{z:ag aj},z∈bs->z.length<=bp:=λm=>ai (ai (dq (R4 m)) hl) (by decide)
  have s1:=λM'=>Ed (h.wL (r:=M')) P9 (at_ hp);have s2:=λM'=>Ed (h.wL (r:=M')) P9 (at_ hy);have e76:=c76 (n:=n) (hm.tl (xs:=a8.map .bytes)) (hb x m1) (hb y m2) (sz m1) (sz m2);have ha':a8.length+2+2*r.length<bp:=ax (cX (cS _ 2 _)) ha;have a30:∀{z:ag aj}{a8:ag (ag aj)},a8.length<bp->ei (CN (n+2)) (.m M.length) 30 ac [.t (.bytes z)] (M++[TL (a8.map .bytes)])=.ok (.t .none) (M++[TL ((a8++[z]).map .bytes)]):=λ{z a8} h=>by
   rw[BO rfl (by rw[aq];exact h),br];rfl
  cases hrt:rt x y with
  |true=>
   rw[hrt] at e76;refine dZ (ih (p:=p+1) (a8:=a8++[[32]]++[y]) (u:=aa (.t (.int (p+1:aj)))) hy (by rw[ah,ah];exact ha')) λu' F f e=>?_
   refine⟨u',F,?_,iJ (CN (n+2)) (ip (dT b77 2)) 3 (Xp v M.length u) (M++[TL (a8.map .bytes)]) (.int (p+1:aj)) _ [.v _,.v _,.v _,.v _,.a,.k _,.v _,.k _,.v _,.v _] DO (s1 _) (s2 _) e76 (kL rfl rfl) (a30 (ax (ai (aw _ 2) (aw _ _)) ha')) (kL rfl rfl) (s2 _) (a30 (by rw[ah,ci];omega)) _ e⟩
   rw[f,kY,kY,show jt ae x (y::r)=[32]++(y++jt ae y r) from av (· ++_) (aA hrt),az,az]
   show _++([32]++[]++(y++[]++_))=_;rw[aH,aH]
  |false=>
   rw[hrt] at e76;refine dZ (ih (p:=p+1) (a8:=a8++[y]) (u:=aa (.t (.int (p+1:aj)))) hy (by rw[ah,ci];omega)) λu' F f e=>?_
   refine⟨u',F,?_,iJ (CN (n+2)) (ip (dT b77 2)) 3 (Xp v M.length u) (M++[TL (a8.map .bytes)]) (.int (p+1:aj)) _ [.v _,.v _,.v _,.v _,.a,.k _,.v _,.v _] DO (s1 _) (s2 _) e76 (kL rfl rfl) (s2 _) (a30 (ax (ai (aw _ 2) (aw _ _)) ha')) _ e⟩;rw[f,kY,show jt ae x (y::r)=[]++(y++jt ae y r) from av (· ++(y++jt ae y r)) (show(if rt x y then[32] else[])=([]:ag aj) by rw[hrt];rfl),az]
   show _++(y++[]++_)=_;rw[aH,gx]
theorem c77(hm:Cl M)(h:R2 v M (x::bs))(hb:∀b∈x::bs,b≠[])(hl:qf (x::bs)<=400000):CN (n+3) 77 [v,.t (.bool l)] M=.ok (.t (.bytes (jn l x bs))) M:=by
 have hj:(jn l x bs).length<=bp:=ai (dq Gn) (ai hl (by decide))
 cases l with
 |false=>
  have e:=Gm (C:=CN (n+2)) (sep:=[32]) (R3 h) (by decide) (by rw[w0];exact hj)
  rw[w0] at e;exact bg (n+2) 77 [v,.t (.bool af)] M rfl rfl [.a,.k _,.v _,.s _] rfl e (bx hm rfl)
 |true=>
  have P9:(x::bs).length<=bp:=ai (ai uW hl) (by decide)
  have hb4:=ai (uW (bs:=x::bs)) hl;rw[aO] at hb4;refine dZ (aiw (n:=n) (u:=ac) (p:=0) (a8:=[x]) hm h hb hl rfl (show 1+2*bs.length<bp by unfold bp;omega)) λu F f e=>?_
  rw[show[x].flatten++jt ae x bs=jn ae x bs by show(x++[])++_=_;rw[aH];rfl] at f
  have ej:=Gm (C:=CN (n+2)) (M:=M++[TL (F.map .bytes)]) (sep:=[]) (bs:=F) (v:=.m M.length) (Mk rfl) (by decide) (by rw[kR,f];exact hj)
  rw[kR,f] at ej;have r2:=Xo (a:=1) (k:=bs.length) (by rw[bB];exact P9)
  rw[bB 1 bs.length] at r2;have hit:io (CN (n+2)) (.range [.c (.int 1),.bi .len [.au 0]]) (Xp v M.length ac) (M++[TL [.bytes x]])=.ok ((ew 1 bs.length).map λj:aj=>T.int (j:aj),Xp v M.length ac) (M++[TL [.bytes x]]):=
   Ra (CN (n+2)) [.c (.int 1),.bi .len [.au 0]] (Xp v M.length ac) (M++[TL [.bytes x]]) [.v _] (Xn h.wL P9) _ r2
  exact bg (n+2) 77 [v,.t (.bool ae)] M rfl rfl [.a,.v _,.v _,.l _,.k _,.v _,.s _] (Ed (k:=0) h P9 rfl) (wV rfl) (ix hit e) rfl ej (gk hm rfl)
end
noncomputable def jl(l:aW)(bs:ag (ag aj)):ag Nat:=match bs with
 |[]=>[]
 |x::r=>jn l x r
noncomputable def wO(l:aW)(x:VD):ag Nat:=jl l ((x.ts l).map (·.1))
structure ur(w:ag aj):Prop where
 (T9:um w) (ne:w≠[]) (num:uo w=.none) (op:opW w) (bi:w≠qc) (lt:∀c∈w,c<256) (len:w.length<=3)
section
variable{n j k d:aj}{m M:Mu}{w z:ag aj}{l:aW}{v:PV}{bs a:ag (ag aj)}{ps:ag Pc}{x:VD}
theorem lst_snoc{α:Type}{z:α}{a r:ag α}{x:α}(e:x::r=a++[z]):lst x r=z:=by
 induction a generalizing x r with
 |nil=>exact(cg e).2▸(cg e).1
 |cons y a ih=>
  have e:=(cg e).2;cases r with
  |nil=>exact aQ e.symm (cz _ (bf _ _))
  |cons q r=>exact ih (x:=q) (r:=r) e
theorem Nu(h0:ps≠[])(h:∀z∈ps,R1 z)(hl:(∃p,ps=[p])\/∃a z,ps=a++[z]/\z.2≠[47]):R1 (ps.flatMap (·.1),jl l (ps.map (·.2))):=by
 refine gU (cQ h0) λp r z0=>?_;subst z0;refine acj (l:=l) h (hl.imp (λq9=>fJ q9 λq e=>(cg e).2) λq9=>dZ q9 λa z e hz=>?_);rw[lst_snoc e];exact hz
theorem R5(hm:Cl M)(h:R2 v M bs)(h0:bs≠[])(hb:∀b∈bs,b≠[])(hl:qf bs<=400000):CN (n+3) 77 [v,.t (.bool l)] M=.ok (.t (.bytes (jl l bs))) M:=by
 refine gU (cQ h0) λp r z0=>?_;subst z0;exact c77 hm h hb hl
theorem Gq(h0:bs≠[]):(jl l bs).length+1<=qf bs:=by
 refine gU (cQ h0) λp r z0=>?_;subst z0;exact Gn
theorem Uw(h0:bs≠[]):(jl af bs).length+1=qf bs:=by
 refine gU (cQ h0) λp r z0=>?_;subst z0;exact Uv
theorem R6(h0:a++[z]≠[])(hb:∀b∈a++[z],b≠[]):(jl l (a++[z])).getLast? =z.getLast?:=by
 refine gU (cQ h0) λp r e=>?_;rw[e] at hb ⊢;rw[<-lst_snoc e.symm];exact Gj hb
theorem Ee{ts:ag Tk}:tt ts=qf (ts.map (·.1)):=by unfold tt qf;rw[ba];rfl
theorem c53(hm:Cl M)(h:Wv d x)(hd:d<=3):∃k,k<=d/\CN (n+4) 53 [.t x.v] M=.ok (.t (.int (k:aj))) M:=by
 have Uh:M9 d (4^(d+1)) λa=>[i3 x.v a]:=h.Uh;refine xn (Uh (n:=n) (a:=0) (k:=0) (M:=M) (line:=[]) (v0:=x.v) (x:=ac) (y:=ac) (z:=ac) hm (show 0+4*d<500 by omega)) λm k x1 y1 z1 h1 h2 h3=>?_
 have h4:4^(d+1)<=4^4:=qI (by decide) (bI hd)
 obtain⟨f,ef⟩ :∃f,vp=(f+1)+m:=⟨vp-1-m,yR (ai (ai h1 h4) (by decide))⟩
 have e:=h3 (f+1) _ (gA (CN (n+3)) (dT Od 2) f (Ou x.v M.length k x1 y1 z1) (M++[TL []]) [.b af] (RP (r7 rfl) (by decide)))
 rw[<-ef] at e;exact⟨k,ai h2 (by rw[bM,aj.zero_max];exact aP d),bg (n+3) 53 [.t x.v] M rfl rfl [.v _,.v _,.l _,.s _] uq (wV rfl) e (gk hm rfl)⟩
theorem Gr(h:Wv d x):x.ts l≠[]:=(h.last l).elim (λq9=>fJ q9 λt e=>e▸bf _ _) λq9=>dZ q9 λa w e Z=>e▸cz _ (bf _ _)
theorem w6(h:Wv d x)(hd:d<=3):tt (x.ts l)<=10496:=ai (h.tt l) (cm 41 (qI (by decide) (bI hd)))
theorem Gs(h:Wv d x):R1 (x.ts l,wO l x):=by
 have g:=Nu (l:=l) (ps:=(x.ts l).map λt=>([t],t.1)) (λe=>Gr h (kZ.mp e)) (λz m=>by
  refine bH (aT.mp m) λt ht z0=>?_;subst z0;exact Ab (h.gt l t ht)) ((h.last l).imp (λ⟨t,e⟩=>⟨([t],t.1),by rw[e];rfl⟩) λ⟨a,w,e,hw⟩=>⟨a.map λt=>([t],t.1),_,by rw[e,br];rfl,hw⟩)
 rw[gS,ba,show(x.ts l).flatMap (λt=>(([t]:ag Tk),t.1).1)=x.ts l from(z9 (f:=id)).trans (acU _)] at g
 exact g
theorem Nv(h:Wv d x):(wO l x).length+1<=tt (x.ts l):=by
 rw[Ee];exact Gq λe=>Gr h (kZ.mp e)
theorem ack(h:Wv d x):(wO ae x).length<=(wO af x).length:=by
 have h1:=Nv (l:=ae) h;have h2:(wO af x).length+1=tt (x.ts af):=by rw[Ee];exact Uw λe=>Gr h (kZ.mp e)
 have:=h.le
 omega
theorem c79(hm:Cl M)(h:Wv 3 x):CN (n+14) 79 [.t x.v,.t (.bool l)] M=.ok (.t (.bytes (wO l x))) M:=by
 refine bH (c53 (n:=n+9) hm h (aP 3)) λk hk e53=>?_;refine bH h.knd λkd hkd hks=>?_;have hl3:=w6 (l:=l) h (aP 3);have e75:=h.lay l (n:=n+1) (M:=M++[TL []]) (j:=M.length) (a8:=[]) hm.tl (r7 rfl) (by
  rw[c0,bM];exact ai Ea (ai hl3 (by decide)))
 rw[sY rfl,gx] at e75;have Yz:=R5 (n:=n+10) (l:=l) (v:=.m M.length) (M:=M++[TL (tb (x.ts l))]) (bs:=(x.ts l).map (·.1)) hm.tl (.inr ⟨_,rfl,by rw[r7 rfl];unfold tb;rw[ba];rfl⟩) (λe=>Gr h (kZ.mp e)) (λb m=>by
  refine bH (aT.mp m) λt ht z0=>?_;subst z0;exact(h.gt l t ht).1) (by rw[<-Ee];exact ai hl3 (by decide))
 exact bg (n+13) 79 [.t x.v,.t (.bool l)] M rfl rfl [.v _,.b af,.v _,.v _,.b ae,.v _,.v _,.s _] e53 (yG (l:=40) (ai hk (by decide))) (nl rfl) (hkd hm.tl) (av (λb=>aa (!b)) (aD.mpr hks)) e75 Yz (gk hm rfl)
end
noncomputable def oW(l:aW)(w:ag aj)(xs:ag VD):ag Nat:=jl l (xs.map (wO l)++[w])
noncomputable def tl(l:aW):ag Nat:=if l then[] else[10]
noncomputable def Ux(l:aW)(xs:ag VD):LV:=xs.map λx=>(x.ts l,x.u l)
noncomputable def rdN(l:aW)(w:ag aj)(xs:ag VD):I4:=.T1 w (Ux l xs)
def ROk(op:I4)(b:ag aj):Prop:=b≠[]/\∀R,(m7 b=af\/Ia R)->∃m,(m=R\/m=10::R)/\∀ws,kQ ws->RdO op (ws++(b++R)) m
noncomputable def I7(w:ag aj)(xs:ag VD):T:=xi w (xs.map VD.v)
section
variable{n k:aj}{m M:Mu}{w z:ag aj}{l:aW}{C:Calls}{v:PV}{a:ag (ag aj)}{xs:ag VD}
theorem Xq(h:uo w=.none):(w,m5 w)=wt w:=av (w,·) (funext λp=>oV h p)
theorem Uy(hr:um w)(h0:w≠[])(h:uo w=.none):Gc (wt w):=Xq h▸tA hr h0
theorem Cu.one(hm:Cl M):Cu w M.length (M.length+1) λb=>M++[cur w b] where
 at_ b:=r7 rfl
 set a b:=sY rfl
 len b:=by rw[ah];rfl
 cl b:=aE.mpr λo h=>by
  rcases bt.mp h with h |h
  ·exact MO.up (by rw[ah];exact aw ..) (aE.mp hm o h)
  ·rw[aC.mp h];rfl
theorem Uz{k l:aj}(h:k=l):eC .eq (.t (.int (k:aj))) (.t (.int (l:aj))) m=aa true:=pP (av kb h)
theorem c89(hm:Cl M)(h:ur w):CN (n+7) 89 [.t (.str w)] M=.ok (.t (.bytes w)) M:=by
 have hl:w.length<=bp:=ai h.len (by decide)
 have e1:=ju (C:=CN (n+6)) (elt:=.bi .ord [.au 3]) (dN:=[.cmp .lt (.bi .ord [.au 3]) (.c (.int 256))]) (slot:=3) (it:=.name 0) (au:=[aa (.t (.str w)),ac,ac,ac,ac,ac]) (mu:=M) (M:=M) (gq:=[aa (.t (.str w)),ac,ac,ac,ac,ac]) (λc=>.str [c]) (λc:aj=>.int (c:aj)) (l:=w) rfl hm hl λc hc a8=>
  ⟨wZ (DL (CN (n+6)) (.cmp .lt (.bi .ord [.au 3]) (.c (.int 256))) [aa (.t (.str w)),ac,ac,aa (.t (.str [c])),ac,ac] (M++[TL a8]) [.a,.b ae] (sV (l:=256) (h.lt c hc))),gJ (CN (n+6)) (.bi .ord [.au 3]) [aa (.t (.str w)),ac,ac,aa (.t (.str [c])),ac,ac] (M++[TL a8]) [.a]⟩
 have z:=Cu.one (w:=w) hm;have e6:=FO (r:=[]) h.T9 h.ne nofun (n:=n) (a:=0) (ws:=[]) z hl nofun (aH w).symm
 rw[oV h.num] at e6;exact bg (n+6) 89 [.t (.str w)] M rfl rfl [.v _,.v _,.v _,.v _,.v _,.b ae,.v _,.v _,.a,.v _,.v _,.b ae,.s _] e1 (zG h.lt hl) (abP hl) (jU hl) (Xc hl) (Uz rfl) e6 (zM (z.cl _) h.op) z.f1 (Xc hl) (Uz (by show 0+0+w.length=w.length;rw[aj.add_zero,bM])) (gk hm rfl)
theorem yK{C:Calls}{l:Loc}{m m1 m2:Mu}{e1 e2:E}{x y:PV}{p q:ag T}(h:ev C e1 l m=.ok x m1)(g:ev C e2 l m1=.ok y m2)(hx:look x m2=aa (.list p))(hy:look y m2=aa (.list q))(hl:p.length+q.length<=bp):ev C (.sj e1 e2) l m=.ok (.m m2.length) (m2++[TL (p++q)]):=by
 show(ev C e1 l m).bind _=_;rw[h];show(ev C e2 l m1).bind _=_;rw[g];show dO ((look x m2).bind T.l?) (λl=>dO ((look y m2).bind T.l?) λl'=>if l.length+l'.length<=bp then Res.ok (PV.m m2.length) (m2++[.list ((l++l').map .t)]) else .aK)=_
 rw[hx,hy];exact aA hl
theorem xC{a b:ag aj}(h:a.length+b.length<=bp):k9 .add (.t (.bytes a)) (.t (.bytes b)) m=.ok (.t (.bytes (a++b))) m:=aA (by rw[ah];exact h)
theorem Gu{a b:ag (ag aj)}:qf (a++b)=qf a+qf b:=by unfold qf;rw[br,SN]
theorem Gv{α:Type}{f:α->ag aj}{k:aj}{l:ag α}(h:∀x∈l,(f x).length+1<=k):qf (l.map f)<=k*l.length:=by
 induction l with
 |nil=>exact cF _
 |cons x l ih=>
  show(f x).length+1+qf (l.map f)<=_;rw[aO,oZ,bB];exact cG (ih λx m=>h x (.tail _ m)) (h x (.head _))
theorem Gw(hw:ur w)(hx:∀x∈xs,Wv 3 x)(hl:xs.length<=3):qf (xs.map (wO l)++[w])<=31500:=by
 have h1:=Gv (f:=wO l) λx m=>ai (Nv (l:=l) (hx x m)) (w6 (hx x m) (aP 3));have h2:=hw.len;rw[Gu];show _+(w.length+1+0)<=_;have:=cm 10496 hl
 omega
theorem Nw(hw:ur w)(hx:∀x∈xs,Wv 3 x):∀b∈xs.map (wO l)++[w],b≠[]:=λb m=>by
 rcases bt.mp m with m |m
 ·refine bH (aT.mp m) λx hxm z0=>?_;subst z0
  exact(Gs (hx x hxm)).2.1
 ·rw[aC.mp m];exact hw.ne
theorem kE{α:Type}{a:ag α}{z:α}:a++[z]≠[]:=cz _ (bf _ _)
theorem Cf(hw:ur w)(hx:∀x∈xs,Wv 3 x)(hl:xs.length<=3):(oW l w xs).length<=31499:=bU (ai (Gq kE) (Gw hw hx hl))
theorem acm(hm:Cl M)(hw:ur w)(hx:∀x∈xs,Wv 3 x)(hl:xs.length<=3):CN (n+15) 91 [.t (I7 w xs),.t (.bool l)] M=.ok (.t (.bytes (oW l w xs++tl l))) M:=by
 have e2:=ju (C:=CN (n+14)) (elt:=.call 79 [.au 4,.au 1]) (dN:=[]) (slot:=4) (it:=.val (.attr (.au 0) 9)) (au:=[aa (.t (I7 w xs)),aa (.t (.bool l)),ac,ac,ac,ac,ac]) (mu:=M) (M:=M) (gq:=[aa (.t (I7 w xs)),aa (.t (.bool l)),ac,ac,ac,ac,ac]) VD.v (λx=>.bytes (wO l x)) (l:=xs) rfl hm (ai hl (by decide)) λx hxm a8=>
  ⟨rfl,gJ (CN (n+14)) (.call 79 [.au 4,.au 1]) [aa (.t (I7 w xs)),aa (.t (.bool l)),ac,ac,aa (.t x.v),ac,ac] (M++[TL a8]) [.v _] (c79 hm.tl (hx x hxm))⟩
 have e3:ev (CN (n+14)) (.list [.call 89 [.attr (.au 0) 8]]) [aa (.t (I7 w xs)),aa (.t (.bool l)),ac,ac,ac,ac,ac] M=.ok (.t (.list [.bytes w])) M:=
  gJ (CN (n+14)) (.list [.call 89 [.attr (.au 0) 8]]) [aa (.t (I7 w xs)),aa (.t (.bool l)),ac,ac,ac,ac,ac] M [.a,.v _,.a] (c89 (n:=n+7) hm hw)
 have e4:=yK e2 e3 rfl rfl (by rw[aq];exact ai (bN hl 1) (by decide))
 rw[show xs.map (λx=>T.bytes (wO l x))++[T.bytes w]=(xs.map (wO l)++[w]).map T.bytes by rw[br,ba];rfl] at e4
 have e5:=R5 (n:=n+11) (l:=l) (M:=M++[TL ((xs.map (wO l)++[w]).map T.bytes)]) (v:=.m M.length) hm.tl (.inr ⟨_,rfl,r7 rfl⟩) kE (Nw hw hx) (ai (Gw hw hx hl) (by decide))
 cases l with
 |true=>
  rw[show oW ae w xs++tl ae=oW ae w xs from aH _]
  exact bg (n+14) 91 [.t (I7 w xs),.t (.bool ae)] M rfl rfl [.a,.b af,.v _,.v _,.a,.s _] (nv hw.bi) e4 e5 (gk hm rfl)
 |false=>exact bg (n+14) 91 [.t (I7 w xs),.t (.bool af)] M rfl rfl [.a,.b af,.v _,.v _,.a,.v _,.s _] (nv hw.bi) e4 e5 (xC (a:=oW af w xs) (b:=[10]) (ai (bI (Cf hw hx hl)) (by decide))) (gk hm rfl)
theorem Xr(hw:ur w)(hx:∀x∈xs,Wv 3 x):R1 (tW (Ux l xs)++[wt w],oW l w xs):=by
 have g:=Nu (l:=l) (ps:=xs.map (λx=>(x.ts l,wO l x))++[([wt w],w)]) kE (λz m=>by
  rcases bt.mp m with m |m
  ·refine bH (aT.mp m) λv hv z0=>?_;subst z0
   exact Gs (hx v hv)
  ·rw[aC.mp m];exact Ab (Uy hw.T9 hw.ne hw.num)) (.inr ⟨_,_,rfl,λe=>aQ (hw.T9 47 (by rw[show w=[47] from e];exact .head _)) (by decide)⟩)
 rw[qR,gS,br,ba] at g;unfold Ux tW;rw[gS];exact g
theorem Nx(hw:ur w)(hx:∀x∈xs,Wv 3 x):m7 (oW l w xs)=true:=by
 unfold m7 oW;rw[R6 kE (Nw hw hx),fu hw.ne];show(sW (w.getLast hw.ne:aj)||_)=ae;rw[hw.T9 _ (vf hw.ne)];rfl
theorem acn(hw:ur w)(hx:∀x∈xs,Wv 3 x)(hl:xs.length<=3):ROk (rdN l w xs) (oW l w xs++tl l):=by
 refine nY (Xr (l:=l) hw hx) λg1 g2 g3=>?_;refine⟨λe=>g2 (ee.mp e).1,λR hR=>⟨tl l++R,by cases l;exact .inr rfl;exact .inl rfl,λws hws=>⟨?_,⟨hw.op,hw.bi,hw.lt,ai hw.len (by decide),λz hz=>?_⟩,by unfold Ux;rw[aq];exact ax hl (by decide)⟩⟩⟩
 ·rw[az]
  refine Eb hws g1 (g3 _ (.inr ?_));cases l with
  |false=>exact λc r e=>by cases e;decide
  |true=>
   refine hR.elim (λh=>?_) id;rw[show oW ae w xs++tl ae=oW ae w xs from aH _,Nx hw hx] at h
   cases h
 ·refine bH (aT.mp hz) λv hv z0=>?_;subst z0
  exact⟨(hx v hv).rd l,ai Ea (ai (w6 (hx v hv) (aP 3)) (by decide))⟩
end
noncomputable def k5:ag Nat:=[10,69,73,10]
noncomputable def Gx(l:aW)(kx:qE):ag (ag aj):=(qc::(ord l kx).flatMap λx=>[oN x.1,wO l x.2])++[uR]
noncomputable def Ny(l:aW)(kx:qE):ag Nat:=jl l (Gx l kx)
noncomputable def Cv(l:aW)(kx:qE)(o:ag aj):ag Nat:=Ny l kx++[32]++o++k5
noncomputable def Cg(kx:qE)(o:ag aj):T:=BZ (cD VD.v kx) o
structure qF(kx:qE):Prop where
 (len:kx.length<=2) (nd:(kx.map dQ).Nodup) (ok:∀x∈kx,∀d,Uq (d+1) x)
section
variable{n j k e:aj}{m M G:Mu}{w z o:ag aj}{l:aW}{C:Calls}{v:PV}{kx r:qE}{a8:ag (ag aj)}{u:ar PV}
theorem R7{s:ag aj}{v' t':T}{t:aj->T}{u:aW->T}:wO l ⟨v',λZ=>[(oN s,t)],u,t'⟩=oN s:=aH _
noncomputable abbrev Ow(kx:qE)(o:ag aj)(l:aW)(q:aj)(u:ar PV):Loc:=[aa (.t (Cg kx o)),aa (.t (.bool l)),aa (.t (.dict (ec (cD VD.v kx)))),aa (.t (.inst 3 [.bytes o,.bool af])),aa (.m q),u,ac,ac,ac,ac,ac,ac]
theorem aiC(hm:Cl M)(h:qF kx)(hr:∀x∈r,x∈kx):∀{G a8 u},Cl (M++G)->a8.length+2*r.length<=1000->∃G' u',Cl (M++G')/\
 forL 5 (execs (CN (n+14)) (ip (dT b90 2))) (r.map λx=>T.str x.1) (Ow kx o l (M++G).length u) (M++G++[TL (a8.map .bytes)])=.ok (.next,Ow kx o l (M++G').length u') (M++G'++[TL ((a8++r.flatMap λx=>[oN x.1,wO l x.2]).map .bytes)]):=by
 induction r with
 |nil=>exact λ{G a8 u} hG Z=>⟨G,u,hG,by rw[show a8++([]:qE).flatMap (λx=>[oN x.1,wO l x.2])=a8 from aH _];rfl⟩
 |cons x r ih=>
  intro G a8 u hG hl;have hl:a8.length+2+2*r.length<=1000:=by rw[aO] at hl;omega
  refine ud (h.ok x (hr x (.head _)) 2) λk1 k2 k3 k4=>?_;have hG1:Cl (M++G++[TL (a8.map .bytes)]):=hG.tl;have e1:=c79 (n:=n) (l:=l) hG1 (uV (d:=3) k1 k2);rw[R7] at e1;have sb:=lF (m:=M++G++[TL (a8.map .bytes)]) (k:=x.1) (v:=x.2.v) (l:=cD VD.v kx) (by show((cD VD.v kx).map dQ).Nodup;rw[kJ];exact h.nd) (aT.mpr ⟨x,hr x (.head _),rfl⟩)
  have e3:ev (CN (n+14)) (.list [.call 79 [.new 2 [.au 5],.au 1],.call 79 [.sub (.au 2) (.au 5),.au 1]]) (upd (Ow kx o l (M++G).length u) 5 (.t (.str x.1))) (M++G++[TL (a8.map .bytes)])=.ok (.t (.list [.bytes (oN x.1),.bytes (wO l x.2)])) (M++G++[TL (a8.map .bytes)]):=
   gJ (CN (n+14)) (.list [.call 79 [.new 2 [.au 5],.au 1],.call 79 [.sub (.au 2) (.au 5),.au 1]]) (upd (Ow kx o l (M++G).length u) 5 (.t (.str x.1))) (M++G++[TL (a8.map .bytes)]) [.v _,.v _,.v _,.v _,.v _] (Mv hG1) e1 sb (c79 hG1 k4) Im
  have e4:=yK (C:=CN (n+14)) (e1:=.au 4) (l:=upd (Ow kx o l (M++G).length u) 5 (.t (.str x.1))) (p:=a8.map .bytes) rfl e3 (Mk rfl) rfl (by rw[aq];exact ai (ai (aw ..) hl) (by decide))
  rw[show a8.map T.bytes++[T.bytes (oN x.1),T.bytes (wO l x.2)]=(a8++[oN x.1,wO l x.2]).map T.bytes by rw[br];rfl] at e4
  have ea:M++G++[TL (a8.map .bytes)]=M++(G++[TL (a8.map .bytes)]):=az ..;refine dZ (ih (λy m=>hr y (.tail _ m)) (G:=G++[TL (a8.map .bytes)]) (a8:=a8++[oN x.1,wO l x.2]) (u:=aa (.t (.str x.1))) (by rw[<-ea];exact hG1) (by rw[ah];exact hl)) λG' u' h1 h2=>?_
  rw[<-ea,az a8] at h2;exact⟨G',u',h1,iJ (CN (n+14)) (ip (dT b90 2)) 5 (Ow kx o l (M++G).length u) (M++G++[TL (a8.map .bytes)]) (.str x.1) _ [.v _] e4 _ h2⟩
theorem Xs(h:qF kx):∀b∈Gx l kx,b≠[]:=λb m=>by
 rcases bt.mp m with m |m
 ·rcases aJ.mp m with rfl |m
  ·decide
  ·refine bH (gT.mp m) λx hx m=>?_
   rcases aJ.mp m with rfl |m
   ·exact bf _ _
   ·rw[aC.mp m]
    exact(Gs (h.ok x (f6.mem_iff.mp hx) 2).2.2.2).2.1
 ·rw[aC.mp m];decide
theorem Gy(h:qF kx):qf (Gx l kx)<=21100:=by
 have e:∀{r:qE},(∀x∈r,Uq 3 x)->qf (r.flatMap λx=>[oN x.1,wO l x.2])<=10510*r.length:=λ{r}=>by
  induction r with
  |nil=>exact λZ=>cF _
  |cons x r ih=>
   intro hx;refine ud (hx x (.head _)) λk1 k2 k3 k4=>?_;have h1:=D8 k2;have h2:=ai (Nv (l:=l) k4) (w6 k4 (aP 3));have h3:=ih λy m=>hx y (.tail _ m);show(oN x.1).length+1+((wO l x.2).length+1+qf (r.flatMap λx=>[oN x.1,wO l x.2]))<=_;rw(config:={}) [aO];omega
 have h1:=e (r:=ord l kx) λx m=>h.ok x (f6.mem_iff.mp m) 2;rw[f6.length_eq] at h1;have:=h.len
 unfold Gx;rw[Gu];show 2+1+qf _+(2+1+0)<=_;omega
theorem Gz(h:qF kx):(Ny l kx).length<=21099:=bU (ai (Gq kE) (Gy h))
theorem UA{x y:ag aj}(h:x≠y):eC .ne (.t (.bytes x)) (.t (.bytes y)) m=aa true:=av (λb=>aa (!b)) (aD.mpr h)
theorem c90(hm:Cl M)(h:qF kx)(uX:o.length<=100)(he:endAt (o++k5) e=ae)(iZ:∀k,k<e->endAt (o++k5) k=af)(hle:e<=o.length):
 CN (n+15) 90 [.t (Cg kx o),.t (.bool l)] M=if e<o.length then .exc M else .ok (.t (.bytes (Cv l kx o))) M:=by
 have kit:io (CN (n+14)) (.val (.qK (.au 1) (.bi .sorted [.au 2]) (.au 2))) (Ow kx o l M.length ac) (M++[TL [.bytes qc]])=.ok ((ord l kx).map λx=>T.str x.1,Ow kx o l M.length ac) (M++[TL [.bytes qc]]):=by
  have so:=pE (m:=M++[TL [.bytes qc]]) (kv:=cD VD.v kx) (by rw[mw];exact ax h.len (by decide))
  rw[pD,show(cD VD.v (gK kx)).map (λx=>T.str x.1)=(gK kx).map (λx=>T.str x.1) from ba] at so
  cases l with
  |true=>exact lN (gJ (CN (n+14)) (.qK (.au 1) (.bi .sorted [.au 2]) (.au 2)) (Ow kx o ae M.length ac) (M++[TL [.bytes qc]]) [.a,.v _] so) rfl
  |false=>exact lN (gJ (CN (n+14)) (.qK (.au 1) (.bi .sorted [.au 2]) (.au 2)) (Ow kx o af M.length ac) (M++[TL [.bytes qc]]) [.a]) (av aa (ba.trans ba))
 refine dZ (aiC (n:=n) (o:=o) (l:=l) (r:=ord l kx) (G:=[]) (a8:=[qc]) (u:=ac) hm h (λx m=>f6.mem_iff.mp m) (by rw[aH];exact hm) (by rw[f6.length_eq];exact ai (bq (cm 2 h.len) 1) (by decide))) λG u hG lp=>?_
 rw[aH] at lp;have tl:=Gy (l:=l) h;have bl:=uW (bs:=Gx l kx);have tX:=BO (C:=CN (n+14)) (j:=(M++G).length) (M:=M++G) (xs:=((qc::(ord l kx).flatMap λx=>[oN x.1,wO l x.2])).map .bytes) (v:=.bytes uR) rfl (by
  rw[aq];unfold Gx at bl tl;rw[ah] at bl;exact ax (ai (ai (aw ..) bl) tl) (by decide))
 rw[show(qc::(ord l kx).flatMap λx=>[oN x.1,wO l x.2]).map T.bytes++[T.bytes uR]=(Gx l kx).map T.bytes by unfold Gx;rw[br];rfl] at tX
 have hX:Cl (M++G++[TL ((Gx l kx).map .bytes)]):=hG.tl;have Yz:=R5 (n:=n+11) (l:=l) (v:=.m (M++G).length) (bs:=Gx l kx) hX (.inr ⟨_,rfl,r7 rfl⟩) kE (Xs h) (ai tl (by decide))
 have rl:=Gz (l:=l) h;have l1:(Ny l kx).length+1<=bp:=ai (bI rl) (by decide)
 have l2:(Ny l kx++[32]).length+o.length<=21200:=by rw[ah];exact cG (bI rl) uX
 have l3:(Ny l kx++[32]++o).length+k5.length<=21204:=by rw[ah];exact bN l2 4
 have hD:(Cv l kx o).length<=bp:=by unfold Cv;rw[ah];exact ai l3 (by decide)
 have z:=Cu.one (w:=Cv l kx o) hX;have e86:=c86 (n:=n+11) (a:=(Ny l kx).length) (t:=32) (s:=o++k5) z hD (by unfold Cv;rw[az,az,lG];rfl) rfl he iZ
 have cl:d7 M.length (M++G++[TL ((Gx l kx).map .bytes)]++[cur (Cv l kx o) ((Ny l kx).length+1+e+3)])=aa M:=by rw[az,az];exact gk hm rfl
 by_cases hk:e<o.length
 ·rw[aA hk]
  exact bg (n+14) 90 [.t (Cg kx o),.t (.bool l)] M rfl rfl [.a,.v _,.l _,.k _,.v _,.v _,.v _,.a,.v _,.v _,.v _,.v _,.v _,.a,.b ae,.s _] (wV rfl) (ix kit lp) (kL rfl rfl) tX Yz (xC (b:=[32]) l1) (xC (ai l2 (by decide))) (xC (b:=k5) (ai l3 (by decide))) (jU (dq l1)) (TZ hD) e86 (UA λq=>by have:=av jx q;rw[f9,ah] at this;omega) cl
 ·rw[aL hk]
  cases gy hle (cH hk);exact bg (n+14) 90 [.t (Cg kx o),.t (.bool l)] M rfl rfl [.a,.v _,.l _,.k _,.v _,.v _,.v _,.a,.v _,.v _,.v _,.v _,.v _,.a,.b af,.s _] (wV rfl) (ix kit lp) (kL rfl rfl) tX Yz (xC (b:=[32]) l1) (xC (ai l2 (by decide))) (xC (b:=k5) (ai l3 (by decide))) (jU (dq l1)) (TZ hD) e86 (FR qi) cl
end
noncomputable def Nz(l:aW)(kx:qE):DV:=(ord l kx).map λx=>((Gf x.1,x.1),(x.2.ts l,x.2.u l))
structure OD where
 (v:T) (b:aW->ag aj) (r:aW->I4) (t:T)
structure Wo(x:OD):Prop where
 c91:∀{l n M},Cl M->CN (n+16) 91 [.t x.v,.t (.bool l)] M=.ok (.t (.bytes (x.b l))) M
 Xt:∀l,ROk (x.r l) (x.b l)
 pl:m7 (x.b af)=af
 len:∀l,(x.b l).length+1<=31600
 tx:∀{n M},Cl M->CN (n+6) 81 [.t x.v] M=.ok (.t x.t) M
 back:∀{l n M},Cl M->CN (n+6) 81 [.t (Io (x.r l))] M=.ok (.t x.t) M
 flat:T.flat 19 x.t=ae
 knd:EQ x.v=14
 mea:∀l r,tv (x.r l::r)<=tv r+4
section
variable{n k e:aj}{m M:Mu}{w z o R:ag aj}{l:aW}{C:Calls}{kx:qE}{xs:ag VD}
theorem Ef:endAt (o++(k5++R)) o.length=true:=by
 show Ij ((o++(k5++R)).drop o.length)=ae;rw[lG];rfl
theorem R8(h:k<o.length):endAt (o++(k5++R)) k=endAt (o++k5) k:=by
 show Ij ((o++(k5++R)).drop k)=Ij ((o++k5).drop k);rw[xf (a9 h),xf (a9 h)];have Bk:0<(o.drop k).length:=by rw[dD];exact ON h
 cases h1:o.drop k with
 |nil=>rw[h1] at Bk;cases Bk
 |cons a t=>
  cases t with
  |nil=>rfl
  |cons b t=>
   cases t with
   |nil=>rfl
   |cons c t=>
    cases t with
    |nil=>rfl
    |cons d t=>rfl
theorem aco(h:qF kx)(iZ:∀k,k<o.length->endAt (o++k5) k=af):ROk (.Ry (Nz l kx) o) (Cv l kx o):=by
 have ho:∀x∈ord l kx,Uq 3 x:=λx m=>h.ok x (f6.mem_iff.mp m) 2;have hi:Yv (Nz l kx):=⟨λy hy=>by
  refine bH (aT.mp hy) λx hm z0=>?_;subst z0;refine ud (ho x hm) λZ Z k3 k4=>?_;exact⟨k4.rd l,λp=>rfl,k4.nn k3 l,ai Ea (ai (w6 k4 (aP 3)) (by decide))⟩,Aa h.nd (f:=λx=>x.u l) (by unfold jB Nz;rw[ba];rfl),by unfold Nz;rw[aq,f6.length_eq];exact ax (cm 2 h.len) (by decide)⟩
 have gw:∀{w},w=qc\/w=uR->R1 ([wt w],w):=λe=>Ab (Uy (by rcases e with rfl |rfl<;>(unfold um;decide)) (by rcases e with rfl |rfl<;>decide) (by rcases e with rfl |rfl<;>exact mq (by decide)))
 have g:=Nu (l:=l) (ps:=(([wt qc],qc)::(ord l kx).flatMap λx=>[([Gf x.1],oN x.1),(x.2.ts l,wO l x.2)])++[([wt uR],uR)]) kE (λz m=>by
  rcases bt.mp m with m |m
  ·rcases aJ.mp m with rfl |m
   ·exact gw (.inl rfl)
   ·refine bH (gT.mp m) λx hx m=>?_
    refine ud (ho x hx) λk1 k2 Z k4=>?_;rcases aJ.mp m with rfl |m
    ·exact Ab (zX k1 (ax k2 (by decide)))
    ·rw[aC.mp m];exact Gs k4
  ·rw[aC.mp m];exact gw (.inr rfl)) (.inr ⟨_,_,rfl,by decide⟩)
 have e2:((([wt qc],qc)::(ord l kx).flatMap λx=>[(([Gf x.1]:ag Tk),oN x.1),(x.2.ts l,wO l x.2)])++[([wt uR],uR)]).map (·.2)=Gx l kx:=by
  unfold Gx;rw[br,bX,ag.map_flatMap];rfl
 have e1:((([wt qc],qc)::(ord l kx).flatMap λx=>[(([Gf x.1]:ag Tk),oN x.1),(x.2.ts l,wO l x.2)])++[([wt uR],uR)]).flatMap (·.1)=wt qc::(ti (Nz l kx)++[wt uR]):=by
  unfold Nz ti;rw[qR,dY,gS,ag.flatMap_assoc];show wt qc::((ord l kx).flatMap (λx=>[Gf x.1]++(x.2.ts l++[]))++[wt uR])=_;refine av (λy=>wt qc::(y++[wt uR])) (av ((ord l kx).flatMap ·) (funext λx=>?_));rw[aH];rfl
 rw[e2,e1] at g;refine nY g λg1 g2 g3=>?_;refine⟨λe=>g2 (ee.mp (ee.mp (ee.mp e).1).1).1,λR Z=>⟨10::R,.inr rfl,λws hws=>⟨o++(k5++R),o.length,?_,Ef,λk hk=>by rw[R8 hk];exact iZ k hk,qi.symm,?_,hi⟩⟩⟩
 ·refine Eb hws g1 ?_
  unfold Cv;rw[az,az,az];exact g3 _ (.inr Nt)
 ·rw[<-dP,lG];rfl
theorem c81{α:Type}(f g:α->T){l:ag α}(h:∀x∈l,Ug 3 (f x) (g x))(hl:l.length<=1000)(hm:Cl M):CN (n+6) 81 [.t (xi w (l.map f))] M=.ok (.t (.tup [.str w,.tup (l.map g)])) M:=by
 have pK:l.length<=bp:=ai hl (by decide)
 have e:=ju (C:=CN (n+5)) (elt:=.call 51 [.au 1]) (dN:=[]) (slot:=1) (it:=.val (.attr (.au 0) 9)) (au:=[aa (.t (xi w (l.map f))),ac,ac,ac]) (mu:=M) (M:=M) (gq:=[aa (.t (xi w (l.map f))),ac,ac,ac]) f g (l:=l) rfl hm pK λx hx a8=>
  ⟨rfl,gJ (CN (n+5)) (.call 51 [.au 1]) [aa (.t (xi w (l.map f))),aa (.t (f x)),ac,ac] (M++[TL a8]) [.v _] (h x hx hm.tl)⟩
 exact bg (n+5) 81 [.t (xi w (l.map f))] M rfl rfl [.a,.v _,.v _,.v _,.s _] e (Xl (by rw[aq];exact pK)) uq (bx hm rfl)
theorem NA{x:ag aj}:m7 (x++[10])=false:=by
 unfold m7;rw[GS];refine df.mpr ⟨rfl,aD.mpr λe=>?_⟩;have:=av Yd e
 rw[GS] at this;cases (this)
theorem Eg(hw:ur w)(hx:∀x∈xs,Wv 3 x)(hl:xs.length<=3):Wo ⟨I7 w xs,λl=>oW l w xs++tl l,λl=>rdN l w xs,.tup [.str w,.tup (xs.map VD.t)]⟩ where
 c91 hm:=acm hm hw hx hl
 Xt l:=acn hw hx hl
 pl:=NA
 len l:=by
  have:=Cf (l:=l) hw hx hl
  have:(tl l).length<=1:=by cases l<;>decide
  rw[ah];omega
 tx hm:=c81 VD.v VD.t (λx m=>(hx x m).tx) (ai hl (by decide)) hm
 back {l n M} hm:=by
  have e:=c81 (n:=n) (w:=w) (λx=>x.u l) VD.t (λx m=>(hx x m).back l) (ai hl (by decide)) hm
  rw[show xi w (xs.map λx=>x.u l)=Io (rdN l w xs) by show _=xi w ((Ux l xs).map (·.2));unfold Ux;rw[ba];rfl] at e
  exact e
 flat:=by
  show(ae&&((xs.map VD.t).all (T.flat 17)&&ae))=ae;rw[aE.mpr λt m=>by
   refine bH (aT.mp m) λx hm z0=>?_;subst z0;exact(hx x hm).flat 9];rfl
 knd:=rfl
 mea l r:=by
  show tv r+1+(Ux l xs).length<=_;unfold Ux;rw[aq];omega
theorem acp(hm:Cl M)(h:qF kx)(uX:o.length<=100)(he:endAt (o++k5) e=ae)(iZ:∀k,k<e->endAt (o++k5) k=af)(hle:e<=o.length):
 CN (n+16) 91 [.t (Cg kx o),.t (.bool l)] M=if e<o.length then .exc M else .ok (.t (.bytes (Cv l kx o))) M:=by
 have e90:=c90 (n:=n) (l:=l) hm h uX he iZ hle
 by_cases hk:e<o.length
 ·rw[aA hk] at e90 ⊢
  exact bg (n+15) 91 [.t (Cg kx o),.t (.bool l)] M rfl rfl [.a,.b ae,.v _,.s _] rfl e90 (bx hm rfl)
 ·rw[aL hk] at e90 ⊢
  exact bg (n+15) 91 [.t (Cg kx o),.t (.bool l)] M rfl rfl [.a,.b ae,.v _,.s _] rfl e90 (bx hm rfl)
theorem Xu(h:qF kx)(R9:∀c∈o,c<256)(uX:o.length<=18)(iZ:∀k,k<o.length->endAt (o++k5) k=af):Wo ⟨Cg kx o,λl=>Cv l kx o,λl=>.Ry (Nz l kx) o,.tup [.str qc,.tup [.tup (.str g9::(gK kx).map λx=>.tup [.str x.1,x.2.t]),.tup [.str qC,.bytes o]]]⟩:=
 have hd:=Gi (d:=2) (λx m=>h.ok x m 1) h.len h.nd;have hs:=Nh (d:=3) (h:=af) R9 uX;have aiF:o.length<=100:=ai uX (by decide)
 have he:endAt (o++k5) o.length=true:=by have:=Ef (o:=o) (R:=[]);rwa[aH] at this
 {c91:=λ{l n M} hm=>by
   have e:=acp (n:=n) (l:=l) hm h aiF he iZ (aP _);rw[aL (cL _)] at e;exact e
  Xt:=λl=>aco h iZ
  pl:=by
   show m7 (Ny af kx++[32]++o++([10,69,73]++[10]))=af;rw[<-az];exact NA
  len:=λl=>by
   have:=Gz (l:=l) h
   show(Ny l kx++[32]++o++k5).length+1<=_;rw[ah,ah,ah];show(Ny l kx).length+1+o.length+4+1<=_;omega
  tx:=λ{n M} hm=>c81 (n:=n) (w:=qc) (l:=[(_,_),(_,_)]) dQ ua (λx m=>(aJ.mp m).elim (λe=>e▸hd.tx) λm=>aC.mp m▸hs.tx) (show 2<=1000 by decide) hm
  back:=λ{l n M} hm=>by
   have e:=c81 (n:=n) (w:=qc) (M:=M) (l:=[(_,_),(_,_)]) dQ ua (λx m=>(aJ.mp m).elim (λe=>e▸hd.back l) λm=>aC.mp m▸hs.tx) (show 2<=1000 by decide) hm
   show CN (n+6) 81 [.t (BZ (jB (Nz l kx)) o)] M=_;rw[show BZ (jB (Nz l kx)) o=BZ (cD (λx=>x.u l) (ord l kx)) o by unfold jB Nz;rw[ba];rfl]
   exact e
  flat:=by
   have:=hd.flat 9
   show(ae&&((T.flat 17 (.tup (.str g9::(gK kx).map λx=>.tup [.str x.1,x.2.t]))&&ae)&&ae))=ae;rw[this];rfl
  knd:=rfl
  mea:=λl r=>bq (show 1<=4 by decide) _}
end
noncomputable def wC(l:aW)(ops:ag OD):ag Nat:=if l then jl ae (ops.map λx=>x.b ae) else(ops.map λx=>x.b af).flatten
noncomputable abbrev hU(ops:ag OD):T:=.list (ops.map OD.v)
noncomputable abbrev NB(ops:ag OD):T:=.list (ops.map OD.t)
section
variable{n e:aj}{m M:Mu}{b ws R:ag aj}{l:aW}{C:Calls}{ops:ag OD}{op:I4}{rest:ag I4}
theorem Ac(h:ROk op b)(hR:m7 b=af\/Ia R)(W9:∀ws,kQ ws->RC rest (ws++R))(hw:kQ ws):RC (op::rest) (ws++(b++R)):=by
 refine bH (h.2 R hR) λm hm hro=>?_;refine⟨m,hro ws hw,?_⟩;rcases hm with rfl |rfl
 ·exact W9 [] nofun
 ·exact W9 [10] λc m=>by rw[aC.mp m];decide
theorem aiG:∀{ops:ag OD}{x:OD}{ws},(∀y∈x::ops,Wo y)->kQ ws->RC ((x::ops).map λx=>x.r ae) (ws++jn ae (x.b ae) (ops.map λx=>x.b ae)):=by
 intro ops
 induction ops with
 |nil=>
  intro x ws h hw;exact Ac ((h x (.head _)).Xt ae) (.inr nofun) (λws hw=>by show kQ (ws++[]);rw[aH];exact hw) hw
 |cons y ops ih=>
  intro x ws h hw;refine gU (cQ ((h y (.tail _ (.head _))).Xt ae).1) λc r e=>?_;refine Ac ((h x (.head _)).Xt ae) (R:=Ov ae (x.b ae) (y.b ae)++(y.b ae++jt ae (y.b ae) (ops.map λx=>x.b ae))) (Ur e) (λws hw=>?_) hw;rw[<-az];exact ih (λz m=>h z (.tail _ m)) λc m=>(bt.mp m).elim (hw c) (Ce c)
theorem aiH:∀{ops:ag OD}{ws},(∀y∈ops,Wo y)->kQ ws->RC (ops.map λx=>x.r af) (ws++(ops.map λx=>x.b af).flatten):=by
 intro ops
 induction ops with
 |nil=>exact λ{ws} Z hw=>by rw[show(([]:ag OD).map λx=>x.b af).flatten=[] from rfl,aH];exact hw
 |cons x ops ih=>exact λ{ws} h hw=>Ac ((h x (.head _)).Xt af) (.inl (h x (.head _)).pl) (λws hw=>ih (λz m=>h z (.tail _ m)) hw) hw
theorem Xv(h:∀y∈ops,Wo y):RC (ops.map λx=>x.r l) (wC l ops):=by
 cases l with
 |false=>exact aiH (ws:=[]) h nofun
 |true=>
  cases ops with
  |nil=>exact λZ m=>nomatch m
  |cons x ops=>exact aiG (ws:=[]) h nofun
theorem Ae(h:∀y∈ops,Wo y)(hl:ops.length<=10):qf (ops.map λx=>x.b l)<=316000:=ai (Gv λx m=>(h x m).len l) (cm 31600 hl)
theorem GA{bs:ag (ag aj)}:bs.flatten.length<=qf bs:=by
 induction bs with
 |nil=>exact cF _
 |cons b bs ih=>show(b++bs.flatten).length<=b.length+1+qf bs;rw[ah];omega
theorem Af(h:∀y∈ops,Wo y)(hl:ops.length<=10):(wC l ops).length<=316000:=by
 cases l with
 |false=>exact ai GA (Ae h hl)
 |true=>
  cases ops with
  |nil=>exact cF _
  |cons x ops=>exact ai (dq Gn) (Ae (l:=ae) h hl)
theorem UB{n f:aj}{as:ag PV}{fn:Fn}(hf:FT f=aa fn)(ha:Md fn as=ae):CN (n+1) f as M=ends fn M.length (execs (CN n) fn.body (og fn (kM fn as)) M):=by
 rw[show CN (n+1) f as M=dO (FT f) λfn=>vr (CN n) fn as M by unfold CN;rfl,hf]
 exact aA (bO ha)
theorem YA(hm:Cl M)(h:∀y∈ops,Wo y)(hl:ops.length<=10):CN (n+17) 92 [.t (hU ops),.t (.bool l)] M=.ok (.t (.bytes (wC l ops))) M:=by
 have e1:=ju (C:=CN (n+16)) (elt:=.call 91 [.au 3,.au 1]) (dN:=[]) (slot:=3) (it:=.name 0) (au:=[aa (.t (hU ops)),aa (.t (.bool l)),ac,ac,ac,ac]) (mu:=M) (M:=M) (gq:=[aa (.t (hU ops)),aa (.t (.bool l)),ac,ac,ac,ac]) OD.v (λx=>.bytes (x.b l)) (l:=ops) rfl hm (ai hl (by decide)) λx hx a8=>
  ⟨rfl,gJ (CN (n+16)) (.call 91 [.au 3,.au 1]) [aa (.t (hU ops)),aa (.t (.bool l)),ac,aa (.t x.v),ac,ac] (M++[TL a8]) [.v _] ((h x hx).c91 hm.tl)⟩
 rw[show ops.map (λx=>T.bytes (x.b l))=(ops.map λx=>x.b l).map T.bytes from ba.symm] at e1
 have hf:=GA (bs:=ops.map λx=>x.b l);have ht:=Ae (l:=l) h hl;have ej:=Gm (C:=CN (n+16)) (M:=M) (sep:=[]) (bs:=ops.map λx=>x.b l) (v:=.t (.list ((ops.map λx=>x.b l).map .bytes))) rfl (by decide) (by rw[kR];exact ai hf (ai ht (by decide)))
 rw[kR] at ej;cases l with
 |false=>exact bg (n+16) 92 [.t (hU ops),.t (.bool af)] M rfl rfl [.v _,.a,.k _,.v _,.s _] e1 rfl ej (bx hm rfl)
 |true=>
  cases ops with
  |nil=>exact bg (n+16) 92 [.t (hU []),.t (.bool ae)] M rfl rfl [.v _,.a,.a,.b af,.k _,.v _,.s _] e1 rfl rfl ej (bx hm rfl)
  |cons x ops=>
   have Yz:=R5 (n:=n+13) (l:=ae) (M:=M) (bs:=(x::ops).map λx=>x.b ae) hm (.inl rfl) (bf _ _) (λb m=>by
    refine bH (aT.mp m) λy hy z0=>?_;subst z0;exact((h y hy).Xt ae).1) (ai ht (by decide))
   exact bg (n+16) 92 [.t (hU (x::ops)),.t (.bool ae)] M rfl rfl [.v _,.a,.a,.b ae,.v _,.s _] e1 rfl Yz (bx hm rfl)
theorem NC(hm:Cl M)(h:∀y∈ops,Wo y)(hl:ops.length<=10):CN (n+17) 92 [.t (hU ops)] M=.ok (.t (.bytes (wC af ops))) M:=by
 rw[<-YA (n:=n) (l:=af) hm h hl];exact(UB (f:=92) (as:=[.t (hU ops)]) rfl rfl).trans (UB (f:=92) (as:=[.t (hU ops),.t (.bool af)]) rfl rfl).symm
theorem acq{α:Type}(f g:α->T){l:ag α}(hk:∀x∈l,EQ (f x)=14)(h:∀x∈l,∀{n M},Cl M->CN (n+6) 81 [.t (f x)] M=.ok (.t (g x)) M)(hl:l.length<=1000)(hm:Cl M):CN (n+7) 101 [.t (.list (l.map f))] M=.ok (.t (.list (l.map g))) M:=by
 have e:=ju (C:=CN (n+6)) (elt:=.cR (.au 1) 50 []) (dN:=[]) (slot:=1) (it:=.name 0) (au:=[aa (.t (.list (l.map f))),ac,ac,ac]) (mu:=M) (M:=M) (gq:=[aa (.t (.list (l.map f))),ac,ac,ac]) f g (l:=l) rfl hm (ai hl (by decide)) λx hx a8=>
  ⟨rfl,gJ (CN (n+6)) (.cR (.au 1) 50 []) [aa (.t (.list (l.map f))),aa (.t (f x)),ac,ac] (M++[TL a8]) [.k (aa 81),.v _] (by show fq (EQ (f x)) 50=_;rw[hk x hx];rfl) (h x hx hm.tl)⟩
 exact bg (n+6) 101 [.t (.list (l.map f))] M rfl rfl [.v _,.s _] e (bx hm rfl)
theorem ND(h:∀y∈ops,Wo y)(hl:ops.length<=10)(hm:Cl M):CN (n+7) 101 [.t (hU ops)] M=.ok (.t (NB ops)) M:=acq OD.v OD.t (λx m=>(h x m).knd) (λx m=>(h x m).tx) (ai hl (by decide)) hm
theorem Xw(h:∀y∈ops,Wo y):tv (ops.map λx=>x.r l)<=4*ops.length:=by
 induction ops with
 |nil=>exact aP _
 |cons x ops ih=>exact ai ((h x (.head _)).mea l _) (bN (ih λy m=>h y (.tail _ m)) 4)
theorem Sa(h:∀y∈ops,Wo y)(hl:ops.length<=10)(hm:Cl M):CN (n+12) 102 [.t (.bytes (wC l ops))] M=.ok (.t (NB ops)) M:=by
 have e88:=c88 (n:=n) hm (ai (Af (l:=l) h hl) (by decide)) (Xv h) (ax (ai (Xw h) (cm 4 hl)) (by decide)) (by rw[aq];exact ax hl (by decide))
 rw[ba] at e88;have e:=acq (n:=n+4) (M:=M) (λx=>Io (x.r l)) OD.t (l:=ops) (λx m=>by cases x.r l<;>rfl) (λx m=>(h x m).back) (ai hl (by decide)) hm
 have et:exec (CN (n+11)) (.try [.ret (.call 101 [.call 88 [.au 0]])] [.ret (.c .none)]) [aa (.t (.bytes (wC l ops))),ac,ac,ac] M=.ok (.ret (.t (NB ops)),[aa (.t (.bytes (wC l ops))),ac,ac,ac]) M:=by
  show n9 (execs (CN (n+11)) [.ret (.call 101 [.call 88 [.au 0]])] [aa (.t (.bytes (wC l ops))),ac,ac,ac] M)=_;rw[run (C:=CN (n+11)) [.ret (.call 101 [.call 88 [.au 0]])] [aa (.t (.bytes (wC l ops))),ac,ac,ac] M [.v _,.v _] e88 e];rfl
 exact bg (n+11) 102 [.t (.bytes (wC l ops))] M rfl rfl [.l _,.s _] et (bx hm rfl)
theorem Ag(h:∀y∈ops,Wo y):Yg (.t (NB ops)) (.t (NB ops)) m=aa true:=by
 show eqL (ops.map OD.t) (ops.map OD.t)=aa ae;unfold eqL;cases ops with
 |nil=>rfl
 |cons x ops=>
  refine(aL (show ¬(af != af)=ae by decide)).trans ((aL (show ¬af=ae by decide)).trans (aA ⟨rfl,?_⟩))
  show((x::ops).map OD.t).all (T.flat 19)=ae;exact aE.mpr λt m=>by
   refine bH (aT.mp m) λy hy z0=>?_;subst z0;exact(h y hy).flat
end
def Nop(x:OD):Prop:=(x.b ae).length+1<=(x.b af).length
section
variable{w:ag aj}{xs:ag VD}{ops:ag OD}
theorem Sb(hx:∀x∈xs,Wv 3 x):(oW ae w xs++tl ae).length+1<=(oW af w xs++tl af).length:=by
 have e:qf (xs.map (wO ae)++[w])<=qf (xs.map (wO af)++[w]):=by
  induction xs with
  |nil=>exact aP _
  |cons x xs ih=>exact cG (bI (ack (hx x (.head _)))) (ih λy m=>hx y (.tail _ m))
 have h1:=Gq (l:=ae) (bs:=xs.map (wO ae)++[w]) kE;have h2:=Uw (bs:=xs.map (wO af)++[w]) kE;show(jl ae _++[]).length+1<=(jl af _++[10]).length;rw[aH,ah];exact ai h1 (ai e (cX h2.symm))
theorem acs(h:∀x∈ops,Nop x):(wC ae ops).length<=(wC af ops).length:=by
 have e:qf (ops.map λx=>x.b ae)<=((ops.map λx=>x.b af).flatten).length:=by
  induction ops with
  |nil=>exact aP _
  |cons x ops ih=>
   show(x.b ae).length+1+qf (ops.map λx=>x.b ae)<=(x.b af++(ops.map λx=>x.b af).flatten).length;rw[ah];exact cG (h x (.head _)) (ih λy m=>h y (.tail _ m))
 cases ops with
 |nil=>exact aP _
 |cons x ops=>exact ai (dq Gn) e
theorem Xx{a b:ag OD}:wC af (a++b)=wC af a++wC af b:=by
 show((a++b).map _).flatten=(a.map _).flatten++(b.map _).flatten;rw[br,kY]
end
noncomputable def Iz:ag (ag aj):=[[],[49],[116,114,117,101],[97,32,98],[40,97,41],[47,97],[110,117,108,108],[91],[97,37],[45,50,46,53],[300]]
noncomputable def Pn(s:bE×bE)(r:Mu):Mu:=.tab 0::.tab 1::TL [.int s.1,.int s.2]::r
theorem aiI:(λ(n:aj) (s:bE×bE)=>Iz.map λw=>(CN (n+25) 92 [.t (.list [xi w []])] (Pn s []),CN (n+25) 92 [.t (.list [xi w []]),.t (.bool ae)] (Pn s [])))=λn s=>Iz.map λZ=>(.exc (Pn s []),.exc (Pn s [])):=by kernel_rfl
theorem Xy{w:ag aj}(h:w∈Iz){n:aj}{s:bE×bE}:(CN (n+25) 92 [.t (.list [xi w []])] (Pn s []),CN (n+25) 92 [.t (.list [xi w []]),.t (.bool ae)] (Pn s []))=(.exc (Pn s []),.exc (Pn s [])):=NT.mp (jC (jC aiI n) s) w h
def Dw(e:Mu->Res PV)(r:Mu)(P:T->Prop):Prop:=∀s,∃s' v,P v/\e (Pn s r)=.ok (.t v) (Pn s' r)
def CP(r:Mu):Prop:=∀s,Cl (Pn s r)
section
variable{n i j k:aj}{m M r:Mu}{C:Calls}{s:bE×bE}{xs:ag T}{v:PV}{P Q:T->Prop}{e:Mu->Res PV}{elt:E}{slot:aj}{it:It}{au:Loc}
theorem CP.of(h:Cl (Pn (0,0) r)):CP r:=λs=>h
theorem CP.tl(h:CP r){a8:ag T}:CP (r++[TL a8]):=λs=>(h s).tl
theorem GB(hc:CP r)(hk:0<k)(hl:k<=bp):Dw (CN (n+1) 94 [.m 2,.t (.int (k:aj))]) r λv=>∃j:aj,j<k/\v=.int (j:aj):=λs=>by
 have KW:(0:bE)<(k:aj):=cf.mpr hk;have hk2:((k:aj):bE)<4611686018427387904:=by unfold bp at hl;omega
 have hv:∀x:bE,∃j:aj,j<k/\T.int (x%(k:aj))=.int (j:aj):=λx=>by
  refine fJ (bE.eq_ofNat_of_zero_le (bE.emod_nonneg x (EE KW))) λj e=>?_;exact⟨j,cf.mp (e▸bE.emod_lt_of_pos x KW),av T.int e⟩
 by_cases h:s.1=0
 ·exact⟨((1061*(s.2+1)+8311)/(k:aj),s.2+1),_,hv (1061*(s.2+1)+8311),bg n 94 [.m 2,.t (.int (k:aj))] (Pn s r) rfl rfl [.a,.b ae,.a,.v (.ok (.t (.int (s.2+1))) _),.s (Pn (s.1,s.2+1) r),.a,.v (.ok (.t (.int (1061*(s.2+1)))) _),.v (.ok (.t (.int (1061*(s.2+1)+8311))) _),.s (Pn (1061*(s.2+1)+8311,s.2+1) r),.a,.v _,.a,.v _,.s (Pn ((1061*(s.2+1)+8311)/(k:aj),s.2+1) r),.s _] (pP h) rfl rfl (DK (zF rfl)) rfl rfl (DK (yD KW)) (DK (FI ⟨KW,hk2⟩)) rfl (bx (hc _) rfl)⟩
 ·exact⟨(s.1/(k:aj),s.2),_,hv s.1,bg n 94 [.m 2,.t (.int (k:aj))] (Pn s r) rfl rfl [.a,.b af,.a,.v _,.a,.v _,.s (Pn (s.1/(k:aj),s.2) r),.s _] (mY h) (DK (yD KW)) (DK (FI ⟨KW,hk2⟩)) rfl (bx (hc _) rfl)⟩
def LVT(v:PV)(xs:ag T)(r:Mu):Prop:=v=.t (.list xs)\/∃q,v=.m q/\∀s,(Pn s r)[q]? =aa (TL xs)
theorem YB(hc:CP r)(h:LVT v xs r)(h0:xs≠[])(hl:xs.length<=1000):Dw (CN (n+2) 95 [.m 2,v]) r (· ∈xs):=λs=>by
 have pK:xs.length<=bp:=ai hl (by decide)
 obtain⟨s',_,⟨j,hj,rfl⟩,e⟩:=GB (n:=n) hc (IV.mpr h0) pK s;have hx:=bz hj;refine⟨s',xs[j],OA hj,?_⟩;rcases h with rfl |⟨q,rfl,h⟩
 ·exact bg (n+1) 95 [.m 2,.t (.list xs)] (Pn s r) rfl rfl [.v _,.v _,.v (.ok (.t xs[j]) _),.s _] (wF rfl pK) e (by rw[Ec,wz (f:=PV.t) hx pK];rfl) (bx (hc _) rfl)
 ·exact bg (n+1) 95 [.m 2,.m q] (Pn s r) rfl rfl [.v _,.v _,.v _,.s _] (Rp (h s) rfl pK) e (Ic (h s') pK hx) (bx (hc _) rfl)
theorem Xz(hr:∀a8,CP (r++[TL a8]))(st:∀x a8,Dw (ev C elt (upd au slot (.t x))) (r++[TL a8]) P):∀{xs a8 s},a8.length+xs.length<=bp->∃s' ys,ys.length=xs.length/\(∀y∈ys,P y)/\dS (ja C elt [] (r.length+3)) slot au xs (Pn s (r++[TL a8]))=.ok () (Pn s' (r++[TL (a8++ys)])):=by
 intro xs
 induction xs with
 |nil=>exact λ{a8 s} Z=>⟨s,[],rfl,nofun,by rw[aH];rfl⟩
 |cons x xs ih=>
  intro a8 s hn;refine dZ (st x a8 s) λs1 y hy e=>?_;refine k8 (ih (a8:=a8++[y]) (s:=s1) (by rw[ah,bZ,bB [y].length];exact hn)) λs2 ys h1 h2 h3=>?_
  refine⟨s2,y::ys,av (· +1) h1,λz m=>(aJ.mp m).elim (λe=>e▸hy) (h2 z),?_⟩;show((ev C elt (upd au slot (.t x)) (Pn s (r++[TL a8]))).bind λv d9=>(d0 v d9).bind λt d9=>n8 (r.length+3) t d9).bind (λZ mu=>dS (ja C elt [] (r.length+3)) slot au xs mu)=_;rw[e];show(n8 (r.length+3) y (Pn s1 r++[TL a8])).bind (λZ mu=>dS (ja C elt [] (r.length+3)) slot au xs mu)=_;rw[uN (M:=Pn s1 r) (j:=r.length+3) rfl (bw (dE (gC _)) hn)];rw[az] at h3;exact h3
theorem yL{Q:aj->Prop}(hc:CP r)(hit:∀s,∃s' xs,Q xs.length/\io C it au (Pn s r)=.ok (xs,au) (Pn s' r))(hk:∀k,Q k->k<=bp)(st:∀x a8,Dw (ev C elt (upd au slot (.t x))) (r++[TL a8]) P):
 Dw (ev C (.comp elt slot it []) au) r λv=>∃ys,v=.list ys/\Q ys.length/\∀y∈ys,P y:=λs=>by
 refine dZ (hit s) λs1 xs hx hit=>?_;refine k8 (Xz (λa8=>hc.tl) st (xs:=xs) (a8:=[]) (s:=s1) (by rw[c0,bM];exact hk _ hx)) λs2 ys h1 h2 h3=>?_
 refine⟨s2,.list ys,⟨ys,rfl,h1▸hx,h2⟩,?_⟩;show(io C it au (Pn s r)).bind (λp mu=>(dS (ja C elt [] mu.length) slot p.2 p.1 (mu++[TL []])).bind λZ d9=>eD mu.length d9)=_;rw[hit];show(dS (ja C elt [] (r.length+3)) slot au xs (Pn s1 (r++[TL []]))).bind (λZ d9=>eD (r.length+3) d9)=_;rw[h3];show eD (r.length+3) (Pn s2 r++[TL ys])=_;unfold eD;rw[aA (by rw[ah];rfl),r7 (M:=Pn s2 r) (j:=r.length+3) rfl]
 show dO (eB (ys.map PV.t)) (λts=>eh (r.length+3) (PV.t (.list ts)) (Pn s2 r++[TL ys]))=_;rw[Q6];show eh (r.length+3) _ _=_;unfold eh;rw[gk (m:=Pn s2 r) (k:=r.length+3) (hc s2) rfl];rfl
theorem mx(hc:CP r)(hit:∀s,∃s' xs,xs.length<k/\io C it au (Pn s r)=.ok (xs,au) (Pn s' r))(hk:k<=bp)(st:∀x a8,Dw (ev C elt (upd au slot (.t x))) (r++[TL a8]) P):
 Dw (ev C (.comp elt slot it []) au) r λv=>∃ys,v=.list ys/\ys.length<k/\∀y∈ys,P y:=yL (Q:=(· <k)) hc hit (λZ h=>ai (a9 h) hk) st
theorem m8{e:E}(h:Dw (ev C e au) r λv=>∃j:aj,j<k/\v=.int (j:aj))(hk:k<=bp):∀s,∃s' xs,xs.length<k/\io C (.range [e]) au (Pn s r)=.ok (xs,au) (Pn s' r):=λs=>by
 obtain⟨s',_,⟨j,hj,rfl⟩,e1⟩:=h s;refine⟨s',(be j).map λi:aj=>T.int (i:aj),by rw[aq,fF];exact hj,?_⟩
 show((ev C e au (Pn s r)).bind λv mu=>(su C [] au mu).bind λvs mu=>.ok (v::vs) mu).bind (λvs mu=>bS ((gi vs).map λl=>(l,au)) mu)=_;rw[e1];show bS ((gi [.t (.int (j:aj))]).map λl=>(l,au)) (Pn s' r)=_;rw[DN (ai (a9 hj) hk)];rfl
end
def Vl(d:aj)(v:T):Prop:=∃x:VD,x.v=v/\Wv d x
section
variable{n j k d:aj}{m M r:Mu}{C:Calls}{s:bE×bE}{xs ys:ag T}{v:PV}{P:T->Prop}{e:Mu->Res PV}
theorem Sd:∀{ys:ag T},(∀y∈ys,∃c:aj,c<256/\y=.int (c:aj))->∃o:ag aj,ys=nats o/\∀c∈o,c<256:=by
 intro ys
 induction ys with
 |nil=>exact λZ=>⟨[],rfl,nofun⟩
 |cons y ys ih=>
  intro h;refine bH (ih λz m=>h z (.tail _ m)) λo z0 ho=>?_;subst z0;refine bH (h y (.head _)) λc hc z0=>?_;subst z0;exact⟨c::o,rfl,fc hc ho⟩
theorem Se:∀{ys:ag T},(∀y∈ys,∃c:aj,(0<c/\c<256)/\y=.str [c])->∃o:ag aj,ys=ones o/\pR o:=by
 intro ys
 induction ys with
 |nil=>exact λZ=>⟨[],rfl,nofun⟩
 |cons y ys ih=>
  intro h;refine bH (ih λz m=>h z (.tail _ m)) λo z0 ho=>?_;subst z0;refine bH (h y (.head _)) λc hc z0=>?_;subst z0;exact⟨c::o,rfl,λb m=>(aJ.mp m).elim (λe=>e▸hc) (ho b)⟩
theorem NE{o:ag aj}{y:T}(h:y∈nats o)(ho:∀c∈o,c<256):∃c:aj,c<256/\y=.int (c:aj):=by
 refine bH (aT.mp h) λc hc z0=>?_;subst z0;exact⟨c,ho c hc,rfl⟩
theorem c96(hc:CP r)(h0:0<k)(hk:k<=1000):Dw (CN (n+3) 96 [.m 2,.t (.int (k:aj))]) r λv=>∃o,v=.bytes o/\o.length<k/\∀c∈o,c<256:=λs=>by
 have hl:k<=bp:=ai hk (by decide)
 obtain⟨s',_,⟨ys,rfl,h1,h2⟩,e⟩:=mx (C:=CN (n+2)) (elt:=.call 95 [.au 0,.list [.c (.int 40),.c (.int 41),.c (.int 92),.c (.int 13),.c (.int 10),.c (.int 65),.call 94 [.au 0,.c (.int 256)]]]) (slot:=2) (au:=[aa (.m 2),aa (.t (.int (k:aj))),ac,ac,ac]) (P:=λy=>∃c:aj,c<256/\y=.int (c:aj)) hc (m8 (e:=.call 94 [.au 0,.au 1]) (λs=>by
  refine dZ (GB (n:=n+1) hc h0 hl s) λs' v h e=>?_;exact⟨s',v,h,gJ (CN (n+2)) (.call 94 [.au 0,.au 1]) [aa (.m 2),aa (.t (.int (k:aj))),ac,ac,ac] (Pn s r) [.v _] e⟩) hl) hl (λx a8 s=>by
  obtain⟨s1,_,⟨j,hj,rfl⟩,e1⟩:=GB (n:=n+1) (k:=256) hc.tl (by decide) (by decide) s
  refine dZ (YB (n:=n) (xs:=nats [40,41,92,13,10,65,j]) (hc.tl (a8:=a8)) (.inl rfl) (bf _ _) (show 7<=1000 by decide) s1) λs2 y hy e2=>?_
  exact⟨s2,y,NE hy (fc (by decide) (fc (by decide) (fc (by decide) (fc (by decide) (fc (by decide) (fc (by decide) (fc hj nofun))))))),gJ (CN (n+2)) (.call 95 [.au 0,.list [.c (.int 40),.c (.int 41),.c (.int 92),.c (.int 13),.c (.int 10),.c (.int 65),.call 94 [.au 0,.c (.int 256)]]]) (upd [aa (.m 2),aa (.t (.int (k:aj))),ac,ac,ac] 2 (.t x)) (Pn s (r++[TL a8])) [.v _,.a,.v _] e1 e2⟩) s
 refine bH (Sd h2) λo z0 ho=>?_;subst z0;rw[iw] at h1;exact⟨s',.bytes o,⟨o,rfl,h1,ho⟩,bg (n+2) 96 [.m 2,.t (.int (k:aj))] (Pn s r) rfl rfl [.v _,.v _,.s _] e (zG ho (ai (a9 h1) hl)) (bx (hc s') rfl)⟩
theorem NF:∀{p:aj}{t:bE},t.natAbs<10^20->p<=9->∃(a:bE) (q:aj),s6 t p=j4 a q/\a.natAbs<10^20/\q<=9/\(q=0\/a%10≠0)
 |0,t,h,_=>⟨t,0,rfl,h,by decide,.inl rfl⟩
 |p+1,t,h,hp=>
  by
   by_cases h0:t%10=0
   ·refine dZ (NF (p:=p) (t:=t/10) (ax (bE.natAbs_ediv_le_natAbs t 10) h) (dq hp)) λa q e g=>?_
    refine⟨a,q,?_,g⟩;rw[<-e];unfold s6;rw[show oK t (p+1)=oK (t/10) p from aA h0]
   ·exact⟨t,p+1,D2 (.inr h0),h,hp,.inr h0⟩
theorem XA(hc:CP r){l:Loc}(hl:l=[aa (.m 2),aa (.t (.int 0)),ac,ac,ac]):Dw (ev (CN (n+2)) (.comp (.bi .chr [.call 95 [.au 0,.list [.c (.int 65),.c (.int 35),.c (.int 32),.c (.int 47),.bin .add (.c (.int 1)) (.call 94 [.au 0,.c (.int 255)])]]]) 2 (.range [.call 94 [.au 0,.c (.int 4)]]) []) l) r λv=>∃o,v=.list (ones o)/\pR o/\o.length<=3:=λs=>by
 subst hl;obtain⟨s',_,⟨ys,rfl,h1,h2⟩,e⟩:=mx (C:=CN (n+2)) (elt:=.bi .chr [.call 95 [.au 0,.list [.c (.int 65),.c (.int 35),.c (.int 32),.c (.int 47),.bin .add (.c (.int 1)) (.call 94 [.au 0,.c (.int 255)])]]]) (slot:=2) (au:=[aa (.m 2),aa (.t (.int 0)),ac,ac,ac]) (k:=4) (P:=λy=>∃c:aj,(0<c/\c<256)/\y=.str [c]) hc (m8 (e:=.call 94 [.au 0,.c (.int 4)]) (λs=>by
  refine dZ (GB (n:=n+1) (k:=4) hc (by decide) (by decide) s) λs' v h e=>?_
  exact⟨s',v,h,gJ (CN (n+2)) (.call 94 [.au 0,.c (.int 4)]) [aa (.m 2),aa (.t (.int 0)),ac,ac,ac] (Pn s r) [.v _] e⟩) (by decide)) (by decide) (λx a8 s=>by
  obtain⟨s1,_,⟨j,hj,rfl⟩,e1⟩:=GB (n:=n+1) (k:=255) hc.tl (by decide) (by decide) s
  refine dZ (YB (n:=n) (xs:=nats [65,35,32,47,1+j]) (hc.tl (a8:=a8)) (.inl rfl) (bf _ _) (show 5<=1000 by decide) s1) λs2 y hy e2=>?_
  refine bH (aT.mp hy) λc Ld z0=>?_;subst z0;have hb:0<c/\c<256:=by
   rcases aJ.mp Ld with rfl |h
   ·decide
   rcases aJ.mp h with rfl |h
   ·decide
   rcases aJ.mp h with rfl |h
   ·decide
   rcases aJ.mp h with rfl |h
   ·decide
   rw[aC.mp h];exact⟨bw aj.zero_lt_one (aw ..),by omega⟩
  exact⟨s2,.str [c],⟨c,hb,rfl⟩,gJ (CN (n+2)) (.bi .chr [.call 95 [.au 0,.list [.c (.int 65),.c (.int 35),.c (.int 32),.c (.int 47),.bin .add (.c (.int 1)) (.call 94 [.au 0,.c (.int 255)])]]]) (upd [aa (.m 2),aa (.t (.int 0)),ac,ac,ac] 2 (.t x)) (Pn s (r++[TL a8])) [.v _,.v _,.a,.v _,.v _] e1 (gH (k:=1)) e2 (Q8 hb.2)⟩) s
 refine bH (Se h2) λo z0 ho=>?_;subst z0;exact⟨s',_,⟨o,rfl,ho,by rw[FG] at h1;exact fH h1⟩,e⟩
theorem c97(hc:CP r):Dw (CN (n+4) 97 [.m 2]) r (Vl d):=λs=>by
 obtain⟨s1,_,⟨j,hj,rfl⟩,e1⟩:=GB (n:=n+2) (k:=7) hc (by decide) (by decide) s
 rcases(show j=0\/j=1\/j=2\/j=3\/j=4\/j=5\/j=6 by omega) with rfl |rfl |rfl |rfl |rfl |rfl |rfl
 ·obtain⟨s2,_,⟨o,rfl,ho,hl⟩,e2⟩:=XA (n:=n+1) hc rfl s1
  have ej:=Ml (C:=CN (n+3)) (M:=Pn s2 r) (u:=.t (.list (ones o))) (ss:=o.map λc=>[c]) rfl (by rw[mZ];exact ai hl (by decide))
  rw[mZ] at ej;exact⟨s2,_,⟨_,rfl,uV ho hl⟩,bg (n+3) 97 [.m 2] (Pn s r) rfl rfl [.v _,.b ae,.k _,.v _,.v _,.v _,.s _] e1 rfl rfl e2 ej (Mv (hc s2)) (bx (hc s2) rfl)⟩
 ·obtain⟨s2,_,⟨q,hq,rfl⟩,e2⟩:=GB (n:=n+2) (k:=10^6) hc (by decide) (by decide) s1
  exact⟨s2,_,⟨_,rfl,Nf (z:=(q:bE)-5*((10^5:aj):bE)) (ax (OU _ _) (bA (IW hq _) (by decide)))⟩,bg (n+3) 97 [.m 2] (Pn s r) rfl rfl [.v _,.b af,.b ae,.v _,.v _,.v _,.v _,.v _,.s _] e1 rfl rfl (qd (q:=6) (by decide)) e2 (qd (q:=5) (by decide)) (DK (zF rfl)) sX (bx (hc s2) rfl)⟩
 ·obtain⟨s2,_,⟨q,hq,rfl⟩,e2⟩:=GB (n:=n+2) (k:=10^4) hc (by decide) (by decide) s1
  obtain⟨s3,_,⟨p,hp,rfl⟩,e3⟩:=GB (n:=n+2) (k:=6) hc (by decide) (by decide) s2
  refine vg (NF (p:=p) (t:=(q:bE)-5000) (ax (OU _ _) (bA (IW hq _) (by decide))) (by omega)) λa b e g1 g2 g3=>?_
  have en:=WL (n:=n+2) (t:=(q:bE)-5000) (p:=p) (hc s3) (ai (a9 hp) (by decide))
  rw[e] at en;exact⟨s3,_,⟨_,rfl,Xj g1 g2 g3⟩,bg (n+3) 97 [.m 2] (Pn s r) rfl rfl [.v _,.b af,.b af,.b ae,.v _,.v _,.v _,.v _,.v _,.s _] e1 rfl rfl rfl (qd (q:=4) (by decide)) e2 sX e3 en (bx (hc s3) rfl)⟩
 ·obtain⟨s2,_,⟨o,rfl,ho,hb⟩,e2⟩:=c96 (n:=n) (k:=7) hc (by decide) (by decide) s1
  obtain⟨s3,_,⟨q,hq,rfl⟩,e3⟩:=GB (n:=n+2) (k:=2) hc (by decide) (by decide) s2
  exact⟨s3,_,⟨_,rfl,Nh (h:=q==1) hb (by omega)⟩,bg (n+3) 97 [.m 2] (Pn s r) rfl rfl [.v _,.b af,.b af,.b af,.b ae,.v _,.v _,.b _,.v _,.s _] e1 rfl rfl rfl rfl e2 e3 (W7 (l:=1)) (aby (hc s3)) (bx (hc s3) rfl)⟩
 ·exact⟨s1,_,⟨_,rfl,RR⟩,bg (n+3) 97 [.m 2] (Pn s r) rfl rfl [.v _,.b af,.b af,.b af,.b af,.a,.v (.ok (.t (.int 0)) _),.v (.ok (.t .none) _),.s _] e1 rfl rfl rfl rfl rfl rfl (bx (hc s1) rfl)⟩
 ·exact⟨s1,_,⟨_,rfl,Ge (b:=ae)⟩,bg (n+3) 97 [.m 2] (Pn s r) rfl rfl [.v _,.b af,.b af,.b af,.b af,.a,.v (.ok (.t (.int 1)) _),.v (.ok (.t (.bool ae)) _),.s _] e1 rfl rfl rfl rfl rfl rfl (bx (hc s1) rfl)⟩
 ·exact⟨s1,_,⟨_,rfl,Ge (b:=af)⟩,bg (n+3) 97 [.m 2] (Pn s r) rfl rfl [.v _,.b af,.b af,.b af,.b af,.a,.v (.ok (.t (.int 2)) _),.v (.ok (.t (.bool af)) _),.s _] e1 rfl rfl rfl rfl rfl rfl (bx (hc s1) rfl)⟩
end
noncomputable def putK{α:Type}(k:ag aj)(v:α)(l:ag (ag aj×α)):ag (ag aj×α):=match l with
 |[]=>[(k,v)]
 |x::l=>if x.1=k then(k,v)::l else x::putK k v l
noncomputable def Sg(l:KV):ag T:=l.map λx=>.tup [.str x.1,x.2]
def KVo(g:aj)(l:qE):Prop:=(l.map dQ).Nodup/\∀x∈l,(pR x.1/\x.1.length<=3)/\Wv g x.2
section
variable{n j d g:aj}{m M X r:Mu}{C:Calls}{s:bE×bE}{k:ag aj}{v:VD}{l:qE}{kv:KV}{x:ag aj×VD}
theorem GC(h:x∈putK k v l):x∈l\/x=(k,v):=by
 induction l with
 |nil=>exact .inr (aC.mp h)
 |cons y l ih=>
  have h:x∈(if y.1=k then(k,v)::l else y::putK k v l):=h
  split at h
  ·exact(aJ.mp h).elim .inr λm=>.inl (.tail _ m)
  ·exact(aJ.mp h).elim (λe=>.inl (e▸.head _)) λm=>(ih m).imp (.tail _) id
theorem Sh:(putK k v l).length<=l.length+1:=by
 induction l with
 |nil=>exact aP _
 |cons y l ih=>
  show(if y.1=k then(k,v)::l else y::putK k v l).length<=_
  split
  ·exact hY _
  ·exact bI ih
theorem XB(h:(l.map dQ).Nodup):((putK k v l).map dQ).Nodup:=by
 induction l with
 |nil=>exact eJ.mpr ⟨nofun,jF⟩
 |cons y l ih=>
  refine gf (eJ.mp (show(y.1::l.map dQ).Nodup from h)) λh1 h2=>?_
  show((if y.1=k then(k,v)::l else y::putK k v l).map dQ).Nodup
  split
  ·rename_i e;rw[e] at h1;exact eJ.mpr ⟨h1,h2⟩
  ·rename_i e
   refine eJ.mpr ⟨λm=>?_,ih h2⟩;refine bH (aT.mp m) λz hz ez=>?_;exact(GC hz).elim (λm=>h1 (ez▸IT m)) λq=>e (by rw[<-ez,q])
theorem NG:dput (.str k) v.v (ec (cD VD.v l))=ec (cD VD.v (putK k v l)):=by
 induction l with
 |nil=>rfl
 |cons y l ih=>
  show(if(y.1==k)=ae then(T.str y.1,v.v)::ec (cD VD.v l) else(T.str y.1,y.2.v)::dput (.str k) v.v (ec (cD VD.v l)))=ec (cD VD.v (if y.1=k then(k,v)::l else y::putK k v l))
  by_cases e:y.1=k
  ·rw[aA (bT.mpr e),aA e,e];rfl
  ·rw[aL (λq=>e (bT.mp q)),aL e,ih];rfl
theorem Ci(h:X[j]? =aa (.dict (ec (cD VD.v l))))(hl:l.length<bp):xo (.m j) (.t (.str k)) (.t v.v) X=.ok () (X.set j (.dict (ec (cD VD.v (putK k v l))))):=by
 show dO (X[j]?.bind MO.d?) (AQ j (.str k) v.v X)=_;rw[h];show(if pe (.str k) (ec (cD VD.v l))=ae/\(ec (cD VD.v l)).length<bp then Res.ok () (X.set j (.dict (dput (.str k) v.v (ec (cD VD.v l))))) else .aK)=_
 rw[aA ⟨DQ,by unfold ec;rw[aq,mw];exact hl⟩,NG]
theorem CP.one(h:CP r){o:MO}(ho:∀n,o.closed n=ae):CP (r++[o]):=λs=>aE.mpr λx m=>by
 have m:x∈Pn s r++[o]:=m;rcases bt.mp m with m |m
 ·exact MO.up (by show _<=(Pn s r++[o]).length;rw[ah];exact aw ..) (aE.mp (h s) x m)
 ·rw[aC.mp m];exact ho _
theorem UC{o:MO}:(Pn s (r++[o]))[r.length+3]? =aa o:=r7 (M:=Pn s r) (j:=r.length+3) rfl
theorem NH{o o':MO}:(Pn s (r++[o])).set (r.length+3) o'=Pn s (r++[o']):=sY (M:=Pn s r) (j:=r.length+3) rfl
noncomputable abbrev Ox(d:aj)(x3 x4 x5:ar PV):Loc:=[aa (.m 2),aa (.t (.int (d:aj))),aa (.t (.int 1)),x3,x4,x5,ac,ac,ac]
noncomputable def ks4:ag (ag aj):=[[65],[],[97,32,98],[35]]
theorem XC:∀k∈ks4,pR k/\k.length<=3:=by unfold pR;decide
theorem XD(hc:CP r)(hv:∀r,CP r->Dw (CN (n+2) 98 [.m 2,.t (.int (d+1:aj))]) r (Vl g)){xs:ag T}:∀{l s x3 x5},KVo g l->l.length+xs.length<=2->∃s' l' y3 y5,KVo g l'/\l'.length<=2/\
 forL 3 (execs (CN (n+2)) (ip (dT (ip (dT b98 2)) 1))) xs (Ox d x3 (aa (.m (r.length+3))) x5) (Pn s (r++[MO.dict (ec (cD VD.v l))]))=.ok (.next,Ox d y3 (aa (.m (r.length+3))) y5) (Pn s' (r++[MO.dict (ec (cD VD.v l'))])):=by
 induction xs with
 |nil=>exact λ{l s x3 x5} h hl=>⟨s,l,x3,x5,h,hl,rfl⟩
 |cons x xs ih=>
  intro l s x3 x5 h hl;have VC:∀l:qE,CP (r++[MO.dict (ec (cD VD.v l))]):=λl=>hc.one λZ=>rfl;refine dZ (YB (n:=n) (xs:=ks4.map .str) (VC l) (.inl rfl) (bf _ _) (show 4<=1000 by decide) s) λs1 Z hy e1=>?_
  refine bH (aT.mp hy) λk hk z0=>?_;subst z0;obtain⟨s2,_,⟨y,rfl,hw⟩,e2⟩:=hv _ (VC l) s1;rw[aO, <-bZ,cS] at hl;refine OY (ih (l:=putK k y l) (s:=s2) (x3:=aa (.t x)) (x5:=aa (.t (.str k))) ⟨XB h.1,λz m=>(GC m).elim (h.2 z) λe=>e▸⟨XC k hk,hw⟩⟩ (ai (bN Sh _) hl)) λs' l' y3 y5 g1 g2 e=>?_;have es:=Ci (k:=k) (v:=y) (l:=l) (UC (s:=s2) (r:=r)) (ax (ai (aw _ 1) (ai (aw _ _) hl)) (by decide))
  rw[NH] at es;have t:=iJ (CN (n+2)) (ip (dT (ip (dT b98 2)) 1)) 3 (Ox d x3 (aa (.m (r.length+3))) x5) (Pn s (r++[MO.dict (ec (cD VD.v l))])) x xs [.a,.v _,.v _,.v _,.s (Pn s2 (r++[MO.dict (ec (cD VD.v (putK k y l)))]))] e1 fO e2;exact⟨s',l',y3,y5,g1,g2,t es _ e⟩
theorem yM:∀{l:KV},pairs (Sg l)=aa (ec l)
 |[]=>rfl
 |x::l=>by show(pairs (Sg l)).map ((T.str x.1,x.2)::·)=_;rw[yM];rfl
theorem Eh:∀{l2 l1:KV},(keysOf (l1++l2)).Nodup->putAll (ec l1) (ec l2)=ec (l1++l2):=by
 intro l2
 induction l2 with
 |nil=>exact λ{l1} Z=>by rw[aH];rfl
 |cons x l2 ih=>
  intro l1 h;show putAll (dput (.str x.1) x.2 (ec l1)) (ec l2)=_;rw[BU (wI h),ih (by rw[az];exact h),az];rfl
theorem tY(hn:(keysOf kv).Nodup)(hl:kv.length<=bp):uf .dict [.t (.list (Sg kv))] m=.ok (.t (.dict (ec kv))) m:=by
 show dO (pairs (Sg kv)) (λkvs=>if(strKeys kvs).isSome/\kvs.length<=bp then Res.ok (PV.t (.dict (putAll [] kvs))) m else .aK)=_
 rw[yM];show(if(strKeys (ec kv)).isSome=ae/\(ec kv).length<=bp then Res.ok (PV.t (.dict (putAll (ec []) (ec kv)))) m else .aK)=_
 rw[aA ⟨by rw[Nk];rfl,by unfold ec;rw[aq];exact hl⟩,Eh (l1:=[]) hn];rfl
noncomputable def nN:T->aW
 |.none=>af
 |_=>ae
noncomputable def fN(x:ag aj×VD):ar T:=if nN x.2.v=ae then aa (.tup [.str x.1,x.2.v]) else ac
theorem XE{v:T}:eC .kf (.t v) (.t .none) m=aa (nN v):=by cases v<;>rfl
theorem acu{o5 o3:ar PV}(hc:CP r)(h:KVo g l)(hl:l.length<=2):∃v t,Vl (g+1) v/\ev C (.comp (.tup [.au 6,.sub (.au 4) (.au 6)]) 6 (.name 4) [.cmp .kf (.sub (.au 4) (.au 6)) (.c .none)]) (Ox d o3 (aa (.m (r.length+3))) o5) (Pn s (r++[MO.dict (ec (cD VD.v l))]))=.ok (.t t) (Pn s (r++[MO.dead]))/\uf .dict [.t t] (Pn s (r++[MO.dead]))=.ok (.t v) (Pn s (r++[MO.dead])):=by
 have hn:(keysOf (cD VD.v l)).Nodup:=by show((cD VD.v l).map dQ).Nodup;rw[kJ];exact h.1
 have hit:io C (.name 4) (Ox d o3 (aa (.m (r.length+3))) o5) (Pn s (r++[MO.dict (ec (cD VD.v l))]))=.ok (l.map λx=>T.str x.1,Ox d o3 (aa (.t (.dict (ec (cD VD.v l))))) o5) (Pn s (r++[MO.dead])):=by
  show(lu ((Pn s (r++[MO.dict (ec (cD VD.v l))]))[r.length+3]?.bind (O6 (r.length+3) (Pn s (r++[MO.dict (ec (cD VD.v l))]))))).bind (λt mu=>bS ((lJ t).map λq=>(q,upd (Ox d o3 (aa (.m (r.length+3))) o5) 4 (.t t))) mu)=_;rw[UC];show bS ((lJ (.dict (ec (cD VD.v l)))).map λq=>(q,_)) ((Pn s (r++[MO.dict (ec (cD VD.v l))])).set (r.length+3) .dead)=_;rw[NH];show Res.ok ((ec (cD VD.v l)).map (·.1),_) _=_;rw[show(ec (cD VD.v l)).map (·.1)=l.map λx=>T.str x.1 by unfold ec cD;rw[ba,ba];rfl];rfl
 have e:=uS (C:=C) (dN:=[.cmp .kf (.sub (.au 4) (.au 6)) (.c .none)]) (elt:=.tup [.au 6,.sub (.au 4) (.au 6)]) (slot:=6) (λx:ag aj×VD=>.str x.1) fN hit ((hc.one (o:=.dead) λZ=>rfl) s) (ai hl (by decide)) λx hx a8=>by
  have sb:=lF (m:=Pn s (r++[MO.dead])++[TL a8]) hn (aT.mpr ⟨x,hx,rfl⟩);have hb:=wZ (DL C (.cmp .kf (.sub (.au 4) (.au 6)) (.c .none)) (upd (Ox d o3 (aa (.t (.dict (ec (cD VD.v l))))) o5) 6 (.t (.str x.1))) (Pn s (r++[MO.dead])++[TL a8]) [.v _,.b (nN x.2.v)] sb XE);unfold fN;cases hN:nN x.2.v with
  |true=>rw[hN] at hb;exact⟨hb,gJ C (.tup [.au 6,.sub (.au 4) (.au 6)]) (upd (Ox d o3 (aa (.t (.dict (ec (cD VD.v l))))) o5) 6 (.t (.str x.1))) (Pn s (r++[MO.dead])++[TL a8]) [.v _,.v _] sb uq⟩
  |false=>rw[hN] at hb;exact hb
 have hf:l.filterMap fN=Sg (cD VD.v (l.filter λx=>nN x.2.v)):=by
  clear e hit hn h hl
  induction l with
  |nil=>rfl
  |cons x l ih=>
   cases hN:nN x.2.v with
   |true=>rw[jb (show fN x=aa (T.tup [.str x.1,x.2.v]) from aA hN),ag.filter_cons_of_pos (p:=λx:ag aj×VD=>nN x.2.v) hN,ih];rfl
   |false=>rw[mI (show fN x=ac from aL (by rw[hN];decide)),ag.filter_cons_of_neg (p:=λx:ag aj×VD=>nN x.2.v) (by rw[hN];decide),ih]
 rw[hf] at e;have zy:((l.filter λx=>nN x.2.v).map dQ).Nodup:=ag.Nodup.sublist (aeD _ ag.filter_sublist) h.1;have pK:=ai (ag.length_filter_le (λx:ag aj×VD=>nN x.2.v) l) hl;refine⟨_,_,⟨_,rfl,Gi (kx:=l.filter λx=>nN x.2.v) (λx m=>?_) pK zy⟩,e,tY (by show((cD VD.v _).map dQ).Nodup;rw[kJ];exact zy) (by rw[mw];exact ai pK (by decide))⟩
 refine gf (ag.mem_filter.mp m) λm hN=>?_;exact⟨(h.2 x m).1.1,(h.2 x m).1.2,(λq=>by rw[q] at hN;cases hN),(h.2 x m).2⟩
end
noncomputable def NI:ag (aj×ag aj):=[(103,[115]),(84,[106]),(39,[]),(34,[]),(84,[42]),(113,[]),(122,[122]),(82,[]),(102,[42])]
section
variable{n i j d g:aj}{m M r:Mu}{C:Calls}{s:bE×bE}{ys:ag T}{P:T->Prop}
theorem GD:∀{ys:ag T},(∀y∈ys,Vl g y)->∃xs:ag VD,ys=xs.map VD.v/\∀x∈xs,Wv g x:=by
 intro ys
 induction ys with
 |nil=>exact λZ=>⟨[],rfl,nofun⟩
 |cons y ys ih=>
  intro h;refine bH (ih λz m=>h z (.tail _ m)) λxs z0 hx=>?_;subst z0;refine bH (h y (.head _)) λx z0 h0=>?_;subst z0;exact⟨x::xs,rfl,λz m=>(aJ.mp m).elim (λe=>e▸h0) (hx z)⟩
theorem rS(hc:CP r){k:aj}(h0:0<k)(hk:k<=bp){i:aj}{l:Loc}(hl:gV l i=aa (.m 2)):Dw (ev (CN (n+1)) (.call 94 [.au i,.c (.int (k:aj))]) l) r λv=>∃j:aj,j<k/\v=.int (j:aj):=λs=>by
 refine dZ (GB (n:=n) hc h0 hk s) λs' v h e=>?_;refine⟨s',v,h,?_⟩;show((bS (gV l i) (Pn s r)).bind λv mu=>(Res.ok [.t (.int (k:aj))] mu).bind λvs mu=>.ok (v::vs) mu).bind (λvs mu=>CN (n+1) 94 vs mu)=_;rw[hl];exact e
theorem acv(hc:CP r):Dw (CN (n+5) 98 [.m 2,.t (.int (2:aj))]) r (Vl g):=λs=>by
 refine dZ (c97 (n:=n) (d:=g) hc s) λs' v h e=>?_;exact⟨s',v,h,bg (n+4) 98 [.m 2,.t (.int (2:aj))] (Pn s r) rfl rfl [.b af,.b af,.b af,.v _,.s _] rfl rfl rfl e (bx (hc s') rfl)⟩
theorem acw(hd:d<2)(hv:∀r,CP r->Dw (CN (n+4) 98 [.m 2,.t (.int (d+1:aj))]) r (Vl g))(hc:CP r):Dw (CN (n+5) 98 [.m 2,.t (.int (d:aj))]) r (Vl (g+1)):=λs=>by
 obtain⟨s1,_,⟨j,hj,rfl⟩,e1⟩:=GB (n:=n+3) (k:=4) hc (by decide) (by decide) s
 have pl:∀{j:aj},CN (n+4) 94 [.m 2,.t (.int (4:aj))] (Pn s r)=.ok (.t (.int (j:aj))) (Pn s1 r)->j≠0->j≠1->∃s' v,Vl (g+1) v/\CN (n+5) 98 [.m 2,.t (.int (d:aj))] (Pn s r)=.ok (.t v) (Pn s' r):=λ{j} e1 h0 h1=>by
  refine dZ (c97 (n:=n) (d:=g+1) hc s1) λs' v h e=>?_;exact⟨s',v,h,bg (n+4) 98 [.m 2,.t (.int (d:aj))] (Pn s r) rfl rfl [.b ae,.v _,.b af,.b af,.v _,.s _] (sV (l:=2) hd) e1 (fV (l:=0) h0) (fV (l:=1) h1) e (bx (hc s') rfl)⟩
 by_cases h0:j=0
 ·subst h0
  obtain⟨s',_,⟨ys,rfl,h1,h2⟩,e⟩:=mx (C:=CN (n+4)) (elt:=.call 98 [.au 0,.bin .add (.au 1) (.c (.int 1))]) (slot:=6) (au:=[aa (.m 2),aa (.t (.int (d:aj))),aa (.t (.int (0:aj))),ac,ac,ac,ac,ac,ac]) (k:=3) (P:=Vl g) hc (m8 (rS (n:=n+3) (k:=3) (i:=0) hc (by decide) (by decide) rfl) (by decide)) (by decide) (λx a8 s=>by
   refine dZ (hv _ (hc.tl (a8:=a8)) s) λs' v h e=>?_;exact⟨s',v,h,gJ (CN (n+4)) (.call 98 [.au 0,.bin .add (.au 1) (.c (.int 1))]) (upd [aa (.m 2),aa (.t (.int (d:aj))),aa (.t (.int (0:aj))),ac,ac,ac,ac,ac,ac] 6 (.t x)) (Pn s (r++[TL a8])) [.v _,.v _] fO e⟩) s1
  refine bH (GD h2) λxs z0 hx=>?_;subst z0;rw[aq] at h1;exact⟨s',_,⟨_,rfl,Gh hx (fH h1)⟩,bg (n+4) 98 [.m 2,.t (.int (d:aj))] (Pn s r) rfl rfl [.b ae,.v _,.b ae,.v _,.s _] (sV (l:=2) hd) e1 rfl e (bx (hc s') rfl)⟩
 by_cases h1:j=1
 ·subst h1
  have VC:CP (r++[MO.dict []]):=hc.one λZ=>rfl;refine dZ (m8 (C:=CN (n+4)) (rS (n:=n+3) (k:=3) (i:=0) (l:=Ox d ac (aa (.m (r.length+3))) ac) VC (by decide) (by decide) rfl) (by decide) s1) λs2 xs hxs hit=>?_
  refine OY (XD (n:=n+2) (d:=d) (g:=g) (xs:=xs) (l:=[]) (s:=s2) (x3:=ac) (x5:=ac) hc hv ⟨jF,nofun⟩ (by rw[c0,bM];exact fH hxs)) λs3 l y3 y5 g1 g2 lp=>?_
  refine k8 (acu (C:=CN (n+4)) (d:=d) (o3:=y3) (o5:=y5) (s:=s3) hc g1 g2) λv t h e eb=>?_;exact⟨s3,v,h,bg (n+4) 98 [.m 2,.t (.int (d:aj))] (Pn s r) rfl rfl [.b ae,.v _,.b af,.b ae,.v _,.l _,.v _,.v _,.s _] (sV (l:=2) hd) e1 rfl rfl (wJ (M:=Pn s1 r) (j:=r.length+3) rfl) (ix hit lp) e eb (gk (m:=Pn s3 r) (hc s3) rfl)⟩
 ·exact pl e1 h0 h1
theorem c98(hc:CP r):Dw (CN (n+7) 98 [.m 2,.t (.int (0:aj))]) r (Vl 3):=acw (n:=n+2) (by decide) (λZ h=>acw (n:=n+1) (d:=1) (by decide) (λZ h=>acv (n:=n) h) h) hc
theorem Ah:∀p∈NI,ur (p.1::p.2):=by
 have h:∀p∈NI,(p.1≠43/\p.1≠45/\p.1≠46/\(p.1<48\/57<p.1))/\(∀c∈p.1::p.2,sW (c:aj)=ae/\c<256)/\(p.1::p.2≠kh/\p.1::p.2≠iK/\p.1::p.2≠mm)/\p.1::p.2≠qc/\(p.1::p.2).length<=3:=by decide
 exact λp m=>⟨λc hc=>((h p m).2.1 c hc).1,bf _ _,mq (h p m).1,(h p m).2.2.1,(h p m).2.2.2.1,λc hc=>((h p m).2.1 c hc).2,(h p m).2.2.2.2⟩
def Og(v:T):Prop:=∃x:OD,x.v=v/\Wo x/\Nop x
theorem aiK(hc:CP r):Dw (CN (n+8) 100 [.m 2]) r Og:=λs=>by
 refine dZ (YB (n:=n+5) (xs:=NI.map λp=>.str (p.1::p.2)) hc (.inl rfl) (bf _ _) (show 9<=1000 by decide) s) λs1 Z hw e1=>?_
 refine bH (aT.mp hw) λp hp z0=>?_;subst z0;obtain⟨s2,_,⟨ys,rfl,h1,h2⟩,e2⟩:=mx (C:=CN (n+7)) (elt:=.call 98 [.au 0,.c (.int 0)]) (slot:=2) (au:=[aa (.m 2),aa (.t (.str (p.1::p.2))),ac,ac,ac]) (k:=4) (P:=Vl 3) hc (m8 (rS (n:=n+6) (k:=4) (i:=0) hc (by decide) (by decide) rfl) (by decide)) (by decide) (λx a8 s=>by
  refine dZ (c98 (n:=n) (hc.tl (a8:=a8)) s) λs' v h e=>?_;exact⟨s',v,h,gJ (CN (n+7)) (.call 98 [.au 0,.c (.int 0)]) (upd [aa (.m 2),aa (.t (.str (p.1::p.2))),ac,ac,ac] 2 (.t x)) (Pn s (r++[TL a8])) [.v _] e⟩) s1
 refine bH (GD h2) λxs z0 hx=>?_;subst z0;rw[aq] at h1;exact⟨s2,_,⟨_,rfl,Eg (Ah p hp) hx (fH h1),Sb hx⟩,bg (n+7) 100 [.m 2] (Pn s r) rfl rfl [.a,.v _,.v _,.v _,.s _] e1 e2 (Ii (hc s2)) (bx (hc s2) rfl)⟩
end
noncomputable def IB:ag (ag aj):=[[69],[73],[32],[10],[120],[69,73],[32,69,73]]
noncomputable def xD:ag T:=IB.map .bytes
noncomputable def UD(x:ag aj):Bool:=[32]==x||([10]==x||false)
noncomputable def NJ(t:ag aj)(k:aj):Bool:=UD ((t.drop k).take 1)&&((t.drop (k+1)).take 2==[69,73]&&UD ((t.drop (k+3)).take 1))
noncomputable def Cw:ag Nat:=[87]
noncomputable def Ei:ag Nat:=[70]
noncomputable def I8(z:bE):VD:=⟨.int z,λZ=>[(eM z,m5 (eM z))],λZ=>.int z,.tup [.str s8,.int z]⟩
noncomputable def nvd(s:ag aj):VD:=⟨.inst 2 [.str s],λZ=>[(oN s,tk g8 (.str s))],λZ=>.inst 2 [.str s],.tup [.str g8,.str s]⟩
noncomputable def lvd(xs:ag VD):VD:=⟨.list (xs.map VD.v),λl=>fw [91]::(xs.flatMap (λx=>x.ts l)++[fw [93]]),λl=>.list (xs.map λx=>x.u l),.tup (.str ms::xs.map VD.t)⟩
noncomputable def GF:VD:=lvd [nvd [65,72,120]]
noncomputable def rT(k:aj):qE:=[(Cw,I8 (k:aj))]
noncomputable def rU(k:aj):qE:=[(Cw,I8 (k:aj)),(Ei,GF)]
section
variable{n i j k e:aj}{m M r:Mu}{C:Calls}{s:bE×bE}{t o:ag aj}{P:aj->aW}{x:T}{v5 v6 v7:ar PV}
theorem XF{a b:bE}(h:mJ b=ae):G1 .mul (.int a) (.int b) m=.ok (.t (.int (a*b))) m:=aA (by rw[h,aW.or_true])
theorem XG{S:PV}:∀{xs:ag bE}{v:bE}{u:ar PV},∃v' u',forL 2 (execs C (ip (dT b93 1))) (xs.map T.int) [aa S,aa (.t (.int v)),u,ac,ac,ac] M=.ok (.next,[aa S,aa (.t (.int v')),u',ac,ac,ac]) M:=by
 intro xs
 induction xs with
 |nil=>exact λ{v u}=>⟨v,u,rfl⟩
 |cons x xs ih=>
  intro v u;refine gU (ih (v:=v*1061+2*(x.natAbs:aj)+(if decide (x<0) then 1 else 0)) (u:=aa (.t (.int x)))) λv' u' e=>?_
  exact⟨v',u',iJ C (ip (dT b93 1)) 2 [aa S,aa (.t (.int v)),u,ac,ac,ac] M (.int x) _ [.v _,.a,.a,.v _,.a,.b (decide (x<0)),.a,.a] (DK (XF rfl)) (DK (zF rfl)) rfl _ e⟩
theorem c93{xs:ag bE}(hl:xs.length<=bp):∃s,CN (n+1) 93 [.t (.list (xs.map T.int))] [.tab 0,.tab 1]=.ok (.m 2) (Pn s []):=by
 have e0:lM (.t (.list (xs.map T.int))) ac (aa (.t (.int 63))) [.tab 0,.tab 1]=.ok (.t (.list ((xs.take (clip (xs.map T.int).length 63)).map T.int))) [.tab 0,.tab 1]:=by
  show bS ((if(xs.map T.int).length<=bp then aa (T.list (((xs.map T.int).drop 0).take (clip (xs.map T.int).length 63-0))) else ac).map PV.t) _=_
  rw[aA (by rw[aq];exact hl),jE,EH, <-AF];rfl
 refine gU (XG (C:=CN n) (S:=.t (.list (xs.map T.int))) (M:=[.tab 0,.tab 1]) (xs:=xs.take (clip (xs.map T.int).length 63)) (v:=41) (u:=ac)) λv u e=>?_;exact⟨(v,0),bg n 93 [.t (.list (xs.map T.int))] [.tab 0,.tab 1] rfl rfl [.l _,.v (.ok (.m 2) (Pn (v,0) [])),.v (.ok (.m 2) (Pn (v,0) []))] (ix (lN (gJ (CN n) (.slice (.au 0) ac (aa (.c (.int 63)))) [aa (.t (.list (xs.map T.int))),aa (.t (.int 41)),ac,ac,ac,ac] [.tab 0,.tab 1] [.v _] e0) rfl) e) (aA (show 2<=bp by decide)) rfl⟩
theorem NK{c:aj}(h:c∈[69,73,32,10,120]):BN (c:aj)=UD [c]:=(show ∀c∈[69,73,32,10,120],BN (c:aj)=UD [c] by decide) c h
theorem Si(h:∀c∈t,c∈[69,73,32,10,120])(hk:k+3<t.length):NJ t k=endAt t k:=by
 have hm:∀x∈t.drop k,x∈[69,73,32,10,120]:=λx m=>h x (GP m);have hl:3<(t.drop k).length:=by rw[dD];exact aj.lt_sub_iff_add_lt'.mpr ‹_›
 unfold NJ endAt;rw[<-dP (i:=1), <-dP (i:=3)];generalize t.drop k=y at hm hl;cases y with
 |nil=>cases hl
 |cons a y=>
  cases y with
  |nil=>exact aQ hl (show ¬3<1 by decide)
  |cons b y=>
   cases y with
   |nil=>exact aQ hl (show ¬3<2 by decide)
   |cons c y=>
    cases y with
    |nil=>exact aQ hl (show ¬3<3 by decide)
    |cons d y=>
     show(UD [a]&&(([b,c]==[69,73])&&UD [d]))=(([b,c]==[69,73])&&(BN a&&BN d));rw[NK (hm a (.head _)),NK (hm d (.tail _ (.tail _ (.tail _ (.head _)))))];cases UD [a]<;>cases ([b,c]==[69,73])<;>rfl
noncomputable def gI(P:aj->aW)(k:aj):ar T:=if P k=ae then aa (.int (k:aj)) else ac
theorem NM:∀{c s:aj},s<=k->k<s+c->P k=ae->∃e r,(ew s c).filterMap (gI P)=.int (e:aj)::r/\P e=ae/\e<=k/\∀j,s<=j->j<e->P j=false:=by
 intro c
 induction c with
 |zero=>exact λh1 h2 Z=>aQ h2 (eO.mpr h1)
 |succ c ih=>
  intro s h1 h2 h3;rw[u5];cases hs:P s with
  |true=>exact⟨s,_,jb (aA hs),hs,h1,λj h1 h2=>aQ h2 (eO.mpr h1)⟩
  |false=>
   have hk:s+1<=k:=jy h1 λq=>by rw[q,h3] at hs;cases hs
   refine vg (ih hk (by omega) h3) λe r h4 h5 h6 h7=>?_
   refine⟨e,r,by rw[mI (show gI P s=ac from aL (by rw[hs];decide))];exact h4,h5,h6,λj h1 h2=>?_⟩
   by_cases q:s=j
   ·rw[<-q];exact hs
   ·exact h7 j (jy h1 q) h2
noncomputable abbrev Oy(o:ag aj)(v5 v6 v7:ar PV):Loc:=[aa (.m 2),aa (.m 3),aa (.t (.bytes o)),aa (.t (.bytes (o++k5))),aa (.t (.tup [.bytes [32],.bytes [10]])),v5,v6,v7,ac,ac]
noncomputable abbrev IC:E:=.and (.cmp .isIn (.slice (.au 3) (aa (.au 7)) (aa (.bin .add (.au 7) (.c (.int 1))))) (.au 4)) (.and (.cmp .eq (.slice (.au 3) (aa (.bin .add (.au 7) (.c (.int 1)))) (aa (.bin .add (.au 7) (.c (.int 3))))) (.c (.bytes [69,73]))) (.cmp .isIn (.slice (.au 3) (aa (.bin .add (.au 7) (.c (.int 3)))) (aa (.bin .add (.au 7) (.c (.int 4))))) (.au 4)))
theorem XH(hd:t.length<=bp)(h:k+j<=t.length):lM (.t (.bytes t)) (aa (.t (.int (k:aj)))) (aa (.t (.int (k+j:aj)))) m=.ok (.t (.bytes ((t.drop k).take j))) m:=by
 rw[slc hd (aw k j) h,aU]
theorem XI(hm:Cl M)(ho:∀c∈o,c∈[69,73,32,10,120])(hl:o.length<=100):ev C (.comp (.au 7) 7 (.range [.bin .sub (.bi .len [.au 3]) (.c (.int 3))]) [IC]) (Oy o ac ac ac) M=.ok (.t (.list ((ew 0 (o.length+1)).filterMap (gI (endAt (o++k5)))))) M:=by
 have hL:(o++k5).length=o.length+4:=ah;have Sj:(o++k5).length<=bp:=by rw[hL];unfold bp;omega
 have hch:∀c∈o++k5,c∈[69,73,32,10,120]:=λc m=>(bt.mp m).elim (ho c) ((by decide:∀c∈k5,c∈[69,73,32,10,120]) c)
 have hb:k9 .sub (.t (.int ((o++k5).length:aj))) (.t (.int 3)) M=.ok (.t (.int ((o.length+1:aj):bE))) M:=by
  rw[hL];refine sX.trans (av (λz=>Res.ok (PV.t (.int z)) M) ?_);omega
 rw[<-qj];refine uS (C:=C) (elt:=.au 7) (slot:=7) (dN:=[IC]) (gq:=Oy o ac ac ac) (au:=Oy o ac ac ac) (mu:=M) (λk:aj=>.int (k:aj)) (gI (endAt (o++k5))) (l:=be (o.length+1)) (Ra C [.bin .sub (.bi .len [.au 3]) (.c (.int 3))] (Oy o ac ac ac) M [.v _,.v _] (jU Sj) hb _ (DN (by unfold bp;omega))) hm (by rw[fF];unfold bp;omega) λk hk a8=>?_
 have hk:k<o.length+1:=iE.mp hk;have hq:NJ (o++k5) k=endAt (o++k5) k:=Si hch (by omega)
 have s1:=XH (m:=M++[TL a8]) (k:=k) (j:=1) Sj (by omega)
 have s2:=XH (m:=M++[TL a8]) (k:=k+1) (j:=2) Sj (by omega)
 have s3:=XH (m:=M++[TL a8]) (k:=k+3) (j:=1) Sj (by omega)
 have hc:ni C IC (Oy o ac ac (aa (.t (.int (k:aj))))) (M++[TL a8])=.ok (NJ (o++k5) k) (M++[TL a8]):=by
  unfold NJ;cases h1:UD (((o++k5).drop k).take 1) with
  |false=>exact DL C IC (Oy o ac ac (aa (.t (.int (k:aj))))) (M++[TL a8]) [.v _,.v _,.b af] fO s1 (av aa h1)
  |true=>
   cases h2:((o++k5).drop (k+1)).take 2==[69,73] with
   |false=>exact DL C IC (Oy o ac ac (aa (.t (.int (k:aj))))) (M++[TL a8]) [.v _,.v _,.b ae,.v _,.v _,.v _,.b af] fO s1 (av aa h1) fO (gH (l:=3)) s2 (av aa h2)
   |true=>exact DL C IC (Oy o ac ac (aa (.t (.int (k:aj))))) (M++[TL a8]) [.v _,.v _,.b ae,.v _,.v _,.v _,.b ae,.v _,.v _,.v _,.b _] fO s1 (av aa h1) fO (gH (l:=3)) s2 (av aa h2) (gH (l:=3)) (gH (l:=4)) s3 rfl
 rw[hq] at hc;unfold gI;cases hp:endAt (o++k5) k with
 |true=>rw[hp] at hc;exact⟨wZ hc,rfl⟩
 |false=>rw[hp] at hc;exact wZ hc
end
section
variable{n i j k e:aj}{m M:Mu}{C:Calls}{s:bE×bE}{o:ag aj}{ps:ag (ag aj)}
theorem XJ{d:aj}(h:k<9):Wv d (I8 (k:aj)):=Nf (z:=(k:aj)) (bA h (by decide))
theorem XK{d:aj}:Wv (d+1) GF:=Gh (xs:=[nvd [65,72,120]]) (λx m=>by rw[aC.mp m];exact uV (by unfold pR;decide) (by decide)) (by decide)
theorem GG:(pR Cw/\Cw.length<=3)/\pR Ei/\Ei.length<=3:=by unfold pR;decide
theorem XM{d:aj}(h:k<9):Uq (d+1) (Cw,I8 (k:aj)):=⟨GG.1.1,GG.1.2,nofun,XJ h⟩
theorem acy{d:aj}:Uq (d+1) (Ei,GF):=⟨GG.2.1,GG.2.2,nofun,XK⟩
theorem aiL(h:k<9):qF (rT k):=⟨hY 1,(show[Cw].Nodup by decide),λx m d=>by rw[aC.mp m];exact XM h⟩
theorem acz(h:k<9):qF (rU k):=⟨aP 2,(show[Cw,Ei].Nodup by decide),λx m d=>(aJ.mp m).elim (λe=>e▸XM h) λm=>aC.mp m▸acy⟩
theorem aiM(h:k<9):qF [(Ei,GF),(Cw,I8 (k:aj))]:=⟨aP 2,(show[Ei,Cw].Nodup by decide),λx m d=>(aJ.mp m).elim (λe=>e▸acy) λm=>aC.mp m▸XM h⟩
def HK(kx:qE):Prop:=∃k,k<9/\(kx=rT k\/kx=rU k)
theorem HK.ok{kx:qE}(h:HK kx):qF kx:=by
 obtain⟨k,hk,rfl |rfl⟩:=h
 ·exact aiL hk
 ·exact acz hk
theorem NN{au:Loc}{k:ag aj}{e:E}{v:T}{m1:Mu}(h:ev C e au (m++[MO.dict []])=.ok (.t v) (m1++[MO.dict []]))(hl:m1.length=m.length):ev C (.newDict [(.c (.str k),e)]) au m=.ok (.m m.length) (m1++[MO.dict (ec [(k,v)])]):=by
 show(Pd C [(.c (.str k),e)] au (m++[MO.dict []])).bind (λps d9=>if gD d9 m.length then Res.ok (PV.m m.length) (d9.set m.length (.dict ps)) else .aK)=_
 have e1:Pd C [(.c (.str k),e)] au (m++[MO.dict []])=.ok [(.str k,v)] (m1++[MO.dict []]):=by
  show(ev C e au (m++[MO.dict []])).bind _=_;rw[h];rfl
 rw[e1, <-hl];show(if gD (m1++[MO.dict []]) m1.length then Res.ok (PV.m m1.length) ((m1++[MO.dict []]).set m1.length (MO.dict [(.str k,v)])) else .aK)=_
 rw[show gD (m1++[MO.dict []]) m1.length=ae by unfold gD;rw[r7 rfl];rfl,sY rfl];rfl
theorem NO:∀{ys:ag T},(∀y∈ys,∃p,p∈IB/\y=.bytes p)->∃ps:ag (ag aj),ys=ps.map .bytes/\∀p∈ps,p∈IB:=by
 intro ys
 induction ys with
 |nil=>exact λZ=>⟨[],rfl,nofun⟩
 |cons y ys ih=>
  intro h;refine bH (ih λz m=>h z (.tail _ m)) λps z0 hp=>?_;subst z0;refine bH (h y (.head _)) λp h0 z0=>?_;subst z0;exact⟨p::ps,rfl,λz m=>(aJ.mp m).elim (λe=>e▸h0) (hp z)⟩
theorem NP(h:∀p∈ps,p.length<=3):ps.flatten.length<=3*ps.length:=by
 induction ps with
 |nil=>exact aP _
 |cons p ps ih=>
  have:=h p (.head _)
  have:=ih λq m=>h q (.tail _ m)
  show(p++ps.flatten).length<=_;rw[ah,aO];omega
theorem c99(hc:CP [])(s:bE×bE):∃s' kx o e,HK kx/\(∀c∈o,c<256)/\o.length<=18/\e<=o.length/\endAt (o++k5) e=ae/\(∀k,k<e->endAt (o++k5) k=af)/\CN (n+3) 99 [.m 2] (Pn s [])=.ok (.t (.tup [Cg kx o,.bool (!((e:bE)==(o.length:bE)))])) (Pn s' []):=by
 have h1:CP [TL xD]:=hc.tl (a8:=xD);obtain⟨s1,_,⟨ys,rfl,hl,hy⟩,e1⟩:=mx (C:=CN (n+2)) (elt:=.call 95 [.au 0,.au 1]) (slot:=7) (au:=[aa (.m 2),aa (.m 3),ac,ac,ac,ac,ac,ac,ac,ac]) (k:=7) (P:=λy=>∃p,p∈IB/\y=.bytes p) h1 (m8 (rS (n:=n+1) (k:=7) (i:=0) h1 (by decide) (by decide) rfl) (by decide)) (by decide) (λx a8 s=>by
  refine dZ (YB (n:=n) (v:=.m 3) (xs:=xD) (h1.tl (a8:=a8)) (.inr ⟨3,rfl,λZ=>rfl⟩) (bf _ _) (show 7<=1000 by decide) s) λs' y hy e=>?_
  refine bH (aT.mp hy) λp hp z0=>?_;subst z0;exact⟨s',_,⟨p,hp,rfl⟩,gJ (CN (n+2)) (.call 95 [.au 0,.au 1]) (upd [aa (.m 2),aa (.m 3),ac,ac,ac,ac,ac,ac,ac,ac] 7 (.t x)) (Pn s ([TL xD]++[TL a8])) [.v _] e⟩) s
 refine bH (NO hy) λps z0 hp=>?_;subst z0;rw[aq] at hl;have uX:ps.flatten.length<=18:=ai (NP λp m=>(by decide:∀p∈IB,p.length<=3) p (hp p m)) (cm 3 (fH hl))
 have hoc:∀c∈ps.flatten,c∈[69,73,32,10,120]:=λc m=>by
  refine bH (ag.mem_flatten.mp m) λp m1 m2=>?_;exact(by decide:∀p∈IB,∀c∈p,c∈[69,73,32,10,120]) p (hp p m1) c m2
 have hj:=Gm (C:=CN (n+2)) (M:=Pn s1 [TL xD]) (sep:=[]) (bs:=ps) (v:=.t (.list (ps.map .bytes))) rfl (by decide) (by rw[kR];exact ai uX (by decide))
 rw[kR] at hj;generalize ps.flatten=o at uX hoc hj;have aiN:endAt (o++k5) o.length=true:=by have:=Ef (o:=o) (R:=[]);rwa[aH] at this
 refine vg (NM (P:=endAt (o++k5)) (c:=o.length+1) (s:=0) (k:=o.length) (cF _) (by omega) aiN) λe es he1 he2 he he3=>?_
 have e5:=XI (C:=CN (n+2)) (h1 s1) hoc (ai uX (by decide))
 have VR:=AM (gI (endAt (o++k5))) (ew 0 (o.length+1));rw[he1,ag.length_range'] at VR;rw[he1] at e5;have hd:∀kv:KV,CP [TL xD,MO.dict (ec kv)]:=λkv=>h1.one λZ=>rfl;obtain⟨s2,_,⟨k,hk,rfl⟩,e2⟩:=GB (n:=n+1) (k:=9) (hd []) (by decide) (by decide) s1
 obtain⟨s3,_,⟨z,hz,rfl⟩,e3⟩:=GB (n:=n+1) (k:=2) (hd (cD VD.v (rT k))) (by decide) (by decide) s2
 have e6:ev (CN (n+2)) (.newDict [(.c (.str [87]),.call 94 [.au 0,.c (.int 9)])]) (Oy o (aa (.t (.list (.int (e:aj)::es)))) ac ac) (Pn s1 [TL xD])=.ok (.m 4) (Pn s2 [TL xD,MO.dict (ec (cD VD.v (rT k)))]):=
  NN (m:=Pn s1 [TL xD]) (m1:=Pn s2 [TL xD]) (gJ (CN (n+2)) (.call 94 [.au 0,.c (.int 9)]) (Oy o (aa (.t (.list (.int (e:aj)::es)))) ac ac) (Pn s1 [TL xD,MO.dict []]) [.v _] e2) rfl
 have sb:∀m,bS (mK (.t (.list (.int (e:aj)::es))) (.t (.int 0)) m) m=.ok (.t (.int (e:aj))) m:=λm=>by
  rw[Ec];show bS (idx (T.int (e:aj)::es) PV.t ((0:aj):bE)) m=_;rw[wz (f:=PV.t) (k:=0) rfl (by unfold bp;omega)];rfl
 have acA:o.length<=bp:=ai uX (by decide)
 have acB:∀c∈o,c<256:=λc m=>(by decide:∀c∈[69,73,32,10,120],c<256) c (hoc c m)
 have ne:eC .ne (.t (.int (e:aj))) (.t (.int (o.length:aj))) (Pn s3 [TL xD,MO.dead])=aa (!((e:bE)==(o.length:bE))):=rfl;have fin:∀kx:qE,wy [.m 4,.t (.inst 3 [.bytes o,.bool af])] (Pn s3 [TL xD,MO.dict (ec (cD VD.v kx))])=.ok (.t (.list [T.dict (ec (cD VD.v kx)),.inst 3 [.bytes o,.bool af]])) (Pn s3 [TL xD,MO.dead]):=λkx=>by
  show h9 [T.dict (ec (cD VD.v kx)),.inst 3 [.bytes o,.bool af]] (Pn s3 [TL xD,MO.dead])=_;exact aA (show 2<=bp by decide)
 have hdd:CP [TL xD,MO.dead]:=h1.one λZ=>rfl;have n1:DH [.t (.bytes [69]),.t (.bytes [73]),.t (.bytes [32]),.t (.bytes [10]),.t (.bytes [120]),.t (.bytes [69,73]),.t (.bytes [32,69,73])] (Pn s [])=.ok (.m 3) (Pn s [TL xD]):=aA (show 7<=bp by decide)
 have cl:d7 (Pn s []).length (Pn s3 [TL xD,MO.dead])=aa (Pn s3 []):=gk (m:=Pn s3 []) (hc s3) rfl;rcases(show z=0\/z=1 by omega) with rfl |rfl
 ·exact⟨s3,rT k,o,e,⟨k,hk,.inl rfl⟩,acB,uX,he,he2,λk h=>he3 k (cF _) h,bg (n+2) 99 [.m 2] (Pn s []) rfl rfl [.v _,.k _,.v _,.v _,.v _,.v _,.v _,.v _,.v _,.b af,.v _,.v _,.v _,.v _,.v _,.b _,.v _,.s _] n1 rfl e1 hj (xC (b:=k5) (by show o.length+4<=bp;unfold bp;omega)) uq e5 e6 e3 rfl (FQ (hd _ s3)) (fin (rT k)) (Ii (hdd s3)) (sb _) (jU acA) ne uq cl⟩
 ·have es:xo (.m 4) (.t (.str [70])) (.t GF.v) (Pn s3 [TL xD,MO.dict (ec (cD VD.v (rT k)))])=.ok () (Pn s3 [TL xD,MO.dict (ec (cD VD.v (rU k)))]):=Ci (X:=Pn s3 [TL xD,MO.dict (ec (cD VD.v (rT k)))]) (j:=4) (k:=Ei) (v:=GF) (l:=rT k) rfl (show 1<bp by decide)
  exact⟨s3,rU k,o,e,⟨k,hk,.inr rfl⟩,acB,uX,he,he2,λk h=>he3 k (cF _) h,bg (n+2) 99 [.m 2] (Pn s []) rfl rfl [.v _,.k _,.v _,.v _,.v _,.v _,.v _,.v _,.v _,.b ae,.v _,.v (.ok (.t GF.v) _),.s _,.v _,.v _,.v _,.v _,.v _,.b _,.v _,.s _] n1 rfl e1 hj (xC (b:=k5) (by show o.length+4<=bp;unfold bp;omega)) uq e5 e6 e3 rfl (Mv (hd _ s3)) rfl es (FQ (hd _ s3)) (fin (rU k)) (Ii (hdd s3)) (sb _) (jU acA) ne uq cl⟩
end
noncomputable def acC(w:ag aj)(xs:ag VD):OD:=⟨I7 w xs,λl=>oW l w xs++tl l,λl=>rdN l w xs,.tup [.str w,.tup (xs.map VD.t)]⟩
noncomputable def aiO(kx:qE)(o:ag aj):OD:=⟨Cg kx o,λl=>Cv l kx o,λl=>.Ry (Nz l kx) o,.tup [.str qc,.tup [.tup (.str g9::(gK kx).map λx=>.tup [.str x.1,x.2.t]),.tup [.str qC,.bytes o]]]⟩
noncomputable def j5(kx:qE)(o:ag aj):ag OD:=[acC [113] [],aiO kx o,acC [103,115] [nvd []]]
section
variable{n j k e:aj}{m M r:Mu}{C:Calls}{s:bE×bE}{w t o:ag aj}{kx:qE}{l b:aW}{x3 x4 x5 x6 x7:ar PV}{elt:E}{slot:aj}{it:It}{au gq:Loc}{x1 x2 y:T}{q:ag T}
theorem acD:ur [113]:=Ah (113,[]) (by decide)
theorem acE:ur [103,115]:=Ah (103,[115]) (by decide)
theorem Ej(h:qF kx)(R9:∀c∈o,c<256)(uX:o.length<=18)(iZ:∀k,k<o.length->endAt (o++k5) k=af):∀y∈j5 kx o,Wo y:=λy m=>by
 rcases aJ.mp m with rfl |m
 ·exact Eg acD nofun (by decide)
 rcases aJ.mp m with rfl |m
 ·exact Xu h R9 uX iZ
 ·rw[aC.mp m]
  exact Eg (xs:=[nvd []]) acE (λx m=>by rw[aC.mp m];exact uV nofun (by decide)) (by decide)
theorem Sk(hit:io C it au m=.ok (x1::x2::q,gq) m)(h1:ev C elt (upd gq slot (.t x1)) (m++[TL []])=.ok (.t y) (m++[TL []]))(h2:ev C elt (upd gq slot (.t x2)) (m++[TL [y]])=.exc (m++[TL [y]])):ev C (.comp elt slot it []) au m=.exc (m++[TL [y]]):=by
 show(io C it au m).bind (λp mu=>(dS (ja C elt [] mu.length) slot p.2 p.1 (mu++[TL []])).bind λZ d9=>eD mu.length d9)=_;rw[hit];show((((ev C elt (upd gq slot (.t x1)) (m++[TL []])).bind λv d9=>(d0 v d9).bind λt d9=>n8 m.length t d9).bind λZ mu=>((ev C elt (upd gq slot (.t x2)) mu).bind λv d9=>(d0 v d9).bind λt d9=>n8 m.length t d9).bind λZ mu=>dS (ja C elt [] m.length) slot gq q mu).bind λZ d9=>eD m.length d9)=_;rw[h1];show(((n8 m.length y (m++[TL []])).bind λZ mu=>((ev C elt (upd gq slot (.t x2)) mu).bind λv d9=>(d0 v d9).bind λt d9=>n8 m.length t d9).bind λZ mu=>dS (ja C elt [] m.length) slot gq q mu).bind λZ d9=>eD m.length d9)=_;rw[uN rfl (by decide)]
 show(((ev C elt (upd gq slot (.t x2)) (m++[TL [y]])).bind λv d9=>(d0 v d9).bind λt d9=>n8 m.length t d9).bind λZ mu=>dS (ja C elt [] m.length) slot gq q mu).bind (λZ d9=>eD m.length d9)=_;rw[h2];rfl
theorem aiP(hm:Cl M)(h:qF kx)(uX:o.length<=100)(he:endAt (o++k5) e=ae)(iZ:∀k,k<e->endAt (o++k5) k=af)(Oh:e<o.length):CN (n+17) 92 [.t (hU (j5 kx o)),.t (.bool l)] M=.exc M:=by
 have g1:=acm (n:=n+1) (l:=l) (w:=[113]) (xs:=[]) (hm.tl (xs:=[])) acD nofun (by decide)
 have g2:=acp (n:=n) (l:=l) (kx:=kx) (hm.tl (xs:=[T.bytes (oW l [113] []++tl l)])) h uX he iZ (a9 Oh);rw[aA Oh] at g2;have e1:=Sk (C:=CN (n+16)) (elt:=.call 91 [.au 3,.au 1]) (slot:=3) (it:=.name 0) (au:=[aa (.t (hU (j5 kx o))),aa (.t (.bool l)),ac,ac,ac,ac]) (m:=M) (q:=[I7 [103,115] [nvd []]]) (gq:=[aa (.t (hU (j5 kx o))),aa (.t (.bool l)),ac,ac,ac,ac]) rfl
  (gJ (CN (n+16)) (.call 91 [.au 3,.au 1]) [aa (.t (hU (j5 kx o))),aa (.t (.bool l)),ac,aa (.t (I7 [113] [])),ac,ac] (M++[TL []]) [.v _] g1) (gJ (CN (n+16)) (.call 91 [.au 3,.au 1]) [aa (.t (hU (j5 kx o))),aa (.t (.bool l)),ac,aa (.t (Cg kx o)),ac,ac] (M++[TL [T.bytes (oW l [113] []++tl l)]]) [.v _] g2)
 exact bg (n+16) 92 [.t (hU (j5 kx o)),.t (.bool l)] M rfl rfl [.v _,.s _] e1 (gk hm rfl)
theorem Sl{e:E}{M':Mu}{j:aj}(h:ev C e au M=.exc M')(k:tabAt j M=ae):ni C (.refused j e) au M=.ok ae M':=by
 show(if tabAt j M then(match ev C e au M with |.ok _ mu=>Res.ok af mu |.exc mu=>.ok ae mu |.aK=>.aK) else .aK)=_
 rw[k,h];rfl
noncomputable abbrev xE(kx:qE)(o:ag aj)(b:aW)(x3 x4 x5 x6 x7:ar PV):Loc:=[aa (.m 2),aa (.t (Cg kx o)),aa (.t (.bool b)),x3,x4,x5,x6,x7,aa (.t (hU (j5 kx o))),ac,ac,ac]
theorem acF(hc:CP [])(h:qF kx)(R9:∀c∈o,c<256)(uX:o.length<=18)(he:endAt (o++k5) e=ae)(iZ:∀k,k<e->endAt (o++k5) k=af)(hle:e<=o.length)(hb:b=decide (e<o.length)):forL 7 (execs (CN (n+17)) (ip (dT vQ 2))) [.bool af,.bool ae] (xE kx o b ac ac ac ac ac) (Pn s [])=.ok (.next,xE kx o b ac ac ac ac (aa (.t (.bool ae)))) (Pn s []):=by
 have t1:∀l x7 r q,forL 7 (execs (CN (n+17)) (ip (dT vQ 2))) r (xE kx o b ac ac ac ac (aa (.t (.bool l)))) (Pn s [])=q->forL 7 (execs (CN (n+17)) (ip (dT vQ 2))) (.bool l::r) (xE kx o b ac ac ac ac x7) (Pn s [])=q:=by
  intro l x7 r q hq
  by_cases hk:e<o.length
  ·rw[bc hk] at hb
   subst hb;have ex:=Sl (C:=CN (n+17)) (j:=0) (au:=xE kx o ae ac ac ac ac (aa (.t (.bool l)))) (e:=.call 92 [.au 8,.au 7]) (M:=Pn s []) (M':=Pn s []) (gJ (CN (n+17)) (.call 92 [.au 8,.au 7]) (xE kx o ae ac ac ac ac (aa (.t (.bool l)))) (Pn s []) [.v _] (aiP (l:=l) (hc s) h (ai uX (by decide)) he iZ hk)) rfl
   exact iJ (CN (n+17)) (ip (dT vQ 2)) 7 (xE kx o ae ac ac ac ac x7) (Pn s []) (.bool l) r [.a,.b ae] ex q hq
  ·rw[aY hk] at hb
   subst hb;cases gy hle (cH hk);have hw:=Ej h R9 uX iZ;exact iJ (CN (n+17)) (ip (dT vQ 2)) 7 (xE kx o af ac ac ac ac x7) (Pn s []) (.bool l) r [.a,.v _,.v _,.v _,.b af] (YA (n:=n) (hc s) hw (show 3<=10 by decide)) (Sa (n:=n+5) hw (show 3<=10 by decide) (hc s)) (ND (n:=n+10) hw (show 3<=10 by decide) (hc s)) (av (GU (!·)) (Ag hw)) q hq
 exact t1 af ac _ _ (t1 ae _ _ _ rfl)
theorem XN:wC ae (j5 [(Ei,GF),(Cw,I8 (k:aj))] o)=wC ae (j5 (rU k) o):=by
 have h:Cv ae [(Ei,GF),(Cw,I8 (k:aj))] o=Cv ae (rU k) o:=by
  unfold Cv Ny Gx rU;rw[show ord ae [(Ei,GF),(Cw,I8 (k:aj))]=ord ae [(Cw,I8 (k:aj)),(Ei,GF)] from rfl]
 show jl ae [_,Cv ae _ o,_]=jl ae [_,Cv ae _ o,_];rw[h]
theorem XO:wC af (j5 [(Ei,GF),(Cw,I8 (k:aj))] o)≠wC af (j5 (rU k) o):=λh=>by
 have h1:(wC af (j5 [(Ei,GF),(Cw,I8 (k:aj))] o))[6]? =aa 70:=rfl;have h2:(wC af (j5 (rU k) o))[6]? =aa 87:=rfl;rw[h,h2] at h1;cases (h1)
end
section
variable{n k e:aj}{m M:Mu}{C:Calls}{s:bE×bE}{o:ag aj}{kx:qE}{l b:aW}{x y z:T}{x3 x4 x5 x6 x7:ar PV}
theorem acG:wy [.t x,.t y,.t z] m=.ok (.t (.list [x,y,z])) m:=by
 show h9 [x,y,z] m=_;exact aA (show 3<=bp by decide)
theorem XQ:wy [.t x] m=.ok (.t (.list [x])) m:=by
 show h9 [x] m=_;exact aA (show 1<=bp by decide)
theorem XR:wy [] m=.ok (.t (.list [])) m:=by
 show h9 [] m=_;exact aA (show 0<=bp by decide)
noncomputable abbrev Cj(kx:qE):T:=.dict (ec (cD VD.v kx))
noncomputable abbrev ID(o:ag aj):T:=.inst 3 [.bytes o,.bool af]
theorem turned(hc:Cl M)(hl:kx.length<=2)(hn:(kx.map dQ).Nodup){b:PV}{x8:ar PV}:ev C (.comp (.tup [.au 9,.sub (.au 3) (.au 9)]) 9 (.rev (.bi .list [.au 3])) []) [aa (.m 2),x3,aa b,aa (.t (Cj kx)),x4,x5,x6,x7,x8,ac,ac,ac] M=.ok (.t (.list (Sg (cD VD.v kx.reverse)))) M/\uf .dict [.t (.list (Sg (cD VD.v kx.reverse)))] M=.ok (.t (Cj kx.reverse)) M:=by
 have zy:(keysOf (cD VD.v kx)).Nodup:=by show((cD VD.v kx).map dQ).Nodup;rw[kJ];exact hn
 have hk:uf .list [.t (Cj kx)] M=.ok (.t (.list (kx.map λx=>T.str x.1))) M:=by
  show h9 ((ec (cD VD.v kx)).map (·.1)) M=_;rw[show(ec (cD VD.v kx)).map (·.1)=kx.map λx=>T.str x.1 by unfold ec cD;rw[ba,ba];rfl]
  exact aA (by rw[aq];exact ai hl (by decide))
 have hit:io C (.rev (.bi .list [.au 3])) [aa (.m 2),x3,aa b,aa (.t (Cj kx)),x4,x5,x6,x7,x8,ac,ac,ac] M=.ok (kx.reverse.map λx=>T.str x.1,[aa (.m 2),x3,aa b,aa (.t (Cj kx)),x4,x5,x6,x7,x8,ac,ac,ac]) M:=by
  show(ev C (.bi .list [.au 3]) [aa (.m 2),x3,aa b,aa (.t (Cj kx)),x4,x5,x6,x7,x8,ac,ac,ac] M).bind _=_;rw[gJ C (.bi .list [.au 3]) [aa (.m 2),x3,aa b,aa (.t (Cj kx)),x4,x5,x6,x7,x8,ac,ac,ac] M [.v _] hk,OT];rfl
 have e:=ju (C:=C) (dN:=[]) (elt:=.tup [.au 9,.sub (.au 3) (.au 9)]) (slot:=9) (λx:ag aj×VD=>.str x.1) (λx=>.tup [.str x.1,x.2.v]) hit hc (by rw[fU];exact ai hl (by decide)) λx hx a8=>
  ⟨rfl,gJ C (.tup [.au 9,.sub (.au 3) (.au 9)]) [aa (.m 2),x3,aa b,aa (.t (Cj kx)),x4,x5,x6,x7,x8,aa (.t (.str x.1)),ac,ac] (M++[TL a8]) [.v _,.v _] (lF zy (aT.mpr ⟨x,OS.mp hx,rfl⟩)) uq⟩
 rw[show kx.reverse.map (λx=>T.tup [.str x.1,x.2.v])=Sg (cD VD.v kx.reverse) by unfold Sg cD;rw[ba];rfl] at e
 refine⟨e,tY (Nl (b:=cD VD.v kx) ?_ zy) (by rw[mw,fU];exact ai hl (by decide))⟩
 unfold cD;exact(ag.reverse_perm kx).map _
theorem acH{a b c:T}:bS (mK (.t (.list [a,b,c])) (.t (.int 0)) m) m=.ok (.t a) m/\bS (mK (.t (.list [a,b,c])) (.t (.int 2)) m) m=.ok (.t c) m:=⟨rfl,rfl⟩
theorem acI{x y:ag aj}:eC .eq (.t (.bytes x)) (.t (.bytes y)) m=aa (x==y):=rfl
theorem acJ(hc:CP [])(s:bE×bE):∃s',CN (n+18) 104 [.m 2] (Pn s [])=.ok (.t (.bool ae)) (Pn s' []):=by
 refine aeM (c99 (n:=n+14) hc s) λs1 kx o e hk R9 uX hle he iZ e99=>?_;have h:=hk.ok;have hb:(!((e:bE)==(o.length:bE)))=decide (e<o.length):=by
  by_cases q:e<o.length
  ·rw[bc q,show((e:bE)==(o.length:bE))=af from aD.mpr λx=>dB q (lm x)];rfl
  ·rw[aY q,gy hle (cH q),dJ];rfl
 rw[hb] at e99;have lp:=acF (n:=n) (s:=s1) hc h R9 uX he iZ hle rfl;have fo:=ix (C:=CN (n+17)) (slot:=7) (it:=.val (.tup [.c (.bool af),.c (.bool ae)])) (au:=xE kx o (decide (e<o.length)) ac ac ac ac ac) (lN (gJ (CN (n+17)) (.tup [.c (.bool af),.c (.bool ae)]) (xE kx o (decide (e<o.length)) ac ac ac ac ac) (Pn s1 []) [.v _] uq) rfl) lp;refine gf (turned (C:=CN (n+17)) (M:=Pn s1 []) (x3:=aa (.t (Cg kx o))) (b:=.t (.bool (decide (e<o.length)))) (x4:=aa (.t (ID o))) (x5:=ac) (x6:=ac) (x7:=aa (.t (.bool ae))) (x8:=aa (.t (hU (j5 kx o)))) (hc s1) h.len h.nd) λd1 d2=>?_;have n4:∀{u v:T},fm (CN (n+17)) 4 [.t u,.t v] (Pn s1 [])=.ok (.t (.inst 4 [u,v])) (Pn s1 []):=Ii (hc s1);have A:=run (C:=CN (n+17)) (vQ.take 6) [aa (.m 2),ac,ac,ac,ac,ac,ac,ac,ac,ac,ac,ac] (Pn s []) [.v _,.v _,.v _,.v _,.v _,.v _,.v (.ok (.t (hU (j5 kx o))) (Pn s1 [])),.l _,.v (.ok (.t (.list [Cj kx,ID o])) (Pn s1 [])),.v _,.v _,.v _,.v _,.v _,.v _,.v (.ok (.t (hU (j5 kx.reverse o))) (Pn s1 []))] e99 XR n4 (Mv (hc s1)) XQ n4 acG fo rfl d1 d2 acH.1 Im n4 acH.2 acG
 suffices B:∃lc,execs (CN (n+17)) (vQ.drop 6) [aa (.m 2),aa (.t (Cg kx o)),aa (.t (.bool (decide (e<o.length)))),aa (.t (Cj kx)),aa (.t (ID o)),aa (.t (Cj kx.reverse)),aa (.t (hU (j5 kx.reverse o))),aa (.t (.bool ae)),aa (.t (hU (j5 kx o))),ac,ac,ac] (Pn s1 [])=.ok (.ret (.t (.bool ae)),lc) (Pn s1 []) from by
  refine fJ B λlc B=>?_;exact⟨s1,ofX (f:=104) (as:=[.m 2]) rfl rfl ((zH 6 A).trans B) [.s _] (bx (hc s1) rfl)⟩
 by_cases q:e<o.length
 ·rw[bc q]
  exact⟨_,run (C:=CN (n+17)) (vQ.drop 6) [aa (.m 2),aa (.t (Cg kx o)),aa (.t (.bool ae)),aa (.t (Cj kx)),aa (.t (ID o)),aa (.t (Cj kx.reverse)),aa (.t (hU (j5 kx.reverse o))),aa (.t (.bool ae)),aa (.t (hU (j5 kx o))),ac,ac,ac] (Pn s1 []) [.a]⟩
 ·rw[aY q]
  cases gy hle (cH q);obtain⟨k,hk9,rfl |rfl⟩:=hk
  ·exact⟨_,run (C:=CN (n+17)) (vQ.drop 6) [aa (.m 2),aa (.t (Cg (rT k) o)),aa (.t (.bool af)),aa (.t (Cj (rT k))),aa (.t (ID o)),aa (.t (Cj (rT k).reverse)),aa (.t (hU (j5 (rT k).reverse o))),aa (.t (.bool ae)),aa (.t (hU (j5 (rT k) o))),ac,ac,ac] (Pn s1 []) [.a,.a,.b ae,.a] rfl⟩
  ·have h1:=Ej (acz hk9) R9 uX iZ
   have h2:=Ej (aiM hk9) R9 uX iZ;have c1:=λl=>YA (n:=n) (l:=l) (hc s1) h1 (show 3<=10 by decide)
   have c2:=λl=>YA (n:=n) (l:=l) (hc s1) h2 (show 3<=10 by decide)
   exact⟨_,run (C:=CN (n+17)) (vQ.drop 6) [aa (.m 2),aa (.t (Cg (rU k) o)),aa (.t (.bool af)),aa (.t (Cj (rU k))),aa (.t (ID o)),aa (.t (Cj (rU k).reverse)),aa (.t (hU (j5 [(Ei,GF),(Cw,I8 (k:aj))] o))),aa (.t (.bool ae)),aa (.t (hU (j5 (rU k) o))),ac,ac,ac] (Pn s1 []) [.a,.a,.b af,.a,.v _,.v _,.b ae,.a,.v _,.v _,.b ae] rfl (c2 ae) (c1 ae) (acI.trans (av aa (bT.mpr XN))) (NC (hc s1) h2 (show 3<=10 by decide)) (NC (hc s1) h1 (show 3<=10 by decide)) (UA XO)⟩
end
def Rw(v:T):Prop:=∃ops:ag OD,v=hU ops/\ops.length<=3/\∀x∈ops,Wo x/\Nop x
noncomputable abbrev XS:E:=.comp (.call 100 [.au 1]) 9 (.range [.call 94 [.au 1,.c (.int 4)]]) []
section
variable{n i j k e:aj}{m M r:Mu}{C:Calls}{s:bE×bE}{A B ops:ag OD}{x:T}{x4 x5 x6 x7 u0:ar PV}{a b:ag T}
theorem XT:∀{ys:ag T},(∀y∈ys,Og y)->∃ops:ag OD,ys=ops.map OD.v/\∀x∈ops,Wo x/\Nop x:=by
 intro ys
 induction ys with
 |nil=>exact λZ=>⟨[],rfl,nofun⟩
 |cons y ys ih=>
  intro h;refine bH (ih λz m=>h z (.tail _ m)) λops z0 hx=>?_;subst z0;refine bH (h y (.head _)) λx z0 h0=>?_;subst z0;exact⟨x::ops,rfl,λz m=>(aJ.mp m).elim (λe=>e▸h0) (hx z)⟩
theorem acK(hc:CP r){u8:ar PV}:Dw (ev (CN (n+8)) XS [u0,aa (.m 2),ac,ac,ac,ac,ac,ac,u8,ac,ac]) r Rw:=λs=>by
 obtain⟨s',_,⟨ys,rfl,h1,h2⟩,e⟩:=mx (C:=CN (n+8)) (elt:=.call 100 [.au 1]) (slot:=9) (au:=[u0,aa (.m 2),ac,ac,ac,ac,ac,ac,u8,ac,ac]) (k:=4) (P:=Og) hc (m8 (rS (n:=n+7) (k:=4) (i:=1) hc (by decide) (by decide) rfl) (by decide)) (by decide) (λx a8 s=>by
  refine dZ (aiK (n:=n) (hc.tl (a8:=a8)) s) λs' v h e=>?_;exact⟨s',v,h,gJ (CN (n+8)) (.call 100 [.au 1]) [u0,aa (.m 2),ac,ac,ac,ac,ac,ac,u8,aa (.t x),ac] (Pn s (r++[TL a8])) [.v _] e⟩) s
 refine bH (XT h2) λops z0 ho=>?_;subst z0;rw[aq] at h1;exact⟨s',_,⟨ops,rfl,fH h1,ho⟩,e⟩
theorem XU(hc:CP []):Dw (ev (CN (n+8)) (.comp XS 8 (.range [.c (.int 2)]) []) [u0,aa (.m 2),ac,ac,ac,ac,ac,ac,ac,ac,ac]) [] λv=>∃A B,v=.list [A,B]/\Rw A/\Rw B:=λs=>by
 obtain⟨s',_,⟨ys,rfl,h1,h2⟩,e⟩:=yL (Q:=(· =2)) (C:=CN (n+8)) (elt:=XS) (slot:=8) (it:=.range [.c (.int 2)]) (au:=[u0,aa (.m 2),ac,ac,ac,ac,ac,ac,ac,ac,ac]) (P:=Rw) hc (λs=>⟨s,[.int 0,.int 1],rfl,rfl⟩) (λk h=>by rw[h];decide) (λx a8=>acK (hc.tl (a8:=a8))) s
 match ys,h1,h2,e with
 |[y1,y2],_,h2,e=>exact⟨s',_,⟨y1,y2,rfl,h2 y1 (.head _),h2 y2 (.tail _ (.head _))⟩,e⟩
noncomputable abbrev NQ(S:T)(A B:ag OD)(x3 x4 x5 x6 x7:ar PV):Loc:=[aa (.t S),aa (.m 2),aa (.t (.list [hU A,hU B])),x3,x4,x5,x6,x7,ac,ac,ac]
theorem GH{S:T}(hc:Cl M)(h:∀x∈ops,Wo x/\Nop x)(hl:ops.length<=3){x3:ar PV}{r:ag T}(q:Res (cB×Loc))(hq:forL 3 (execs (CN (n+25)) (ip (dT PF 2))) r (NQ S A B (aa (.t (hU ops))) (aa (.t (.bytes (wC af ops)))) (aa (.t (.bytes (wC ae ops)))) ac ac) M=q):
 forL 3 (execs (CN (n+25)) (ip (dT PF 2))) (hU ops::r) (NQ S A B x3 x4 x5 ac ac) M=q:=by
 have hw:∀x∈ops,Wo x:=λx m=>(h x m).1;have hl:ops.length<=10:=ai hl (by decide)
 have lf:=λl=>ai (Af (l:=l) hw hl) (show 316000<=bp by decide)
 have te:=av (GU (!·)) (Ag (m:=M) hw);have eT:=ND (n:=n+18) hw hl hc;exact iJ (CN (n+25)) (ip (dT PF 2)) 3 (NQ S A B x3 x4 x5 ac ac) M (hU ops) r [.v _,.v _,.v _,.v _,.v _,.b af,.v _,.v _,.b af,.v _,.v _,.b af,.v _,.b af] (NC (n:=n+8) hc hw hl) (YA (n:=n+8) (l:=ae) hc hw hl) uq (Sa (n:=n+13) hw hl hc) eT te (Sa (n:=n+13) hw hl hc) eT te (jU (lf ae)) (jU (lf af)) (yG (acs λx m=>(h x m).2)) (YA (n:=n+8) (l:=af) hc hw hl) (FR rfl) q hq
theorem acL(h:a.length+b.length<=bp):k9 .add (.t (.list a)) (.t (.list b)) m=.ok (.t (.list (a++b))) m:=aA (by rw[ah];exact h)
theorem NR{e:E}{au:Loc}{M':Mu}{j:aj}(h:ev C e au M=.exc M')(k:tabAt j M=ae):ev C (.refused j e) au M=.ok (.t (.bool ae)) M':=by
 show(if tabAt j M then(match ev C e au M with |.ok _ mu=>Res.ok (PV.t (.bool af)) mu |.exc mu=>Res.ok (PV.t (.bool ae)) mu |.aK=>.aK) else .aK)=_
 rw[k,h];rfl
theorem Sm{a b:T}:bS (mK (.t (.list [a,b])) (.t (.int 0)) m) m=.ok (.t a) m/\bS (mK (.t (.list [a,b])) (.t (.int 1)) m) m=.ok (.t b) m:=⟨rfl,rfl⟩
theorem aiQ{xs:ag bE}(hl:xs.length<=bp):CN (n+26) 105 [.t (.list (xs.map T.int))] [.tab 0,.tab 1]=.ok (.t (.bool ae)) [.tab 0,.tab 1]:=by
 have hc:CP []:=CP.of rfl;refine fJ (c93 (n:=n+24) hl) λs0 e93=>?_;obtain⟨s1,_,⟨_,_,rfl,⟨A,rfl,lA,hA⟩,⟨B,rfl,lB,hB⟩⟩,e2⟩:=XU (n:=n+17) (u0:=aa (.t (.list (xs.map T.int)))) hc s0;have lp:=GH (n:=n) (S:=.list (xs.map T.int)) (A:=A) (B:=B) (x3:=ac) (x4:=ac) (x5:=ac) (r:=[hU B]) (hc s1) hA lA _ (GH (n:=n) (S:=.list (xs.map T.int)) (A:=A) (B:=B) (hc s1) hB lB _ rfl);have lA':A.length<=10:=ai lA (by decide)
 have lB':B.length<=10:=ai lB (by decide)
 have wA:∀x∈A,Wo x:=λx m=>(hA x m).1;have wB:∀x∈B,Wo x:=λx m=>(hB x m).1;have wAB:∀x∈A++B,Wo x:=λx m=>(bt.mp m).elim (wA x) (wB x);have lAB:(A++B).length<=10:=by rw[ah];exact ai (cG lA lB) (by decide)
 have ea:=xC (m:=Pn s1 []) (a:=wC af A) (b:=wC af B) (ai (cG (Af wA lA') (Af wB lB')) (by decide))
 rw[<-Xx] at ea;have el:=acL (m:=Pn s1 []) (a:=A.map OD.v) (b:=B.map OD.v) (by rw[aq,aq];exact ai (cG lA lB) (by decide))
 rw[<-br] at el;refine fJ (acJ (n:=n+7) hc s1) λs2 aiS=>?_;refine fJ (acJ (n:=n+7) hc s2) λs3 acM=>?_;refine dZ (YB (n:=n+23) (xs:=Iz.map .str) hc (.inl rfl) (bf _ _) (show 11<=1000 by decide) s3) λs4 Z hwl e95=>?_
 refine bH (aT.mp hwl) λw hwb z0=>?_;subst z0;have bad:=bk (Xy hwb (n:=n) (s:=s4));have n4:fm (CN (n+25)) 4 [.t (.str w),.t (.list [])] (Pn s4 [])=.ok (.t (xi w [])) (Pn s4 []):=Ii (n:=n+24) (hc s4);have r1:=NR (j:=1) (gJ (CN (n+25)) (.call 92 [.list [.new 4 [.au 7,.list []]]]) (NQ (.list (xs.map T.int)) A B (aa (.t (hU B))) (aa (.t (.bytes (wC af B)))) (aa (.t (.bytes (wC ae B)))) (aa (.t (.bytes (wC af (A++B))))) (aa (.t (.str w)))) (Pn s4 []) [.v _,.v _,.v _,.v _] XR n4 XQ bad.1) rfl;have r2:=NR (j:=1) (gJ (CN (n+25)) (.call 92 [.list [.new 4 [.au 7,.list []]],.c (.bool ae)]) (NQ (.list (xs.map T.int)) A B (aa (.t (hU B))) (aa (.t (.bytes (wC af B)))) (aa (.t (.bytes (wC ae B)))) (aa (.t (.bytes (wC af (A++B))))) (aa (.t (.str w)))) (Pn s4 []) [.v _,.v _,.v _,.v _] XR n4 XQ bad.2) rfl;have ls:wy [.t (.str []),.t (.str [49]),.t (.str [116,114,117,101]),.t (.str [97,32,98]),.t (.str [40,97,41]),.t (.str [47,97]),.t (.str [110,117,108,108]),.t (.str [91]),.t (.str [97,37]),.t (.str [45,50,46,53]),.t (.str [300])] (Pn s3 [])=.ok (.t (.list (Iz.map .str))) (Pn s3 []):=by
  show h9 (Iz.map .str) (Pn s3 [])=_;exact aA (show 11<=bp by decide)
 exact bg (n+25) 105 [.t (.list (xs.map T.int))] [.tab 0,.tab 1] rfl rfl [.v _,.v _,.l _,.v _,.v _,.v _,.v _,.v _,.v _,.v _,.v _,.v _,.v _,.b af,.v _,.a,.v _,.a,.v (.ok (.t (.str [300])) _),.v _,.v _,.v _,.a,.v _,.s _] e93 e2 (ix (it:=.name 2) rfl lp) Sm.1 (NC (n:=n+8) (hc s1) wA lA') Sm.2 (NC (n:=n+8) (hc s1) wB lB') ea (Sa (n:=n+13) wAB lAB (hc s1)) Sm.1 Sm.2 el (ND (n:=n+18) wAB lAB (hc s1)) (av (GU (!·)) (Ag wAB)) aiS acM rfl ls e95 r1 r2 (gk (m:=[.tab 0,.tab 1]) (L:=[TL [.int s4.1,.int s4.2]]) rfl rfl)
end
end
theorem Sn(ns:ag bE)(h:ns.length<=bp):vA FT 26 105 [.t (.list (ns.map T.int))] Om=.ok (.t (.bool ae)) Om:=by
 have e:=aiQ (n:=0) (xs:=ns) h;unfold CN at e;exact e
end Mine
theorem PySem.Challenge.cw_nn0172_01_holds : PySem.Challenge.rw_nn0172_01.Holds :=
 Mine.head (Mine.join Mine.Sn)
