import PyProof.Rows.All
import KE.KSortAsk
import PySem.Value
import Wide.All
import OpenK.AllK
import Wide.FinOn
import PyProof.SliceMore
import PyProof.DictCompW
import PyProof.AttrMiss
import PyProof.IsiH_list
import KE.KDictSum
import KE.KDictOf
import KE.KSortTup
import PyProof.TupleOfSeq
import PyProof.FactsAll.dict_3
import PyProof.FactsAll.dict_4
import PyProof.FactsAll.list_3
import KE.KItemsList
import PyProof.DictItems
import PyProof.DictTable
import PyProof.DictWalks
import Lean
import PySem.Challenge.RW_sj0187_01
set_option linter.unusedVariables false
set_option linter.all false
set_option genInjectivity false
set_option genSizeOf false
set_option genCtorIdx false
set_option maxRecDepth 1000000
set_option maxHeartbeats 1000000
set_option Elab.async false
noncomputable section
namespace Mine
open And renaming elim→aK
open Array renaming length_toList→aC,getElem?_toList→bu,mem_toList_iff→cD,toArray_toList→i6,toList_push→qL,isEmpty_iff_size_eq_zero→se,toList_inj→K1,replicate→Lk
open Bool renaming true→ac,false→ae,and_eq_true_iff→ax,rec→be,false_eq_true→b_,or_eq_true_iff→cM,false_ne_true→jX,or_false→pL,and_eq_true→Lj,not→Q8,and_false→Q9
open Classical renaming byContradiction→bj,propDecidable→c_
open Eq renaming symm→au,mpr→jJ,trans→yF
open Exists renaming elim→ak
open ForIn renaming forIn→Fs
open ForInStep renaming yield→bU
open Int renaming ofNat→aw,natCast_nonneg→eX,ofNat_lt→iI,ofNat_le→rY,not_lt→yw,eq_ofNat_of_zero_le→Ao,negSucc→Fh,fmod→Fi,toNat_natCast→Lh,le_add_one→U0,fdiv→U1
open Int.ofNat renaming inj→vc
open LawfulBEq renaming eq_of_beq→gV
open LawfulMonad renaming pure_bind→nq
open List renaming all_eq_true→ai,mem_cons→aN,rec→aP,mem_singleton→aS,length_map→a9,length_append→bf,mem_map→bp,mem_flatMap→br,range→bz,mem_range→bM,nodup_cons→ce,append_nil→cf,toArray→cv,any_eq_true→cZ,mem_append→d3,lookup_cons→eF,eq_nil_of_length_eq_zero→eK,findIdx?_cons→eM,map_cons→e_,reverse_cons→fx,getElem?_eq_some_iff→gE,getElem?_eq_getElem→gR,mem_filter→gY,pairwise_map→ip,getElem?_map→iq,mem_of_mem_take→i_,mem_cons_of_mem→ja,mem_append_left→jb,forIn_cons→jx,mem_map_of_mem→jH,size_toArray→kS,drop_nil→kW,any_cons→kX,length_cons→lL,isEmpty_iff→lM,filter_cons→lN,map_map→l4,mem_append_right→m8,filterMap_cons→oG,length_range→rF,filter_congr→rG,append_assoc→rH,getElem_map→sW,range'→u7,lookup→u8,length→u9,nodup_iff_pairwise_ne→xe,getD_eq_getElem?_getD→xf,findIdx?_eq_none_iff→yu,take_of_length_le→Aj,find?_cons_of_pos→Ak,find?_cons_of_neg→Al,append_eq_nil_iff→Am,getElem?_eq_none→B3,mem_of_getElem?→DO,length_take_le→Fg,zip_cons_cons→Fv,mem_cons_self→Fw,contains_cons→Fx,ext_getElem?→KY,length_drop→Lg,of_mem_zip→PI,nil_append→PJ,map_append→PL,filter_map→PM,nodup_nil→Q5,forIn_nil→Q6,take_nil→UZ
open List.cons renaming inj→jO
open Nat renaming eq_of_beq_eq_true→am,beq→ay,le_of_ble_eq_true→az,le_trans→aB,blt→aF,blt_eq→aG,lt_of_lt_of_le→aU,le_refl→aY,zero_le→a7,lt_succ_self→a8,ne_of_lt→bv,succ→bW,ble→bX,beq_refl→cp,lt_succ_of_lt→dq,zero_add→dI,lt_of_succ_lt_succ→dJ,lt_irrefl→dK,not_lt_zero→d6,ne_of_beq_eq_false→eW,ble_eq_true_of_le→fw,rec→fF,mod→fG,le_of_lt_succ→fH,zero_lt_succ→gB,succ_le_succ→gC,le_add_right→gD,succ_add_eq_add_succ→gX,div→g7,le_succ→ie,ne_of_gt→iF,le_of_lt→iG,le_of_eq→iH,not_lt→i5,lt_trans→jN,lt_or_eq_of_le→kg,add_comm→mK,sub→rW,le_of_succ_le→rX,succ_lt_succ→u4,lt_of_not_le→u6,le_add_left→we,mod_two_eq_zero_or_one→yr,add_le_add→yt,add_assoc→Ab,add_sub_cancel_left→Ai,casesOn→Ff,add_sub_cancel'→Fu,lt_of_le_of_lt→KX,le_succ_of_le→Lf,succ_ne_zero→PF,succ_ne_self→PG,not_lt_of_le→PH,min_eq_left→Q3,div_add_mod→Q4
open Nat.succ renaming inj→cq
open Ne renaming symm→yq
open Option renaming some→aa,none→aj,rec→aM,isNone_iff_eq_none→dQ,isSome_iff_exists→kq,bind_some→kV,map→oE,isNone_none→oF,isNone→xc,map_eq_some_iff→yE,bind→Ah,isNone_some→DN
open Option.some renaming inj→ao
open Prod renaming fst→fX,ext→io,snd→w_
open Pure renaming pure→cR
open PyProof.Rows renaming subscriptTail→mG,seqObj→yi,SortKind→PD
open PySem renaming wpAny_bind→ag,wpAny_pure→aq,Shared→av,wpAny→aA,wpAny_mono→aE,wpAny_holding→aQ,mem_of_lookup→a6,compEnvC→bh,sizeLine_eq→bE,wpAny_call_entry→bR,Stmt→b8,Around→b9,cellsFrom→cj,mainGlobals→cn,sysModules→di,eval→dm,codeAny_mono→dp,wpAny_standAt→dP,builtinsNs→dZ,wpAny_notOrdered_dict→d5,Flow→d_,starEach→eD,wpAny_rule→eG,Comprehension→eH,wpAny_callSpecial?_slot→eV,wpAny_typeNameOfWhole_keyiter→fg,holding→fu,letOwnedTupleGo→fR,wpAny_newObj_type→gf,wpAny_dictEntries→gi,hashStr→gk,codeAny→gm,Builtin→gZ,wpAny_typeNameOf_keyiter→ig,treeTable→iN,compareOp→iO,wpAny_truthy_bool→i4,backTo→jG,swappedStores→jI,lookup_relabel_local→jM,codeAny_builtin→j9,assign→j_,valueAt→kQ,OsState→kR,wpAny_Constant_int→lC,model→lD,callEnvC→lE,wpAny_missedRemoval_other→lR,standAt→l3,comprehension→mI,behindInMarks→mJ,contains→nt,Keyword→ox,theTreesLotGoes→oC,wpAny_of_eq→qC,valueOrNone→qD,pyNext→qF,pyIter→qG,execs→qH,compPost→qI,Operator→qJ,swapsWithSole→sR,plainId_quiet→sS,methodCallPos→sU,typeLookup→uW,slot_dict_contains→uX,assignEach→uZ,IsPart→u_,wpAny_sequenceKey→v6,wpAny_pyIter_enum→v7,wpAny_assign_Name→v8,slot_dict_getitem→v9,getItem→wa,concat_meets→wb,truthy→yh,noFill_tuple_add→yj,Params→yp,numAt→yC,keywordEach→yD,wpAny_specialOf→z6,wpAny_execs_nil→z7,wpAny_dictEpoch→z8,setItem→Ae,dictSet→Af,dictGet→Ag,newFunctionEnv→BX,letTemporaryGo→BY,compTurn→BZ,call_meets→B1,CmpOp→B4,BoolOp→B5,seq_tuple_add→Fc,assignInOrder→Fd,tupleKind→Fo,seqIndex?→Fp,noteFrame→Fq,wpAny_typeOf→KL,spliced→KN,notedBy→KO,evalOpt→KP,wpAny_isTrue_Compare1→La,wpAny_isOneOf_keyiter→Lb,builtinLookup_eq_fast→Ld,wpAny_updateDictKeys→Pw,unsupported→Px,callWith→Pz,backToKw→PC,FuncBody→PN,list_getitem_lookup→Q1,wpAny_missed_other→US,rawInt→UT,mainNs→UV,getattributeRaised→UX,cameBackBy→UY,wpAny_dictFind_of→Vk,wpAny_Assign_Name→Vl,slot_list_setitem→Vn,slot_dict_setitem→Vo,getMethod_builtin→Vp,foldedSetIterable→Vq,allTrue→Vs
open PySem.Around renaming under_plainId→fI
open PySem.AutoIntOps renaming pow_4→oH
open PySem.Builtin.Dict renaming updateFrom→gc,dictSlotArgs→qK,selfAndRest→rI,pairItems→sX,showsAll→vf,takeOut→vo,missed→wg
open PySem.Builtin.Dict_items renaming ownsTuple→l7
open PySem.Builtin.Range renaming rangeSize→f7,small→vm
open PySem.Code renaming builtin→VB
open PySem.Const renaming rec→yG
open PySem.Data renaming casesOn→Aq
open PySem.Env renaming blockKind→VA
open PySem.Expr.Attribute renaming elim→kZ
open PySem.Expr.BinOp renaming elim→pS
open PySem.Expr.BoolOp renaming elim→oy
open PySem.Expr.Call renaming elim→sd
open PySem.Expr.Compare renaming elim→ng
open PySem.Expr.Constant renaming elim→lZ
open PySem.Expr.Dict renaming elim→r_
open PySem.Expr.DictComp renaming elim→lY
open PySem.Expr.IfExp renaming elim→pR
open PySem.Expr.List renaming elim→r9
open PySem.Expr.ListComp renaming elim→lX
open PySem.Expr.Name renaming elim→r8
open PySem.Expr.Slice renaming elim→pQ
open PySem.Expr.Subscript renaming elim→kY
open PySem.Expr.Tuple renaming elim→pP
open PySem.Expr.UnaryOp renaming elim→m_
open PySem.F renaming slot_dict_keyiterator_next→cr,plainAttrs_dict→fZ,slot_list_getattribute→lW,args_dict_keyiterator_next_1→ny,entry_dict_keyiterator_next→nN,slot_dict_get→nP,slot_list_extend→rZ,slot_dict_update→r5,args_tuple_add_2→r7,plainAttrs_list→vd,entry_tuple_add→ve,slot_dict_ne_refl→vk,slot_NoneType_ne→wd,slot_tuple_add→wf,slot_dict_iter→yo,slot_tuple_getitem→KZ,args_list_extend_2→K0,entry_list_extend→Li,slot_dict_values→PO,slot_dict_items→Q7,entry_dict_get→U2,type_dict_get→Vx,slot_list_pop→Vy,slot_dict_pop→Vz
open PySem.Heap renaming get?_push_size→bZ,SameBut→c9,lt_size→dA,get?_push_of_some→dB,get?_update_self→dN,get?_none_of_le→fY,size_push→nO,get?_update_other→Ap,get?_update_ne→Fj
open PySem.Heap.IsSliceOf renaming new→Vw
open PySem.Heap.SameBut renaming update→bT
open PySem.NameKind renaming free→bL,cell→cU
open PySem.Obj renaming data_mapDictKeys→jl,mapSeq→kc,putName→ot,isFreed_of_dict→pK,data_mapFields→KW,data_mapDict→PE,mapFields→Vv
open PySem.P renaming getItem_tuple→Vu
open PySem.PyData renaming eqv→iP,eqvAll→w9,int→DM,depthAll→KU
open PySem.ScopeKind renaming isAnnotationScope→rD,function→Aa
open PySem.SeqAt renaming EqAt→wc,shaped→z9,canLay_of_shaped→z_,notIn_tupleAt→DL,in_tupleAt→KT
open PySem.Shared renaming TypeIs→ol
open PySem.Stmt.Assign renaming elim→oj
open PySem.Stmt.Expr renaming elim→rU
open PySem.Stmt.For renaming elim→vj
open PySem.Stmt.If renaming elim→yn
open PySem.Stmt.Return renaming elim→oi
open PySem.Stmt.While renaming elim→pO
open PySem.Str renaming ofString→iE
open PySem.Value renaming isStrOf→cG,ref→cY,none→gW,casesOn→iV,int→lF,isInt→sV,builtin→ym,bool→Fe
open PySem.Value.ref renaming inj→Ft
open PySem.W renaming boot_heap→dV,keepIn→j8,findIn→mH,instObj→oh,topFrame→qE,boot_drawn→uY,kas_ask→v_,emptyDict→yk,boot_toks→yl,topRun→BW,WData→B2,topStub→KM,ownOf→Le,kas_sort→Py,namesBound→UU,looks_nsIn→UW,topFrom→Vm,doneF→Vr,WellAll→Vt
open PySem.W.Fast renaming te14364793385576792824→dj,tw11892475500146522536→fy,tw14364793385576792824→lS,tw10156331382660048174→lT,te11892475500146522536→lU,te10110043849684766642→lV
open PySem.W.WData renaming casesOn→Q2
open PySem.W.WShape renaming hasItems→KQ
local macro_rules | `(tactic| erw [$a:term]) => `(tactic| refine Eq.symm $a ▸ ?_)
local macro_rules | `(tactic| erw [$a:term, $b:term]) => `(tactic| refine Eq.symm $a ▸ Eq.symm $b ▸ ?_)
local macro_rules | `(tactic| erw [$a:term, $b:term, $c:term]) => `(tactic| refine Eq.symm $a ▸ Eq.symm $b ▸ Eq.symm $c ▸ ?_)
local macro_rules | `(tactic| show $t:term) => `(tactic| refine (?_ : $t))
theorem B6 {A0 A1 A2:Prop} {P:Prop} (h:A0∧A1∧A2) (k:A0→A1→A2→P):P:=let ⟨h0,h1,h2⟩:=h;k h0 h1 h2
theorem jP {τ:Sort _} {y:τ} {v:τ} {A0 A2:Prop} {P:τ→Prop} (h:A0∧y=v∧A2) (k:A0→A2→P v):P y:=let ⟨h0,h1,h2⟩:=h;jJ (congrArg P h1) (k h0 h2)
theorem Lm {A0 A1 A2 A3:Prop} {P:Prop} (h:A0∧A1∧A2∧A3) (k:A0→A1→A2→A3→P):P:=let ⟨h0,h1,h2,h3⟩:=h;k h0 h1 h2 h3
theorem z04 {A0 A1 A2 A3 A4:Prop} {P:Prop} (h:A0∧A1∧A2∧A3∧A4) (k:A0→A1→A2→A3→A4→P):P:=let ⟨h0,h1,h2,h3,h4⟩:=h;k h0 h1 h2 h3 h4
theorem z06 {A0 A1 A2 A3 A4 A5 A6:Prop} {P:Prop} (h:A0∧A1∧A2∧A3∧A4∧A5∧A6) (k:A0→A1→A2→A3→A4→A5→A6→P):P:=let ⟨h0,h1,h2,h3,h4,h5,h6⟩:=h;k h0 h1 h2 h3 h4 h5 h6
theorem VF {α:Sort _} {τ:Sort _} {y:τ} {v:α→τ} {P:τ→Prop} (h :∃a,y=v a) (k :∀a,P (v a)):P y:=let ⟨a,h0⟩:=h;jJ (congrArg P h0) (k a)
theorem cg {α:Sort _} {A0 A1:α→Prop} {P:Prop} (h :∃a,A0 a∧A1 a) (k :∀a,A0 a→A1 a→P):P:=let ⟨a,h0,h1⟩:=h;k a h0 h1
theorem b7 {α:Sort _} {τ:Sort _} {y:τ} {v:α→τ} {A1:α→Prop} {P:τ→Prop} (h :∃a,y=v a∧A1 a) (k :∀a,A1 a→P (v a)):P y:=let ⟨a,h0,h1⟩:=h;jJ (congrArg P h0) (k a h1)
theorem sZ {α:Sort _} {τ:Sort _} {y:τ} {v:α→τ} {A0:α→Prop} {P:τ→Prop} (h :∃a,A0 a∧y=v a) (k :∀a,A0 a→P (v a)):P y:=let ⟨a,h0,h1⟩:=h;jJ (congrArg P h1) (k a h0)
theorem sY {α:Sort _} {τ:Sort _} {y:τ} {v:α→τ} {A0:α→Prop} {P:τ→Prop} (h :∃a,A0 a∧v a=y) (k :∀a,A0 a→P (v a)):P y:=let ⟨a,h0,h1⟩:=h;Eq.mp (congrArg P h1) (k a h0)
theorem lG {α:Sort _} {A0 A1 A2:α→Prop} {P:Prop} (h :∃a,A0 a∧A1 a∧A2 a) (k :∀a,A0 a→A1 a→A2 a→P):P:=let ⟨a,h0,h1,h2⟩:=h;k a h0 h1 h2
theorem wi {α:Sort _} {τ:Sort _} {y:τ} {v:α→τ} {A1 A2:α→Prop} {P:τ→Prop} (h :∃a,y=v a∧A1 a∧A2 a) (k :∀a,A1 a→A2 a→P (v a)):P y:=let ⟨a,h0,h1,h2⟩:=h;jJ (congrArg P h0) (k a h1 h2)
theorem Ar {α:Sort _} {A0 A1 A2 A3:α→Prop} {P:Prop} (h :∃a,A0 a∧A1 a∧A2 a∧A3 a) (k :∀a,A0 a→A1 a→A2 a→A3 a→P):P:=let ⟨a,h0,h1,h2,h3⟩:=h;k a h0 h1 h2 h3
theorem VE {α:Sort _} {τ:Sort _} {y:τ} {v:α→τ} {A0 A1 A3:α→Prop} {P:τ→Prop} (h :∃a,A0 a∧A1 a∧y=v a∧A3 a) (k :∀a,A0 a→A1 a→A3 a→P (v a)):P y:=let ⟨a,h0,h1,h2,h3⟩:=h;jJ (congrArg P h2) (k a h0 h1 h3)
theorem U6 {α:Sort _} {A0 A1 A2 A3 A4:α→Prop} {P:Prop} (h :∃a,A0 a∧A1 a∧A2 a∧A3 a∧A4 a) (k :∀a,A0 a→A1 a→A2 a→A3 a→A4 a→P):P:=let ⟨a,h0,h1,h2,h3,h4⟩:=h;k a h0 h1 h2 h3 h4
theorem Z7 {α:Sort _} {A0 A1 A2 A3 A4 A5:α→Prop} {P:Prop} (h :∃a,A0 a∧A1 a∧A2 a∧A3 a∧A4 a∧A5 a) (k :∀a,A0 a→A1 a→A2 a→A3 a→A4 a→A5 a→P):P:=let ⟨a,h0,h1,h2,h3,h4,h5⟩:=h;k a h0 h1 h2 h3 h4 h5
theorem wh {α:Sort _} {β:Sort _} {A0:α→β→Prop} {P:Prop} (h :∃a b,A0 a b) (k :∀a b,A0 a b→P):P:=let ⟨a,b,h0⟩:=h;k a b h0
theorem PT {α:Sort _} {β:Sort _} {τ:Sort _} {y:τ} {v:α→β→τ} {P:τ→Prop} (h :∃a b,y=v a b) (k :∀a b,P (v a b)):P y:=let ⟨a,b,h0⟩:=h;jJ (congrArg P h0) (k a b)
theorem pT {α:Sort _} {β:Sort _} {A0 A1:α→β→Prop} {P:Prop} (h :∃a b,A0 a b∧A1 a b) (k :∀a b,A0 a b→A1 a b→P):P:=let ⟨a,b,h0,h1⟩:=h;k a b h0 h1
theorem PS {α:Sort _} {β:Sort _} {τ:Sort _} {y:τ} {v:α→β→τ} {A1:α→β→Prop} {P:τ→Prop} (h :∃a b,y=v a b∧A1 a b) (k :∀a b,A1 a b→P (v a b)):P y:=let ⟨a,b,h0,h1⟩:=h;jJ (congrArg P h0) (k a b h1)
theorem rJ {α:Sort _} {β:Sort _} {A0 A1 A2:α→β→Prop} {P:Prop} (h :∃a b,A0 a b∧A1 a b∧A2 a b) (k :∀a b,A0 a b→A1 a b→A2 a b→P):P:=let ⟨a,b,h0,h1,h2⟩:=h;k a b h0 h1 h2
theorem PR {α:Sort _} {β:Sort _} {τ:Sort _} {y:τ} {v:α→β→τ} {A1 A2:α→β→Prop} {P:τ→Prop} (h :∃a b,y=v a b∧A1 a b∧A2 a b) (k :∀a b,A1 a b→A2 a b→P (v a b)):P y:=let ⟨a,b,h0,h1,h2⟩:=h;jJ (congrArg P h0) (k a b h1 h2)
theorem Fy {α:Sort _} {β:Sort _} {τ:Sort _} {y:τ} {v:α→β→τ} {A0 A1:α→β→Prop} {P:τ→Prop} (h :∃a b,A0 a b∧A1 a b∧y=v a b) (k :∀a b,A0 a b→A1 a b→P (v a b)):P y:=let ⟨a,b,h0,h1,h2⟩:=h;jJ (congrArg P h2) (k a b h0 h1)
theorem Y5 {α:Sort _} {β:Sort _} {A0 A1 A2 A3:α→β→Prop} {P:Prop} (h :∃a b,A0 a b∧A1 a b∧A2 a b∧A3 a b) (k :∀a b,A0 a b→A1 a b→A2 a b→A3 a b→P):P:=let ⟨a,b,h0,h1,h2,h3⟩:=h;k a b h0 h1 h2 h3
theorem PQ {α:Sort _} {β:Sort _} {τ:Sort _} {y:τ} {v:α→β→τ} {A1 A2 A3:α→β→Prop} {P:τ→Prop} (h :∃a b,y=v a b∧A1 a b∧A2 a b∧A3 a b) (k :∀a b,A1 a b→A2 a b→A3 a b→P (v a b)):P y:=let ⟨a,b,h0,h1,h2,h3⟩:=h;jJ (congrArg P h0) (k a b h1 h2 h3)
theorem Yn {α:Sort _} {β:Sort _} {A0 A1 A2 A3 A4:α→β→Prop} {P:Prop} (h :∃a b,A0 a b∧A1 a b∧A2 a b∧A3 a b∧A4 a b) (k :∀a b,A0 a b→A1 a b→A2 a b→A3 a b→A4 a b→P):P:=let ⟨a,b,h0,h1,h2,h3,h4⟩:=h;k a b h0 h1 h2 h3 h4
theorem z2b {α:Sort _} {β:Sort _} {A0 A1 A2 A3 A4 A5 A6 A7 A8 A9 A10 A11:α→β→Prop} {P:Prop} (h :∃a b,A0 a b∧A1 a b∧A2 a b∧A3 a b∧A4 a b∧A5 a b∧A6 a b∧A7 a b∧A8 a b∧A9 a b∧A10 a b∧A11 a b) (k :∀a b,A0 a b→A1 a b→A2 a b→A3 a b→A4 a b→A5 a b→A6 a b→A7 a b→A8 a b→A9 a b→A10 a b→A11 a b→P):P:=let ⟨a,b,h0,h1,h2,h3,h4,h5,h6,h7,h8,h9,h10,h11⟩:=h;k a b h0 h1 h2 h3 h4 h5 h6 h7 h8 h9 h10 h11
theorem z30 {α:Sort _} {β:Sort _} {γ:Sort _} {A0:α→β→γ→Prop} {P:Prop} (h :∃a b c,A0 a b c) (k :∀a b c,A0 a b c→P):P:=let ⟨a,b,c,h0⟩:=h;k a b c h0
theorem U5 {α:Sort _} {β:Sort _} {γ:Sort _} {A0 A1:α→β→γ→Prop} {P:Prop} (h :∃a b c,A0 a b c∧A1 a b c) (k :∀a b c,A0 a b c→A1 a b c→P):P:=let ⟨a,b,c,h0,h1⟩:=h;k a b c h0 h1
theorem Ym {α:Sort _} {β:Sort _} {γ:Sort _} {A0 A1 A2:α→β→γ→Prop} {P:Prop} (h :∃a b c,A0 a b c∧A1 a b c∧A2 a b c) (k :∀a b c,A0 a b c→A1 a b c→A2 a b c→P):P:=let ⟨a,b,c,h0,h1,h2⟩:=h;k a b c h0 h1 h2
theorem yH {α:Sort _} {β:Sort _} {γ:Sort _} {τ:Sort _} {y:τ} {v:α→β→γ→τ} {A1 A2:α→β→γ→Prop} {P:τ→Prop} (h :∃a b c,y=v a b c∧A1 a b c∧A2 a b c) (k :∀a b c,A1 a b c→A2 a b c→P (v a b c)):P y:=let ⟨a,b,c,h0,h1,h2⟩:=h;jJ (congrArg P h0) (k a b c h1 h2)
theorem Ra {α:Sort _} {β:Sort _} {γ:Sort _} {A0 A1 A2 A3:α→β→γ→Prop} {P:Prop} (h :∃a b c,A0 a b c∧A1 a b c∧A2 a b c∧A3 a b c) (k :∀a b c,A0 a b c→A1 a b c→A2 a b c→A3 a b c→P):P:=let ⟨a,b,c,h0,h1,h2,h3⟩:=h;k a b c h0 h1 h2 h3
theorem Y4 {α:Sort _} {β:Sort _} {γ:Sort _} {A0 A1 A2 A3 A4 A5:α→β→γ→Prop} {P:Prop} (h :∃a b c,A0 a b c∧A1 a b c∧A2 a b c∧A3 a b c∧A4 a b c∧A5 a b c) (k :∀a b c,A0 a b c→A1 a b c→A2 a b c→A3 a b c→A4 a b c→A5 a b c→P):P:=let ⟨a,b,c,h0,h1,h2,h3,h4,h5⟩:=h;k a b c h0 h1 h2 h3 h4 h5
theorem Yl {α:Sort _} {β:Sort _} {γ:Sort _} {δ:Sort _} {A0 A1:α→β→γ→δ→Prop} {P:Prop} (h :∃a b c d,A0 a b c d∧A1 a b c d) (k :∀a b c d,A0 a b c d→A1 a b c d→P):P:=let ⟨a,b,c,d,h0,h1⟩:=h;k a b c d h0 h1
theorem z43 {α:Sort _} {β:Sort _} {γ:Sort _} {δ:Sort _} {A0 A1 A2 A3:α→β→γ→δ→Prop} {P:Prop} (h :∃a b c d,A0 a b c d∧A1 a b c d∧A2 a b c d∧A3 a b c d) (k :∀a b c d,A0 a b c d→A1 a b c d→A2 a b c d→A3 a b c d→P):P:=let ⟨a,b,c,d,h0,h1,h2,h3⟩:=h;k a b c d h0 h1 h2 h3
theorem VD {α:Sort _} {β:Sort _} {γ:Sort _} {δ:Sort _} {τ:Sort _} {y:τ} {v:α→β→γ→δ→τ} {A1 A2 A3:α→β→γ→δ→Prop} {P:τ→Prop} (h :∃a b c d,y=v a b c d∧A1 a b c d∧A2 a b c d∧A3 a b c d) (k :∀a b c d,A1 a b c d→A2 a b c d→A3 a b c d→P (v a b c d)):P y:=let ⟨a,b,c,d,h0,h1,h2,h3⟩:=h;jJ (congrArg P h0) (k a b c d h1 h2 h3)
theorem U4 {α:Sort _} {β:Sort _} {γ:Sort _} {δ:Sort _} {A0 A1 A2 A3 A4:α→β→γ→δ→Prop} {P:Prop} (h :∃a b c d,A0 a b c d∧A1 a b c d∧A2 a b c d∧A3 a b c d∧A4 a b c d) (k :∀a b c d,A0 a b c d→A1 a b c d→A2 a b c d→A3 a b c d→A4 a b c d→P):P:=let ⟨a,b,c,d,h0,h1,h2,h3,h4⟩:=h;k a b c d h0 h1 h2 h3 h4
theorem l8 {α:Sort _} {β:Sort _} {γ:Sort _} {δ:Sort _} {τ:Sort _} {y:τ} {v:α→β→γ→δ→τ} {A1 A2 A3 A4:α→β→γ→δ→Prop} {P:τ→Prop} (h :∃a b c d,y=v a b c d∧A1 a b c d∧A2 a b c d∧A3 a b c d∧A4 a b c d) (k :∀a b c d,A1 a b c d→A2 a b c d→A3 a b c d→A4 a b c d→P (v a b c d)):P y:=let ⟨a,b,c,d,h0,h1,h2,h3,h4⟩:=h;jJ (congrArg P h0) (k a b c d h1 h2 h3 h4)
theorem Y3 {α:Sort _} {β:Sort _} {γ:Sort _} {δ:Sort _} {A0 A1 A2 A3 A4 A5 A6:α→β→γ→δ→Prop} {P:Prop} (h :∃a b c d,A0 a b c d∧A1 a b c d∧A2 a b c d∧A3 a b c d∧A4 a b c d∧A5 a b c d∧A6 a b c d) (k :∀a b c d,A0 a b c d→A1 a b c d→A2 a b c d→A3 a b c d→A4 a b c d→A5 a b c d→A6 a b c d→P):P:=let ⟨a,b,c,d,h0,h1,h2,h3,h4,h5,h6⟩:=h;k a b c d h0 h1 h2 h3 h4 h5 h6
theorem Y2 {α:Sort _} {β:Sort _} {γ:Sort _} {δ:Sort _} {ε:Sort _} {A0 A1 A2 A3 A4 A5:α→β→γ→δ→ε→Prop} {P:Prop} (h :∃a b c d e,A0 a b c d e∧A1 a b c d e∧A2 a b c d e∧A3 a b c d e∧A4 a b c d e∧A5 a b c d e) (k :∀a b c d e,A0 a b c d e→A1 a b c d e→A2 a b c d e→A3 a b c d e→A4 a b c d e→A5 a b c d e→P):P:=let ⟨a,b,c,d,e,h0,h1,h2,h3,h4,h5⟩:=h;k a b c d e h0 h1 h2 h3 h4 h5
theorem yx {α:Type _} {P:Prop} {x:α} (h:aa x=aj):P:=nomatch h
theorem U3 {P:Prop} (h:ac=ae):P:=nomatch h
theorem gF {α:Type _} {P:α→Prop} {a b:α} (h:aa a=aa b) (k:P a):P b:=ao h▸k
theorem VC {α:Type _} {P:α→Prop} {a b:α} (h:aa a=aa b) (k:P b):P a:=ao h▸k
theorem pM {α:Type _} {a b:α} (h:aa a=aa b):a=b:=ao h
theorem Z6 {α β:Type _} {P:Prop} {a c:α} {b d:β} (h:(a,b)=(c,d)) (k:a=c→b=d→P):P:=k (congrArg fX h) (congrArg w_ h)
theorem Z5 {α β:Type _} {P:α→β→Prop} {a c:α} {b d:β} (h:(a,b)=(c,d)) (k:P a b):P c d:=Z6 h fun x y=>x▸y▸k
theorem Fk {α β:Type _} {P:Prop} {a c:α} {b d:β} (h:aa (a,b)=aa (c,d)) (k:a=c→b=d→P):P:=Z6 (ao h) k
theorem xg {α β:Type _} {P:α→β→Prop} {a c:α} {b d:β} (h:aa (a,b)=aa (c,d)) (k:P a b):P c d:=Z5 (ao h) k
theorem Q_ {α:Sort _} {P:α→Prop} {a b:α} (h:a=b) (k:P a):P b:=h▸k
theorem dW {α:Sort _} {P:α→Prop} {a b:α} (h:a=b) (k:P b):P a:=h▸k
section
theorem no {α:Type} {P:Prop} {x:α} (h:(aj:Option α)=aa x):P:=nomatch h
theorem ff {P:Prop} (h:ae=ac):P:=nomatch h
set_option genCtorIdx true in
inductive AV where
 |none|bool (b:Bool)|int (i:Int)|str (k:Nat)
 |tup (l:List AV)|fd (kd:Nat) (l:List (AV×AV))
 |loc (j:Nat)|fn (k:Nat)|cls (k:Nat)|bi (k:Nat)
 |opq (k:Nat)|mk (k:Nat)|ge (n:Nat)|opa (k:Nat)|opd (k:Nat)
inductive IE where
 |cst (v:AV)
 |var (i:Nat)
 |glb (nm:Nat) (v:AV)
 |attr (e:IE) (nm:Nat)
 |call (f:IE) (args:List IE)
 |meth (o:IE) (nm:Nat) (args:List IE)
 |bin (op:Nat) (a b:IE)
 |and (es:List IE)|or (es:List IE)
 |not (e:IE)
 |cmp (op:Nat) (a b:IE)
 |ite (c a b:IE)
 |tup (es:List IE)|lst (es:List IE)|dct (ks vs:List IE)
 |sub (e i:IE)
 |slc (e:IE) (lo:Nat) (hi:Option Nat)
 |lc (elt:IE) (bm:List Nat) (one:Bool) (src:Nat) (it:List IE) (ifs:List IE) (own:List Nat) (aJ:List Nat)
 |dc (k v:IE) (bm:List Nat) (one:Bool) (src:Nat) (it:List IE) (ifs:List IE) (own:List Nat) (aJ:List Nat)
 |itemsL (e:IE)
 |inVals (a e:IE)
 |any
inductive IS where
 |expr (e:IE)
 |asg (i:Nat) (e:IE)
 |asgT (l:List Nat) (e:IE)
 |asgA (o:IE) (nm:Nat) (e:IE)
 |asgS (o i:IE) (e:IE)
 |ret (e:IE)
 |iff (c:IE) (a b:List IS)
 |forr (bm:List Nat) (one:Bool) (src:Nat) (it:List IE) (body:List IS)
 |whil (c:IE) (body:List IS)
 |brk
 |frz (i:Nat)
 |any
structure IFun where
 np:Nat
 nv:Nat
 frz:Bool
 body:List IS
set_option genCtorIdx true in
inductive AO where
 |list (ro:Bool) (ii:Option Nat) (l:List AV) (post:Option Nat)
 |dict (ro:Bool) (kd:Nat) (l:List (AV×AV))
 |inst (c:Nat) (fs:List (Nat×AV))
inductive TR (α:Type) where
 |nil
 |node (v:Option α) (l r:TR α)
namespace TR
variable {α:Type}
def get (t:TR α):Nat→Option α:=
 TR.rec (motive:=fun a=>Nat→Option α) (fun a=>.none)
  (fun v a a gl gr i=>fF v (fun j a=>be (gl (g7 j 2)) (gr (g7 j 2)) (ay (fG j 2) 1)) i) t
def put (x:Option α) (n:Nat):TR α→Nat→TR α:=
 fF (motive:=fun a=>TR α→Nat→TR α) (fun t a=>t)
  (fun a ih t i=>TR.rec (motive:=fun a=>TR α)
   (fF (.node x .nil .nil) (fun j a=>be (.node .none (ih .nil (g7 j 2)) .nil) (.node .none .nil (ih .nil (g7 j 2))) (ay (fG j 2) 1)) i)
   (fun v l r a a=>fF (.node x l r) (fun j a=>be (.node v (ih l (g7 j 2)) r) (.node v l (ih r (g7 j 2))) (ay (fG j 2) 1)) i) t) n
end TR
abbrev Fr:=List (Option AV)
structure St where
 t:TR AO
 nx:Nat
section
def St.get (S:St) (j:Nat):Option AO:=S.t.get j
noncomputable def XU (j:Nat):Nat:=bW (Nat.log2 (bW j))
def St.put (S:St) (j:Nat) (o:AO):St:=⟨TR.put (aa o) (XU j) S.t j,S.nx⟩
def St.del (S:St) (j:Nat):St:=⟨TR.put .none (XU j) S.t j,S.nx⟩
def St.new (S:St) (o:AO):St:=⟨TR.put (aa o) (XU S.nx) S.t S.nx,bW S.nx⟩
structure Om where
 memb:Nat→Int→Bool
 eq:Nat→Nat→Bool
 dv:Nat→AV
 eqd:Nat→Bool
noncomputable def ob {α β:Type} (x:Option α) (f:α→Option β):Option β:=match x with
 |.none=>.none
 |.some a=>f a
noncomputable def bc {α:Type}:List α→Nat→Option α
 |[],_=>.none
 |a::l,n=>match n with|0=>aa a|n+1=>bc l n
noncomputable def dT {α:Type}:List α→Nat→α→List α
 |[],_,_=>[]
 |a::l,n,x=>match n with|0=>x::l|n+1=>a::dT l n x
noncomputable def dL {α:Type}:List α→List α→List α
 |[],m=>m
 |a::l,m=>a::dL l m
noncomputable def eZ {α:Type}:List α→Nat
 |[]=>0
 |_::l=>bW (eZ l)
noncomputable def iz {α β:Type} (f:α→β):List α→List β
 |[]=>[]
 |a::l=>f a::iz f l
noncomputable def wG:List AV→Option AV
 |[]=>.none
 |a::l=>match l with|[]=>aa a|_::_=>wG l
noncomputable def o7:Nat→List AV→List AV
 |0,_=>[]
 |n+1,l=>match l with|[]=>[]|a::l=>a::o7 n l
noncomputable def o9:Nat→List AV→List AV
 |0,l=>l
 |n+1,l=>match l with|[]=>[]|_::l=>o9 n l
def sm {α:Type} (l:List α):Bool:=bX (eZ l) 1000
def gU (l:List AV) (S:St):Option (AV×St):=match sm l with|true=>aa (.loc S.nx,S.new (.list ae .none l .none))|false=>.none
def nh (d:Nat) (l:List (AV×AV)) (S:St):Option (AV×St):=match sm l with|true=>aa (.loc S.nx,S.new (.dict ae d l))|false=>.none
def qi (l:List AV) (S:St):Option (AV×St):=match sm l with|true=>aa (.tup l,S)|false=>.none
def rK (j:Nat) (ii:Option Nat) (l:List AV) (post:Option Nat) (S:St):Option St:=match sm l with|true=>aa (S.put j (.list ae ii l post))|false=>.none
def putD (j:Nat) (d:Nat) (l:List (AV×AV)) (S:St):Option St:=match sm l with|true=>aa (S.put j (.dict ae d l))|false=>.none
set_option genCtorIdx true in
inductive jk where|next|brk|ret (v:AV)
noncomputable def Fn:List AV→Nat
 |[]=>2
 |x::l=>match x with|.int _=>Fn l|_=>8
noncomputable def Fm:List AV→Nat
 |[]=>3
 |x::l=>match x with|.str _=>Fm l|_=>8
def C4 (l:List AV):Nat:=match l with
 |[]=>8
 |x::l=>match x with|.int _=>Fn l|.str _=>Fm l|_=>8
def kd (v:AV):Nat:=match v with
 |.str _=>0|.int _=>1|.tup l=>C4 l|_=>8
noncomputable def vS (a b:AV):Bool:=match a with
 |.str i=>(match b with|.str j=>ay i j|_=>ae)
 |.int i=>(match b with|.int j=>decide (i=j)|_=>ae)
 |_=>ae
noncomputable def Bd:List AV→List AV→Bool
 |[],m=>(match m with|[]=>ac|_::_=>ae)
 |x::l,m=>(match m with|[]=>ae|y::m=>(match vS x y with|true=>Bd l m|false=>ae))
def lj (a b:AV):Bool:=match a with
 |.tup l=>(match b with|.tup m=>Bd l m|_=>ae)
 |_=>vS a b
def bD (k:AV) (l:List (AV×AV)):Option AV:=
 aP (motive:=fun a=>Option AV) .none (fun p a ih=>be (motive:=fun a=>Option AV) ih (aa p.2) (lj p.1 k)) l
def lz (k v:AV) (l:List (AV×AV)):List (AV×AV):=
 aP (motive:=fun a=>List (AV×AV)) [(k,v)] (fun p l ih=>be (motive:=fun a=>List (AV×AV)) (p::ih) ((p.1,v)::l) (lj p.1 k)) l
def vX (k:AV) (l:List (AV×AV)):List (AV×AV):=
 aP (motive:=fun a=>List (AV×AV)) [] (fun p l ih=>be (motive:=fun a=>List (AV×AV)) (p::ih) l (lj p.1 k)) l
theorem uN {α:Type} {a b:α} {c:Bool} (h:c=ac):(be (motive:=fun d=>α) a b c:α)=b:=h▸rfl
theorem zS {α:Type} {a b v:α} {c:Bool} {P:Prop} (h:(be (motive:=fun d=>α) a b c:α)=v) (k0:c=ae→a=v→P) (k1:c=ac→b=v→P):P:=by
 cases c with
 |false=>exact k0 rfl h
 |true=>exact k1 rfl h
theorem rS {α:Type} {a b:α} {c:Bool} (h:c=ae):(be (motive:=fun d=>α) a b c:α)=a:=h▸rfl
section
variable {k v:AV} {p:AV×AV} {l:List (AV×AV)}
theorem sM (q:lj p.1 k=ac):bD k (p::l)=aa p.2:=uN q
theorem px (q:lj p.1 k=ae):bD k (p::l)=bD k l:=rS q
theorem BA (q:lj p.1 k=ac):lz k v (p::l)=(p.1,v)::l:=uN q
theorem uE (q:lj p.1 k=ae):lz k v (p::l)=p::lz k v l:=rS q
theorem Jx (q:lj p.1 k=ac):vX k (p::l)=l:=uN q
theorem Jz (q:lj p.1 k=ae):vX k (p::l)=p::vX k l:=rS q
end
def pe (d:Nat) (k:AV):Bool:=match ay d 9 with
 |true=>aF (kd k) 8
 |false=>(match ay (kd k) d with|true=>aF d 8|false=>ae)
noncomputable def im (k:Nat) (l:List (Nat×AV)):Option AV:=aP (motive:=fun a=>Option AV) .none (fun p a ih=>be (motive:=fun a=>Option AV) ih (aa p.2) (ay p.1 k)) l
noncomputable def yc (k:Nat) (v:AV) (l:List (Nat×AV)):List (Nat×AV):=aP (motive:=fun a=>List (Nat×AV)) [(k,v)] (fun p l ih=>be (motive:=fun a=>List (Nat×AV)) (p::ih) ((p.1,v)::l) (ay p.1 k)) l
noncomputable def jS (k:Nat):List (Nat×Nat)→Option Nat
 |[]=>.none
 |p::l=>match ay p.1 k with|true=>aa p.2|false=>jS k l
def rP {α:Type} (f:α→Bool) (l:List α):Bool:=aP ac (fun x a ih=>f x&&ih) l
def jF {α β:Type} (f:α→β→Bool) (l:List α):List β→Bool:=
 aP (motive:=fun c=>List β→Bool) (aP ac fun c c c=>ae) (fun a c ih m=>aP ae (fun b m c=>f a b&&ih m) m) l
def vh:Nat→AV→Bool
 |0=>fun a=>ae
 |n+1=>fun v=>match v with
  |.none=>ac|.bool _=>ac|.int _=>ac|.str _=>ac
  |.tup l=>rP (vh n) l
  |_=>ae
abbrev EL (f:AV→AV→Bool):List AV→List AV→Bool:=jF f
noncomputable def b2i (b:Bool):Int:=match b with|true=>1|false=>0
def Ve:Nat→AV→AV→Bool
 |0=>fun c c=>ae
 |n+1=>fun a b=>match a with
  |.none=>(match b with|.none=>ac|_=>ae)
  |.bool x=>(match b with|.bool y=>x==y|.int j=>decide (b2i x=j)|_=>ae)
  |.int i=>(match b with|.int j=>decide (i=j)|.bool y=>decide (i=b2i y)|_=>ae)
  |.str i=>(match b with|.str j=>ay i j|_=>ae)
  |.tup l=>(match b with|.tup m=>EL (Ve n) l m|_=>ae)
  |_=>ae
def Uk (a b:AV):Option Bool:=match vh 9 a with
 |true=>(match vh 9 b with|true=>aa (Ve 9 a b)|false=>.none)
 |false=>.none
noncomputable def sl {α:Type} (l:List (Option α)):Nat→Option α:=aP (fun b=>.none) (fun a b ih k=>Ff k a ih) l
def slP {α:Type} (r:α) (P:Nat→Prop) (l:List (Option α)):Nat→Prop:=aP (fun b=>True) (fun a b ih i=>(a=aa r→P i)∧ih (i+1)) l
theorem Wp {α:Type} {r:α} {P:Nat→Prop} (l:List (Option α)):∀{k i},sl l k=aa r→slP r P l i→P (k+i):=by
 induction l with
 |nil=>exact fun h b=>no h
 |cons a l ih=>
  intro k i h q;cases k with
  |zero=>rw [dI];exact q.1 h
  |succ k=>rw [Nat.succ_add];exact ih h q.2
theorem qN {α:Type} {r:α} {P:Nat→Prop} {l:List (Option α)} {k:Nat} (h:sl l k=aa r) (q:slP r P l 0):P k:=Wp l h q
noncomputable def gd {α:Type} (b:Bool) (x:Option α):Option α:=be .none x b
theorem bQ {α:Type} {b:Bool} {x:Option α} {v:α} {P:Prop} (h:gd b x=aa v) (k:b=ac→x=aa v→P):P:=by
 cases b with
 |false=>exact no h
 |true=>exact k rfl h
noncomputable def gn {α β:Type} (o:Option β) (x:Option α):Option α:=aM x (fun a=>.none) o
theorem ut {α β:Type} {o:Option β} {x:Option α} {v:α} {P:Prop} (h:gn o x=aa v) (k:o=.none→x=aa v→P):P:=by
 cases o with
 |some _=>exact no h
 |none=>exact k rfl h
noncomputable def g1 {α β:Type} (l:List α) (f:α→Option β):Option β:=l.casesOn .none fun a r=>r.casesOn (f a) fun b b=>.none
theorem wP {α β:Type} {l:List α} {f:α→Option β} {v:β} {P:Prop} (h:g1 l f=aa v) (k :∀a,l=[a]→f a=aa v→P):P:=by
 cases l with
 |nil=>exact no h
 |cons a r=>cases r with
  |nil=>exact k a rfl h
  |cons _ _=>exact no h
noncomputable def g2 {α β:Type} (l:List α) (f:α→α→Option β):Option β:=l.casesOn .none fun a r=>g1 r (f a)
theorem I_ {α β:Type} {l:List α} {f:α→α→Option β} {v:β} {P:Prop} (h:g2 l f=aa v) (k :∀a b,l=[a,b]→f a b=aa v→P):P:=by
 cases l with
 |nil=>exact no h
 |cons a r=>exact wP h fun b e h=>k a b (e▸rfl) h
noncomputable def s_ (v:AV):Option Nat:=v.casesOn .none (fun a=>.none) (fun a=>.none) (fun a=>.none) (fun a=>.none) (fun a a=>.none) aa (fun a=>.none) (fun a=>.none) (fun a=>.none) (fun a=>.none) (fun a=>.none) (fun a=>.none) (fun a=>.none) (fun a=>.none)
noncomputable def Yt (v:AV):Option (Nat×List (AV×AV)):=v.casesOn .none (fun a=>.none) (fun a=>.none) (fun a=>.none) (fun a=>.none) (fun d l=>aa (d,l)) (fun a=>.none) (fun a=>.none) (fun a=>.none) (fun a=>.none) (fun a=>.none) (fun a=>.none) (fun a=>.none) (fun a=>.none) (fun a=>.none)
noncomputable def jL (v:AV):Option Int:=v.casesOn .none (fun a=>.none) aa (fun a=>.none) (fun a=>.none) (fun a a=>.none) (fun a=>.none) (fun a=>.none) (fun a=>.none) (fun a=>.none) (fun a=>.none) (fun a=>.none) (fun a=>.none) (fun a=>.none) (fun a=>.none)
noncomputable def nQ (v:AV):Option (List AV):=v.casesOn .none (fun a=>.none) (fun a=>.none) (fun a=>.none) aa (fun a a=>.none) (fun a=>.none) (fun a=>.none) (fun a=>.none) (fun a=>.none) (fun a=>.none) (fun a=>.none) (fun a=>.none) (fun a=>.none) (fun a=>.none)
noncomputable def Ys (v:AV):Option Nat:=v.casesOn .none (fun a=>.none) (fun a=>.none) (fun a=>.none) (fun a=>.none) (fun a a=>.none) (fun a=>.none) (fun a=>.none) (fun a=>.none) (fun a=>.none) (fun a=>.none) aa (fun a=>.none) (fun a=>.none) (fun a=>.none)
noncomputable def Ri (v:AV):Option Nat:=v.casesOn .none (fun a=>.none) (fun a=>.none) (fun a=>.none) (fun a=>.none) (fun a a=>.none) (fun a=>.none) (fun a=>.none) (fun a=>.none) (fun a=>.none) (fun a=>.none) (fun a=>.none) (fun a=>.none) (fun a=>.none) aa
noncomputable def oe {α β:Type} (x:Option α) (f:α→Option β) (y:Option β):Option β:=aM y f x
theorem gO {α β:Type} {x:Option α} {f:α→Option β} {y:Option β} {r:β} {P:Prop} (h:oe x f y=aa r) (k1 :∀a,x=aa a→f a=aa r→P) (k2:x=.none→y=aa r→P):P:=by
 cases x with
 |none=>exact k2 rfl h
 |some a=>exact k1 a rfl h
noncomputable def WT {β:Type} (o:AO) (f:Bool→Nat→List (AV×AV)→Option β):Option β:=o.casesOn (fun a a a a=>.none) f (fun a a=>.none)
noncomputable def SF {β:Type} (o:AO) (f:Bool→Option Nat→List AV→Option Nat→Option β):Option β:=o.casesOn f (fun a a a=>.none) (fun a a=>.none)
noncomputable def MO {β:Type} (o:AO) (f:Nat→List (Nat×AV)→Option β):Option β:=o.casesOn (fun a a a a=>.none) (fun a a a=>.none) f
theorem MP {β:Type} {o:AO} {f:Bool→Nat→List (AV×AV)→Option β} {r:β} {P:Prop}:WT o f=aa r→(∀ro d l,o=.dict ro d l→f ro d l=aa r→P)→P:=o.casesOn (fun a a a a h a=>no h) (fun a a a h k=>k _ _ _ rfl h) (fun a a h a=>no h)
theorem MN {β:Type} {o:AO} {f:Bool→Option Nat→List AV→Option Nat→Option β} {r:β} {P:Prop}:SF o f=aa r→(∀ro p l q,o=.list ro p l q→f ro p l q=aa r→P)→P:=o.casesOn (fun a a a a h k=>k _ _ _ _ rfl h) (fun a a a h a=>no h) (fun a a h a=>no h)
theorem CD {β:Type} {o:AO} {f:Nat→List (Nat×AV)→Option β} {r:β} {P:Prop}:MO o f=aa r→(∀c fs,o=.inst c fs→f c fs=aa r→P)→P:=o.casesOn (fun a a a a h a=>no h) (fun a a a h a=>no h) (fun a a h k=>k _ _ rfl h)
theorem nB:(!b)=ac→b=ae:=b.casesOn (fun a=>rfl) (fun h=>ff h)
noncomputable def vGe (v:AV):Option Nat:=v.casesOn .none (fun a=>.none) (fun a=>.none) (fun a=>.none) (fun a=>.none) (fun a a=>.none) (fun a=>.none) (fun a=>.none) (fun a=>.none) (fun a=>.none) (fun a=>.none) (fun a=>.none) aa (fun a=>.none) (fun a=>.none)
theorem LL {v:AV} {i:Nat}:vGe v=aa i→v=.ge i:=v.casesOn (fun h=>no h) (fun a h=>no h) (fun a h=>no h) (fun a h=>no h) (fun a h=>no h) (fun a a h=>no h) (fun a h=>no h) (fun a h=>no h) (fun a h=>no h) (fun a h=>no h) (fun a h=>no h) (fun a h=>no h) (fun a h=>congrArg AV.ge (ao h)) (fun a h=>no h) (fun a h=>no h)
noncomputable def Yr (v:AV):Bool:=v.casesOn ac (fun a=>ae) (fun a=>ae) (fun a=>ae) (fun a=>ae) (fun a a=>ae) (fun a=>ae) (fun a=>ae) (fun a=>ae) (fun a=>ae) (fun a=>ae) (fun a=>ae) (fun a=>ae) (fun a=>ae) (fun a=>ae)
theorem sh:Yr v=ac→v=.none:=v.casesOn (fun a=>rfl) (fun a h=>ff h) (fun a h=>ff h) (fun a h=>ff h) (fun a h=>ff h) (fun a a h=>ff h) (fun a h=>ff h) (fun a h=>ff h) (fun a h=>ff h) (fun a h=>ff h) (fun a h=>ff h) (fun a h=>ff h) (fun a h=>ff h) (fun a h=>ff h) (fun a h=>ff h)
theorem g_ {v:AV} {j:Nat}:s_ v=aa j→v=.loc j:=v.casesOn (fun h=>no h) (fun a h=>no h) (fun a h=>no h) (fun a h=>no h) (fun a h=>no h) (fun a a h=>no h) (fun a h=>congrArg AV.loc (ao h)) (fun a h=>no h) (fun a h=>no h) (fun a h=>no h) (fun a h=>no h) (fun a h=>no h) (fun a h=>no h) (fun a h=>no h) (fun a h=>no h)
theorem Ce {v:AV} {p:Nat×List (AV×AV)}:Yt v=aa p→v=.fd p.1 p.2:=v.casesOn (fun h=>no h) (fun a h=>no h) (fun a h=>no h) (fun a h=>no h) (fun a h=>no h) (fun d l h=>congrArg (fun p:Nat×List (AV×AV)=>AV.fd p.1 p.2) (ao h)) (fun a h=>no h) (fun a h=>no h) (fun a h=>no h) (fun a h=>no h) (fun a h=>no h) (fun a h=>no h) (fun a h=>no h) (fun a h=>no h) (fun a h=>no h)
theorem cP {v:AV} {i:Int}:jL v=aa i→v=.int i:=v.casesOn (fun h=>no h) (fun a h=>no h) (fun a h=>congrArg AV.int (ao h)) (fun a h=>no h) (fun a h=>no h) (fun a a h=>no h) (fun a h=>no h) (fun a h=>no h) (fun a h=>no h) (fun a h=>no h) (fun a h=>no h) (fun a h=>no h) (fun a h=>no h) (fun a h=>no h) (fun a h=>no h)
theorem fj {v:AV} {l:List AV}:nQ v=aa l→v=.tup l:=v.casesOn (fun h=>no h) (fun a h=>no h) (fun a h=>no h) (fun a h=>no h) (fun a h=>congrArg AV.tup (ao h)) (fun a a h=>no h) (fun a h=>no h) (fun a h=>no h) (fun a h=>no h) (fun a h=>no h) (fun a h=>no h) (fun a h=>no h) (fun a h=>no h) (fun a h=>no h) (fun a h=>no h)
theorem LK {v:AV} {i:Nat}:Ys v=aa i→v=.mk i:=v.casesOn (fun h=>no h) (fun a h=>no h) (fun a h=>no h) (fun a h=>no h) (fun a h=>no h) (fun a a h=>no h) (fun a h=>no h) (fun a h=>no h) (fun a h=>no h) (fun a h=>no h) (fun a h=>no h) (fun a h=>congrArg AV.mk (ao h)) (fun a h=>no h) (fun a h=>no h) (fun a h=>no h)
theorem yJ:Ri v=aa i→v=.opd i:=v.casesOn (fun h=>no h) (fun a h=>no h) (fun a h=>no h) (fun a h=>no h) (fun a h=>no h) (fun a a h=>no h) (fun a h=>no h) (fun a h=>no h) (fun a h=>no h) (fun a h=>no h) (fun a h=>no h) (fun a h=>no h) (fun a h=>no h) (fun a h=>no h) (fun a h=>congrArg AV.opd (ao h))
noncomputable def CC (o:AO):Option (List AV):=o.casesOn (fun a p l q=>p.casesOn (q.casesOn (aa l) fun a=>.none) fun a=>.none) (fun a a l=>aa (iz (·.1) l)) (fun a a=>.none)
theorem y4 {P:Prop}:CC o=aa l→(∀ro,o=.list ro .none l .none→P)→(∀ro d m,o=.dict ro d m→l=iz (·.1) m→P)→P:=
 o.casesOn (fun a p a q=>p.casesOn (q.casesOn (fun h k a=>k _ (congrArg (AO.list _ aj · aj) (pM h))) fun a h=>no h) fun a h=>no h) (fun a a a h a k=>k _ _ _ rfl (pM h).symm) (fun a a h=>no h)
noncomputable def G8 (o:AO):Option (Nat×List (AV×AV)):=o.casesOn (fun a a a a=>.none) (fun a d l=>aa (d,l)) (fun a a=>.none)
def MQ (o:AO):Option (List AV):=o.casesOn (fun a p l q=>aM (aM (aa l) (fun a=>.none) q) (fun a=>.none) p) (fun a a a=>.none) (fun a a=>.none)
theorem G7 {o:AO} {p:Nat×List (AV×AV)} (h:G8 o=aa p):∃ro,o=.dict ro p.1 p.2:=by
 cases o with
 |dict ro d l=>apply gF h;exact ⟨ro,rfl⟩
 |_=>exact no h
theorem G6 {o:AO} {l:List AV} (h:MQ o=aa l):∃ro,o=.list ro .none l .none:=by
 cases o with
 |list ro p m q=>cases p<;>cases q<;>first|exact no h|(apply gF h;exact ⟨ro,rfl⟩)
 |_=>exact no h
theorem ba {α β:Type} {x:Option α} {f:α→Option β} {b:β} {P:Prop} (h:ob x f=aa b) (k :∀a,x=aa a→f a=aa b→P):P:=by
 cases x with
 |none=>exact no h
 |some a=>exact k a rfl h
def ew (S:St) (v:AV):Option (Nat×List (AV×AV)):=aM (motive:=fun a=>Option (Nat×List (AV×AV))) (ob (s_ v) fun j=>ob (S.get j) G8) aa (Yt v)
def c8 (S:St) (v:AV):Option (List AV):=ob (s_ v) fun j=>ob (S.get j) MQ
theorem kC {S:St} {v:AV} {l:List AV} {P:Prop} (e:c8 S v=aa l) (k :∀j ro,v=.loc j→S.get j=aa (.list ro .none l .none)→P):P:=
 ba e fun j a e=>ba e fun o b e=>let ⟨ro,c⟩:=G6 e;k j ro (g_ a) (c▸b)
theorem EU {S:St} {v:AV} {p:Nat×List (AV×AV)} {P:Prop} (e:ew S v=aa p) (kf:v=.fd p.1 p.2→P) (kl :∀j ro,v=.loc j→S.get j=aa (.dict ro p.1 p.2)→P):P:=by
 unfold ew at e;cases h:Yt v with
 |some q=>rw [h] at e;cases e;exact kf (Ce h)
 |none=>rw [h] at e;exact ba e fun j a e=>ba e fun o b e=>let ⟨ro,c⟩:=G7 e;kl j ro (g_ a) (c▸b)
def Dm (l m:List AV):Option Bool:=match rP (vh 8) l with
 |true=>(match rP (vh 8) m with|true=>aa (EL (Ve 8) l m)|false=>.none)
 |false=>.none
def uG (S:St) (a b:AV):Option Bool:=oe (c8 S a) (fun l=>ob (c8 S b) fun m=>Dm l m) (Uk a b)
def zD (om:Om) (S:St) (a b:AV):Option Bool:=oe (Ys a) (fun i=>ob (Ys b) fun j=>aa (om.eq i j)) (uG S a b)
def Bv (f:AV→AV→Option Bool) (m:List (AV×AV)) (l:List (AV×AV)):Option Bool:=
 aP (aa ac) (fun p a ih=>oe (bD p.1 m) (fun w=>ob (f p.2 w) fun e=>ob ih fun b=>aa (e&&b)) (aa ae)) l
noncomputable def HM (d:Nat):Bool:=be (ay d 9) ac (ay d 0)
def ZE (f:AV→AV→Option Bool) (d:Nat) (l:List (AV×AV)) (e:Nat) (m:List (AV×AV)):Option Bool:=
 gd (HM d) (gd (HM e) (be (aa ae) (Bv f m l) (ay (eZ l) (eZ m))))
noncomputable def K8 (v:AV):Nat×Nat×Int:=match v with
 |.none=>(0,0,0)|.bool b=>(1,b.toNat,0)|.int i=>(2,0,i)|.str k=>(3,k,0)|.tup _=>(4,0,0)|.fd d _=>(5,d,0)|.loc j=>(6,j,0)
 |.fn k=>(7,k,0)|.cls k=>(8,k,0)|.bi k=>(9,k,0)|.opq k=>(10,k,0)|.mk k=>(11,k,0)|.ge k=>(12,k,0)|.opa k=>(13,k,0)|.opd k=>(14,k,0)
noncomputable def X6 (v:AV):List (AV×AV):=match v with|.tup l=>l.map fun x=>(x,.none)|.fd _ l=>l|_=>[]
noncomputable def ZW (h:Nat×Nat×Int) (ks:List (AV×AV)):AV:=match h.1 with
 |0=>.none|1=>.bool (ay h.2.1 1)|2=>.int h.2.2|3=>.str h.2.1|4=>.tup (ks.map (·.1))|5=>.fd h.2.1 ks|6=>.loc h.2.1
 |7=>.fn h.2.1|8=>.cls h.2.1|9=>.bi h.2.1|10=>.opq h.2.1|11=>.mk h.2.1|12=>.ge h.2.1|13=>.opa h.2.1|_=>.opd h.2.1
noncomputable def Zw (a b:Nat×Nat×Int):Bool:=ay a.1 b.1&&ay a.2.1 b.2.1&&decide (a.2.2=b.2.2)
def Kp (n:Nat):AV→AV→Bool:=fF (fun c c=>ae) (fun c ih a b=>Zw (K8 a) (K8 b)&&jF (fun p q=>ih p.1 q.1&&ih p.2 q.2) (X6 a) (X6 b)) n
theorem ya (v:AV):ZW (K8 v) (X6 v)=v:=by
 cases v with
 |bool b=>cases b<;>rfl
 |tup l=>exact congrArg AV.tup (show (l.map fun x=>(x,AV.none)).map (·.1)=l by rw [l4];exact List.map_id l)
 |_=>rfl
theorem pH {α:Type} {f:α→α→Bool} (k :∀a b,f a b=ac→a=b) (l:List α):∀{m:List α},jF f l m=ac→l=m:=by
 induction l with
 |nil=>
  intro m h;cases m with
  |nil=>rfl
  |cons=>exact ff h
 |cons a l ih=>
  intro m h;cases m with
  |nil=>exact ff h
  |cons b m=>
   have h:=ax.mp (show (f a b&&jF f l m)=ac from h);rw [k a b h.1,ih h.2]
theorem TY {a b:Nat×Nat×Int} (h:Zw a b=ac):a=b:=by
 have h:=ax.mp h;have h1:=ax.mp h.1;exact io (am h1.1) (io (am h1.2) (of_decide_eq_true h.2))
theorem DA (n:Nat):∀{a b:AV},Kp n a b=ac→a=b:=by
 induction n with
 |zero=>exact fun h=>ff h
 |succ n ih=>
  intro a b h;have h:=ax.mp (show (Zw (K8 a) (K8 b)&&jF (fun p q=>Kp n p.1 q.1&&Kp n p.2 q.2) (X6 a) (X6 b))=ac from h);rw [← ya a,← ya b,TY h.1,pH (fun p q z=>io (ih (ax.mp z).1) (ih (ax.mp z).2)) _ h.2]
theorem Km (h:ay (K8 v).1 3=ac):∃k,v=.str k:=by
 have e:=ya v;unfold ZW at e;rw [am h] at e;exact ⟨_,e.symm⟩
theorem Ko (h:ay (K8 v).1 2=ac):∃k,v=.int k:=by
 have e:=ya v;unfold ZW at e;rw [am h] at e;exact ⟨_,e.symm⟩
def kI (om:Om) (S:St) (a b:AV):Option Bool:=oe (ew S a) (fun p=>ob (ew S b) fun q=>ZE (zD om S) p.1 p.2 q.1 q.2) (gn (ew S b) (zD om S a b))
def YS (om:Om) (S:St) (a b:AV):Option Bool:=oe (Ri a) (fun i=>gd (Kp 12 b (om.dv i)) (aa (om.eqd i))) (kI om S a b)
def dne (om:Om) (S:St) (a b:AV):Option Bool:=
 be (ob (YS om S a b) fun r=>aa (!r)) (oe (ew S b) (fun c=>aa ac) (oe (Ri b) (fun c=>aa ac) (ob (YS om S a b) fun r=>aa (!r)))) (Yr a)
noncomputable def S9 (a b:AV):Option Bool:=match a with
 |.int i=>(match b with|.int j=>aa (decide (i<j))|_=>.none)
 |.str i=>(match b with|.str j=>(match aF 6 i&&aF i 13&&aF 6 j&&aF j 13 with|true=>aa (aF i j)|false=>.none)|_=>.none)
 |_=>.none
noncomputable def M6:List AV→List AV→Option Bool
 |[],m=>(match m with|[]=>aa ae|_::_=>aa ac)
 |x::l,m=>(match m with
  |[]=>aa ae
  |y::m=>(match vS x y with
   |true=>M6 l m
   |false=>S9 x y))
def Yb (a b:AV):Option Bool:=match a with
 |.tup l=>(match b with|.tup m=>M6 l m|_=>.none)
 |_=>S9 a b
noncomputable def E6:List AV→Bool
 |[]=>ac
 |x::l=>match l with
  |[]=>ac
  |y::_=>(match Yb y x with|some r=>(match r with|true=>ae|false=>E6 l)|.none=>ae)
def BV (l:List AV):Bool:=l.all fun x=>ay (K8 x).1 2
def Xq (v:AV):Bool:=match v with|.tup l=>ay l.length 2&&l.all fun x=>ay (K8 x).1 3|_=>ae
def E7 (l:List AV):Bool:=l.all Xq
theorem zf (h:Xq v=ac):∃p q,v=.tup [.str p,.str q]:=by
 cases v with
 |tup l=>
  have h:=ax.mp h;have q:=ai.mp h.2;cases l with
  |nil=>exact ff h.1
  |cons a l=>cases l with
   |nil=>exact ff h.1
   |cons b l=>cases l with
    |cons=>exact ff h.1
    |nil=>
     refine ak (Km (q a (.head _))) fun i ei=>?_;refine ak (Km (q b (.tail _ (.head _)))) fun j ej=>?_;exact ⟨i,j,by rw [ei,ej]⟩
 |_=>exact ff h
noncomputable def rQ {α:Type} (c:Nat→Nat→Option Bool) (t:PySem.W.KasT α):Option α:=PySem.W.KasT.rec aa (fun i j a ih=>ob (c i j) ih) t
def kJ (l:List AV) (i j:Nat):Option Bool:=ob (bc l i) fun x=>ob (bc l j) fun y=>Yb x y
def nC (l:List AV) (i:Nat):AV:=match bc l i with|some v=>v|.none=>.none
def Gz (l:List AV):Option (List AV):=match E6 l with
 |true=>aa l
 |false=>ob (rQ (kJ l) (PySem.W.kas_sort (eZ l))) fun p=>aa (iz (nC l) p.toList)
def Wl (l:List AV):Option (List AV):=match aF (eZ l) 64 with
 |false=>.none
 |true=>(match BV l with|true=>Gz l|false=>(match E7 l with|true=>Gz l|false=>.none))
def Fl (l:List AV):Option (List AV):=match aF (eZ l) 2 with
 |true=>aa l
 |false=>Wl l
noncomputable def EH (v:AV):Option Bool:=match v with
 |.none=>aa ae
 |.bool b=>aa b
 |_=>.none
def dX (v:AV) (S:St):Option (List AV×Option Nat):=
 oe (nQ v) (fun l=>aa (l,.none)) (oe (Yt v) (fun p=>aa (iz (·.1) p.2,.none)) (ob (s_ v) fun j=>ob (S.get j) fun o=>ob (CC o) fun l=>aa (l,aa j)))
theorem um (h:S.get j=aa o) (q:CC o=aa l):dX (.loc j) S=aa (l,aa j):=
 (congrArg (fun x=>ob x fun o=>ob (CC o) fun l=>aa (l,aa j)) h).trans (congrArg (fun x=>ob x fun l=>aa (l,aa j)) q)
noncomputable def RZ (r:Bool) (j:Nat) (S:St) (o:AO):St:=o.casesOn (fun a p l q=>S.put j (.list r p l q)) (fun a d l=>S.put j (.dict r d l)) fun a a=>S
def gq (r:Bool) (j:Nat) (S:St):St:=aM S (RZ r j S) (S.get j)
def cL (o:Option Nat) (S:St):St:=aM S (fun j=>gq ac j S) o
noncomputable def TQ (o:AO):Bool:=o.casesOn (fun r a a a=>r) (fun r a a=>r) fun a a=>ac
def dy (o:Option Nat) (S:St):Bool:=aM ac (fun j=>aM ac TQ (S.get j)) o
def bG (o:Option Nat) (r:Bool) (S:St):St:=be (aM S (fun j=>gq ae j S) o) S r
noncomputable def rn:Nat→List AV→List AV
 |_,[]=>[]
 |n,x::l=>.tup [.int (aw n),x]::rn (bW n) l
noncomputable def nV:Nat→Int→Int→List AV
 |0,_,_=>[]
 |k+1,a,c=>.int a::nV k (a+c) c
noncomputable def AG (a b c:Int):Nat:=be 0 (Int.toNat ((b-a-1) / c+1)) (decide (a<b))
noncomputable def N8 (i:Int):Bool:=decide (-1000<i)&&decide (i<1000)
def t6 (a b c:Int):Option (List AV):=gd (decide (0<c)) (gd (N8 a) (gd (N8 b) (gd (N8 c) (aa (nV (AG a b c) a c)))))
def oX (vs:List AV):Option (List AV):=vs.casesOn .none fun a r=>ob (jL a) fun x=>r.casesOn (t6 0 x 1) fun b r=>ob (jL b) fun y=>r.casesOn (t6 x y 1) fun c r=>ob (jL c) fun z=>r.casesOn (t6 x y z) fun d d=>.none
noncomputable def kO:List Nat→List AV→Fr→Option Fr
 |[],xs,fr=>(match xs with|[]=>aa fr|_::_=>.none)
 |i::is,xs,fr=>(match xs with|[]=>.none|x::xs=>kO is xs (dT fr i (aa x)))
def eI (bm:List Nat) (one:Bool) (v:AV) (fr:Fr):Option Fr:=be (ob (nQ v) fun l=>kO bm l fr) (g1 bm fun i=>aa (dT fr i (aa v))) one
def UJ (a b:AV) (S:St):Option (AV×St):=
 ob (c8 S a) fun l=>ob (c8 S b) fun m=>gU (dL l m) S
def Yd (a b:AV) (S:St):Option (AV×St):=
 oe (jL a) (fun i=>ob (jL b) fun j=>aa (.int (i+j),S)) (oe (nQ a) (fun l=>ob (nQ b) fun m=>qi (dL l m) S) (UJ a b S))
noncomputable def pw2 (j:Int):Bool:=[1,2,4,8,3].any fun x=>decide (j=x)
def two (j:Int):Option Int:=j.casesOn (sl [aa 1,aa 2,aa 4,aa 8]) fun a=>.none
def iop (op:Nat) (i j:Int):Option Int:=
 sl [.none,aa (i-j),gd (decide (i=14)) (aa (i*j)),gd (pw2 j) (aa (U1 i j)),gd (!decide (j=0)) (aa (Fi i j)),gd (decide (i=2)) (two j)] op
def Xv (op:Nat) (a b:AV) (S:St):Option (AV×St):=ob (jL a) fun i=>ob (jL b) fun j=>ob (iop op i j) fun r=>aa (.int r,S)
def Kz (op:Nat) (a b:AV) (S:St):Option (AV×St):=match op with
 |0=>Yd a b S
 |_=>Xv op a b S
noncomputable def Hm (f:AV→AV→Option Bool) (x:AV) (l:List AV):Option Bool:=aP (aa ae) (fun y a ih=>ob (f y x) fun e=>ob ih fun b=>aa (e||b)) l
def TU (x:AV) (p:Nat×List (AV×AV)):Option Bool:=gd (pe p.1 x) (aa (match bD x p.2 with|some _=>ac|.none=>ae))
def Yc (om:Om) (x c:AV) (S:St):Option Bool:=
 oe (nQ c) (fun l=>Hm (uG S) x l) (oe (Ys c) (fun k=>ob (jL x) fun i=>aa (om.memb k i)) (oe (c8 S c) (fun l=>Hm (uG S) x l) (ob (ew S c) fun p=>TU x p)))
noncomputable def Bk (v:AV):Option Bool:=match v with
 |.none=>aa ac
 |.opq _=>.none
 |.opa _=>.none
 |.bi _=>.none
 |_=>aa ae
def ZP (op:Nat) (i j:Int):Option Bool:=sl [.none,.none,aa (decide (i<j)),aa (decide (i≤j)),aa (decide (j<i)),aa (decide (j≤i))] op
def zX (op:Nat) (a b:AV):Option Bool:=ob (jL b) fun j=>oe (jL a) (fun i=>ZP op i j) (ob (vGe a) fun n=>gd (ay op 4) (gd (decide (j<aw n)) (aa ac)))
def qx (om:Om) (op:Nat) (a b:AV) (S:St):Option Bool:=sl [YS om S a b,dne om S a b,zX 2 a b,zX 3 a b,zX 4 a b,zX 5 a b,Yc om a b S,ob (Yc om a b S) fun r=>aa (!r),gd (Yr b) (Bk a),gd (Yr b) (ob (Bk a) fun r=>aa (!r))] op
noncomputable def Xa (a:Int) (l:List AV):Option Int:=aP (motive:=fun b=>Int→Option Int) aa (fun x b ih a=>ob (jL x) fun i=>ih (be a i (decide (i<a)))) l a
def iD (l:List AV):Nat→List (AV×AV)→Option (Nat×List (AV×AV)):=
 aP (fun d acc=>aa (d,acc)) (fun x a ih d acc=>ob (nQ x) fun t=>g2 t fun k v=>gd (pe d k) (ih (kd k) (lz k v acc))) l
noncomputable def Tb {α:Type} (l:List α) (u:AV):Option AV:=gd (sm l) (aa u)
def E8 (v:AV) (S:St):Option AV:=
 oe (nQ v) (fun l=>Tb l (.int (aw (eZ l)))) (ob (s_ v) fun j=>ob (S.get j) fun o=>o.casesOn (fun a p l q=>Tb l (p.casesOn (q.casesOn (.int (aw (eZ l))) fun a=>.ge (eZ l)) fun a=>.ge (eZ l))) (fun a d l=>gd (HM d) (Tb l (.int (aw (eZ l))))) fun a a=>.none)
def DG (v:AV) (S:St):Option (AV×St):=match ew S v with
 |some p=>gd (HM p.1) (nh p.1 p.2 S)
 |.none=>ob (c8 S v) fun l=>ob (iD l 9 []) fun p=>nh p.1 p.2 S
def X_ (v:AV) (S:St):Option (AV×St):=ob (c8 S v) fun l=>l.casesOn .none fun x l=>ob (jL x) fun a=>ob (Xa a l) fun r=>aa (.int r,S)
noncomputable def UM (v:AV) (S:St):Option (AV×St):=match v with
 |.int i=>aa (.int (aw i.natAbs),S)
 |_=>.none
def ZY (k:Nat) (v:AV) (S:St):Option (AV×St):=
 sl [.none,.none,ob (E8 v S) fun r=>aa (r,S),ob (dX v S) fun p=>ob (Fl p.1) fun l=>gU l S,X_ v S,UM v S,ob (dX v S) fun p=>gU p.1 S,DG v S,ob (c8 S v) fun l=>qi l S] k
def E9 (k:Nat) (args:List AV) (S:St):Option (AV×St):=g1 args fun v=>ZY k v S
def Xz (p:Nat×List (AV×AV)) (k d:AV) (S:St):Option (AV×St):=gd (pe p.1 k) (aa ((bD k p.2).getD d,S))
def xG (p:Nat×List (AV×AV)) (args:List AV) (S:St):Option (AV×St):=args.casesOn .none fun k r=>r.casesOn (Xz p k .none S) fun d r=>r.casesOn (Xz p k d S) fun a a=>.none
noncomputable def kdE (d:Nat) (l:List (AV×AV)):Nat:=match l with|[]=>9|_::_=>d
def W_ (j:Nat) (p:Nat×List (AV×AV)) (args:List AV) (S:St):Option (AV×St):=g2 args fun k d=>gd (sm p.2) (gd (pe p.1 k)
 (aM (aa (d,S)) (fun v=>aa (v,S.put j (.dict ae (kdE p.1 (vX k p.2)) (vX k p.2)))) (bD k p.2)))
def W9 (args:List AV) (S:St):Option (AV×St):=g1 args fun v=>ob (c8 S v) fun m=>m.casesOn (aa (.none,S)) fun a a=>.none
def Xc (j:Nat) (ro:Bool) (p:Nat×List (AV×AV)) (nm:Nat) (args:List AV) (S:St):Option (AV×St):=sl [xG p args S,gd (!ro) (W_ j p args S),.none,.none,gd (!ro) (W9 args S)] nm
def xH (j:Nat) (ii:Option Nat) (l:List AV) (post:Option Nat) (args:List AV) (S:St):Option (AV×St):=g1 args fun v=>gn post (ob (rK j ii (dL l [v]) .none S) fun S=>aa (.none,S))
def Qj (j:Nat) (ii:Option Nat) (l:List AV) (post:Option Nat) (args:List AV) (S:St):Option (AV×St):=g1 args fun v=>ob (jL v) fun i=>gd (decide (i=0)) (gn ii (l.casesOn .none fun x l=>gd (sm l) (aa (x,S.put j (.list ae .none l post)))))
def CN (j:Nat) (ii:Option Nat) (l:List AV) (post:Option Nat) (args:List AV) (S:St):Option (AV×St):=g1 args fun v=>gn post
 (oe (nQ v) (fun m=>ob (rK j ii (dL l m) .none S) fun S=>aa (.none,S)) (gd (!aM ae (ay j) (s_ v)) (ob (c8 S v) fun m=>ob (rK j ii (dL l m) .none S) fun S=>aa (.none,S))))
def Qk (j:Nat) (ii:Option Nat) (l:List AV) (post:Option Nat) (nm:Nat) (args:List AV) (S:St):Option (AV×St):=sl [.none,Qj j ii l post args S,.none,.none,.none,xH j ii l post args S,CN j ii l post args S] nm
def wC (j nm:Nat) (args:List AV) (S:St):Option (AV×St):=ob (S.get j) fun o=>WT o fun ro d l=>Xc j ro (d,l) nm args S
def ub (j nm:Nat) (args:List AV) (S:St):Option (AV×St):=ob (S.get j) fun o=>SF o fun ro ii l post=>gd (!ro) (Qk j ii l post nm args S)
def CO (d:Nat) (l:List (AV×AV)) (nm:Nat) (args:List AV) (S:St):Option (AV×St):=sl [xG (d,l) args S] nm
noncomputable def un (l:List AV) (i:AV):Option AV:=ob (jL i) fun z=>z.casesOn (fun n=>gd (aF n 1000) (bc l n)) fun n=>n.casesOn (wG l) fun a=>.none
theorem wM {l:List AV} {i v:AV} {P:Prop} (h:un l i=aa v) (k1 :∀n,i=.int (aw n)→n<1000→bc l n=aa v→P) (k2:i=.int (Fh 0)→wG l=aa v→P):P:=
 ba h fun z ez=>Int.casesOn (motive:=fun z=>jL i=aa z→(z.casesOn (fun n=>gd (aF n 1000) (bc l n)) (fun n=>n.casesOn (wG l) fun c=>.none):Option AV)=aa v→P) z (fun n e h=>bQ h fun a b=>k1 n (cP e) (az a) b) (fun n=>n.casesOn (fun e h=>k2 (cP e) h) fun c c h=>no h) ez
def pF (o i:AV) (S:St):Option AV:=oe (nQ o) (fun l=>un l i) (oe (c8 S o) (fun l=>un l i) (ob (ew S o) fun p=>gd (pe p.1 i) (bD i p.2)))
def P5 (j:Nat) (o:AO) (i v:AV) (S:St):Option St:=o.casesOn
 (fun ro ii l post=>gd (!ro) (gn ii (gn post (ob (jL i) fun z=>z.casesOn (fun n=>gd (aF n (eZ l)) (rK j .none (dT l n v) .none S)) fun a=>.none))))
 (fun ro d l=>gd (!ro) (gd (pe d i) (putD j (kd i) (lz i v l) S))) fun a a=>.none
def w7 (o i v:AV) (S:St):Option St:=ob (s_ o) fun j=>ob (S.get j) fun ob=>P5 j ob i v S
def qw (o:AV) (lo:Nat) (hi:Option Nat) (S:St):Option (AV×St):=
 oe (nQ o) (fun l=>gn hi (gd (aF 0 lo) (gd (bX lo (eZ l)) (gd (sm l) (qi (o9 lo l) S))))) (ob (c8 S o) fun l=>ob hi fun b=>gd (bX lo b) (gd (ay lo 0||bX b (eZ l)) (gd (sm l) (gU (o9 lo (o7 b l)) S))))
noncomputable def eB:List Nat→Fr→Fr
 |[],_=>[]
 |i::is,fr=>(match bc fr i with|some v=>v|.none=>.none)::eB is fr
noncomputable def d4:Nat→Fr
 |0=>[]
 |n+1=>.none::d4 n
noncomputable def j4:Nat:=6
noncomputable def uo (v:AV):Bool:=match v with|.opq _=>ac|.opa _=>ac|_=>ae
def xX (v:AV) (nm:Nat) (S:St):Option (AV×St):=ob (s_ v) fun j=>ob (S.get j) fun o=>MO o fun c fs=>gd (aF c j4) (ob (im nm fs) fun x=>gd (!uo x) (aa (x,S)))
def Dl (v:AV) (S:St):Option (AV×St):=
 ob (ew S v) fun p=>gd (HM p.1) (gU (iz (fun q=>.tup [q.1,q.2]) p.2) S)
noncomputable def Xw (i:Int) (l:List AV):Option Bool:=aP (aa ae) (fun x a ih=>ob (jL x) fun j=>ob ih fun b=>aa (decide (j=i)||b)) l
def pt (om:Om) (x v:AV) (S:St):Option (AV×St):=
 ob (ew S v) fun p=>gd (HM p.1) (ob (jL x) fun i=>gd (sm p.2) (ob (Xw i (iz (·.2) p.2)) fun r=>aa (.bool r,S)))
noncomputable def T5 (v:AV) (j:Nat) (S:St) (o:AO):AV×St:=o.casesOn (fun a a a a=>(v,S)) (fun r d l=>be (.fd d l,S.del j) (v,S) r) fun a a=>(v,S)
def jh (v:AV) (S:St):AV×St:=aM (v,S) (fun j=>aM (v,S) (T5 v j S) (S.get j)) (s_ v)
theorem Dg {P:AV×St→Prop} (h1:P (v,S)) (h2 :∀j d l,v=.loc j→S.get j=aa (.dict ae d l)→P (.fd d l,S.del j)):P (jh v S):=by
 unfold jh;cases a:s_ v with
 |none=>exact h1
 |some j=>
  show P (aM (v,S) (T5 v j S) (S.get j));cases b:S.get j with
  |none=>exact h1
  |some o=>cases o with
   |list=>exact h1
   |inst=>exact h1
   |dict r d l=>cases r with
    |false=>exact h2 j d l (g_ a) b
    |true=>exact h1
def Ay (v:AV) (nm:Nat) (x:AV) (S:St):Option St:=ob (s_ v) fun j=>ob (S.get j) fun o=>MO o fun c fs=>gd (aF c j4) (gd (sm fs) (aa (S.put j (.inst c (yc nm x fs)))))
def QU (z:Bool) (v:AV) (S:St):Option (AV×St):=match z with|true=>aa (jh v S)|false=>aa (v,S)
def Ki (z:Bool) (x:Option (jk×Fr×St)):Option (AV×St):=match x with
 |.none=>.none
 |some (f,_,S)=>(match f with|.ret v=>QU z v S|.next=>aa (.none,S)|.brk=>.none)
end
end
section
open PySem
noncomputable def Ac:List Str:=[⟨#[103,101,116]⟩,
 ⟨#[112,111,112]⟩,
 ⟨#[105,116,101,109,115]⟩,
 ⟨#[118,97,108,117,101,115]⟩,
 ⟨#[117,112,100,97,116,101]⟩,
 ⟨#[97,112,112,101,110,100]⟩,
 ⟨#[101,120,116,101,110,100]⟩,
 ⟨#[99]⟩,
 ⟨#[109]⟩,
 ⟨#[110]⟩,
 ⟨#[111]⟩,
 ⟨#[112]⟩,
 ⟨#[120]⟩,
 ⟨#[101,110,117,109,101,114,97,116,101]⟩,
 ⟨#[114,97,110,103,101]⟩,
 ⟨#[108,105,115,116]⟩,
 ⟨#[95,95,105,110,105,116,95,95]⟩,
 ⟨#[97,116,116,114,115]⟩,
 ⟨#[107,105,110,100]⟩,
 ⟨#[101,98,103,112]⟩,
 ⟨#[108,111,99,97,108,95,112,114,101,102]⟩,
 ⟨#[111,114,105,103,105,110,97,116,111,114]⟩,
 ⟨#[99,108,117,115,116,101,114,115]⟩,
 ⟨#[110,97,109,101]⟩,
 ⟨#[100,105,99,116]⟩,
 ⟨#[115,101,108,102]⟩,
 ⟨#[114,111,117,116,101,115]⟩,
 ⟨#[115,116,97,108,101]⟩,
 ⟨#[119,105,116,104,100,114,97,119,110]⟩,
 ⟨#[112,114,101,102,105,120,101,115]⟩,
 ⟨#[110,111,119]⟩,
 ⟨#[99,104,97,110,103,101,100]⟩,
 ⟨#[112,114,101,102,105,120]⟩,
 ⟨#[107,101,112,116]⟩,
 ⟨#[111,110,101]⟩,
 ⟨#[107,101,112,116,95,97,116,116,114,115]⟩,
 ⟨#[115,111,114,116,101,100]⟩,
 ⟨#[112,97,116,104]⟩,
 ⟨#[102,111,117,110,100]⟩,
 ⟨#[110,117,109,98,101,114,115]⟩,
 ⟨#[83,69,81,85,69,78,67,69]⟩,
 ⟨#[108,101,110]⟩,
 ⟨#[83,69,84]⟩,
 ⟨#[67,79,78,70,69,68,95,75,73,78,68,83]⟩,
 ⟨#[110,117,109,98,101,114]⟩,
 ⟨#[109,111,115,116]⟩,
 ⟨#[109,97,110,121]⟩,
 ⟨#[116,117,114,110]⟩,
 ⟨#[77,79,83,84,95,73,78,95,83,69,71,77,69,78,84]⟩,
 ⟨#[112,117,116,95,97,104,101,97,100]⟩,
 ⟨#[115,101,103,109,101,110,116]⟩,
 ⟨#[116,117,112,108,101]⟩,
 ⟨#[109,101,109,98,101,114]⟩,
 ⟨#[111,117,116,101,114,95,110,117,109,98,101,114,115]⟩,
 ⟨#[105,110,110,101,114,95,110,117,109,98,101,114,115]⟩,
 ⟨#[114,111,117,116,101]⟩,
 ⟨#[85,83,85,65,76,95,80,82,69,70,69,82,69,78,67,69]⟩,
 ⟨#[111,112,116,105,111,110,115]⟩,
 ⟨#[109,101,100]⟩,
 ⟨#[109,105,115,115,105,110,103,95,119,111,114,115,116]⟩,
 ⟨#[87,79,82,83,84,95,77,69,68]⟩,
 ⟨#[112,101,101,114,115]⟩,
 ⟨#[105,100]⟩,
 ⟨#[97,100,100,114]⟩,
 ⟨#[119,111,114,116,104,115]⟩,
 ⟨#[108,101,97,115,116]⟩,
 ⟨#[109,105,110]⟩,
 ⟨#[97,116]⟩,
 ⟨#[114,105,118,97,108,115]⟩,
 ⟨#[97,108,119,97,121,115,95,109,101,100]⟩,
 ⟨#[97,115,95,112,97,116,104]⟩,
 ⟨#[110,101,105,103,104,98,111,117,114,95,97,115]⟩,
 ⟨#[111,116,104,101,114]⟩,
 ⟨#[109,101,100,95,111,102]⟩,
 ⟨#[108,101,102,116]⟩,
 ⟨#[114,117,110,103,115]⟩,
 ⟨#[117,115,97,98,108,101]⟩,
 ⟨#[112,114,101,102,101,114,101,110,99,101,95,111,102]⟩,
 ⟨#[108,101,97,115,116,95,98,121]⟩,
 ⟨#[112,114,101,102,101,114,101,110,99,101]⟩,
 ⟨#[111,119,110]⟩,
 ⟨#[112,97,116,104,95,108,101,110,103,116,104]⟩,
 ⟨#[111,114,105,103,105,110]⟩,
 ⟨#[98,101,115,116,95,109,101,100,115]⟩,
 ⟨#[105,115,95,102,114,111,109,95,111,117,116,115,105,100,101]⟩,
 ⟨#[111,117,116,115,105,100,101]⟩,
 ⟨#[99,111,115,116]⟩,
 ⟨#[108,97,115,116,95,114,117,110,103,115]⟩,
 ⟨#[116,101,108,108,101,114,95,105,100]⟩,
 ⟨#[116,101,108,108,101,114,95,97,100,100,114,101,115,115]⟩,
 ⟨#[97,100,100,114,101,115,115]⟩,
 ⟨#[108,97,100,100,101,114]⟩,
 ⟨#[116,101,108,108,101,114]⟩,
 ⟨#[104,101,97,114,101,114]⟩,
 ⟨#[105,115,95,114,101,102,108,101,99,116,111,114]⟩,
 ⟨#[73,78,83,73,68,69,95,75,73,78,68,83]⟩,
 ⟨#[105,98,103,112]⟩,
 ⟨#[99,108,105,101,110,116]⟩,
 ⟨#[97,115]⟩,
 ⟨#[99,111,109,101,115,95,98,97,99,107]⟩,
 ⟨#[99,108,117,115,116,101,114]⟩,
 ⟨#[115,111,109,101]⟩,
 ⟨#[78,79,95,65,68,86,69,82,84,73,83,69]⟩,
 ⟨#[78,79,95,69,88,80,79,82,84]⟩,
 ⟨#[78,79,95,69,88,80,79,82,84,95,83,85,66,67,79,78,70,69,68]⟩,
 ⟨#[99,111,110,102,101,100]⟩,
 ⟨#[105,115,95,111,119,110]⟩,
 ⟨#[73,78,83,73,68,69,95,65,76,79,78,69]⟩,
 ⟨#[119,105,116,104,111,117,116,95,99,111,110,102,101,100]⟩,
 ⟨#[112,114,101,112,101,110,100,101,100]⟩,
 ⟨#[110,101,120,116,95,104,111,112]⟩,
 ⟨#[67,79,78,70,69,68,95,83,69,81,85,69,78,67,69]⟩,
 ⟨#[105,115,95,114,101,102,108,101,99,116,101,100]⟩,
 ⟨#[109,97,121,95,112,97,115,115]⟩,
 ⟨#[99,111,109,109,117,110,105,116,105,101,115]⟩,
 ⟨#[109,97,121,95,98,101,95,116,111,108,100]⟩,
 ⟨#[116,111,108,100,95,111,117,116,115,105,100,101]⟩,
 ⟨#[116,111,108,100,95,116,111,95,109,101,109,98,101,114]⟩,
 ⟨#[116,111,108,100,95,105,110,115,105,100,101]⟩,
 ⟨#[117,110,107,110,111,119,110]⟩,
 ⟨#[99,111,110,102,105,103]⟩,
 ⟨#[119,104,111,108,101]⟩,
 ⟨#[105,110,115]⟩,
 ⟨#[111,114,105,103,105,110,115]⟩,
 ⟨#[99,111,115,116,115]⟩,
 ⟨#[112,101,101,114]⟩,
 ⟨#[65,100,106,73,110]⟩,
 ⟨#[117,115,117,97,108]⟩,
 ⟨#[103,111,101,115,95,114,111,117,110,100]⟩,
 ⟨#[116,111,108,100]⟩,
 ⟨#[108,111,111,107]⟩,
 ⟨#[97,100,109,105,116,116,101,100]⟩,
 ⟨#[99,111,115,116,95,116,111]⟩,
 ⟨#[72,101,97,114,100]⟩,
 ⟨#[99,104,111,115,101,110]⟩,
 ⟨#[114,111,117,116,101,115,95,116,111]⟩,
 ⟨#[98,101,115,116,95,111,102]⟩,
 ⟨#[99,104,111,111,115,101]⟩,
 ⟨#[116,97,107,101]⟩,
 ⟨#[67,104,111,111,115,101,114]⟩,
 ⟨#[111,117,116,115]⟩,
 ⟨#[97,100,100,95,112,101,101,114]⟩,
 ⟨#[116,111,108,100,95,98,121]⟩,
 ⟨#[116,111,108,100,95,97,116,116,114,115]⟩,
 ⟨#[108,101,116,95,111,117,116]⟩,
 ⟨#[111,117,116]⟩,
 ⟨#[103,111,110,101]⟩,
 ⟨#[103,114,111,117,112,115]⟩,
 ⟨#[100,117,101]⟩,
 ⟨#[100,117,101,95,116,111]⟩,
 ⟨#[112,117,116,95,105,110,95,103,114,111,117,112]⟩,
 ⟨#[116,101,108,108,95,111,110,101]⟩,
 ⟨#[115,112,101,97,107,101,114,115]⟩,
 ⟨#[102,97,99,116,115]⟩,
 ⟨#[113,117,101,117,101,115]⟩,
 ⟨#[115,112,101,97,107,101,114]⟩,
 ⟨#[107,105,110,100,95,111,102,95,111,116,104,101,114]⟩,
 ⟨#[107,105,110,100,95,111,102,95,111,110,101]⟩,
 ⟨#[109,101,101,116]⟩,
 ⟨#[116,101,108,108]⟩,
 ⟨#[114,111,119,115]⟩,
 ⟨#[112,101,101,114,95,110,97,109,101]⟩,
 ⟨#[119,97,121]⟩,
 ⟨#[112,101,110,100,105,110,103]⟩,
 ⟨#[104,101,97,114]⟩,
 ⟨#[99,104,111,105,99,101]⟩,
 ⟨#[119,97,121,115]⟩,
 ⟨#[100,101,108,105,118,101,114]⟩,
 ⟨#[99,104,111,105,99,101,115]⟩,
 ⟨#[115,116,101,112]⟩,
 ⟨#[109,97,114,107,115]⟩,
 ⟨#[112,97,114,116,105,97,108]⟩,
 ⟨#[118,97,108,117,101]⟩,
 ⟨#[115,116,97,116,101,109,101,110,116]⟩,
 ⟨#[104,101,108,100]⟩,
 ⟨#[97,100,100]⟩,
 ⟨#[119,105,116,104,95,99,111,109,109,117,110,105,116,105,101,115]⟩,
 ⟨#[100,114,111,112]⟩,
 ⟨#[99,108,101,97,114]⟩,
 ⟨#[115,116,97,116,101,109,101,110,116,115]⟩,
 ⟨#[101,110,100,101,100]⟩,
 ⟨#[104,111,108,100,115]⟩,
 ⟨#[79,78]⟩,
 ⟨#[105,102]⟩,
 ⟨#[69,78,68,83]⟩,
 ⟨#[97,99,99,101,112,116]⟩,
 ⟨#[114,101,106,101,99,116]⟩,
 ⟨#[110,101,120,116]⟩,
 ⟨#[99,104,97,110,103,101,100,95,114,111,117,116,101]⟩,
 ⟨#[112,111,108,105,99,121]⟩,
 ⟨#[116,101,114,109,115]⟩,
 ⟨#[102,97,108,108,98,97,99,107]⟩,
 ⟨#[114,117,110,95,115,116,97,116,101,109,101,110,116,115]⟩,
 ⟨#[65,67,67,69,80,84,69,68]⟩,
 ⟨#[82,69,74,69,67,84,69,68]⟩,
 ⟨#[98,97,114,114,101,100]⟩,
 ⟨#[116,97,103]⟩,
 ⟨#[83,112,101,97,107,101,114]⟩,
 ⟨#[99,111,109,105,110,103]⟩,
 ⟨#[103,111,105,110,103]⟩,
 ⟨#[111,119,110,95,97,100,100,114,101,115,115]⟩,
 ⟨#[112,101,101,114,95,97,115]⟩,
 ⟨#[102,97,99,116,115,95,111,102]⟩,
 ⟨#[114,117,110,95,112,111,108,105,99,121]⟩,
 ⟨#[116,104,114,111,117,103,104]⟩,
 ⟨#[115,111,114,116]⟩,
 ⟨#[97,104,101,97,100]⟩,
 ⟨#[78,85,77,66,69,82,69,68]⟩,
 ⟨#[119,105,116,104,111,117,116,95,102,105,114,115,116]⟩,
 ⟨#[119,105,116,104,95,102,105,101,108,100]⟩,
 ⟨#[102,105,116,95,102,111,114]⟩,
 ⟨#[98,111,120]⟩,
 ⟨#[97,98,115]⟩,
 ⟨#[100,111,111,114]⟩,
 ⟨#[119,111,114,108,100]⟩,
 ⟨#[100,101,101,100,115]⟩,
 ⟨#[66,103,112,87,111,114,108,100]⟩,
 ⟨#[95,108,97,119,95,110,97,109,101,115]⟩,
 ⟨#[80,111,108,105,99,121,83,112,101,97,107,101,114]⟩,
 ⟨#[115,101,116,95,99,111,115,116]⟩,
 ⟨#[95,108,97,119,95,119,97,121,115]⟩,
 ⟨#[99,111,110,110,101,99,116]⟩,
 ⟨#[95,108,97,119,95,109,97,114,107,115]⟩,
 ⟨#[116]⟩,
 ⟨#[115,101,116,95,112,111,108,105,99,105,101,115]⟩,
 ⟨#[109,97,114,107]⟩,
 ⟨#[108,105,110,101]⟩,
 ⟨#[104,101,108,100,95,98,97,99,107]⟩,
 ⟨#[95,108,97,119,95,98,101,104,105,110,100]⟩,
 ⟨#[95,108,97,119,95,80,82,69,70,73,88]⟩,
 ⟨#[98,101,115,116]⟩,
 ⟨#[111,114,105,103,105,110,97,116,101]⟩,
 ⟨#[115,99,114,105,112,116]⟩,
 ⟨#[109,97,115,107,115]⟩,
 ⟨#[108,111,116,115]⟩,
 ⟨#[114,101,97,99,104,101,100]⟩,
 ⟨#[95,108,97,119,95,116,97,107,101]⟩,
 ⟨#[109,97,115,107]⟩,
 ⟨#[95,108,97,119,95,119,111,114,108,100]⟩,
 ⟨#[95,108,97,119,95,114,101,97,99,104,101,100]⟩,
 ⟨#[95,108,97,119,95,116,101,108,108]⟩,
 ⟨#[95,108,97,119,95,104,101,108,100]⟩,
 ⟨#[105,115,95,113,117,105,101,116]⟩,
 ⟨#[119,105,116,104,100,114,97,119]⟩,
 ⟨#[114,117,110]⟩]
noncomputable def nS:Nat:=245
def sT (k:Nat):Str:=Ac.getD k ⟨#[]⟩
noncomputable def ZB:List Nat:=[21,26,40,45,52,59,66,73,88,95,102,109,116,123,130,135,142,149,156,163,170,177,182,187,192,197,202,209,217,224,231,238,245,251,256,261,268,275,289,296,303,310,317,322,343,350,357,364,371,378,385,392,411,418,425,432,439,444,449,461,475,482,489,496,503,510,517,522,529,536,543,550,557,564,578,585,592,601,608,615,620,625,630,637,644,652,657,671,678,685,692,699,706,719,726,733,740,747,752,757,764,771,776]
def fa (k:Nat):Addr:=ZB.getD k 0
noncomputable def caL:List Nat:=[76,325,395,452,567,709]
def ca (k:Nat):Addr:=caL.getD k 0
noncomputable def ZV:List Value:=[.type "enumerate",.type "range",.builtin "len",.builtin "sorted",.builtin "min",.builtin "abs",.type "list",.type "dict"]
def bV (k:Nat):Value:=ZV.getD k (.type "tuple")
end
section
namespace TR
variable {α:Type}
variable {x:Option α} {v:Option α} {l r:TR α} {n j m:Nat}
theorem get_f (e:ay (fG j 2) 1=ae):(TR.node v l r).get (j+1)=l.get (g7 j 2):=rS e
theorem get_t (e:ay (fG j 2) 1=ac):(TR.node v l r).get (j+1)=r.get (g7 j 2):=uN e
theorem put_f (e:ay (fG j 2) 1=ae):put x (n+1) (.node v l r) (j+1)=.node v (put x n l (g7 j 2)) r:=rS e
theorem put_t (e:ay (fG j 2) 1=ac):put x (n+1) (.node v l r) (j+1)=.node v l (put x n r (g7 j 2)):=uN e
theorem half (h:j+1+1<2 ^ (n+1)):g7 j 2+1<2 ^ n:=
 have:g7 j 2+1=(j+2) / 2:=(Nat.add_div_right j Nat.two_pos).symm
 this▸Nat.div_lt_of_lt_mul (Nat.pow_succ'▸h)
theorem mod2 (e:ay (fG j 2) 1=b):fG j 2=b.toNat:=
 (yr j).elim (fun z=>z.trans (e▸congrArg (fun k=>(ay k 1).toNat) z.symm)) fun z=>z.trans (e▸congrArg (fun k=>(ay k 1).toNat) z.symm)
theorem ne_half (e:ay (fG j 2) 1=b) (f:ay (fG m 2) 1=b) (h:m+1≠j+1):g7 m 2≠g7 j 2:=fun z=>
 h (congrArg bW ((Q4 m 2).symm.trans ((congr (congrArg (fun k a=>2*k+a) z) ((mod2 f).trans (mod2 e).symm)).trans (Q4 j 2))))
theorem put_nil (x:Option α) (n i:Nat):put x (n+1) .nil i=put x (n+1) (.node aj .nil .nil) i:=i.casesOn rfl fun a=>rfl
theorem get_nil (k:Nat):(TR.nil:TR α).get k=(TR.node aj .nil .nil).get k:=
 k.casesOn rfl fun j=>be (motive:=fun b=>aj=be (motive:=fun a=>Option α) aj aj b) rfl rfl _
theorem get_put_same (x:Option α) (n:Nat):∀(t:TR α) (i:Nat),i+1<2 ^ n→(put x n t i).get i=x:=by
 induction n with
 |zero=>exact fun t i h=>absurd (dJ h) (d6 i)
 |succ n ih=>
  have key :∀v l r i,i+1<2 ^ (n+1)→(put x (n+1) (.node v l r) i).get i=x:=by
   intro v l r i h;cases i with
   |zero=>rfl
   |succ j=>cases e:ay (fG j 2) 1 with
    |false=>rw [put_f e,get_f e];exact ih _ _ (half h)
    |true=>rw [put_t e,get_t e];exact ih _ _ (half h)
  intro t i;cases t with
  |nil=>rw [put_nil];exact key _ _ _ i
  |node v l r=>exact key v l r i
theorem get_put_other (x:Option α) (n:Nat):∀(t:TR α) (i k:Nat),i+1<2 ^ n→k≠i→(put x n t i).get k=t.get k:=by
 induction n with
 |zero=>exact fun t i a h=>absurd (dJ h) (d6 i)
 |succ n ih=>
  have key :∀v l r i k,i+1<2 ^ (n+1)→k≠i→(put x (n+1) (.node v l r) i).get k=(TR.node v l r).get k:=by
   intro v l r i k h q;cases i with
   |zero=>cases k with
    |zero=>exact absurd rfl q
    |succ m=>rfl
   |succ j=>cases e:ay (fG j 2) 1 with
    |false=>
     rw [put_f e];cases k with
     |zero=>rfl
     |succ m=>cases f:ay (fG m 2) 1 with
      |false=>rw [get_f f,get_f f];exact ih _ _ _ (half h) (ne_half e f q)
      |true=>rw [get_t f,get_t f]
    |true=>
     rw [put_t e];cases k with
     |zero=>rfl
     |succ m=>cases f:ay (fG m 2) 1 with
      |false=>rw [get_f f,get_f f]
      |true=>rw [get_t f,get_t f];exact ih _ _ _ (half h) (ne_half e f q)
  intro t i k;cases t with
  |nil=>rw [put_nil,get_nil];exact key _ _ _ i k
  |node v l r=>exact key v l r i k
end TR
theorem Ju (j:Nat):j+1<2 ^ XU j:=by
 exact (Nat.log2_lt (k:=Nat.log2 (j+1)+1) (PF j)).mp (a8 _)
noncomputable def vg (σ:Nat→Option AO) (j:Nat) (o:Option AO):Nat→Option AO:=fun k=>if k=j then o else σ k
theorem xS (x:Option AO) (t:TR AO) (j:Nat):(TR.put x (XU j) t j).get=vg t.get j x:=by
 funext k
 by_cases h:k=j
 ·rw [h];exact (TR.get_put_same x _ t j (Ju j)).trans (if_pos rfl).symm
 ·exact (TR.get_put_other x _ t j k (Ju j) h).trans (if_neg h).symm
theorem St.get_put (S:St) (j:Nat) (o:AO):(S.put j o).get=vg S.get j (aa o):=xS _ _ _
theorem St.get_del (S:St) (j:Nat):(S.del j).get=vg S.get j aj:=xS _ _ _
theorem St.get_new (S:St) (o:AO):(S.new o).get=vg S.get S.nx (aa o):=xS _ _ _
theorem St.nx_put (S:St) (j:Nat) (o:AO):(S.put j o).nx=S.nx:=rfl
theorem St.nx_new (S:St) (o:AO):(S.new o).nx=S.nx+1:=rfl
theorem bo (σ:Nat→Option AO) (j:Nat) (o:Option AO):vg σ j o j=o:=if_pos rfl
theorem bA (σ:Nat→Option AO) (o:Option AO) (h:k≠j):vg σ j o k=σ k:=if_neg h
end
section
open PySem PySem.W PyProof.Rows PySem.Calls
section
structure Cx where
 prog:Program
 w:World
 h₀:Heap
 K:Frag
 ν:Nat→Value
 N:Nat→AV
 D:Nat→List (AV×AV)
 M:Nat→List Int
 μ:Nat→List Value
structure Gh where
 ρ:Nat→Option Addr
 δ:Nat→Option Addr
 fz:Addr→Option Obj
structure Gh.le (g g':Gh):Prop where
 ρ :∀j a,g.ρ j=aa a→g'.ρ j=aa a
 δ :∀j a,g.δ j=aa a→g'.δ j=aa a
 fz :∀a o,g.fz a=aa o→g'.fz a=aa o
theorem Gh.le.refl (g:Gh):g.le g:=⟨fun a a e=>e,fun a a e=>e,fun a a e=>e⟩
theorem Gh.le.trans {g g' g'':Gh} (x:g.le g') (y:g'.le g''):g.le g'':=
 ⟨fun a a e=>y.ρ _ _ (x.ρ _ _ e),fun a a e=>y.δ _ _ (x.δ _ _ e),fun a a e=>y.fz _ _ (x.fz _ _ e)⟩
noncomputable def dY:List AV→List Int
 |[]=>[]
 |x::l=>match x with|.int i=>i::dY l|_=>dY l
noncomputable def k6:List AV→List Str
 |[]=>[]
 |x::l=>match x with|.str k=>sT k::k6 l|_=>k6 l
noncomputable abbrev Cx.sK (cx:Cx):=strKind cx.prog cx.w
noncomputable abbrev Cx.iK (cx:Cx):=intKind cx.prog cx.w
def khash (cx:Cx) (v:AV):Int:=match v with
 |.str k=>cx.sK.hash (sT k)
 |.int i=>cx.iK.hash i
 |.tup l=>if C4 l=2 then tupleKeyHash cx.iK (dY l) else tupleKeyHash cx.sK (k6 l)
 |_=>0
def yg (d:Nat) (l:List (AV×AV)):Prop:=(∀p∈l,kd p.1=d∧d<8)∧l.Pairwise fun p q=>lj p.1 q.1=ae
mutual
inductive VR (cx:Cx) (g:Gh):AV→Value→Prop
 |none:VR cx g .none .none
 |bool (b):VR cx g (.bool b) (.bool b)
 |int (i t):VR cx g (.int i) (.int i t)
 |str (k t):k<nS→VR cx g (.str k) (.str (sT k) t)
 |tup {a vs n l}:g.fz a=aa {cls:=.type "tuple",data:=.seq vs n}→VRs cx g l vs.toList→VR cx g (.tup l) (.ref a)
 |fd {a o es n d l}:(a==di)=ae→g.fz a=aa o→o.ExactDict→o.data=.dict es n→yg d l→DRs cx g l es.toList→VR cx g (.fd d l) (.ref a)
 |loc {j a}:g.ρ j=aa a→VR cx g (.loc j) (.ref a)
 |fn (k):VR cx g (.fn k) (.ref (fa k))
 |cls (k):VR cx g (.cls k) (.ref (ca k))
 |bi (k):VR cx g (.bi k) (bV k)
 |opq (k):VR cx g (.opq k) (cx.ν k)
 |mk {a vs n k}:g.fz a=aa {cls:=.type "tuple",data:=.seq vs n}→VRs cx g ((cx.M k).map .int) vs.toList→VR cx g (.mk k) (.ref a)
 |ge {n:Nat} {i:Int} {t:Tok}:(n:Int)≤i→VR cx g (.ge n) (.int i t)
 |opa {k x}:VR cx g (cx.N k) x→VR cx g (.opa k) x
 |opd {k x}:VR cx g (.fd 0 (cx.D k)) x→VR cx g (.opd k) x
inductive VRs (cx:Cx) (g:Gh):List AV→List Value→Prop
 |nil:VRs cx g [] []
 |cons {v l x xs}:VR cx g v x→VRs cx g l xs→VRs cx g (v::l) (x::xs)
inductive DRs (cx:Cx) (g:Gh):List (AV×AV)→List DictEntry→Prop
 |nil:DRs cx g [] []
 |cons {p l e es}:VR cx g p.1 e.key→e.hash=khash cx p.1→VR cx g p.2 e.val→DRs cx g l es→DRs cx g (p::l) (e::es)
end
def VRw (cx:Cx) (g:Gh) (v:AV) (Q:Value→Prop):Prop:=
 AV.casesOn v (Q .none) (fun b=>Q (.bool b)) (fun i=>∀t,Q (.int i t)) (fun k=>∀t,k<nS→Q (.str (sT k) t))
  (fun l=>∀a vs n,g.fz a=aa {cls:=.type "tuple",data:=.seq vs n}→VRs cx g l vs.toList→Q (.ref a))
  (fun d l=>∀a o es n,(a==di)=ae→g.fz a=aa o→o.ExactDict→o.data=.dict es n→yg d l→DRs cx g l es.toList→Q (.ref a))
  (fun j=>∀a,g.ρ j=aa a→Q (.ref a)) (fun k=>Q (.ref (fa k))) (fun k=>Q (.ref (ca k))) (fun k=>Q (bV k)) (fun k=>Q (cx.ν k))
  (fun k=>∀a vs n,g.fz a=aa {cls:=.type "tuple",data:=.seq vs n}→VRs cx g ((cx.M k).map .int) vs.toList→Q (.ref a))
  (fun n=>∀i t,(n:Int)≤i→Q (.int i t)) (fun k=>∀x,VR cx g (cx.N k) x→Q x) (fun k=>∀x,VR cx g (.fd 0 (cx.D k)) x→Q x)
theorem VR.vw (h:VR cx g v x) {Q:Value→Prop}:VRw cx g v Q→Q x:=
 VR.casesOn (motive_1:=fun v x a=>VRw cx g v Q→Q x) h id (fun a=>id) (fun a t q=>q t) (fun a t h q=>q t h) (fun f r q=>q _ _ _ f r) (fun z f b c k r q=>q _ _ _ _ z f b c k r)
  (fun r q=>q _ r) (fun a=>id) (fun a=>id) (fun a=>id) (fun a=>id) (fun f r q=>q _ _ _ f r) (fun h q=>q _ _ h) (fun r q=>q _ r) (fun r q=>q _ r)
structure Vj (c d:Cx) (g g':Gh) (R:AV→Prop):Prop where
 tup :∀l,R (.tup l)→∀v∈l,R v
 fd :∀k l,R (.fd k l)→∀p∈l,R p.1∧R p.2
 loc :∀j a,R (.loc j)→g.ρ j=aa a→g'.ρ j=aa a
 fz :∀a o,g.fz a=aa o→g'.fz a=aa o
 ν:c.ν=d.ν
 M:c.M=d.M
 hash :∀v,khash c v=khash d v
 int :∀i,R (.int i)
 opa :∀k,R (.opa k)→R (c.N k)∧c.N k=d.N k
 opd :∀k,R (.opd k)→R (.fd 0 (c.D k))∧c.D k=d.D k
section
variable {cx:Cx} {g:Gh}
theorem VRs.nil_inv (h:VRs cx g [] xs):xs=[]:=by cases h;rfl
theorem VRs.uncons {P:Prop} (h:VRs cx g (v::l) xs) (k :∀x ys,xs=x::ys→VR cx g v x→VRs cx g l ys→P):P:=by
 cases h with|cons a b=>exact k _ _ rfl a b
theorem DRs.nil_inv (h:DRs cx g [] xs):xs=[]:=by cases h;rfl
theorem DRs.uncons {P:Prop} (h:DRs cx g (p::l) xs) (k :∀e es,xs=e::es→VR cx g p.1 e.key→e.hash=khash cx p.1→VR cx g p.2 e.val→DRs cx g l es→P):P:=by
 cases h with|cons a b c r=>exact k _ _ rfl a b c r
theorem VRs.ind {M:List AV→List Value→Prop} (h0:M [] []) (h1 :∀v l x xs,VR cx g v x→VRs cx g l xs→M l xs→M (v::l) (x::xs)) (l:List AV):∀{xs},VRs cx g l xs→M l xs:=by
 induction l with
 |nil=>intro xs h;erw[h.nil_inv];exact h0
 |cons v l ih=>intro xs h;exact h.uncons fun x ys e a b=>e▸h1 v l x ys a b (ih b)
theorem DRs.ind {M:List (AV×AV)→List DictEntry→Prop} (h0:M [] []) (h1 :∀p l e es,VR cx g p.1 e.key→e.hash=khash cx p.1→VR cx g p.2 e.val→DRs cx g l es→M l es→M (p::l) (e::es)) (l:List (AV×AV)):∀{xs},DRs cx g l xs→M l xs:=by
 induction l with
 |nil=>intro xs h;erw[h.nil_inv];exact h0
 |cons p l ih=>intro xs h;exact h.uncons fun e es q a b c r=>q▸h1 p l e es a b c r (ih r)
end
theorem VR.imp {R:AV→Prop} (L:Vj c d g g' R) (h:VR c g v x):R v→VR d g' v x:=
 VR.rec (motive_1:=fun v x f=>R v→VR d g' v x) (motive_2:=fun l xs f=>(∀v∈l,R v)→VRs d g' l xs) (motive_3:=fun l es f=>(∀p∈l,R p.1∧R p.2)→DRs d g' l es)
  (fun f=>.none) (fun b f=>.bool b) (fun i t f=>.int i t) (fun k t h f=>.str k t h) (fun a f ih q=>.tup (L.fz _ _ a) (ih (L.tup _ q))) (fun z a b e k f ih q=>.fd z (L.fz _ _ a) b e k (ih (L.fd _ _ q)))
  (fun a q=>.loc (L.loc _ _ q a)) (fun k f=>.fn k) (fun k f=>.cls k) (fun k f=>.bi k) (fun k f=>L.ν▸.opq k)
  (fun a f ih f=>.mk (L.fz _ _ a) (L.M▸ih fun v hv=>(bp.mp hv).elim fun i e=>e.2▸L.int i)) (fun h f=>.ge h) (fun f ih q=>.opa ((L.opa _ q).2▸ih (L.opa _ q).1)) (fun f ih q=>.opd ((L.opd _ q).2▸ih (L.opd _ q).1))
  (fun f=>.nil) (fun f f i1 i2 q=>.cons (i1 (q _ (.head _))) (i2 fun v hv=>q v (.tail _ hv)))
  (fun f=>.nil) (fun f b f f i1 i2 i3 q=>.cons (i1 (q _ (.head _)).1) (b.trans (L.hash _)) (i2 (q _ (.head _)).2) (i3 fun p hp=>q p (.tail _ hp))) h
theorem VRs.imp {R:AV→Prop} (L:Vj c d g g' R) (h:VRs c g l xs):(∀v∈l,R v)→VRs d g' l xs:=
 VRs.ind (M:=fun l xs=>(∀v∈l,R v)→VRs d g' l xs) (fun b=>.nil) (fun v l x xs a b ih q=>.cons (a.imp L (q _ (.head _))) (ih fun v hv=>q v (.tail _ hv))) l h
theorem DRs.imp {R:AV→Prop} (L:Vj c d g g' R) (h:DRs c g l es):(∀p∈l,R p.1∧R p.2)→DRs d g' l es:=
 DRs.ind (M:=fun l es=>(∀p∈l,R p.1∧R p.2)→DRs d g' l es) (fun f=>.nil) (fun p l e es a b r f ih q=>.cons (a.imp L (q _ (.head _)).1) (b.trans (L.hash _)) (r.imp L (q _ (.head _)).2) (ih fun p hp=>q p (.tail _ hp))) l h
structure Sees (g g':Gh):Prop where
 ρ :∀j a,g.ρ j=aa a→g'.ρ j=aa a
 fz :∀a o,g.fz a=aa o→g'.fz a=aa o
theorem Sees.imp (cx:Cx) (L:Sees g g'):Vj cx cx g g' fun b=>True:=
 ⟨fun b b b b=>trivial,fun b b b b b=>⟨trivial,trivial⟩,fun j a b=>L.ρ j a,L.fz,rfl,rfl,fun b=>rfl,fun b=>trivial,fun b b=>⟨trivial,rfl⟩,fun b b=>⟨trivial,rfl⟩⟩
section
variable {cx:Cx} {g g':Gh}
theorem VR.sees (L:Sees g g') (h:VR cx g v x):VR cx g' v x:=h.imp (L.imp cx) trivial
theorem VRs.sees (L:Sees g g') (h:VRs cx g l xs):VRs cx g' l xs:=h.imp (L.imp cx) fun a a=>trivial
theorem DRs.sees (L:Sees g g') (h:DRs cx g l es):DRs cx g' l es:=h.imp (L.imp cx) fun a a=>⟨trivial,trivial⟩
theorem VR.mono (L:g.le g') (h:VR cx g v x):VR cx g' v x:=h.sees ⟨L.ρ,L.fz⟩
theorem VRs.mono (L:g.le g') (h:VRs cx g l xs):VRs cx g' l xs:=h.sees ⟨L.ρ,L.fz⟩
theorem DRs.mono (L:g.le g') (h:DRs cx g l es):DRs cx g' l es:=h.sees ⟨L.ρ,L.fz⟩
theorem iW (h:VR cx g (.str k) x):k<nS∧∃t,x=.str (sT k) t:=by apply h.vw;exact fun t h=>⟨h,t,rfl⟩
theorem de (h:VR cx g (.int i) x):∃t,x=.int i t:=by apply h.vw;exact fun t=>⟨t,rfl⟩
theorem me {P:Prop} (h:VR cx g (.tup l) x) (q :∀a vs n,x=.ref a→g.fz a=aa {cls:=.type "tuple",data:=.seq vs n}→VRs cx g l vs.toList→P):P:=
 h.vw (Q:=fun y=>x=y→P) (fun a vs n f r e=>q a vs n e f r) rfl
theorem s7 {P:Prop} (h:VR cx g (.fd d l) x) (q :∀a o es n,x=.ref a→(a==di)=ae→g.fz a=aa o→o.ExactDict→o.data=.dict es n→yg d l→DRs cx g l es.toList→P):P:=
 h.vw (Q:=fun y=>x=y→P) (fun a o es n z f b c k r e=>q a o es n e z f b c k r) rfl
theorem LJ (h:VR cx g (.opa k) x):VR cx g (cx.N k) x:=h.vw (Q:=VR cx g (cx.N k)) fun a r=>r
theorem LH (h:VR cx g (.opd k) x):VR cx g (.fd 0 (cx.D k)) x:=h.vw (Q:=VR cx g (.fd 0 (cx.D k))) fun a r=>r
theorem ma (h:VR cx g (.tup l) x):∃a o vs n,x=.ref a∧g.fz a=aa o∧o.cls=.type "tuple"∧o.data=.seq vs n∧VRs cx g l vs.toList:=by
 apply h.vw;exact fun a vs n f r=>⟨_,_,_,_,rfl,f,rfl,rfl,r⟩
end
noncomputable def fo (cx:Cx) (p:Option Nat):List Value:=match p with|.none=>[]|some k=>cx.μ k
inductive FRs (cx:Cx) (g:Gh):List (Nat×AV)→List DictEntry→Prop
 |nil:FRs cx g [] []
 |cons {p l e es t}:e.key=.str (sT p.1) t→e.hash=gk cx.w (sT p.1)→p.1<nS→VR cx g p.2 e.val→FRs cx g l es→FRs cx g (p::l) (e::es)
theorem FRs.mono (L:g.le g') (h:FRs cx g l es):FRs cx g' l es:=by
 induction h with
 |nil=>exact .nil
 |cons a b c d _ ih=>exact .cons a b c (d.mono L) ih
theorem FRs.ind {M:List (Nat×AV)→List DictEntry→Prop} (h0:M [] []) (h1 :∀p l e es t,e.key=.str (sT p.1) t→e.hash=gk cx.w (sT p.1)→p.1<nS→VR cx g p.2 e.val→FRs cx g l es→M l es→M (p::l) (e::es)) (h:FRs cx g l es):M l es:=
 FRs.rec (motive:=fun l es f=>M l es) h0 (fun a b c d r ih=>h1 _ _ _ _ _ a b c d r ih) h
inductive OR (cx:Cx) (g:Gh) (h:Heap) (j:Nat):AO→Prop
 |list {a ro p l q vs n mid}:g.ρ j=aa a→h.get? a=aa {cls:=.type "list",data:=.seq vs n}→vs.toList=fo cx p++mid++fo cx q→VRs cx g l mid→OR cx g h j (.list ro p l q)
 |dict {a o es n ro d l}:g.ρ j=aa a→h.get? a=aa o→o.ExactDict→o.data=.dict es n→yg d l→DRs cx g l es.toList→OR cx g h j (.dict ro d l)
 |inst {a dx es n c fs}:g.ρ j=aa a→g.δ j=aa dx→h.get? a=aa (oh (ca c) dx)→h.get? dx=aa {cls:=.type "dict",data:=.dict es n}→
  FRs cx g fs es.toList→(fs.map (·.1)).Nodup→OR cx g h j (.inst c fs)
def ORw (cx:Cx) (g:Gh) (h:Heap) (j:Nat) (ob:AO) (P:Prop):Prop:=AO.casesOn ob
 (fun ro p l q=>∀a vs n mid,g.ρ j=aa a→h.get? a=aa {cls:=.type "list",data:=.seq vs n}→vs.toList=fo cx p++mid++fo cx q→VRs cx g l mid→P)
 (fun ro d l=>∀a o es n,g.ρ j=aa a→h.get? a=aa o→o.ExactDict→o.data=.dict es n→yg d l→DRs cx g l es.toList→P)
 (fun c fs=>∀a dx es n,g.ρ j=aa a→g.δ j=aa dx→h.get? a=aa (oh (ca c) dx)→h.get? dx=aa {cls:=.type "dict",data:=.dict es n}→FRs cx g fs es.toList→(fs.map (·.1)).Nodup→P)
theorem OR.vw {j:Nat} {ob:AO} (x:OR cx g h j ob) {P:Prop}:ORw cx g h j ob P→P:=
 OR.casesOn (motive:=fun ob a=>ORw cx g h j ob P→P) x (fun r e v w q=>q _ _ _ _ r e v w) (fun r e x d k w q=>q _ _ _ _ r e x d k w) (fun r d e f v n q=>q _ _ _ _ r d e f v n)
def cH (g:Gh) (j:Nat) (ob:AO) (a:Addr):Prop:=g.ρ j=aa a∨((∃c fs,ob=.inst c fs)∧g.δ j=aa a)
noncomputable def EF (ob:AO):Bool:=match ob with
 |.list r _ _ _=>!r
 |.dict r _ _=>!r
 |.inst _ _=>ac
abbrev Sto:=Nat→Option AO
def Own (g:Gh) (σ:Sto) (a:Addr):Prop:=∃j ob,σ j=aa ob∧EF ob=ac∧cH g j ob a
def Oc (g:Gh) (σ:Sto) (a:Addr):Prop:=∃j ob,σ j=aa ob∧cH g j ob a
theorem Own.oc (h:Own g σ a):Oc g σ a:=let ⟨j,ob,e,_,o⟩:=h;⟨j,ob,e,o⟩
noncomputable def Cx.g0 (cx:Cx):Gh:=⟨fun b=>.none,fun b=>.none,fun a=>cx.K.lookup a⟩
structure Inv (cx:Cx) (g:Gh) (σ:Sto) (nx:Nat) (h:Heap):Prop where
 g0:cx.g0.le g
 base :∀b o,cx.h₀.get? b=aa o→h.get? b=aa o
 fz :∀a o,g.fz a=aa o→h.get? a=aa o
 obj :∀j ob,σ j=aa ob→OR cx g h j ob
 sep :∀j ob k ob' a,σ j=aa ob→σ k=aa ob'→cH g j ob a→cH g k ob' a→j=k
 two :∀j ob a b,σ j=aa ob→g.ρ j=aa a→g.δ j=aa b→a≠b
 off :∀a,Oc g σ a→cx.h₀.get? a=aj∧g.fz a=aj
 top :∀j,nx≤j→g.ρ j=aj∧g.δ j=aj
structure Evo (cx:Cx) (g:Gh) (σ:Sto) (nx:Nat) (h:Heap) (g':Gh) (σ':Sto) (nx':Nat) (h':Heap):Prop where
 le:g.le g'
 inv:Inv cx g' σ' nx' h'
 keep :∀a o,h.get? a=aa o→¬ Own g σ a→h'.get? a=aa o
 fresh :∀a,Oc g' σ' a→Oc g σ a∨h.get? a=aj
 wr :∀a,Own g' σ' a→Own g σ a∨h.get? a=aj
 fzf :∀a,g'.fz a≠aj→g.fz a≠aj∨h.get? a=aj∨Own g σ a
 ids :∀j,σ' j≠aj→σ j≠aj∨nx≤j
 ext :∀a,h.get? a≠aj→h'.get? a≠aj
 nx:nx≤nx'
theorem Evo.refl {σ:Sto} {nx:Nat} (I:Inv cx g σ nx h):Evo cx g σ nx h g σ nx h:=
 ⟨.refl g,I,fun a a e a=>e,fun a e=>.inl e,fun a e=>.inl e,fun a e=>.inl e,fun a e=>.inl e,fun a e=>e,aY _⟩
theorem OR.there {j:Nat} {ob:AO} (x:OR cx g h j ob) {a:Addr} (o:cH g j ob a):∃oo,h.get? a=aa oo:=by
 cases x with
 |list r e _ _=>
  rcases o with o|⟨⟨_,_,e'⟩,_⟩
  ·rw [r] at o;apply gF o;exact ⟨_,e⟩
  ·exact nomatch e'
 |dict r e _ _ _ _=>
  rcases o with o|⟨⟨_,_,e'⟩,_⟩
  ·rw [r] at o;apply gF o;exact ⟨_,e⟩
  ·exact nomatch e'
 |inst r d e f _ _=>
  rcases o with o|⟨_,o⟩
  ·rw [r] at o;apply gF o;exact ⟨_,e⟩
  ·rw [d] at o;apply gF o;exact ⟨_,f⟩
theorem Inv.there (I:Inv cx g σ nx h) (o:Oc g σ a):∃oo,h.get? a=aa oo:=
 let ⟨j,ob,e,o⟩:=o;(I.obj j ob e).there o
theorem Evo.trans {g g' g'':Gh} {σ σ' σ'':Sto} {nx nx' nx'':Nat} {h h' h'':Heap} (I:Inv cx g σ nx h)
 (x:Evo cx g σ nx h g' σ' nx' h') (y:Evo cx g' σ' nx' h' g'' σ'' nx'' h''):Evo cx g σ nx h g'' σ'' nx'' h'':=by
 have vT :∀a,h'.get? a=aj→h.get? a=aj:=fun a e=>bj fun q=>x.ext a q e;refine ⟨x.le.trans y.le,y.inv,fun a o e w=>y.keep a o (x.keep a o e w) fun w'=>?_,fun a w=>?_,fun a w=>?_,fun a w=>?_,fun j e=>?_,fun a e=>y.ext a (x.ext a e),aB x.nx y.nx⟩
 ·rcases x.wr a w' with z|z
  ·exact w z
  ·replace e:=z▸e;exact no e
 ·rcases y.fresh a w with z|z
  ·exact x.fresh a z
  ·exact .inr (vT a z)
 ·rcases y.wr a w with z|z
  ·exact x.wr a z
  ·exact .inr (vT a z)
 ·rcases y.fzf a w with z|z|z
  ·exact x.fzf a z
  ·exact .inr (.inl (vT a z))
  ·rcases x.wr a z with z|z
   ·exact .inr (.inr z)
   ·exact .inr (.inl z)
 ·rcases y.ids j e with z|z
  ·exact x.ids j z
  ·exact .inr (aB x.nx z)
structure jw (cx:Cx) (vn:List Nat) (env:Env):Prop where
 kind:env.scope.kind=.function
 glob:env.globals=cn
 blt:env.builtins=dZ
 kinds :∀x∈vn,env.kindOf (sT x)=aa .local∨env.kindOf (sT x)=aa .cell∨env.kindOf (sT x)=aa .free
 inS :∀x∈vn,x<nS
 nodup:vn.Nodup
 cells :∀x∈vn,env.kindOf (sT x)≠aa .local→∃c,env.cells.lookup (sT x)=aa c
 cellsInj :∀n n' c,env.cells.lookup n=aa c→env.cells.lookup n'=aa c→n=n'
 locCell :∀n c,env.cells.lookup n=aa c→c≠env.locals
def VO (cx:Cx) (g:Gh) (v:Option AV) (x:Option Value):Prop:=match v with
 |.none=>x=.none
 |some v=>∃y,x=aa y∧VR cx g v y
theorem VO.mono (L:g.le g') (h:VO cx g v x):VO cx g' v x:=by
 cases v with
 |none=>exact h
 |some v=>refine cg h fun y e r=>?_;exact ⟨y,e,r.mono L⟩
structure FR (cx:Cx) (g:Gh) (vn:List Nat) (env:Env) (fr:Fr) (h:Heap):Prop where
 len:fr.length=vn.length
 loc :∃m,h.Ns env.locals m∧∀(i x:Nat) (v:Option AV),bc vn i=aa x→bc fr i=aa v→env.kindOf (sT x)=aa .local→VO cx g v (m (sT x))
 cel :∀(i x:Nat) (v:Option AV) (c:Addr),bc vn i=aa x→bc fr i=aa v→env.kindOf (sT x)≠aa .local→env.cells.lookup (sT x)=aa c→∃o,h.IsCell c o∧VO cx g v o
def fb (env:Env) (a:Addr):Prop:=a=env.locals∨∃n,env.cells.lookup n=aa a
structure FSep (cx:Cx) (g:Gh) (σ:Sto) (env:Env) (h:Heap):Prop where
 off :∀a,fb env a→¬ Oc g σ a∧g.fz a=aj∧cx.h₀.get? a=aj∧h.get? a≠aj
theorem FSep.evo (F:FSep cx g σ env h) (x:Evo cx g σ nx h g' σ' nx' h'):FSep cx g' σ' env h':=by
 refine ⟨fun a p=>?_⟩;refine Lm (F.off a p) fun a1 a2 a3 a4=>?_;refine ⟨fun w=>?_,?_,a3,x.ext a a4⟩
 ·rcases x.fresh a w with z|z
  ·exact a1 z
  ·exact a4 z
 ·apply bj;intro q;rcases x.fzf a q with z|z|z
  ·exact z a2
  ·exact a4 z
  ·exact a1 z.oc
theorem FR.evo {cx:Cx} {g g':Gh} {σ σ':Sto} {nx nx':Nat} {h h':Heap} {vn:List Nat} {env:Env} {fr:Fr} (R:FR cx g vn env fr h) (F:FSep cx g σ env h) (x:Evo cx g σ nx h g' σ' nx' h'):FR cx g' vn env fr h':=by
 have stay :∀a o,fb env a→h.get? a=aa o→h'.get? a=aa o:=fun a o p e=>x.keep a o e fun w=>(F.off a p).1 w.oc;refine ⟨R.len,?_,fun i y v c e1 e2 e3 e4=>?_⟩
 ·obtain ⟨m,⟨o,es,ep,ho,r⟩,hm⟩:=R.loc;exact ⟨m,⟨o,es,ep,stay _ _ (.inl rfl) ho,r⟩,fun i y v e1 e2 e3=>(hm i y v e1 e2 e3).mono x.le⟩
 ·obtain ⟨o,⟨ob,hob,hd⟩,hv⟩:=R.cel i y v c e1 e2 e3 e4;exact ⟨o,⟨ob,stay _ _ (.inr ⟨_,e4⟩) hob,hd⟩,hv.mono x.le⟩
structure Room (A:b9) (n:Nat):Prop where
 depth':A.depth+2*n≤900
 units':A.units+20*n≤9000
 handled:A.handled=aj
theorem Room.down (h:Room A n) (e:m≤n):Room A m:=⟨by have:=h.depth';omega,by have:=h.units';omega,h.handled⟩
theorem Room.depth (h:Room A n):A.depth<recursionLimit:=by have:=h.depth';show A.depth<1000;omega
theorem Room.units (h:Room A n):A.units<cLine:=by have:=h.units';show A.units<9900;omega
theorem Room.in1 (h:Room A (n+1)):Room A.in1 n:=⟨by have:=h.depth';show A.depth+_≤_;omega,by have:=h.units';show A.units+1+_≤_;omega,h.handled⟩
noncomputable abbrev Cx.mo (cx:Cx):Model:=lD cx.prog cx.w
structure Aft (cx:Cx) (g:Gh) (S:St) (s:av) (g':Gh) (S':St) (s':av):Prop where
 same :∃h' tk,s' = {s with heap:=h',toks:=tk}
 evo:Evo cx g S.get S.nx s.heap g' S'.get S'.nx s'.heap
structure Here (cx:Cx) (vn:List Nat) (env:Env) (fr:Fr) (g:Gh) (S:St) (s:av):Prop where
 inv:Inv cx g S.get S.nx s.heap
 fr:FR cx g vn env fr s.heap
 sep:FSep cx g S.get env s.heap
theorem Aft.refl (I:Inv cx g S.get S.nx s.heap):Aft cx g S s g S s:=⟨⟨s.heap,s.toks,rfl⟩,.refl I⟩
theorem Aft.tok (I:Inv cx g S.get S.nx s.heap) (t:Nat):Aft cx g S s g S {s with toks:=t}:=⟨⟨s.heap,t,rfl⟩,.refl I⟩
theorem Aft.trans (I:Inv cx g S.get S.nx s.heap) (x:Aft cx g S s g' S' s') (y:Aft cx g' S' s' g'' S'' s''):Aft cx g S s g'' S'' s'':=by
 obtain ⟨⟨h1,t1,rfl⟩,e1⟩:=x;obtain ⟨⟨h2,t2,rfl⟩,e2⟩:=y;exact ⟨⟨h2,t2,rfl⟩,e1.trans I e2⟩
theorem Here.after {fr:Fr} {S S':St} {s s':av} (H:Here cx vn env fr g S s) (x:Aft cx g S s g' S' s'):Here cx vn env fr g' S' s':=
 ⟨x.evo.inv,H.fr.evo H.sep x.evo,H.sep.evo x.evo⟩
abbrev F0:Value→av→Prop:=fun a a=>False
structure COk (cx:Cx):Prop where
 kin:cx.K.In cx.h₀
 seg :∀k,(cx.μ k).length≤1000
 lim:cx.h₀.NoLimit
 sys :∃o,cx.h₀.get? di=aa o
theorem COk.notSys (O:COk cx) (h:cx.h₀.get? a=aj):(a==di)=ae:=by
 refine beq_eq_false_iff_ne.mpr fun e=>?_;refine ak O.sys fun o z=>?_;replace h:=z▸e▸h;exact yx h
theorem COk.kIn (O:COk cx) (I:Inv cx g σ nx h):cx.K.In h:=fun a o e=>I.base a o (O.kin a o e)
def JE (cx:Cx) (n:Nat) (vn:List Nat) (env:Env) (e:Expr) (fr:Fr) (S:St) (v:AV) (S':St):Prop:=
 ∀A g s,Room A n→Here cx vn env fr g S s→aA cx.mo A (dm e env) (fun x s'=>∃g',Aft cx g S s g' S' s'∧VR cx g' v x) F0 s
def JT (cx:Cx) (n:Nat) (vn:List Nat) (env:Env) (e:Expr) (fr:Fr) (S:St) (r:Bool) (S':St):Prop:=
 ∀A g s,Room A n→Here cx vn env fr g S s→aA cx.mo A (isTrue e env (dm e env)) (fun b s'=>b=r∧∃g',Aft cx g S s g' S' s') F0 s
def JL (cx:Cx) (n:Nat) (vn:List Nat) (env:Env) (es:List Expr) (fr:Fr) (S:St) (vs:List AV) (S':St):Prop:=
 ∀A g s pos,Room A n→Here cx vn env fr g S s→aA cx.mo A (KN (jG pos (eD es env))) (fun xs s'=>∃g',Aft cx g S s g' S' s'∧VRs cx g' vs xs) F0 s
theorem JE.use (J:JE cx n vn env e fr S v S') (R:Room A n) (H:Here cx vn env fr g S s) {Q:Value→av→Prop}
 (k :∀g' s' x,Aft cx g S s g' S' s'→Here cx vn env fr g' S' s'→VR cx g' v x→Q x s'):aA cx.mo A (dm e env) Q F0 s:=
 aE (J A g s R H) (fun x s' ⟨g',a,r⟩ =>k g' s' x a (H.after a) r) fun b b z=>z
theorem JT.use (J:JT cx n vn env e fr S r S') (R:Room A n) (H:Here cx vn env fr g S s) {Q:Bool→av→Prop}
 (k :∀g' s',Aft cx g S s g' S' s'→Here cx vn env fr g' S' s'→Q r s'):aA cx.mo A (isTrue e env (dm e env)) Q F0 s:=
 aE (J A g s R H) (fun x s' ⟨e,g',a⟩ =>e▸k g' s' a (H.after a)) fun b b z=>z
theorem JL.use (J:JL cx n vn env es fr S vs S') (R:Room A n) (H:Here cx vn env fr g S s) {Q:List Value→av→Prop}
 (k :∀g' s' xs,Aft cx g S s g' S' s'→Here cx vn env fr g' S' s'→VRs cx g' vs xs→Q xs s'):aA cx.mo A (KN (jG pos (eD es env))) Q F0 s:=
 aE (J A g s pos R H) (fun x s' ⟨g',a,r⟩ =>k g' s' x a (H.after a) r) fun b b z=>z
theorem JE.up (J:JE cx n vn env e fr S v S') (h:n≤m):JE cx m vn env e fr S v S':=fun A g s R H=>J A g s (R.down h) H
theorem JT.up (J:JT cx n vn env e fr S v S') (h:n≤m):JT cx m vn env e fr S v S':=fun A g s R H=>J A g s (R.down h) H
theorem JL.up (J:JL cx n vn env e fr S v S') (h:n≤m):JL cx m vn env e fr S v S':=fun A g s pos R H=>J A g s pos (R.down h) H
end
theorem OR.keep {h h':Heap} {j:Nat} {ob:AO} (x:OR cx g h j ob) (k :∀a,cH g j ob a→∀o,h.get? a=aa o→h'.get? a=aa o):OR cx g h' j ob:=by
 cases x with
 |list r e s v=>exact .list r (k _ (.inl r) _ e) s v
 |dict r e x d ko v=>exact .dict r (k _ (.inl r) _ e) x d ko v
 |inst r d e f v n=>exact .inst r d (k _ (.inl r) _ e) (k _ (.inr ⟨⟨_,_,rfl⟩,d⟩) _ f) v n
theorem OR.mono {j:Nat} {ob:AO} (L:g.le g') (x:OR cx g h j ob):OR cx g' h j ob:=by
 cases x with
 |list r e s v=>exact .list (L.ρ _ _ r) e s (v.mono L)
 |dict r e x d ko v=>exact .dict (L.ρ _ _ r) e x d ko (v.mono L)
 |inst r d e f v n=>exact .inst (L.ρ _ _ r) (L.δ _ _ d) e f (v.mono L) n
theorem OR.own {j:Nat} {ob:AO} (L:g.le g') (x:OR cx g h j ob) {a:Addr} (o:cH g' j ob a):cH g j ob a:=by
 cases x with
 |list r e s v=>
  rcases o with o|⟨⟨_,_,z⟩,o⟩
  ·rw [L.ρ _ _ r] at o;apply gF o;exact .inl r
  ·exact nomatch z
 |dict r e x d ko v=>
  rcases o with o|⟨⟨_,_,z⟩,o⟩
  ·rw [L.ρ _ _ r] at o;apply gF o;exact .inl r
  ·exact nomatch z
 |inst r d e f v n=>
  rcases o with o|⟨z,o⟩
  ·rw [L.ρ _ _ r] at o;apply gF o;exact .inl r
  ·rw [L.δ _ _ d] at o;apply gF o;exact .inr ⟨z,d⟩
theorem OR.place {j:Nat} {ob:AO} (x:OR cx g h j ob):∃a,g.ρ j=aa a:=by
 cases x with
 |list r _ _ _=>exact ⟨_,r⟩
 |dict r _ _ _ _ _=>exact ⟨_,r⟩
 |inst r _ _ _ _ _=>exact ⟨_,r⟩
section
variable {cx:Cx} {g:Gh} {σ:Sto} {nx:Nat} {h h':Heap}
theorem Inv.lt (I:Inv cx g σ nx h) {j:Nat} {ob:AO} (e:σ j=aa ob):j<nx:=by
 apply u6;intro z;refine ak ((I.obj j ob e).place) fun a r=>?_;rw [(I.top j z).1] at r;exact no r
theorem Inv.grow (I:Inv cx g σ nx h) (k :∀b o,h.get? b=aa o→h'.get? b=aa o):Inv cx g σ nx h':=
 ⟨I.g0,fun b o e=>k _ _ (I.base b o e),fun a o e=>k _ _ (I.fz a o e),fun j ob e=>(I.obj j ob e).keep fun a c o=>k a o,I.sep,I.two,I.off,I.top⟩
theorem j6 (k :∀b o,h.get? b=aa o→h'.get? b=aa o) (a:Addr) (e:h.get? a≠aj):h'.get? a≠aj:=fun z=>by
 cases q:h.get? a with
 |none=>exact e q
 |some o=>replace z:=(k a o q)▸z;exact yx z
theorem Evo.grow (I:Inv cx g σ nx h) (k :∀b o,h.get? b=aa o→h'.get? b=aa o):Evo cx g σ nx h g σ nx h':=
 ⟨.refl g,I.grow k,fun a o e c=>k a o e,fun c e=>.inl e,fun c e=>.inl e,fun c e=>.inl e,fun c e=>.inl e,j6 k,aY _⟩
noncomputable def Gh.fzz (g:Gh) (a:Addr) (o:Obj):Gh:={g with fz:=fun b=>if b=a then aa o else g.fz b}
theorem Gh.fzz_le (g:Gh) (e:g.fz a=aj):g.le (g.fzz a o):=by
 refine ⟨fun c c e=>e,fun c c e=>e,fun b p q=>?_⟩;show (if b=a then aa o else g.fz b)=aa p;rw [if_neg (fun z=>by rw [z,e] at q;exact no q)];exact q
theorem Gh.fzz_at (g:Gh) (a:Addr) (o:Obj):(g.fzz a o).fz a=aa o:=if_pos rfl
theorem Evo.frozen (I:Inv cx g σ nx h) (k :∀b o,h.get? b=aa o→h'.get? b=aa o) (f:h.get? a=aj) (e:h'.get? a=aa o):
 Evo cx g σ nx h (g.fzz a o) σ nx h':=by
 have n:g.fz a=aj:=by
  cases q:g.fz a with
  |none=>rfl
  |some p=>replace f:=(I.fz a p q)▸f;exact yx f
 have L:=g.fzz_le (o:=o) n;have back :∀j ob b,σ j=aa ob→cH (g.fzz a o) j ob b→cH g j ob b:=fun j ob b e z=>z;refine ⟨L,⟨I.g0.trans L,fun b p q=>k _ _ (I.base b p q),fun b p q=>?_,fun j ob q=>((I.obj j ob q).mono L).keep fun b c o=>k b o,I.sep,I.two,fun b z=>?_,I.top⟩,
  fun b p q c=>k b p q,fun b z=>.inl z,fun b z=>.inl z,fun b z=>?_,fun j z=>.inl z,j6 k,aY _⟩
 ·by_cases z:b=a
  ·subst z;replace q:=(Gh.fzz_at ..)▸q;cases q;exact e
  ·exact k _ _ (I.fz b p (by replace q:=(show (g.fzz a o).fz b=g.fz b from if_neg z)▸q;exact q))
 ·have z':Oc g σ b:=z;refine ⟨(I.off b z').1,?_⟩;erw[(show (g.fzz a o).fz b=g.fz b from if_neg fun y=>by refine ak (I.there z') fun oo w=>?_;rw [y,f] at w;exact no w)];exact (I.off b z').2
 ·by_cases y:b=a
  ·exact .inr (.inl (y▸f))
  ·exact .inl (by replace z:=(show (g.fzz a o).fz b=g.fz b from if_neg y)▸z;exact z)
noncomputable def Gh.put (g:Gh) (j:Nat) (a:Addr):Gh:={g with ρ:=fun k=>if k=j then aa a else g.ρ k}
noncomputable def Gh.putD (g:Gh) (j:Nat) (d:Addr):Gh:={g with δ:=fun k=>if k=j then aa d else g.δ k}
theorem Gh.put_le (g:Gh) (e:g.ρ j=aj):g.le (g.put j a):=
 ⟨fun k b q=>by show (if k=j then aa a else g.ρ k)=aa b;rw [if_neg (fun z=>by rw [z,e] at q;exact no q)];exact q,fun c c e=>e,fun c c e=>e⟩
theorem Gh.putD_le (g:Gh) (e:g.δ j=aj):g.le (g.putD j a):=
 ⟨fun c c e=>e,fun k b q=>by show (if k=j then aa a else g.δ k)=aa b;rw [if_neg (fun z=>by rw [z,e] at q;exact no q)];exact q,fun c c e=>e⟩
theorem Evo.new {ob:AO} (I:Inv cx g σ nx h) (k :∀b o,h.get? b=aa o→h'.get? b=aa o) (L:g.le g')
 (hρ :∀j,j≠nx→g'.ρ j=g.ρ j) (hδ :∀j,j≠nx→g'.δ j=g.δ j) (hfz:g'.fz=g.fz)
 (R:OR cx g' h' nx ob) (f :∀a,cH g' nx ob a→h.get? a=aj) (tw :∀a b,g'.ρ nx=aa a→g'.δ nx=aa b→a≠b):Evo cx g σ nx h g' (vg σ nx (aa ob)) (nx+1) h':=by
 have old :∀j ob',j≠nx→vg σ nx (aa ob) j=aa ob'→σ j=aa ob':=fun j ob' z e=>by replace e:=(bA _ _ z)▸e;exact e
 have ne :∀j ob',σ j=aa ob'→j≠nx:=fun j ob' e=>bv (I.lt e);have oc :∀a,Oc g' (vg σ nx (aa ob)) a→Oc g σ a∨h.get? a=aj:=by
  rintro a ⟨j,ob',e,o⟩
  by_cases z:j=nx
  ·subst z;replace e:=(bo ..)▸e;cases e;exact .inr (f a o)
  ·have e':=old j ob' z e;exact .inl ⟨j,ob',e',(I.obj j ob' e').own L o⟩
 refine ⟨L,⟨I.g0.trans L,fun b o e=>k _ _ (I.base b o e),fun a o e=>k _ _ (I.fz a o (by replace e:=hfz▸e;exact e)),fun j ob' e=>?_,fun j ob1 i ob2 a e1 e2 o1 o2=>?_,fun j ob' a b e o1 o2=>?_,fun a z=>?_,fun j z=>?_⟩,
  fun a o e c=>k a o e,oc,fun a w=>?_,fun a z=>.inl (by replace z:=hfz▸z;exact z),fun j e=>?_,j6 k,ie _⟩
 ·by_cases z:j=nx
  ·subst z;replace e:=(bo ..)▸e;cases e;exact R
  ·exact ((I.obj j ob' (old j ob' z e)).mono L).keep fun b c o=>k b o
 ·by_cases z1:j=nx
  ·by_cases z2:i=nx
   ·exact au z1▸au z2▸rfl
   ·exfalso
    subst z1;replace e1:=(bo ..)▸e1;cases e1;have e2':=old i ob2 z2 e2;refine ak ((I.obj i ob2 e2').there ((I.obj i ob2 e2').own L o2)) fun oo w=>?_;replace w:=(f a o1)▸w;cases w
  ·have e1':=old j ob1 z1 e1
   by_cases z2:i=nx
   ·exfalso
    subst z2;replace e2:=(bo ..)▸e2;cases e2;refine ak ((I.obj j ob1 e1').there ((I.obj j ob1 e1').own L o1)) fun oo w=>?_;replace w:=(f a o2)▸w;cases w
   ·have e2':=old i ob2 z2 e2;exact I.sep j ob1 i ob2 a e1' e2' ((I.obj j ob1 e1').own L o1) ((I.obj i ob2 e2').own L o2)
 ·by_cases z:j=nx
  ·subst z;exact tw a b o1 o2
  ·replace o1:=(hρ j z)▸o1;replace o2:=(hδ j z)▸o2;exact I.two j ob' a b (old j ob' z e) o1 o2
 ·erw[hfz];rcases oc a z with y|y
  ·exact I.off a y
  ·refine ⟨?_,?_⟩
   ·cases q:cx.h₀.get? a with
    |none=>rfl
    |some o=>replace y:=(I.base a o q)▸y;cases y
   ·cases q:g.fz a with
    |none=>rfl
    |some o=>replace y:=(I.fz a o q)▸y;cases y
 ·have z':j≠nx:=by omega
  erw[hρ j z',hδ j z'];exact I.top j (by omega)
 ·refine rJ w fun j ob' e q o=>?_
  by_cases z:j=nx
  ·subst z;replace e:=(bo ..)▸e;cases e;exact .inr (f a o)
  ·have e':=old j ob' z e;exact .inl ⟨j,ob',e',q,(I.obj j ob' e').own L o⟩
 ·by_cases z:j=nx
  ·exact .inr (iH z.symm)
  ·exact .inl (by replace e:=(bA _ _ z)▸e;exact e)
theorem Evo.set {j:Nat} {ob ob':AO} (I:Inv cx g σ nx h) (e:σ j=aa ob) (w:EF ob=ac) (same :∀a,cH g j ob' a↔cH g j ob a)
 (k :∀b o,¬ cH g j ob b→h.get? b=aa o→h'.get? b=aa o) (x :∀a,h.get? a≠aj→h'.get? a≠aj) (R:OR cx g h' j ob'):Evo cx g σ nx h g (vg σ j (aa ob')) nx h':=by
 have oc :∀i ob1,vg σ j (aa ob') i=aa ob1→∃ob2,σ i=aa ob2∧(∀a,cH g i ob1 a↔cH g i ob2 a)∧(i≠j→ob1=ob2):=by
  intro i ob1 q
  by_cases z:i=j
  ·subst z;replace q:=(bo ..)▸q;cases q;exact ⟨ob,e,same,fun y=>absurd rfl y⟩
  ·replace q:=(bA _ _ z)▸q;exact ⟨ob1,q,fun c=>.rfl,fun c=>rfl⟩
 have oc' :∀a,Oc g (vg σ j (aa ob')) a→Oc g σ a:=by
  rintro a ⟨i,ob1,q,o⟩;refine lG (oc i ob1 q) fun ob2 q2 s c=>?_;exact ⟨i,ob2,q2,(s a).mp o⟩
 refine ⟨.refl g,⟨I.g0,fun b o q=>k b o (fun z=>?_) (I.base b o q),fun b o q=>k b o (fun z=>?_) (I.fz b o q),fun i ob1 q=>?_,fun i ob1 i' ob1' a q q' o o'=>?_,fun i ob1 a b q o o'=>?_,fun a z=>I.off a (oc' a z),I.top⟩,
  fun a o q z=>k a o (fun y=>z ⟨j,ob,e,w,y⟩) q,fun a z=>.inl (oc' a z),fun a z=>.inl ?_,fun a z=>.inl z,fun i z=>.inl ?_,x,aY _⟩
 ·replace q:=((I.off b ⟨j,ob,e,z⟩).1)▸q;cases q
 ·replace q:=((I.off b ⟨j,ob,e,z⟩).2)▸q;cases q
 ·by_cases z:i=j
  ·subst z;replace q:=(bo ..)▸q;cases q;exact R
  ·replace q:=(bA _ _ z)▸q;exact (I.obj i ob1 q).keep fun a o oo=>k a oo fun y=>z (I.sep i ob1 j ob a q e o y)
 ·refine lG (oc i ob1 q) fun ob2 q2 s c=>?_;refine lG (oc i' ob1' q') fun ob2' q2' s' c=>?_;exact I.sep i ob2 i' ob2' a q2 q2' ((s a).mp o) ((s' a).mp o')
 ·refine lG (oc i ob1 q) fun ob2 q2 s c=>?_;exact I.two i ob2 a b q2 o o'
 ·refine rJ z fun i ob1 q w1 o=>?_
  by_cases y:i=j
  ·subst y;replace q:=(bo ..)▸q;cases q;exact ⟨i,ob,e,w,(same a).mp o⟩
  ·replace q:=(bA _ _ y)▸q;exact ⟨i,ob1,q,w1,o⟩
 ·by_cases y:i=j
  ·subst y;erw[e];exact fun q=>nomatch q
  ·replace z:=(bA _ _ y)▸z;exact z
end
section
variable {cx:Cx} {n:Nat} {vn:List Nat} {env:Env} {fr:Fr} {S S1 S2:St} {v:AV}
theorem Np {k pos}:JE cx n vn env (.Constant .none k pos) fr S .none S:=fun A g s R H=>wpAny_Constant_none ⟨g,.refl H.inv,.none⟩
theorem Nt {b k pos}:JE cx n vn env (.Constant (.bool b) k pos) fr S (.bool b) S:=fun A g s R H=>wpAny_Constant_bool ⟨g,.refl H.inv,.bool b⟩
theorem TE {i k pos}:JE cx n vn env (.Constant (.int i) k pos) fr S (.int i) S:=fun A g s R H=>lC ⟨g,.tok H.inv _,.int i _⟩
theorem TA {x k pos} (hx:x<nS):JE cx n vn env (.Constant (.str (sT x)) k pos) fr S (.str x) S:=fun A g s R H=>wpAny_Constant_str ⟨g,.tok H.inv _,.str x _ hx⟩
theorem yR :∀x,x<nS→(sT x==("__debug__":Str))=ae:=by decide +kernel
theorem er {α:Type} {l:List α} {i:Nat} {x:α} (h:bc l i=aa x):x∈l:=by
 induction l generalizing i with
 |nil=>exact no h
 |cons a l ih=>cases i with
  |zero=>exact pM h▸.head _
  |succ i=>exact .tail _ (ih h)
theorem Tw {i x pos} (F:jw cx vn env) (hx:bc vn i=aa x) (hv:bc fr i=aa (aa v)):JE cx n vn env (.Name (sT x) pos) fr S v S:=fun A g s R H=>by
 have hm:=er hx;refine wpAny_Name ?_ (yR x (F.inS x hm));rcases F.kinds x hm with hk|hk
 ·refine cg H.fr.loc fun m hn hl=>?_;refine cg (hl i x (aa v) hx hv hk) fun y hy r=>?_;exact wpAny_loadName_local F.kind hk hn hy ⟨g,.refl H.inv,r⟩
 ·have nl:env.kindOf (sT x)≠aa .local:=by rcases hk with hk|hk<;>refine au hk▸?_<;>decide
  refine ak (F.cells x hm nl) fun c hc=>?_;refine cg (H.fr.cel i x (aa v) c hx hv nl hc) fun o hcell h40=>?_;refine cg h40 fun y q410 r=>?_;subst q410;rcases hk with hk|hk
  ·exact wpAny_loadName_cell F.kind hk hc hcell ⟨g,.refl H.inv,r⟩
  ·exact wpAny_loadName_free F.kind hk hc hcell ⟨g,.refl H.inv,r⟩ (by
    have :∀x,x<nS→(sT x==("__classdict__":Str))=ae:=by decide +kernel
    exact this x (F.inS x hm))
theorem H5 {pos} (hc:JT cx n vn env c fr S r S1) (ha:r=ac→JE cx n vn env a fr S1 v S2) (hb:r=ae→JE cx n vn env b fr S1 v S2):
 JE cx n vn env (.IfExp c a b pos) fr S v S2:=fun A g s R H=>by
 refine wpAny_IfExp (hc.use R H fun g1 s1 a1 H1=>?_);cases r with
 |true=>exact (ha rfl).use R H1 fun g2 s2 x a2 H2 r2=>⟨g2,a1.trans H.inv a2,r2⟩
 |false=>exact (hb rfl).use R H1 fun g2 s2 x a2 H2 r2=>⟨g2,a1.trans H.inv a2,r2⟩
theorem HT {pos} (hc:JT cx n vn env c fr S r S1) (ha:r=ac→JT cx n vn env a fr S1 q S2) (hb:r=ae→JT cx n vn env b fr S1 q S2):
 JT cx n vn env (.IfExp c a b pos) fr S q S2:=fun A g s R H=>by
 show aA _ _ (do if ← isTrue c env (dm c env) then isTrue a env (dm a env) else isTrue b env (dm b env)) _ _ _;refine ag (hc.use R H fun g1 s1 a1 H1=>?_);cases r with
 |true=>exact (ha rfl).use R H1 fun g2 s2 a2 H2=>⟨rfl,g2,a1.trans H.inv a2⟩
 |false=>exact (hb rfl).use R H1 fun g2 s2 a2 H2=>⟨rfl,g2,a1.trans H.inv a2⟩
theorem Ts {pos} (h:JT cx n vn env e fr S r S1):JT cx n vn env (.UnaryOp .Not e pos) fr S (!r) S1:=fun A g s R H=>
 wpAny_isTrue_Not (h.use R H fun g1 s1 a1 H1=>⟨rfl,g1,a1⟩)
theorem k5 {E:Value→av→Prop} {Q:Bool→av→Prop} (h:VR cx g v x) (f:EH v=aa r) (q:Q r s):aA cx.mo A (yh x) Q E s:=by
 cases v with
 |none=>apply h.vw;exact aq (VC (P:=fun b=>Q b s) (show aa ae=aa r from f) q)
 |bool b=>apply h.vw;apply VC f;exact i4 q
 |_=>exact no f
theorem TC {pos} (h:JE cx n vn env e fr S v S1) (f:EH v=aa r):JE cx n vn env (.UnaryOp .Not e pos) fr S (.bool (!r)) S1:=fun A g s R H=>by
 refine wpAny_UnaryOp (h.use R H fun g1 s1 x a1 H1 r1=>?_);unfold unaryOp;refine aQ ?_;show aA _ _ (yh x >>= fun b=>cR (Fe (!b))) _ _ _;exact ag (k5 r1 f (aq ⟨g1,a1,.bool _⟩))
theorem Tr (h:JE cx n vn env e fr S v S1) (f:EH v=aa r) (he:isTrue e env (dm e env)=(do let v ← dm e env;l3 e.pos;fu [v] (yh v))):JT cx n vn env e fr S r S1:=fun A g s R H=>
 wpAny_isTrue_value (h.use R H fun g1 s1 x a1 H1 r1=>k5 r1 f ⟨rfl,g1,a1⟩) he
def JC (cx:Cx) (n:Nat) (op:B4) (a b:AV) (S:St) (r:Bool):Prop:=
 ∀A g s x y,Room A n→Inv cx g S.get S.nx s.heap→VR cx g a x→VR cx g b y→aA cx.mo A (iO op x y) (fun z s'=>z=.bool r∧∃g',Aft cx g S s g' S s') F0 s
theorem TH {pos} (ha:JE cx n vn env a fr S va S1) (hb:JE cx n vn env b fr S1 vb S2) (hc:JC cx n op va vb S2 r) (hm:mJ op b=ae):
 JE cx n vn env (.Compare a [op] [b] pos) fr S (.bool r) S2:=fun A g s R H=>
 wpAny_Compare1 (ha.use R H fun g1 s1 x a1 H1 r1=>hb.use R H1 fun g2 s2 y a2 H2 r2=>aE (hc A g2 s2 x y R H2.inv (r1.mono a2.evo.le) r2) (fun z s' ⟨e,g3,a3⟩ =>⟨g3,(a1.trans H.inv a2).trans H.inv a3,e▸.bool r⟩) fun c c z=>z) hm
theorem Tt {pos} (ha:JE cx n vn env a fr S va S1) (hb:JE cx n vn env b fr S1 vb S2) (hc:JC cx n op va vb S2 r) (hm:mJ op b=ae):
 JT cx n vn env (.Compare a [op] [b] pos) fr S r S2:=fun A g s R H=>
 La (ha.use R H fun g1 s1 x a1 H1 r1=>hb.use R H1 fun g2 s2 y a2 H2 r2=>aE (hc A g2 s2 x y R H2.inv (r1.mono a2.evo.le) r2) (fun z s' ⟨e,g3,a3⟩ =>e▸i4 ⟨rfl,g3,(a1.trans H.inv a2).trans H.inv a3⟩) fun c c z=>z) hm
def JB (cx:Cx) (n:Nat) (op:qJ) (a b:AV) (S:St) (v:AV) (S':St):Prop:=
 ∀A g s x y,Room A n→Inv cx g S.get S.nx s.heap→VR cx g a x→VR cx g b y→aA cx.mo A (binaryOp op x y) (fun z s'=>∃g',Aft cx g S s g' S' s'∧VR cx g' v z) F0 s
theorem TJ {pos} (ha:JE cx n vn env a fr S va S1) (hb:JE cx n vn env b fr S1 vb S2) (hc:JB cx n op va vb S2 v S3):JE cx n vn env (.BinOp a op b pos) fr S v S3:=fun A g s R H=>
 wpAny_BinOp (ha.use R H fun g1 s1 x a1 H1 r1=>hb.use R H1 fun g2 s2 y a2 H2 r2=>aE (hc A g2 s2 x y R H2.inv (r1.mono a2.evo.le) r2) (fun z s' ⟨g3,a3,r3⟩ =>⟨g3,(a1.trans H.inv a2).trans H.inv a3,r3⟩) fun c c z=>z)
theorem Bg :∀A g s,Room A n→Here cx vn env fr g S s→aA cx.mo A (Vs .And [] env) (fun b s'=>b=ac∧∃g',Aft cx g S s g' S s') F0 s:=fun A g s R H=>wpAny_allTrue_And_nil ⟨rfl,g,.refl H.inv⟩
theorem Ex :∀A g s,Room A n→Here cx vn env fr g S s→aA cx.mo A (Vs .Or [] env) (fun b s'=>b=ae∧∃g',Aft cx g S s g' S s') F0 s:=fun A g s R H=>wpAny_allTrue_Or_nil ⟨rfl,g,.refl H.inv⟩
def JA (cx:Cx) (n:Nat) (vn:List Nat) (env:Env) (op:B5) (es:List Expr) (fr:Fr) (S:St) (r:Bool) (S':St):Prop:=
 ∀A g s,Room A n→Here cx vn env fr g S s→aA cx.mo A (Vs op es env) (fun b s'=>b=r∧∃g',Aft cx g S s g' S' s') F0 s
theorem H6 (h:JT cx n vn env e fr S r S1) (k:r=ac→JA cx n vn env .And es fr S1 q S2) (k0:r=ae→q=ae∧S2=S1):JA cx n vn env .And (e::es) fr S q S2:=fun A g s R H=>by
 refine wpAny_allTrue_And_cons (h.use R H fun g1 s1 a1 H1=>?_);cases r with
 |true=>exact aE (k rfl A g1 s1 R H1) (fun b s' ⟨e,g2,a2⟩ =>⟨e,g2,a1.trans H.inv a2⟩) fun a a z=>z
 |false=>obtain ⟨rfl,rfl⟩:=k0 rfl;exact ⟨rfl,g1,a1⟩
theorem Qz (h:JT cx n vn env e fr S r S1) (k:r=ae→JA cx n vn env .Or es fr S1 q S2) (k0:r=ac→q=ac∧S2=S1):JA cx n vn env .Or (e::es) fr S q S2:=fun A g s R H=>by
 show aA _ _ (do match BoolOp.Or,← isTrue e env (dm e env) with|.And,ae=>cR ae|.Or,ac=>cR ac|_,_=>Vs .Or es env) _ _ _
 refine ag (h.use R H fun g1 s1 a1 H1=>?_);cases r with
 |false=>exact aE (k rfl A g1 s1 R H1) (fun b s' ⟨e,g2,a2⟩ =>⟨e,g2,a1.trans H.inv a2⟩) fun a a z=>z
 |true=>obtain ⟨rfl,rfl⟩:=k0 rfl;exact aq ⟨rfl,g1,a1⟩
theorem Nn {pos} (h:JA cx n vn env op es fr S r S1):JT cx n vn env (.BoolOp op es pos) fr S r S1:=fun A g s R H=>wpAny_isTrue_BoolOp (h A g s R H)
def JO (cx:Cx) (n:Nat) (vn:List Nat) (env:Env) (op:B5) (es:List Expr) (fr:Fr) (S:St) (v:AV) (S':St):Prop:=
 ∀A g s pos,Room A n→Here cx vn env fr g S s→aA cx.mo A (boolOp pos op (evalEach es env)) (fun x s'=>∃g',Aft cx g S s g' S' s'∧VR cx g' v x) F0 s
theorem Tv (h:JE cx n vn env e fr S v S1):JO cx n vn env op [e] fr S v S1:=fun A g s pos R H=>h A g s R H
theorem HU (h:JE cx n vn env e fr S u S1) (f:EH u=aa r) (k:r=ac→JO cx n vn env .And (e'::es) fr S1 v S2) (k0:r=ae→v=u∧S2=S1):JO cx n vn env .And (e::e'::es) fr S v S2:=fun A g s pos R H=>by
 show aA _ _ (dm e env >>= fun v=>l3 pos >>= fun a=>fu [v] (yh v) >>= fun t=>match BoolOp.And,t with|.And,ae|.Or,ac=>cR v|_,_=>boolOp pos .And (evalEach (e'::es) env)) _ _ _
 refine ag (h.use R H fun g1 s1 x a1 H1 r1=>ag (dP (ag (aQ (k5 r1 f ?_)))));cases r with
 |true=>exact aE (k rfl A g1 s1 pos R H1) (fun b s' ⟨g2,a2,r2⟩ =>⟨g2,a1.trans H.inv a2,r2⟩) fun a a z=>z
 |false=>obtain ⟨rfl,rfl⟩:=k0 rfl;exact aq ⟨g1,a1,r1⟩
theorem Qw (h:JE cx n vn env e fr S u S1) (f:EH u=aa r) (k:r=ae→JO cx n vn env .Or (e'::es) fr S1 v S2) (k0:r=ac→v=u∧S2=S1):JO cx n vn env .Or (e::e'::es) fr S v S2:=fun A g s pos R H=>by
 show aA _ _ (dm e env >>= fun v=>l3 pos >>= fun a=>fu [v] (yh v) >>= fun t=>match BoolOp.Or,t with|.And,ae|.Or,ac=>cR v|_,_=>boolOp pos .Or (evalEach (e'::es) env)) _ _ _
 refine ag (h.use R H fun g1 s1 x a1 H1 r1=>ag (dP (ag (aQ (k5 r1 f ?_)))));cases r with
 |false=>exact aE (k rfl A g1 s1 pos R H1) (fun b s' ⟨g2,a2,r2⟩ =>⟨g2,a1.trans H.inv a2,r2⟩) fun a a z=>z
 |true=>obtain ⟨rfl,rfl⟩:=k0 rfl;exact aq ⟨g1,a1,r1⟩
theorem TI {pos} (h:JO cx n vn env op es fr S v S1):JE cx n vn env (.BoolOp op es pos) fr S v S1:=fun A g s R H=>h A g s pos R H
theorem Bh:JL cx n vn env [] fr S [] S:=fun A g s pos R H=>aq ⟨g,.refl H.inv,.nil⟩
noncomputable def nE (k:Nat) (e:Expr):Bool:=Q8 (ay e.ctorIdx k)
noncomputable def ix (e:Expr):Bool:=nE 22 e
theorem iJ (h:ix e=ac):eD (e::es) env=(ae,dm e env)::eD es env:=by cases e<;>first|rfl|exact ff h
theorem C9 (ns:ix e=ac) (h:JE cx n vn env e fr S v S1) (k:JL cx n vn env es fr S1 vs S2):JL cx n vn env (e::es) fr S (v::vs) S2:=fun A g s pos R H=>by
 erw[iJ ns];show aA _ _ (dm e env >>= fun v=>cR [v] >>= fun here=>fu here (KN (jG pos (eD es env))) >>= fun r=>cR (here++r)) _ _ _;refine ag (h.use R H fun g1 s1 x a1 H1 r1=>ag (aq (ag (aQ (k.use R H1 fun g2 s2 xs a2 H2 r2=>aq ⟨g2,a1.trans H.inv a2,.cons (r1.mono a2.evo.le) r2⟩)))))
end
theorem cC {α:Type} (l:List α):eZ l=l.length:=aP rfl (fun a b ih=>congrArg bW ih) l
theorem i7 {α:Type} {l:List α} (h:sm l=ac):l.length≤1000:=by
 have:=az h
 rwa [cC] at this
theorem VRs.length {l:List AV} {xs:List Value} (h:VRs cx g l xs):xs.length=l.length:=
 VRs.ind (M:=fun l xs=>xs.length=l.length) rfl (fun a a a a a a ih=>congrArg bW ih) l h
theorem DRs.length {l:List (AV×AV)} {xs:List DictEntry} (h:DRs cx g l xs):xs.length=l.length:=
 DRs.ind (M:=fun l xs=>xs.length=l.length) rfl (fun a a a a a a a a ih=>congrArg bW ih) l h
theorem fM {α:Type} (l m:List α):dL l m=l++m:=aP rfl (fun a b ih=>congrArg (a::·) ih) l
theorem VRs.append (h:VRs cx g l xs) (r:VRs cx g m ys):VRs cx g (l++m) (xs++ys):=
 VRs.ind (M:=fun l xs=>VRs cx g (l++m) (xs++ys)) r (fun b b b b a b ih=>.cons a ih) l h
theorem iL {α β:Type} (f:α→β) (l:List α):iz f l=l.map f:=aP rfl (fun a b ih=>congrArg (f a::·) ih) l
theorem a_ (h:Heap):h.get? h.objs.size=aj:=fY (aY _)
section
variable {cx:Cx} {g:Gh} {S:St} {h h':Heap} {s:av}
theorem Aft.of (e:Evo cx g S.get S.nx s.heap g' S'.get S'.nx h'):Aft cx g S s g' S' {s with heap:=h',toks:=t}:=⟨⟨h',t,rfl⟩,e⟩
theorem Aft.of' (e:Evo cx g S.get S.nx s.heap g' S'.get S'.nx h'):Aft cx g S s g' S' {s with heap:=h'}:=⟨⟨h',s.toks,rfl⟩,e⟩
theorem jy (I:Inv cx g S.get S.nx h):g.ρ S.nx=aj∧g.δ S.nx=aj:=I.top _ (aY _)
theorem AT {ob:AO} {a:Addr} (I:Inv cx g S.get S.nx h) (k :∀b o,h.get? b=aa o→h'.get? b=aa o) (f:h.get? a=aj) (ni :∀c fs,ob≠.inst c fs) (R:OR cx (g.put S.nx a) h' S.nx ob):
 Evo cx g S.get S.nx h (g.put S.nx a) (S.new ob).get (S.new ob).nx h':=by
 have t:=jy I;erw[(St.get_new ..),(St.nx_new ..)];refine Evo.new I k (g.put_le t.1) (fun j z=>if_neg z) (fun j z=>rfl) rfl R (fun b o=>?_) (fun b d q1 q2=>?_)
 ·rcases o with o|⟨⟨c,fs,z⟩,_⟩
  ·replace o:=(show (g.put S.nx a).ρ S.nx=aa a from if_pos rfl)▸o;apply gF o;exact f
  ·exact absurd z (ni c fs)
 ·replace q2:=t.2▸(show (g.put S.nx a).δ S.nx=g.δ S.nx from rfl)▸q2;exact no q2
theorem iw:(g.put j a).ρ j=aa a:=if_pos rfl
theorem xD {a:Addr} {l:List AV} {xs:List Value} (I:Inv cx g S.get S.nx h) (k :∀b o,h.get? b=aa o→h'.get? b=aa o) (f:h.get? a=aj) (e:h'.get? a=aa {cls:=.type "list",data:=.seq xs.toArray n}) (r:VRs cx g l xs):
 Evo cx g S.get S.nx h (g.put S.nx a) (S.new (.list ae .none l .none)).get (S.new (.list ae .none l .none)).nx h'∧VR cx (g.put S.nx a) (.loc S.nx) (.ref a):=
 ⟨AT I k f (fun c c z=>nomatch z) (.list iw e (mid:=xs) (by show xs=[]++xs++[];simp) (r.mono (g.put_le (jy I).1))),.loc iw⟩
theorem MX {a:Addr} {d:Nat} {l:List (AV×AV)} {o:Obj} {es:Array DictEntry} (I:Inv cx g S.get S.nx h) (k :∀b o,h.get? b=aa o→h'.get? b=aa o) (f:h.get? a=aj) (e:h'.get? a=aa o) (x:o.ExactDict) (ed:o.data=.dict es n)
 (ko:yg d l) (r:DRs cx g l es.toList):
 Evo cx g S.get S.nx h (g.put S.nx a) (S.new (.dict ae d l)).get (S.new (.dict ae d l)).nx h'∧VR cx (g.put S.nx a) (.loc S.nx) (.ref a):=
 ⟨AT I k f (fun c c z=>nomatch z) (.dict iw e x ed ko (r.mono (g.put_le (jy I).1))),.loc iw⟩
theorem CH (I:Inv cx g S.get S.nx h) (k :∀b o,h.get? b=aa o→h'.get? b=aa o) (f:h.get? a=aj) (e:h'.get? a=aa {cls:=.type "tuple",data:=.seq xs.toArray n}) (r:VRs cx g l xs):
 Evo cx g S.get S.nx h (g.fzz a {cls:=.type "tuple",data:=.seq xs.toArray n}) S.get S.nx h'∧VR cx (g.fzz a {cls:=.type "tuple",data:=.seq xs.toArray n}) (.tup l) (.ref a):=by
 have ev:=Evo.frozen I k f e;exact ⟨ev,.tup (g.fzz_at a _) (r.mono ev.le)⟩
theorem bC (o:Obj):∀b p,h.get? b=aa p→(h.push o).get? b=aa p:=fun b p e=>dB _ e
theorem gG (f:o.isFreed=ae):(h.push o).get? h.objs.size=aa o:=bZ _ f
theorem qj (I:Inv cx g S.get S.nx s.heap) (r:VRs cx g l xs):
 ∃g',Aft cx g S s g' (S.new (.list ae .none l .none)) {s with heap:=s.heap.push {cls:=.type "list",data:=.seq xs.toArray}}∧VR cx g' (.loc S.nx) (.ref s.heap.objs.size):=
 let x:=xD I (bC _) (a_ _) (gG rfl) r
 ⟨_,.of' x.1,x.2⟩
theorem qh (I:Inv cx g S.get S.nx s.heap) (r:VRs cx g l xs):
 ∃g',Aft cx g S s g' S {s with heap:=s.heap.push {cls:=.type "tuple",data:=.seq xs.toArray}}∧VR cx g' (.tup l) (.ref s.heap.objs.size):=
 let x:=CH I (bC _) (a_ _) (gG rfl) r
 ⟨_,.of' x.1,x.2⟩
end
theorem jr {l:List AV} {S S':St} {v:AV} (h:gU l S=aa (v,S')):l.length≤1000∧v=.loc S.nx∧S'=S.new (.list ae .none l .none):=by
 unfold gU at h
 split at h
 ·rename_i e;apply xg h;exact ⟨i7 e,rfl,rfl⟩
 ·exact no h
theorem mP {l:List AV} {S S':St} {v:AV} (h:qi l S=aa (v,S')):l.length≤1000∧v=.tup l∧S'=S:=by
 unfold qi at h
 split at h
 ·rename_i e;apply xg h;exact ⟨i7 e,rfl,rfl⟩
 ·exact no h
theorem mQ {d:Nat} {l:List (AV×AV)} {S S':St} {v:AV} (h:nh d l S=aa (v,S')):l.length≤1000∧v=.loc S.nx∧S'=S.new (.dict ae d l):=by
 unfold nh at h
 split at h
 ·rename_i e;apply xg h;exact ⟨i7 e,rfl,rfl⟩
 ·exact no h
theorem mT (h:n≤1000):n≤sizeLine:=by erw[bE];omega
section
variable {cx:Cx} {n:Nat} {vn:List Nat} {env:Env} {fr:Fr} {S S1 S2:St} {v:AV}
theorem Tx {k pos} (h:JL cx n vn env es fr S vs S1) (e:qi vs S1=aa (v,S2)):JE cx n vn env (.Tuple es k pos) fr S v S2:=fun A g s R H=>by
 apply jP (mP e);intro hl q002;apply dW q002;refine wpAny_Tuple (h.use R H fun g1 s1 xs a1 H1 r1=>⟨mT (r1.length▸hl),?_⟩);refine cg (qh H1.inv r1) fun g2 a2 r2=>?_;exact ⟨g2,a1.trans H.inv a2,r2⟩
theorem TD {pos} (h:JL cx n vn env es fr S vs S1) (e:gU vs S1=aa (v,S2)):JE cx n vn env (.List es pos) fr S v S2:=fun A g s R H=>by
 apply jP (jr e);intro hl q202;apply dW q202;refine wpAny_List (h.use R H fun g1 s1 xs a1 H1 r1=>⟨mT (r1.length▸hl),?_⟩);refine cg (qj H1.inv r1) fun g2 a2 r2=>?_;exact ⟨g2,a1.trans H.inv a2,r2⟩
def z5 (cx:Cx) (nm:Nat) (v:AV):Prop:=∃val,VR cx cx.g0 v val∧
 (nsIn cx.K cn (sT nm)=aa (aa val)∨(nsIn cx.K cn (sT nm)=aa aj∧nsIn cx.K dZ (sT nm)=aa (aa val)))
theorem TF {nm pos} (O:COk cx) (F:jw cx vn env) (hn:nm<nS) (hk:env.kindOf (sT nm)=aa .globalImplicit) (G:z5 cx nm v):JE cx n vn env (.Name (sT nm) pos) fr S v S:=fun A g s R H=>by
 refine wpAny_Name ?_ (yR nm hn);refine cg G fun val r q=>?_;have r':=r.mono H.inv.g0;have X:=O.kIn H.inv;unfold loadName;simp only [VA,F.kind,hk,rD,Bool.false_and,b_,if_false];unfold loadGlobal;erw[F.glob,F.blt];rcases q with q|⟨q1,q2⟩
 ·exact ag ((UW X q).here (aq ⟨g,.refl H.inv,r'⟩))
 ·exact ag ((UW X q1).here (ag ((UW X q2).here (aq ⟨g,.refl H.inv,r'⟩))))
end
noncomputable def qQ (x:Str):Nat:=x.cps.toList.foldl (fun a c=>Nat.add (Nat.mul a 256) c) 1
noncomputable def SY (n:Nat) (l:List Nat):Bool:=aP (motive:=fun a=>Bool) ae (fun m a ih=>be (motive:=fun a=>Bool) ih ac (ay m n)) l
noncomputable def WY (l:List Nat):Bool:=aP (motive:=fun a=>Bool) ac (fun m l ih=>be (motive:=fun a=>Bool) ih ae (SY m l)) l
theorem M3 (h:SY n l=ae):n∉l:=by
 induction l with
 |nil=>exact fun z=>nomatch z
 |cons m l ih=>
  exact zS (c:=ay m n) h (fun e h z=>(aN.mp z).elim (fun z=>eW e z.symm) (ih h)) fun a h=>U3 h
theorem MS (h:WY l=ac):l.Nodup:=by
 induction l with
 |nil=>exact .nil
 |cons m l ih=>
  exact zS (c:=SY m l) h (fun e h=>ce.mpr ⟨M3 e,ih h⟩) fun a h=>ff h
theorem D7:WY (Ac.map qQ)=ac:=by decide +kernel
theorem Cp:Ac.length=nS:=by decide +kernel
theorem mj :∀i,i<nS→∀j,j<nS→sT i=sT j→i=j:=by
 intro i hi j hj e;have nd:(Ac.map qQ).Nodup:=MS D7;have hi':i<Ac.length:=Cp▸hi;have hj':j<Ac.length:=Cp▸hj;have hg :∀k (h:k<Ac.length),sT k=Ac[k]:=fun k h=>by unfold sT;rw [xf,gR h];rfl
 rw [hg _ hi',hg _ hj'] at e;have h1 :∀k (h:k<Ac.length) (h':k<(Ac.map qQ).length),(Ac.map qQ)[k]'h'=qQ (Ac[k]'h):=fun k h h'=>sW ..
 have hl:(Ac.map qQ).length=Ac.length:=a9 _;have hi2:i<(Ac.map qQ).length:=by rw [hl];exact hi'
 have hj2:j<(Ac.map qQ).length:=by rw [hl];exact hj'
 refine (List.getElem_inj (h₀:=hi2) (h₁:=hj2) nd).mp ?_;rw [h1 _ hi',h1 _ hj',e]
structure ClsOk (cx:Cx) (c:Nat):Prop where
 ga:mH cx.K (.ref (ca c)) "__getattribute__" = aa (aa (.builtin "object.__getattribute__"))
 gh:mH cx.K (.ref (ca c)) "__getattr__" = aa aj
 keep:j8 cx.K (.ref (ca c))=ac
 hasD:(clsIn cx.K (ca c)).any (·.hasDict)=ac
 over:plainOver cx.K (ca c)=ac
 make:makesIn cx.K (ca c)=ac
 sa:mH cx.K (.ref (ca c)) "__setattr__" = aa (aa (.builtin "object.__setattr__"))
 reads:readsIn cx.K (ca c) (.type "type")=ac
 tga:specialIn cx.K (.ref (ca c)) "__getattribute__" = aa (aa (.builtin "type.__getattribute__"))
structure MethOk (cx:Cx) (c nm f:Nat):Prop where
 find:mH cx.K (.ref (ca c)) (sT nm)=aa (aa (.ref (fa f)))
 fn:typeIn cx.K (.ref (fa f))=aa (.type "function")
 own:findCls cx.K (.ref (ca c)) (.type "type") (sT nm)=aa (.val (.ref (fa f)))
 keep:j8 cx.K (.ref (fa f))=ac
def yf (cx:Cx) (c nm:Nat):Prop:=mH cx.K (.ref (ca c)) (sT nm)=aa aj
section
variable {cx:Cx} {g:Gh}
theorem H9:(Value.str x t).isStr (sT k)=(x==sT k):=rfl
theorem Qs {e:DictEntry} (hk:e.key=.str (sT p) t) (hp:p<nS) (hn:nm<nS):e.key.isStr (sT nm)=ay p nm:=by
 rw [hk,H9];cases z:ay p nm with
 |true=>exact beq_iff_eq.mpr (congrArg sT (am z))
 |false=>exact beq_eq_false_iff_ne.mpr fun w=>eW z (mj _ hp _ hn w)
theorem Jc (hn:nm<nS) {es:List DictEntry} (h:FRs cx g fs es):
 match im nm fs with
 |some v=>∃e,es.find? (·.key.isStr (sT nm))=aa e∧VR cx g v e.val
 |none=>es.find? (·.key.isStr (sT nm))=aj:=by
 apply FRs.ind _ _ h
 ·rfl
 ·intro p l e es t hk hh hp hv r ih;have b:=Qs hk hp hn;cases q:ay p.1 nm with
  |true=>rw [show im nm (p::l)=aa p.2 from uN q];exact ⟨e,Ak (b.trans q),hv⟩
  |false=>rw [show im nm (p::l)=im nm l from rS q,Al (by rw [b,q];decide)];exact ih
theorem wQ (h:FRs cx g fs es):es.any (·.refKey)=ae:=
 FRs.ind (M:=fun a es=>es.any (·.refKey)=ae) rfl (fun p l e es t hk a a a a ih=>by rw [kX,ih,pL];unfold DictEntry.refKey;rw [hk]) h
theorem NY (h:FRs cx g fs es):es.length=fs.length:=
 FRs.ind (M:=fun fs es=>es.length=fs.length) rfl (fun a a a a a a a a a a ih=>congrArg bW ih) h
theorem ux (hn:nm<nS) (r:FRs cx g fs es.toList):
 match im nm fs with
 |some v=>∃x,lookIn (sT nm) {cls:=.type "dict",data:=.dict es n}=aa (aa x)∧VR cx g v x
 |none=>lookIn (sT nm) {cls:=.type "dict",data:=.dict es n}=aa aj:=by
 have f:=Jc hn r;have nr:=wQ r;cases h:im nm fs with
 |some v=>
  rw [h] at f;refine cg f fun e he hv=>?_;exact ⟨e.val,by simp only [lookIn,he],hv⟩
 |none=>
  rw [h] at f;simp only [lookIn,f,nr,b_,if_false]
theorem Kk (h:(ZV.all f&&f (.type "tuple"))=ac) (k:Nat):f (bV k)=ac:=by
 have h:=ax.mp h;rw [bV,xf];cases e:ZV[k]? with
 |none=>exact h.2
 |some x=>exact ai.mp h.1 x (DO e)
theorem DS (h:VR cx g v x) (no :∀k,v≠.opq k∧v≠.opa k):handedIn x=ac:=by
 cases v with
 |opq k=>exact absurd rfl (no k).1
 |opa k=>exact absurd rfl (no k).2
 |bi k=>apply h.vw;exact Kk (by decide +kernel) k
 |opd k=>apply h.vw;intro x z;apply z.vw;exact fun a a a a a a a a a a=>rfl
 |_=>apply h.vw;first|exact rfl|exact fun a=>rfl|exact fun a a=>rfl|exact fun a a a=>rfl|exact fun a a a a a=>rfl|exact fun a a a a a a a a a a=>rfl
theorem Bm (R:OR cx g h j (.inst c fs)):∃a dx es n,g.ρ j=aa a∧g.δ j=aa dx∧h.get? dx=aa {cls:=.type "dict",data:=.dict es n}∧h.get? a=aa (oh (ca c) dx)∧FRs cx g fs es.toList∧(fs.map (·.1)).Nodup∧
 InstAt h a (oh (ca c) dx) (ca c) (aa {cls:=.type "dict",data:=.dict es n}):=by
 exact R.vw fun b b b b r d e f v nd=>⟨_,_,_,_,r,d,f,e,v,nd,⟨e,rfl,rfl,f⟩⟩
end
section
variable {cx:Cx} {n:Nat} {vn:List Nat} {env:Env} {fr:Fr} {S S1 S2:St} {v:AV}
noncomputable def bJ (e:Expr):Bool:=nE 16 e
theorem og (h:bJ e=ac):attributeBase e attr env whole=whole:=by
 cases e<;>first|rfl|exact ff h
theorem EI (h:bJ e=ac):dm (.Attribute e attr pos) env=(do
 let o ← dm e env
 l3 pos.atName
 let r ← fu [o] (getAttr o attr ac)
 BY e o r
 cR r):=by
 show (attributeBase e attr env (dm e env) >>= _)=_;exact au (og h)▸rfl
theorem jT (h:VR cx g (.loc j) x):∃a,x=.ref a∧g.ρ j=aa a:=by apply h.vw;exact fun a h=>⟨_,rfl,h⟩
theorem Nu {pos} (O:COk cx) (pb:bJ e=ac) (hn:nm<nS) (h:JE cx n vn env e fr S (.loc j) S1) (hj:S1.get j=aa (.inst c fs)) (hf:im nm fs=aa v)
 (C:ClsOk cx c) (NA:yf cx c nm) (no :∀k,v≠.opq k∧v≠.opa k):JE cx n vn env (.Attribute e (sT nm) pos) fr S v S1:=fun A g s R H=>by
 refine Attribute_any_ (h.use R H fun g1 s1 x a1 H1 r1=>?_) (EI pb);apply b7 (jT r1);intro a ra;refine Y3 (Bm (H1.inv.obj j _ hj)) fun a' dx es m ra' rd hd ha rf nd I=>?_;rw [ra] at ra';apply VC ra';have X:=O.kIn H1.inv;have lk:=ux (n:=m) hn rf;rw [hf] at lk;refine cg lk fun val lk rv=>?_;refine get_value X I C.ga ?_ (DS rv no) ⟨g1,⟨by refine wh a1.same fun h' tk e=>?_;exact ⟨h',s1.toks+1,by rw [e]⟩,a1.evo⟩,rv⟩;refine cg (any_some C.hasD) fun cd hc hh=>?_;unfold findObj;rw [hc,kV,NA,kV];show (Ah (aa aj) _)=_;rw [kV];show (Ah (aa ae) _)=_;rw [kV];show (Ah (Le cd _ (sT nm)) _)=_;unfold Le;rw [hh,if_pos rfl];dsimp only;rw [lk];rfl
def cO (es:List Expr):Bool:=es.all ix
theorem mh (h:cO es=ac):eD es env=es.map fun e=>(ae,dm e env):=by
 induction es with
 |nil=>rfl
 |cons e es ih=>exact (iJ (ax.mp h).1).trans (congrArg (_::·) (ih (ax.mp h).2))
theorem qU (h:cO es=ac):(jG pos (eD es env)).any (·.1)=ae:=by
 rw [mh h];unfold jG;rw [l4]
 induction es with
 |nil=>rfl
 |cons e es ih=>rw [e_,kX,ih (ax.mp h).2];rfl
def mF (cx:Cx) (f:Value):Prop:=j8 cx.K f=ac∨∀a,f≠.ref a
theorem qW (q :∀a,f≠.ref a):Looks M h (keeperOf f) .machine:=by
 cases f<;>first|exact Looks.of_pure rfl|exact absurd rfl (q _)
theorem zP {Q:Value→av→Prop} (O:COk cx) (kf:mF cx f) (ns:cO args=ac) (hl:JL cx n vn env args fr S vs S1) (R:Room A n) (H:Here cx vn env fr g S s)
 (k :∀g' s' xs,Aft cx g S s g' S1 s'→Here cx vn env fr g' S1 s'→VRs cx g' vs xs→aA cx.mo A (call f (first++xs)) Q F0 s'):aA cx.mo A (Pz pos f first (jG pos (eD args env)) []) Q F0 s:=by
 refine callWith_of (P:=fun h=>cx.K.In h) (by erw[qU ns];rfl) (fun h X=>?_) ?_
 ·rcases kf with kf|kf
  ·exact keeps_K kf h X
  ·exact ⟨.machine,.inr (.inl rfl),qW kf⟩
 ·have body:=hl.use (pos:=pos) R H (Q:=fun xs s'=>cx.K.In s'.heap∧aA cx.mo A (call f (first++xs) []) Q F0 s') fun g' s' xs a' H' r'=>⟨O.kIn H'.inv,k g' s' xs a' H' r'⟩
  cases args with
  |nil=>
   unfold evalArgs;show aA _ _ (KN [] >>= _) _ _ _;refine ag (aE body (fun xs s' hq=>ag (aq ?_)) fun a a z=>z);refine aQ ?_;exact ag (aq (ag (aq (aq hq))))
  |cons e es=>
   rw [iJ (ax.mp ns).1] at body ⊢;exact evalArgs_plain body
theorem qT (h:cO es=ac) (hl:es.length<30):((jG pos (eD es env)).all (fun x=>!x.1)&&(PC pos (yD [] env)).all (fun x=>x.1.isSome)
 && decide (es.length+([]:List ox).length+(if ([]:List ox).isEmpty then 0 else 1)<30))=ac:=by
 have a:(jG pos (eD es env)).all (fun x=>!x.1)=ac:=by
  erw[mh h];unfold jG;erw[l4,List.all_map];exact ai.mpr fun b b=>rfl
 have c:decide (es.length+([]:List ox).length+(if ([]:List ox).isEmpty then 0 else 1)<30)=ac:=decide_eq_true (by simpa using hl);erw[a,c];rfl
theorem xM (O:COk cx) (pb:bJ o=ac) (ns:cO args=ac) (few:args.length<30) (cE:(d9.endLine==pos.line)=ac)
 (ho:JE cx n vn env o fr S ov S1) (hl:JL cx n vn env args fr S1 vs S2)
 (k :∀A g s x pl,Room A n→Inv cx g S1.get S1.nx s.heap→VR cx g ov x→∃f first,mF cx f∧
  (∀Q,(∀tk,Q (f,first) {s with toks:=tk})→aA cx.mo A (getMethod x (sT nm) pl) Q F0 s)∧
  (∀g' s' xs,Aft cx g S1 s g' S2 s'→VRs cx g' vs xs→aA cx.mo A (call f (first++xs)) (fun r s''=>∃g'',Aft cx g' S2 s' g'' S3 s''∧VR cx g'' v r) F0 s')):
 JE cx n vn env (.Call (.Attribute o (sT nm) d9) args [] pos) fr S v S3:=fun A g s R H=>by
 erw[(arm_eval_Call ..),(og pb ..)];refine ag (ho.use R H fun g1 s1 x a1 H1 r1=>ag (dP ?_));have hform:methodCallForm (args.length+([]:List ox).length) (jG pos (eD args env)) (PC pos (yD [] env))=ac:=qT ns few;have hpos:sU ac o env d9 pos=cR pos:=by unfold sU;simp [cE]
 unfold methodCall;erw[hform];refine rJ (k A g1 s1 x (do return (← importBound o env).getD ac) R H1.inv r1) fun f first kf hg hc=>?_
 refine ag (aQ (hg _ fun tk=>?_));refine ag (qC hpos ?_);have t1:Aft cx g1 S1 s1 g1 S1 {s1 with toks:=tk}:=.tok H1.inv tk;refine zP O kf ns hl R (H1.after t1) fun g2 s2 xs a2 H2 r2=>?_;have a12:=t1.trans H1.inv a2;exact aE (hc g2 s2 xs a12 r2) (fun r s3 ⟨g3,a3,r3⟩ =>⟨g3,(a1.trans H.inv a12).trans H.inv a3,r3⟩) fun a a z=>z
def JF (cx:Cx) (n:Nat) (f:AV) (vs:List AV) (S:St) (v:AV) (S':St):Prop:=
 ∀A g s x xs,Room A n→Inv cx g S.get S.nx s.heap→VR cx g f x→VRs cx g vs xs→aA cx.mo A (call x xs) (fun r s'=>∃g',Aft cx g S s g' S' s'∧VR cx g' v r) F0 s
def PostF (cx:Cx) (g:Gh) (S:St) (s:av) (v:AV) (S':St):Result→av→Prop:=fun r s'=>match r with|.ok (.ret w)=>∃g',Aft cx g S s g' S' s'∧VR cx g' v w|.ok _=>False|.error e=>F0 e s'
theorem PostF.imp (h:PostF c g S s v S' r s') (q :∀g' w,Aft c g S s g' S' s'→VR c g' v w→∃e',Aft d e T s e' T' s'∧VR d e' u w):PostF d e T s u T' r s':=by
 cases r with
 |error e=>exact h
 |ok fl=>
  cases fl with
  |ret w=>exact ak h fun g' h=>q g' w h.1 h.2
  |_=>exact h
def JFc (cx:Cx) (n:Nat) (f:AV) (vs:List AV) (S:St) (v:AV) (S':St):Prop:=
 ∀A g s x xs,Room A n→Inv cx g S.get S.nx s.heap→VR cx g f x→VRs cx g vs xs→gm cx.mo A (.call x ⟨xs,[]⟩) (PostF cx g S s v S') s
theorem JFc.jf (h:JFc cx n f vs S v S'):JF cx n f vs S v S':=fun A g s x xs R I rx rxs=>wpAny_call (h A g s x xs R I rx rxs)
noncomputable def dS (e:Expr):Bool:=nE 20 e
theorem gH (h:dS e=ac):dm (.Call e args [] pos) env=(dm e env >>= fun f=>Pz pos f [] (jG pos (eD args env)) (PC pos (yD [] env))):=by
 cases e<;>first|rfl|exact ff h
theorem Nr (O:COk cx) (na:dS e=ac) (ns:cO args=ac) (he:JE cx n vn env e fr S f S1) (kf :∀g x,VR cx g f x→mF cx x)
 (hl:JL cx n vn env args fr S1 vs S2) (hc:JF cx n f vs S2 v S3):JE cx n vn env (.Call e args [] pos) fr S v S3:=fun A g s R H=>by
 erw[gH na];refine ag (he.use R H fun g1 s1 x a1 H1 r1=>?_);show aA _ _ (Pz pos x [] (jG pos (eD args env)) []) _ _ _;refine zP O (kf g1 x r1) ns hl R H1 fun g2 s2 xs a2 H2 r2=>?_;exact aE (hc A g2 s2 x xs R H2.inv (r1.mono a2.evo.le) r2) (fun r s3 ⟨g3,a3,r3⟩ =>⟨g3,(a1.trans H.inv a2).trans H.inv a3,r3⟩) fun a a z=>z
theorem HW (O:COk cx) (pb:bJ o=ac) (ns:cO args=ac) (few:args.length<30) (cE:(d9.endLine==pos.line)=ac) (hn:nm<nS)
 (ho:JE cx n vn env o fr S (.loc j) S1) (hj:S1.get j=aa (.inst c fs)) (hf:im nm fs=aj) (C:ClsOk cx c) (M:MethOk cx c nm f) (hl:JL cx n vn env args fr S1 vs S2) (hc:JF cx n (.fn f) (.loc j::vs) S2 v S3):
 JE cx n vn env (.Call (.Attribute o (sT nm) d9) args [] pos) fr S v S3:=by
 refine xM O pb ns few cE ho hl fun A g s x pl R I r=>?_;refine cg (jT r) fun a q700 ra=>?_;subst q700;refine ⟨.ref (fa f),[.ref a],.inl M.keep,fun Q q=>?_,fun g' s' xs a' r'=>hc A g' s' _ _ R a'.evo.inv (.fn f) (.cons (r.mono a'.evo.le) r')⟩;refine Y3 (Bm (I.obj j _ hj)) fun a' dx es m ra' rd hd ha rf nd II=>?_;replace ra':=ra▸ra';cases ra';have lk:=ux (n:=m) hn rf;replace lk:=hf▸lk;exact method_fn (O.kIn I) II C.ga C.gh M.find M.fn (by unfold shadowIn;dsimp only;erw[lk];rfl) (q s.toks)
theorem HZ (O:COk cx) (pb:bJ o=ac) (ns:cO args=ac) (few:args.length<30) (cE:(d9.endLine==pos.line)=ac)
 (ho:JE cx n vn env o fr S (.cls c) S1) (C:ClsOk cx c) (M:MethOk cx c nm f) (hl:JL cx n vn env args fr S1 vs S2) (hc:JF cx n (.fn f) vs S2 v S3):
 JE cx n vn env (.Call (.Attribute o (sT nm) d9) args [] pos) fr S v S3:=by
 refine xM O pb ns few cE ho hl fun A g s x pl R I r=>?_;apply r.vw;exact ⟨.ref (fa f),[],.inl M.keep,fun Q q=>method_cls (O.kIn I) C.tga (cls_value (O.kIn I) C.reads M.own rfl (q (s.toks+1))),fun g' s' xs a' r'=>hc A g' s' _ _ R a'.evo.inv (.fn f) r'⟩
end
theorem rM {α:Type} {ns:List Str} {vs:List α} {x:Str} (h:ns.length=vs.length) (m:x∈ns):∃v,(ns.zip vs).lookup x=aa v:=by
 induction ns generalizing vs with
 |nil=>exact nomatch m
 |cons n ns ih=>cases vs with
  |nil=>exact nomatch h
  |cons v vs=>
   rw [Fv,eF];cases q:x==n with
   |true=>exact ⟨v,rfl⟩
   |false=>exact (aN.mp m).elim (fun e=>absurd e (beq_eq_false_iff_ne.mp q)) fun m=>ih (cq h) m
theorem vU {α:Type}:∀{ns:List Str} {vs:List α},ns.length=vs.length→ns.Nodup→ns.filterMap (fun n=>((ns.zip vs).lookup n).map (n,·))=ns.zip vs:=by
 intro ns
 induction ns with
 |nil=>intro vs _ _;rfl
 |cons n ns ih=>
  intro vs h nd;cases vs with
  |nil=>simp at h
  |cons v vs=>
   rw [ce] at nd;rw [oG,Fv,List.lookup_cons_self];dsimp only [Option.map_some];have h':ns.length=vs.length:=by simpa using h
   have key :∀l:List Str,(∀x∈l,x≠n)→l.filterMap (fun x=>(((n,v)::ns.zip vs).lookup x).map (x,·))=l.filterMap (fun x=>((ns.zip vs).lookup x).map (x,·)):=by
    intro l
    induction l with
    |nil=>intro _;rfl
    |cons y l ih2=>
     intro hl;rw [oG,oG,ih2 fun x hx=>hl x (.tail _ hx)];have:(y==n)=ae:=beq_eq_false_iff_ne.mpr (hl y (.head _));rw [eF,this]
   have this:=key ns fun x hx e=>nd.1 (e▸hx);rw [this,ih h' nd.2]
structure rC (fd:FuncData) (ns:List Str):Prop where
 pos:fd.params.posonlyargs=[]
 args:fd.params.args.map (·.arg)=ns
 var:fd.params.vararg=aj
 kwo:fd.params.kwonlyargs=[]
 kwa:fd.params.kwarg=aj
 dfl:fd.defaults=.none
 nodup:ns.Nodup
theorem Ua {α β γ:Type} {l:List α} {b:β} {f:α→β→Sem (ForInStep β)} {K:β→Sem γ} (e:l=[]):(Fs l b f >>= K)=K b:=by apply dW e;exact nq ..
theorem BK {fd:FuncData} {ns:List Str} {vals:List Value} (P:rC fd ns) (h:ns.length=vals.length):bindArgs fd ⟨vals,[]⟩=cR (ns.zip vals):=by
 obtain ⟨h1,h2,h3,h4,h5,h6,h7⟩:=P;obtain ⟨nm,qn,⟨po,ar,va,ko,kd,kw,df⟩,body,sc,gl,cl,dfl,kdf,doc,md,an,cd,ct,bl⟩:=fd;dsimp only at h1 h2 h3 h4 h5 h6;subst h1 h3 h4 h5 h6 h2;have c1:¬ ((decide (vals.length>(ar.map (·.arg)).length)&&ac)=ac):=by refine h▸?_;simp
 refine yF (if_neg c1) ?_;have hm:(!((List.take ((ar.map (·.arg)).length-(List.drop (0-(ar.map (·.arg)).length) ([]:List Value)).length) (ar.map (·.arg))).filter fun n=>(((ar.map (·.arg)).zip vals).lookup n).isNone).isEmpty)≠ac:=by
  rw [kW,List.filter_eq_nil_iff.mpr fun x hx=>?_]
  ·decide
  ·refine ak (rM h (i_ hx)) fun v hv=>?_;erw[hv];exact nofun
 refine yF (if_neg hm) ?_;refine yF (Ua ((congrArg (List.zip _) (kW (α:=Value))).trans List.zip_nil_right)) ?_;exact congrArg (cR (f:=Sem)) ((congrArg (List.filterMap _) (cf _)).trans (vU h h7))
theorem Evo.freeze {σ:Sto} {nx:Nat} {j d:Nat} {l:List (AV×AV)} {a:Addr} {o:Obj} (I:Inv cx g σ nx h) (e:σ j=aa (.dict ae d l)) (r:g.ρ j=aa a) (ho:h.get? a=aa o):
 Evo cx g σ nx h (g.fzz a o) (vg σ j aj) nx h:=by
 have own:cH g j (.dict ae d l) a:=.inl r;have nf:g.fz a=aj:=(I.off a ⟨j,_,e,own⟩).2;have L:=g.fzz_le (o:=o) nf;have old :∀i ob,vg σ j aj i=aa ob→i≠j∧σ i=aa ob:=fun i ob q=>by
  by_cases z:i=j
  ·subst z;replace q:=(bo ..)▸q;cases q
  ·replace q:=(bA _ _ z)▸q;exact ⟨z,q⟩
 refine ⟨L,⟨I.g0.trans L,I.base,fun b p q=>?_,fun i ob q=>((I.obj i ob (old i ob q).2).mono L),fun i ob i' ob' b q q' o1 o2=>I.sep i ob i' ob' b (old i ob q).2 (old i' ob' q').2 o1 o2,fun i ob b b' q o1 o2=>I.two i ob b b' (old i ob q).2 o1 o2,fun b z=>?_,I.top⟩,
  fun b p q c=>q,fun b z=>?_,fun b z=>?_,fun b z=>?_,fun i z=>?_,fun b z=>z,aY _⟩
 ·by_cases z:b=a
  ·subst z;replace q:=(Gh.fzz_at ..)▸q;cases q;exact ho
  ·exact I.fz b p (by replace q:=(show (g.fzz a o).fz b=g.fz b from if_neg z)▸q;exact q)
 ·refine pT z fun i ob q o1=>?_;refine aK (fun ne q'=>?_) (old i ob q);have o1':cH g i ob b:=o1;refine ⟨(I.off b ⟨i,ob,q',o1'⟩).1,?_⟩;erw[(show (g.fzz a o).fz b=g.fz b from if_neg fun (y:b=a)=>ne (I.sep i ob j _ b q' e o1' (y▸own)))];exact (I.off b ⟨i,ob,q',o1'⟩).2
 ·refine pT z fun i ob q o1=>?_;exact .inl ⟨i,ob,(old i ob q).2,o1⟩
 ·refine rJ z fun i ob q w o1=>?_;exact .inl ⟨i,ob,(old i ob q).2,w,o1⟩
 ·by_cases y:b=a
  ·exact .inr (.inr ⟨j,_,e,rfl,y▸own⟩)
  ·exact .inl (by replace z:=(show (g.fzz a o).fz b=g.fz b from if_neg y)▸z;exact z)
 ·by_cases y:i=j
  ·apply dW y;exact .inl (by erw[e];exact fun q=>nomatch q)
  ·exact .inl (by replace z:=(bA _ _ y)▸z;exact z)
theorem T3 (O:COk cx) (I:Inv cx g S.get S.nx h) (r:VR cx g v x):∃g',Evo cx g S.get S.nx h g' (jh v S).2.get (jh v S).2.nx h∧VR cx g' (jh v S).1 x:=by
 refine Dg (P:=fun p=>∃g',Evo cx g S.get S.nx h g' p.2.get p.2.nx h∧VR cx g' p.1 x) ⟨g,.refl I,r⟩ fun j d l hv e=>?_;replace r:=hv▸r;apply b7 (jT r);intro a ra;refine (I.obj j _ e).vw fun b b b b r' ho xd hd ko dr=>?_;rw [ra] at r';have r':=pM r';subst r';have ev:=Evo.freeze I e ra ho;refine ⟨_,?_,.fd (O.notSys (I.off _ ⟨j,_,e,.inl ra⟩).1) (g.fzz_at a _) xd hd ko (dr.mono ev.le)⟩;rw [St.get_del];exact ev
inductive FlR (cx:Cx) (g:Gh):jk→d_→Prop
 |next:FlR cx g .next .next
 |brk:FlR cx g .brk .brk
 |ret {v x}:VR cx g v x→FlR cx g (.ret v) (.ret x)
theorem FlR.next_el {P:d_→Prop} (h:FlR cx g .next f) (q:P .next):P f:=by cases h;exact q
theorem FlR.brk_el {P:d_→Prop} (h:FlR cx g .brk f) (q:P .brk):P f:=by cases h;exact q
theorem FlR.ret_el {P:d_→Prop} (h:FlR cx g (.ret v) f) (q :∀x,VR cx g v x→P (.ret x)):P f:=by
 cases h with|ret r=>exact q _ r
theorem FlR.mono (L:g.le g') (h:FlR cx g f x):FlR cx g' f x:=by
 cases h with
 |next=>exact .next
 |brk=>exact .brk
 |ret r=>exact .ret (r.mono L)
structure EvX (cx:Cx) (Pl:Addr→Prop) (g:Gh) (σ:Sto) (nx:Nat) (h:Heap) (g':Gh) (σ':Sto) (nx':Nat) (h':Heap):Prop where
 le:g.le g'
 inv:Inv cx g' σ' nx' h'
 keep :∀a o,h.get? a=aa o→¬ Own g σ a→¬ Pl a→h'.get? a=aa o
 fresh :∀a,Oc g' σ' a→Oc g σ a∨h.get? a=aj
 wr :∀a,Own g' σ' a→Own g σ a∨h.get? a=aj
 fzf :∀a,g'.fz a≠aj→g.fz a≠aj∨h.get? a=aj∨Own g σ a
 ids :∀j,σ' j≠aj→σ j≠aj∨nx≤j
 ext :∀a,h.get? a≠aj→h'.get? a≠aj
 nx:nx≤nx'
theorem Evo.x {Pl:Addr→Prop} {σ:Sto} {nx:Nat} {σ':Sto} {nx':Nat} {h':Heap} (e:Evo cx g σ nx h g' σ' nx' h'):EvX cx Pl g σ nx h g' σ' nx' h':=
 ⟨e.le,e.inv,fun a o q w b=>e.keep a o q w,e.fresh,e.wr,e.fzf,e.ids,e.ext,e.nx⟩
theorem EvX.trans {Pl:Addr→Prop} {g g' g'':Gh} {σ σ' σ'':Sto} {nx nx' nx'':Nat} {h h' h'':Heap}
 (x:EvX cx Pl g σ nx h g' σ' nx' h') (y:EvX cx Pl g' σ' nx' h' g'' σ'' nx'' h''):EvX cx Pl g σ nx h g'' σ'' nx'' h'':=by
 have vT :∀a,h'.get? a=aj→h.get? a=aj:=fun a e=>bj fun q=>x.ext a q e;refine ⟨x.le.trans y.le,y.inv,fun a o e w p=>y.keep a o (x.keep a o e w p) (fun w'=>?_) p,fun a w=>?_,fun a w=>?_,fun a w=>?_,fun j e=>?_,fun a e=>y.ext a (x.ext a e),aB x.nx y.nx⟩
 ·rcases x.wr a w' with z|z
  ·exact w z
  ·rw [z] at e;exact no e
 ·rcases y.fresh a w with z|z
  ·exact x.fresh a z
  ·exact .inr (vT a z)
 ·rcases y.wr a w with z|z
  ·exact x.wr a z
  ·exact .inr (vT a z)
 ·rcases y.fzf a w with z|z|z
  ·exact x.fzf a z
  ·exact .inr (.inl (vT a z))
  ·rcases x.wr a z with z|z
   ·exact .inr (.inr z)
   ·exact .inr (.inl z)
 ·rcases y.ids j e with z|z
  ·exact x.ids j z
  ·exact .inr (aB x.nx z)
structure AftX (cx:Cx) (Pl:Addr→Prop) (g:Gh) (S:St) (s:av) (g':Gh) (S':St) (s':av):Prop where
 same :∃h' tk,s' = {s with heap:=h',toks:=tk}
 evo:EvX cx Pl g S.get S.nx s.heap g' S'.get S'.nx s'.heap
theorem Aft.x {Pl:Addr→Prop} (a:Aft cx g S s g' S' s'):AftX cx Pl g S s g' S' s':=⟨a.same,a.evo.x⟩
theorem AftX.trans {Pl:Addr→Prop} (x:AftX cx Pl g S s g' S' s') (y:AftX cx Pl g' S' s' g'' S'' s''):AftX cx Pl g S s g'' S'' s'':=by
 obtain ⟨⟨h1,t1,rfl⟩,e1⟩:=x;obtain ⟨⟨h2,t2,rfl⟩,e2⟩:=y;exact ⟨⟨h2,t2,rfl⟩,e1.trans e2⟩
theorem FSep.evx {Pl:Addr→Prop} (F:FSep cx g σ env h) (x:EvX cx Pl g σ nx h g' σ' nx' h'):FSep cx g' σ' env h':=by
 refine ⟨fun a p=>?_⟩;refine Lm (F.off a p) fun a1 a2 a3 a4=>?_;refine ⟨fun w=>?_,?_,a3,x.ext a a4⟩
 ·rcases x.fresh a w with z|z
  ·exact a1 z
  ·exact a4 z
 ·apply bj;intro q;rcases x.fzf a q with z|z|z
  ·exact z a2
  ·exact a4 z
  ·exact a1 z.oc
def JX (cx:Cx) (n:Nat) (vn:List Nat) (env:Env) (ss:List b8) (fr:Fr) (S:St) (fl:jk) (fr':Fr) (S':St):Prop:=
 ∀A g s,Room A n→Here cx vn env fr g S s→aA cx.mo A (qH ss env) (fun f s'=>∃g',AftX cx (fb env) g S s g' S' s'∧Here cx vn env fr' g' S' s'∧FlR cx g' fl f) F0 s
def J1 (cx:Cx) (n:Nat) (vn:List Nat) (env:Env) (st:b8) (fr:Fr) (S:St) (fl:jk) (fr':Fr) (S':St):Prop:=
 ∀A g s,Room A n→Here cx vn env fr g S s→aA cx.mo A (exec st env) (fun f s'=>∃g',AftX cx (fb env) g S s g' S' s'∧Here cx vn env fr' g' S' s'∧FlR cx g' fl f) F0 s
section
variable {cx:Cx} {n:Nat} {vn:List Nat} {env:Env} {fr dC fr2:Fr} {S S1 S2:St} {v:AV} {fl:jk}
theorem To:JX cx n vn env [] fr S .next fr S:=fun A g s R H=>z7 ⟨g,(Aft.refl H.inv).x,H,.next⟩
theorem Nk {st:b8} {ss:List b8} (h:J1 cx n vn env st fr S .next dC S1) (k:JX cx n vn env ss dC S1 fl fr2 S2):JX cx n vn env (st::ss) fr S fl fr2 S2:=fun A g s R H=>by
 refine wpAny_execs_cons (aE (h A g s R H) (fun f s1 ⟨g1,a1,H1,r1⟩ =>?_) fun a a z=>z)
 first|exact no r1|exact ff r1|cases r1
 exact aE (k A g1 s1 R H1) (fun f s2 ⟨g2,a2,H2,r2⟩ =>⟨g2,a1.trans a2,H2,r2⟩) fun a a z=>z
theorem C8 {st:b8} {ss:List b8} (h:J1 cx n vn env st fr S fl dC S1) (nn:fl≠.next):JX cx n vn env (st::ss) fr S fl dC S1:=fun A g s R H=>by
 refine wpAny_execs_cons (aE (h A g s R H) (fun f s1 ⟨g1,a1,H1,r1⟩ =>?_) fun a a z=>z);cases r1 with
 |next=>exact absurd rfl nn
 |brk=>exact ⟨g1,a1,H1,.brk⟩
 |ret r=>exact ⟨g1,a1,H1,.ret r⟩
end
structure Bnd (B:List (Str×Value)→(Str→Option Value)→Str→Option Value) (U:Str×Value→(Str→Option Value)→Str→Option Value) (c:Str→Prop):Prop where
 h0 :∀m,B [] m=m
 h1 :∀p l m,B (p::l) m=B l (U p m)
 u0 :∀p m x,x≠p.1→U p m x=m x
 u1 :∀p m,c p.1→U p m p.1=aa p.2
theorem X1 (kd:Str→Option NameKind):Bnd (bindL kd) (fun p m=>if kd p.1=aa .local then fun y=>if y=p.1 then aa p.2 else m y else m) fun x=>kd x=aa .local:=
 ⟨fun a=>rfl,fun a a a=>rfl,fun p m x h=>by split;exact if_neg h;rfl,fun p m h=>by rw [if_pos h];exact if_pos rfl⟩
theorem X2 (kd:Str→Option NameKind):Bnd (bindC kd) (fun p m=>if kd p.1=aa .local then m else fun y=>if y=p.1 then aa p.2 else m y) fun x=>kd x≠aa .local:=
 ⟨fun a=>rfl,fun a a a=>rfl,fun p m x h=>by split;rfl;exact if_neg h,fun p m h=>by rw [if_neg h];exact if_pos rfl⟩
theorem Bnd.out {B U c} (b:Bnd B U c):∀{m:Str→Option Value},(∀p∈l,x≠p.1)→B l m x=m x:=by
 induction l with
 |nil=>exact fun a=>congrFun (b.h0 _) x
 |cons p l ih=>exact fun h=>(congrFun (b.h1 ..) x).trans ((ih fun q hq=>h q (.tail _ hq)).trans (b.u0 _ _ _ (h p (.head _))))
theorem sP (n:Nat) (p:Str×NameKind) (r:List (Str×NameKind)) (acc:List (Str×Addr)):cj n (p::r) acc=bif p.2==.cell then cj (n+1) r ((p.1,n)::acc) else cj n r acc:=by
 show (if p.2==.cell then _ else _)=_;cases p.2==.cell<;>rfl
theorem sA {α:Type} {x:Str} {p:Str×α} {l:List (Str×α)} (h:x=p.1∨(l.lookup x).isSome=ac):((p::l).lookup x).isSome=ac:=by
 rw [eF];cases q:x==p.1 with
 |true=>rfl
 |false=>exact h.resolve_left fun e=>absurd ((beq_iff_eq.mpr e).symm.trans q) Bool.noConfusion
theorem UC {x:Str} (names:List (Str×NameKind)):∀{n:Nat} {acc:List (Str×Addr)},(x,cU)∈names∨(acc.lookup x).isSome=ac→((cj n names acc).lookup x).isSome=ac:=by
 induction names with
 |nil=>exact fun h=>h.elim (nomatch ·) id
 |cons q r ih=>
  intro n acc h;rw [sP];cases hk:q.2==.cell with
  |true=>exact ih (h.elim (fun h=>(aN.mp h).elim (fun e=>.inr (sA (.inl (e▸rfl)))) .inl) fun h=>.inr (sA (.inr h)))
  |false=>exact ih (h.imp_left fun h=>(aN.mp h).resolve_left fun e=>nomatch (congrArg (fun z:Str×NameKind=>z.2==.cell) e).trans hk)
theorem gA (n:Nat) (h:(x,cU)∈names):∃c,(cj n names []).lookup x=aa c:=kq.mp (UC names (.inl h))
structure KJ (cx:Cx) (k:Nat) (F:IFun) (vn:List Nat) (fd:FuncData) (body:List b8):Prop where
 at_ :∃o,cx.K.lookup (fa k)=aa o∧o.data=.func fd
 body:fd.body=.stmts body
 code:codeIn cx.K fd.code fd.qualname=ac
 clo:fd.closure=[]
 glob:fd.globals=cn
 blt:fd.builtins=dZ
 kind:fd.scope.kind=.function
 co:fd.scope.isCoroutine=ae
 gen:fd.scope.isGenerator=ae
 par:rC fd ((vn.take F.np).map sT)
 len:vn.length=F.nv
 npv:F.np≤F.nv
 kinds :∀x∈vn,fd.scope.names.lookup (sT x)=aa .local∨fd.scope.names.lookup (sT x)=aa .cell
 inS :∀x∈vn,x<nS
 nodup:vn.Nodup
theorem jq (n:Nat):(d4 n).length=n:=fF rfl (fun a ih=>congrArg bW ih) n
theorem nY :∀{i:Nat} {v:Option AV},bc (d4 n) i=aa v→v=aj:=by
 induction n with
 |zero=>exact fun h=>nomatch h
 |succ n ih=>exact fun {i v}=>i.casesOn (fun h=>(ao h).symm) fun i h=>ih (i:=i) h
theorem Bnd.frame {B U c} (b:Bnd B U c) (r:VRs cx g args xs):∀{vn:List Nat} {i y:Nat} {w:Option AV} {m:Str→Option Value},bc vn i=aa y→bc (dL (iz aa args) (d4 q)) i=aa w→vn.Nodup→(∀y∈vn,y<nS)→c (sT y)→(∀z∈vn,m (sT z)=aj)→
 VO cx g w (B (((vn.take args.length).map sT).zip xs) m (sT y)):=
 VRs.ind (M:=fun args xs=>∀{vn:List Nat} {i y:Nat} {w:Option AV} {m:Str→Option Value},bc vn i=aa y→bc (dL (iz aa args) (d4 q)) i=aa w→vn.Nodup→(∀y∈vn,y<nS)→c (sT y)→(∀z∈vn,m (sT z)=aj)→
  VO cx g w (B (((vn.take args.length).map sT).zip xs) m (sT y)))
 (fun {vn i y w m} h1 h2 _ _ _ hm=>by
  erw[nY h2];exact (congrFun (b.h0 m) _).trans (hm y (er h1)))
 (fun a args x xs rx _ ih {vn i y w m} h1 h2 nd hs hc hm=>by
  cases vn with
  |nil=>exact nomatch h1
  |cons z vn=>
   have nd:=ce.mp nd;have ne :∀z'∈vn,sT z'≠sT z:=fun z' hz e=>nd.1 (mj _ (hs _ (.tail _ hz)) _ (hs _ (.head _)) e▸hz);show VO cx g w (B ((sT z,x)::((vn.take args.length).map sT).zip xs) m (sT y));erw[(b.h1 ..)];cases i with
   |zero=>
    cases h1;cases h2;refine ⟨x,(b.out fun p hp e=>?_).trans (b.u1 (sT y,x) m hc),rx⟩;refine cg (bp.mp (PI hp).1) fun z' hz e'=>?_;exact ne z' (i_ hz) (e'.trans e.symm)
   |succ i=>exact ih (i:=i) h1 h2 nd.2 (fun y hy=>hs y (.tail _ hy)) hc fun z' hz=>(b.u0 (sT z,x) m _ (ne z' hz)).trans (hm z' (.tail _ hz))) args r
theorem rm1 (h:a+2*(n+1)≤900):a+1+2*n≤900:=by omega
theorem rm2 (h:a+20*(n+1)≤9000):a+3+20*n≤9000:=by omega
section
variable {cx:Cx} {n k:Nat} {S:St}
theorem BI (K:KJ cx k F vn fd body) (x:InCallC s (lE fd s.heap.objs.size (fa k)).locals m (lE fd s.heap.objs.size (fa k)).cells cm s₁):
 jw cx vn (lE fd s.heap.objs.size (fa k)):=by
 refine ⟨K.kind,K.glob,K.blt,fun x hx=>?_,K.inS,K.nodup,fun y hy hn=>?_,fun n n' c h h'=>?_,fun n c h=>iF (x.above n c (a6 h))⟩
 ·rcases K.kinds x hx with h|h
  ·exact .inl h
  ·exact .inr (.inl h)
 ·rcases K.kinds y hy with h|h
  ·exact absurd h hn
  ·exact gA _ (a6 h)
 ·exact name_of_addr x.apart (a6 h) (a6 h')
theorem Xp (O:COk cx) (K:KJ cx k F vn fd body) (ha:args.length=F.np)
 (hb :∀L,jw cx vn (lE fd L (fa k))→JX cx n vn (lE fd L (fa k)) body (dL (iz aa args) (d4 (rW F.nv F.np))) S fl fr' S1)
 (hv:Ki F.frz (aa (fl,fr',S1))=aa (v,S2)):JFc cx (n+1) (.fn k) args S v S2:=fun A g s x xs R I rx rxs=>by
 apply rx.vw;refine cg K.at_ fun o ho hd=>?_;have X:=O.kIn I;have hlen:xs.length=F.np:=rxs.length.trans ha;have hnames:((vn.take F.np).map sT).length=xs.length:=by refine au (a9 ..)▸au (List.length_take ..)▸au (hlen ..)▸au (K.len ..)▸?_;exact Q3 K.npv
 have hz :∀p∈((vn.take F.np).map sT).zip xs,∃y∈vn,p.1=sT y:=fun p hp=>by
  refine cg (bp.mp (PI hp).1) fun y hy e=>?_;exact ⟨y,i_ hy,e.symm⟩
 refine codeAny_call_cells (fd:=fd) (body:=body) (binds:=((vn.take F.np).map sT).zip xs) R.depth (X _ _ ho) hd (O.lim.keeps I.base) (codeRec_of X K.code) K.body (BK K.par hnames) K.clo (fun p hp=>?_) (fun s₁ x₁=>?_) K.co K.gen K.kind
 ·refine cg (hz p hp) fun y hy e=>?_;erw[e];rcases K.kinds y hy with h|h
  ·exact .inl h
  ·refine ak (gA (s.heap.objs.size+1) (a6 h)) fun c hc=>?_;exact .inr ⟨h,by erw[hc];rfl⟩
 ·have FO:=BI K x₁;have keep:=x₁.toInCall.keep;have I1:Inv cx g S.get S.nx s₁.heap:=I.grow keep;have off :∀a,fb (lE fd s.heap.objs.size (fa k)) a→s.heap.get? a=aj:=by
   rintro a (rfl|⟨n,hn⟩)
   ·exact a_ _
   ·exact fY (iG (x₁.above n a (a6 hn)))
  have H:Here cx vn (lE fd s.heap.objs.size (fa k)) (dL (iz aa args) (d4 (rW F.nv F.np))) g S s₁:=by
   refine ⟨I1,⟨?_,⟨_,x₁.toInCall.ns,fun i y w hy hw hk=>?_⟩,fun i y w c hy hw hk hc=>?_⟩,⟨fun a p=>⟨fun w=>?_,?_,?_,?_⟩⟩⟩
   ·rw [fM,iL,bf,a9,jq,ha,K.len];exact Fu K.npv
   ·refine ha▸?_;exact (X1 _).frame rxs hy hw K.nodup K.inS hk fun _ _=>rfl
   ·refine ⟨_,x₁.cell _ c hc,?_⟩;refine ha▸?_;exact (X2 _).frame rxs hy hw K.nodup K.inS hk fun _ _=>rfl
   ·refine ak (I.there w) fun oo z=>?_;replace z:=(off a p)▸z;cases z
   ·cases q:g.fz a with
    |none=>rfl
    |some oo=>have:=I.fz a oo q;replace this:=(off a p)▸this;cases this
   ·cases q:cx.h₀.get? a with
    |none=>rfl
    |some oo=>have:=I.base a oo q;replace this:=(off a p)▸this;cases this
   ·rcases p with rfl|⟨n,hn⟩
    ·refine U5 x₁.toInCall.ns fun oL _ _ hL _=>?_;erw[hL];exact fun z=>nomatch z
    ·refine cg (x₁.cell n a hn) fun oc hc _=>?_;erw[hc];exact fun z=>nomatch z
  have Rm:Room (A.deeper (lE fd s.heap.objs.size (fa k))) n:=⟨rm1 R.depth',rm2 R.units',R.handled⟩
  refine aE (hb _ FO _ g s₁ Rm H) (fun f s2 ⟨g2,a2,H2,r2⟩ =>?_) fun _ _ z=>z.elim;refine wh x₁.toInCall.same fun h1 t1 q800=>?_;subst q800;obtain ⟨⟨h2,t2,rfl⟩,e2⟩:=a2;have e02:Evo cx g S.get S.nx s.heap g2 S1.get S1.nx h2:=by
   refine ⟨e2.le,e2.inv,fun a o q w=>e2.keep a o (keep a o q) w fun p=>?_,fun a w=>?_,fun a w=>?_,fun a w=>?_,e2.ids,fun a q=>e2.ext a (j6 keep a q),e2.nx⟩
   ·replace q:=(off a p)▸q;cases q
   ·rcases e2.fresh a w with z|z
    ·exact .inl z
    ·exact .inr (bj fun q=>j6 keep a q z)
   ·rcases e2.wr a w with z|z
    ·exact .inl z
    ·exact .inr (bj fun q=>j6 keep a q z)
   ·rcases e2.fzf a w with z|z|z
    ·exact .inl z
    ·exact .inr (.inl (bj fun q=>j6 keep a q z))
    ·exact .inr (.inr z)
  unfold Ki at hv;cases r2 with
  |next=>cases hv;exact ⟨g2,.of e02,.none⟩
  |brk=>first|exact no hv|exact ff hv|cases hv
  |ret r=>
   rename_i v' x';dsimp only at hv;unfold QU at hv
   split at hv
   ·have hv':=ao hv;refine cg (T3 O e02.inv r) fun g3 e3 r3=>?_;rw [hv'] at e3 r3;exact ⟨g3,.of (e02.trans I e3),r3⟩
   ·first|exact no hv|exact ff hv|cases hv
    exact ⟨g2,.of e02,r⟩
end
structure Priv (cx:Cx) (g:Gh) (σ:Sto) (h:Heap) (W:Addr→Prop):Prop where
 off :∀a,W a→¬ Oc g σ a∧g.fz a=aj∧cx.h₀.get? a=aj∧h.get? a≠aj
section
variable {cx:Cx} {g g' g'':Gh} {σ σ' σ'':Sto} {nx nx' nx'':Nat} {h h' h'':Heap} {env:Env} {W Pl:Addr→Prop}
theorem FSep.priv (F:FSep cx g σ env h):Priv cx g σ h (fb env):=⟨F.off⟩
theorem Priv.sep (F:Priv cx g σ h (fb env)):FSep cx g σ env h:=⟨F.off⟩
theorem Priv.evx (F:Priv cx g σ h W) (x:EvX cx Pl g σ nx h g' σ' nx' h'):Priv cx g' σ' h' W:=by
 refine ⟨fun a p=>?_⟩;refine Lm (F.off a p) fun a1 a2 a3 a4=>?_;refine ⟨fun w=>?_,?_,a3,x.ext a a4⟩
 ·rcases x.fresh a w with z|z
  ·exact a1 z
  ·exact a4 z
 ·apply bj;intro q;rcases x.fzf a q with z|z|z
  ·exact z a2
  ·exact a4 z
  ·exact a1 z.oc
theorem Priv.heap (F:Priv cx g σ h W) (x :∀a,h.get? a≠aj→h'.get? a≠aj):Priv cx g σ h' W:=
 ⟨fun a p=>let ⟨a1,a2,a3,a4⟩:=F.off a p;⟨a1,a2,a3,x a a4⟩⟩
theorem Priv.sub {V:Addr→Prop} (F:Priv cx g σ h W) (k :∀a,V a→W a):Priv cx g σ h V:=⟨fun a p=>F.off a (k a p)⟩
theorem Priv.new (I:Inv cx g σ nx h) (k :∀a,W a→h.get? a=aj∧h'.get? a≠aj):Priv cx g σ h' W:=
 ⟨fun a p=>⟨fun w=>(by refine ak (I.there w) fun o e=>?_;rw [(k a p).1] at e;exact no e),
  (by cases q:g.fz a with
   |none=>rfl
   |some o=>have:=I.fz a o q;rw [(k a p).1] at this;exact no this),
  (by cases q:cx.h₀.get? a with
   |none=>rfl
   |some o=>have:=I.base a o q;rw [(k a p).1] at this;exact no this),(k a p).2⟩⟩
theorem Inv.side (I:Inv cx g σ nx h) (P:Priv cx g σ h W) (k :∀b o,¬ W b→h.get? b=aa o→h'.get? b=aa o):Inv cx g σ nx h':=by
 refine ⟨I.g0,fun b o e=>k b o (fun w=>?_) (I.base b o e),fun a o e=>k a o (fun w=>?_) (I.fz a o e),fun j ob e=>(I.obj j ob e).keep fun a oa o eo=>k a o (fun w=>?_) eo,I.sep,I.two,I.off,I.top⟩
 ·have:=(P.off b w).2.2.1;rw [e] at this;exact yx this
 ·have:=(P.off a w).2.1;rw [e] at this;exact yx this
 ·exact (P.off a w).1 ⟨j,ob,e,oa⟩
theorem EvX.side (x:EvX cx Pl g σ nx h g' σ' nx' h') (P:Priv cx g' σ' h' W) (k :∀b o,¬ W b→h'.get? b=aa o→h''.get? b=aa o) (ext :∀a,h'.get? a≠aj→h''.get? a≠aj)
 (fr :∀a,W a→h.get? a=aj∨Pl a):EvX cx Pl g σ nx h g' σ' nx' h'':=
 ⟨x.le,x.inv.side P k,fun a o e w p=>k a o (fun w'=>by
  rcases fr a w' with z|z
  ·rw [z] at e;exact no e
  ·exact p z) (x.keep a o e w p),x.fresh,x.wr,x.fzf,x.ids,fun a e=>ext a (x.ext a e),x.nx⟩
theorem Evo.side (x:Evo cx g σ nx h g' σ' nx' h') (P:Priv cx g' σ' h' W) (k :∀b o,¬ W b→h'.get? b=aa o→h''.get? b=aa o) (ext :∀a,h'.get? a≠aj→h''.get? a≠aj)
 (fr :∀a,W a→h.get? a=aj):Evo cx g σ nx h g' σ' nx' h'':=
 ⟨x.le,x.inv.side P k,fun a o e w=>k a o (fun w'=>(by rw [fr a w'] at e;exact no e)) (x.keep a o e w),x.fresh,x.wr,x.fzf,x.ids,fun a e=>ext a (x.ext a e),x.nx⟩
theorem EvX.evo (x:EvX cx (fb env) g σ nx h g' σ' nx' h') (n :∀a,fb env a→h.get? a=aj):Evo cx g σ nx h g' σ' nx' h':=
 ⟨x.le,x.inv,fun a o e w=>x.keep a o e w fun p=>(by replace e:=(n a p)▸e;exact no e),x.fresh,x.wr,x.fzf,x.ids,x.ext,x.nx⟩
theorem EvX.refl (I:Inv cx g σ nx h):EvX cx Pl g σ nx h g σ nx h:=(Evo.refl I).x
end
theorem ju {α:Type} {l:List α} {i j:Nat} {x y:α} (h:bc (dT l i x) j=aa y):(i=j∧x=y)∨(i≠j∧bc l j=aa y):=by
 induction l generalizing i j with
 |nil=>exact no h
 |cons a l ih=>cases i with
  |zero=>cases j with
   |zero=>exact .inl ⟨rfl,pM h⟩
   |succ j=>exact .inr ⟨nofun,h⟩
  |succ i=>cases j with
   |zero=>exact .inr ⟨nofun,h⟩
   |succ j=>exact (ih h).elim (fun q=>.inl ⟨congrArg bW q.1,q.2⟩) fun q=>.inr ⟨fun z=>q.1 (cq z),q.2⟩
theorem ug {α:Type} {l:List α} {i:Nat} {x:α}:(dT l i x).length=l.length:=
 aP (motive:=fun l=>∀i,(dT l i x).length=l.length) (fun b=>rfl) (fun a l ih i=>i.casesOn rfl fun i=>congrArg bW (ih i)) l i
theorem y7 {α:Type} {l:List α} {i j:Nat} {x:α} (n:l.Nodup) (h:bc l i=aa x) (h':bc l j=aa x):i=j:=by
 induction l generalizing i j with
 |nil=>exact no h
 |cons a l ih=>
  have n:=ce.mp n;cases i with
  |zero=>cases j with
   |zero=>rfl
   |succ j=>exact absurd (pM h▸er (l:=l) (i:=j) h') n.1
  |succ i=>cases j with
   |zero=>exact absurd (pM h'▸er (l:=l) (i:=i) h) n.1
   |succ j=>exact congrArg bW (ih n.2 h h')
theorem gM {a:Addr} {h h':Heap} (hs:c9 a h h'):∀b o,¬ (b=a)→h.get? b=aa o→h'.get? b=aa o:=fun b o n e=>by erw[hs.2 b n];exact e
section
variable {cx:Cx} {n:Nat} {vn:List Nat} {env:Env} {fr dC fr2:Fr} {S S1 S2:St} {v:AV} {fl:jk}
theorem uz :∀a,(a=env.locals∨(env.kindOf (sT x)≠aa .local∧env.cells.lookup (sT x)=aa a))→fb env a:=fun a z=>z.elim .inl fun q=>.inr ⟨_,q.2⟩
theorem mN {A:b9} {g:Gh} {s:av} {i x:Nat} {y:Value} {E:Value→av→Prop} (F:jw cx vn env) (hx:bc vn i=aa x) (nf:env.kindOf (sT x)≠aa .free) {Pl:Addr→Prop} (hP :∀a,(a=env.locals∨(env.kindOf (sT x)≠aa .local∧env.cells.lookup (sT x)=aa a))→Pl a) (H:Here cx vn env fr g S s) (r:VR cx g v y) {Q:Unit→av→Prop}
 (k :∀s',AftX cx Pl g S s g S s'→Here cx vn env (dT fr i (aa v)) g S s'→Q () s'):aA cx.mo A (storeName env (sT x) y) Q E s:=by
 have hm:=er hx;have hw:(dT fr i (aa v)).length=vn.length:=by erw[ug];exact H.fr.len
 refine cg H.fr.loc fun m hn hl=>?_;have cls:(env.scope.kind==.class||(env.scope.kind==.module&&env.locals != env.globals))=ae:=by erw[F.kind];rfl
 rcases F.kinds x hm with hk|hk|hk
 ·refine wpAny_storeName_local hk hn (fun h' hn' hs=>k _ ?_ ⟨?_,⟨hw,?_,?_⟩,?_⟩) cls
  all_goals have P:Priv cx g S.get s.heap (fun a=>a=env.locals):=H.sep.priv.sub fun a e=>.inl e
  ·exact ⟨⟨h',s.toks+1,rfl⟩,(EvX.refl H.inv).side P (gM hs) (fun a e=>by
    by_cases z:a=env.locals
    ·subst z;refine U5 hn' fun d d d e' d=>?_;erw[e'];exact fun z=>nomatch z
    ·erw[hs.2 a z];exact e) fun a e=>.inr (hP a (.inl e))⟩
  ·exact H.inv.side P (gM hs)
  ·refine ⟨_,hn',fun j y' w e1 e2 e3=>?_⟩;rcases ju e2 with ⟨e,q⟩|⟨e,q⟩
   ·subst e;subst q;replace e1:=hx▸e1;cases e1;exact ⟨y,if_pos rfl,r⟩
   ·have ne:sT y'≠sT x:=fun z=>e (y7 F.nodup hx (mj _ (F.inS _ (er e1)) _ (F.inS _ hm) z▸e1));erw[if_neg ne];exact hl j y' w e1 q e3
  ·intro j y' w c e1 e2 e3 e4;rcases ju e2 with ⟨e,q⟩|⟨e,q⟩
   ·subst e;replace e1:=hx▸e1;cases e1;exact absurd hk e3
   ·refine cg (H.fr.cel j y' w c e1 q e3 e4) fun o hc hv=>?_;exact ⟨o,hc.sameBut hs (F.locCell _ _ e4),hv⟩
  ·exact (H.sep.priv.heap fun a e=>by
    by_cases z:a=env.locals
    ·subst z;refine U5 hn' fun d d d e' d=>?_;erw[e'];exact fun z=>nomatch z
    ·erw[hs.2 a z];exact e).sep
 ·refine ak (F.cells x hm (by erw[hk];decide)) fun c hc=>?_;have hi :∃w,bc fr i=aa w:=by
   have :∀{α β:Type} {l:List α} {l':List β} {i:Nat} {x:α},l'.length=l.length→bc l i=aa x→∃w,bc l' i=aa w:=by
    intro α β l
    induction l with
    |nil=>intro l' i x _ h;cases h
    |cons a l ih=>
     intro l' i x hl h;cases l' with
     |nil=>simp at hl
     |cons b l'=>
      cases i with
      |zero=>exact ⟨b,rfl⟩
      |succ i=>exact ih (l':=l') (i:=i) (by simpa using hl) h
   exact this H.fr.len hx
  refine ak hi fun w0 hi=>?_;refine cg (H.fr.cel i x w0 c hx hi (by erw[hk];decide) hc) fun o hcell d=>?_;refine wpAny_storeName_cell F.kind hk hc hcell fun h' hc' hs=>k _ ?_ ⟨?_,⟨hw,?_,?_⟩,?_⟩
  all_goals have P:Priv cx g S.get s.heap (fun a=>a=c):=H.sep.priv.sub fun a e=>.inr ⟨_,e▸hc⟩
  ·exact ⟨⟨h',s.toks,rfl⟩,(EvX.refl H.inv).side P (gM hs) (fun a e=>by
    by_cases z:a=c
    ·subst z;refine cg hc' fun d e' d=>?_;erw[e'];exact fun z=>nomatch z
    ·erw[hs.2 a z];exact e) fun a e=>.inr (hP a (.inr ⟨by erw[hk];decide,e▸hc⟩))⟩
  ·exact H.inv.side P (gM hs)
  ·refine ⟨m,hn.sameBut hs (yq (F.locCell _ _ hc)),fun j y' w e1 e2 e3=>?_⟩;rcases ju e2 with ⟨e,q⟩|⟨e,q⟩
   ·subst e;replace e1:=hx▸e1;cases e1;replace e3:=hk▸e3;cases e3
   ·exact hl j y' w e1 q e3
  ·intro j y' w c' e1 e2 e3 e4;rcases ju e2 with ⟨e,q⟩|⟨e,q⟩
   ·subst e;subst q;replace e1:=hx▸e1;cases e1;replace e4:=hc▸e4;cases e4;exact ⟨_,hc',y,rfl,r⟩
   ·refine cg (H.fr.cel j y' w c' e1 q e3 e4) fun o hcl hv=>?_;refine ⟨o,hcl.sameBut hs fun z=>?_,hv⟩;subst z;have:=F.cellsInj _ _ _ e4 hc;exact e (y7 F.nodup hx (mj _ (F.inS _ (er e1)) _ (F.inS _ hm) this▸e1))
  ·exact (H.sep.priv.heap fun a e=>by
    by_cases z:a=c
    ·subst z;refine cg hc' fun d e' d=>?_;erw[e'];exact fun z=>nomatch z
    ·erw[hs.2 a z];exact e).sep
 ·exact absurd hk nf
end
noncomputable def cz (e:Expr):Bool:=nE 8 e&&(nE 9 e&&nE 10 e)
theorem iu {e:Expr} {t:Option Expr} {l:Nat} {env:Env} (h:cz e=ac):swapsWith e t l env=cR ae:=by cases e<;>first|rfl|exact ff h
section
variable {cx:Cx} {n:Nat} {vn:List Nat} {env:Env} {fr dC fr2:Fr} {S S1 S2 S3 S4:St} {v:AV} {fl:jk}
theorem ur (F:jw cx vn env):interactive env=ae:=by unfold interactive;erw[F.kind];rfl
theorem Ny {pos} (F:jw cx vn env) (nc:cz e=ac) (h:JE cx n vn env e fr S v S1):J1 cx n vn env (.Expr e pos) fr S .next fr S1:=fun A g s R H=>
 wpAny_Expr_any (h.use R H fun g1 s1 x a1 H1 r1=>⟨g1,a1.x,H1,.next⟩) (ur F) (iu nc)
theorem TK {pos} (h:JE cx n vn env e fr S v S1):J1 cx n vn env (.Return (aa e) pos) fr S (.ret v) fr S1:=fun A g s R H=>
 wpAny_Return_some (h.use R H fun g1 s1 x a1 H1 r1=>⟨g1,a1.x,H1,.ret r1⟩)
theorem Nv {pos}:J1 cx n vn env (.Return aj pos) fr S (.ret .none) fr S:=fun A g s R H=>
 wpAny_Return_none ⟨g,(Aft.refl H.inv).x,H,.ret .none⟩
theorem TM {pos}:J1 cx n vn env (.Break pos) fr S .brk fr S:=fun A g s R H=>wpAny_Break ⟨g,(Aft.refl H.inv).x,H,.brk⟩
theorem JX.use (J:JX cx n vn env ss fr S fl dC S1) (R:Room A n) (H:Here cx vn env fr g S s) {Q:d_→av→Prop}
 (k :∀g' s' f,AftX cx (fb env) g S s g' S1 s'→Here cx vn env dC g' S1 s'→FlR cx g' fl f→Q f s'):aA cx.mo A (qH ss env) Q F0 s:=
 aE (J A g s R H) (fun f s' ⟨g',a,H',r⟩ =>k g' s' f a H' r) fun b b z=>z
theorem QA {pos} (hc:JT cx n vn env c fr S r S1) (ha:r=ac→JX cx n vn env a fr S1 fl fr2 S2) (hb:r=ae→JX cx n vn env b fr S1 fl fr2 S2):J1 cx n vn env (.If c a b pos) fr S fl fr2 S2:=fun A g s R H=>by
 refine wpAny_If (hc.use R H fun g1 s1 a1 H1=>?_);cases r with
 |true=>exact (ha rfl).use R H1 fun g2 s2 f a2 H2 r2=>⟨g2,a1.x.trans a2,H2,r2⟩
 |false=>exact (hb rfl).use R H1 fun g2 s2 f a2 H2 r2=>⟨g2,a1.x.trans a2,H2,r2⟩
theorem TN {pos' pos} (F:jw cx vn env) (hx:bc vn i=aa x) (nf:env.kindOf (sT x)≠aa .free) (nc:cz e=ac) (h:JE cx n vn env e fr S v S1):
 J1 cx n vn env (.Assign [.Name (sT x) pos'] e pos) fr S .next (dT fr i (aa v)) S1:=fun A g s R H=>
 Vl (h.use R H fun g1 s1 y a1 H1 r1=>mN F hx nf uz H1 r1 fun s2 a2 H2=>⟨g1,a1.x.trans a2,H2,.next⟩) (iu nc)
def JI (cx:Cx) (n:Nat) (o i v:AV) (S S':St):Prop:=
 ∀A g s ov iv vv,Room A n→Inv cx g S.get S.nx s.heap→VR cx g o ov→VR cx g i iv→VR cx g v vv→aA cx.mo A (Ae ov iv vv) (fun a s'=>∃g',Aft cx g S s g' S' s') F0 s
theorem NC {pos' pos} (nc:cz e=ac) (h:JE cx n vn env e fr S v S1) (ho:JE cx n vn env o fr S1 ov S2) (hi:JE cx n vn env i fr S2 iv S3) (hs:JI cx n ov iv v S3 S4):
 J1 cx n vn env (.Assign [.Subscript o i pos'] e pos) fr S .next fr S4:=fun A g s R H=>
 wpAny_Assign_Subscript (h.use R H fun g1 s1 y a1 H1 r1=>ho.use R H1 fun g2 s2 z a2 H2 r2=>hi.use R H2 fun g3 s3 u a3 H3 r3=>
  aE (hs A g3 s3 z u y R H3.inv (r2.mono a3.evo.le) r3 ((r1.mono a2.evo.le).mono a3.evo.le)) (fun _ s4 ⟨g4,a4⟩ =>⟨g4,(((a1.trans H.inv a2).trans H.inv a3).trans H.inv a4).x,H3.after a4,.next⟩) fun a a z=>z) (iu nc)
def Yi (cx:Cx) (n:Nat) (o:AV) (nm:Nat) (v:AV) (S S':St):Prop:=
 ∀A g s ov vv,Room A n→Inv cx g S.get S.nx s.heap→VR cx g o ov→VR cx g v vv→aA cx.mo A (setAttr ov (sT nm) vv) (fun a s'=>∃g',Aft cx g S s g' S' s') F0 s
theorem oK {E:Value→av→Prop} {pos' pos} {Q:d_→av→Prop} (nc:cz e=ac)
 (h:aA M A (dm e env) (fun v s₁=>aA M A (dm o env) (fun ov s₂=>aA M A (setAttr ov attr v) (fun a=>Q .next) E s₂) E s₁) E s):
 aA M A (exec (.Assign [.Attribute o attr pos'] e pos) env) Q E s:=by
 have sw:jI [.Attribute o attr pos'] e env=cR aj:=by unfold jI;rfl
 refine wpAny_Assign_stores (aE h (fun v s₁ h₁=>?_) fun a a x=>x) (by simp only [sR,iu nc]) sw;show aA M A (fu [v] (dm o env) >>= fun ov=>l3 pos'.atName >>= fun a=>fu [v,ov] (setAttr ov attr v) >>= fun a=>release [v,ov] []) (fun a=>Q .next) E s₁;refine ag (aQ (aE h₁ (fun ov s₂ h₂=>?_) fun a a x=>x));exact ag (dP (ag (aQ (aE h₂ (fun a s3 h3=>wpAny_release h3) fun a a x=>x))))
theorem ND {pos' pos} (nc:cz e=ac) (h:JE cx n vn env e fr S v S1) (ho:JE cx n vn env o fr S1 ov S2) (hs:Yi cx n ov nm v S2 S3):
 J1 cx n vn env (.Assign [.Attribute o (sT nm) pos'] e pos) fr S .next fr S3:=fun A g s R H=>
 oK nc (h.use R H fun g1 s1 y a1 H1 r1=>ho.use R H1 fun g2 s2 z a2 H2 r2=>
  aE (hs A g2 s2 z y R H2.inv r2 (r1.mono a2.evo.le)) (fun _ s3 ⟨g3,a3⟩ =>⟨g3,((a1.trans H.inv a2).trans H.inv a3).x,H2.after a3,.next⟩) fun a a z=>z)
inductive K_ (cx:Cx) (n:Nat) (vn:List Nat) (env:Env) (c:Expr) (body:List b8) (K:Fr→St→jk→Fr→St→Prop) (fr:Fr) (S:St) (fl:jk) (fr3:Fr) (S3:St):Prop
 |stop:JT cx n vn env c fr S ae S3→fl=.next→fr=fr3→K_ cx n vn env c body K fr S fl fr3 S3
 |next {S1 S2:St} {fr2:Fr}:JT cx n vn env c fr S ac S1→JX cx n vn env body fr S1 .next fr2 S2→K fr2 S2 fl fr3 S3→K_ cx n vn env c body K fr S fl fr3 S3
 |brk {S1:St}:JT cx n vn env c fr S ac S1→JX cx n vn env body fr S1 .brk fr3 S3→fl=.next→K_ cx n vn env c body K fr S fl fr3 S3
 |ret {S1:St} {v:AV}:JT cx n vn env c fr S ac S1→JX cx n vn env body fr S1 (.ret v) fr3 S3→fl=.ret v→K_ cx n vn env c body K fr S fl fr3 S3
def Wh (cx:Cx) (n:Nat) (vn:List Nat) (env:Env) (c:Expr) (body:List b8) (m:Nat):Fr→St→jk→Fr→St→Prop:=fF (fun a a a a a=>False) (fun a ih=>K_ cx n vn env c body ih) m
inductive WhI (cx:Cx) (n:Nat) (vn:List Nat) (env:Env) (c:Expr) (body:List b8) (g0:Gh) (S0:St) (s0:av) (fl:jk) (dC:Fr) (S1:St) (m:Nat) (s:av):Prop
 |mk {g:Gh} {fr:Fr} {S:St}:Wh cx n vn env c body m fr S fl dC S1→Here cx vn env fr g S s→AftX cx (fb env) g0 S0 s0 g S s→WhI cx n vn env c body g0 S0 s0 fl dC S1 m s
theorem Fb {E:Value→av→Prop}:∀x s,F0 x s→E x s:=fun a a z=>z.elim
theorem xh {Q:d_→av→Prop} {E E':Value→av→Prop} {Z:av→Prop} (R:Room A n) (hc:JT cx n vn env c fr S ac S1) (hb:JX cx n vn env body fr S1 fl fr2 S2) (H:Here cx vn env fr g S s)
 (q :∀g2 s2 f,AftX cx (fb env) g S s g2 S2 s2→Here cx vn env fr2 g2 S2 s2→FlR cx g2 fl f→Q f s2):aA cx.mo A (isTrue c env (dm c env)) (fun b s1=>if b=ac then aA cx.mo A (qH body env) Q E s1 else Z s1) E' s:=
 aE (hc.use R H fun g1 s1 a1 H1=>show if ac=ac then aA cx.mo A (qH body env) Q E s1 else Z s1 from (if_pos rfl).mpr (aE (hb.use R H1 fun g2 s2 f a2 H2 r2=>q g2 s2 f (a1.x.trans a2) H2 r2) (fun a a z=>z) Fb)) (fun a a z=>z) Fb
theorem LB {Q:d_→av→Prop} {E E':Value→av→Prop} {Z:av→Prop} (R:Room A n) (hc:JT cx n vn env c fr S ac S1) (hb:JX cx n vn env body fr S1 .next fr2 S2) (H:Here cx vn env fr g S s) (q :∀g2 s2,AftX cx (fb env) g S s g2 S2 s2→Here cx vn env fr2 g2 S2 s2→Q .next s2):
 aA cx.mo A (isTrue c env (dm c env)) (fun b s1=>if b=ac then aA cx.mo A (qH body env) Q E s1 else Z s1) E' s:=xh R hc hb H fun g2 s2 f a H2 r=>r.next_el (P:=fun f=>Q f s2) (q g2 s2 a H2)
theorem Rf {Q:d_→av→Prop} {E E':Value→av→Prop} {Z:av→Prop} (R:Room A n) (hc:JT cx n vn env c fr S ac S1) (hb:JX cx n vn env body fr S1 .brk fr2 S2) (H:Here cx vn env fr g S s) (q :∀g2 s2,AftX cx (fb env) g S s g2 S2 s2→Here cx vn env fr2 g2 S2 s2→Q .brk s2):
 aA cx.mo A (isTrue c env (dm c env)) (fun b s1=>if b=ac then aA cx.mo A (qH body env) Q E s1 else Z s1) E' s:=xh R hc hb H fun g2 s2 f a H2 r=>r.brk_el (P:=fun f=>Q f s2) (q g2 s2 a H2)
theorem Re {Q:d_→av→Prop} {E E':Value→av→Prop} {Z:av→Prop} (R:Room A n) (hc:JT cx n vn env c fr S ac S1) (hb:JX cx n vn env body fr S1 (.ret v) fr2 S2) (H:Here cx vn env fr g S s) (q :∀g2 s2 x,AftX cx (fb env) g S s g2 S2 s2→Here cx vn env fr2 g2 S2 s2→VR cx g2 v x→Q (.ret x) s2):
 aA cx.mo A (isTrue c env (dm c env)) (fun b s1=>if b=ac then aA cx.mo A (qH body env) Q E s1 else Z s1) E' s:=xh R hc hb H fun g2 s2 f a H2 r=>r.ret_el (P:=fun f=>Q f s2) fun x r=>q g2 s2 x a H2 r
theorem C_ {pos} (h:Wh cx n vn env c body k fr S fl dC S1):J1 cx n vn env (.While c body [] pos) fr S fl dC S1:=fun A g0 s0 R H0=>by
 refine wpAny_While (codeAny_whileLoop (WhI cx n vn env c body g0 S s0 fl dC S1) (fun m s I=>?_) k (.mk h H0 (Aft.refl H0.inv).x));refine I.rec fun {g fr S} W H a=>?_;cases m with
 |zero=>exact W.elim
 |succ m=>
  have W:K_ cx n vn env c body (Wh cx n vn env c body m) fr S fl dC S1:=W;refine W.rec (fun hc e e'=>?_) (fun hc hb W'=>?_) (fun hc hb e=>?_) (fun hc hb e=>?_)
  ·exact aE (hc.use R H fun g1 s1 a1 H1=>z7 ⟨g1,a.trans a1.x,e'▸H1,e▸.next⟩) (fun b b z=>z) Fb
  ·exact LB R hc hb H fun g2 s2 a2 H2=>⟨_,a8 _,.mk W' H2 (a.trans a2)⟩
  ·exact Rf R hc hb H fun g2 s2 a2 H2=>⟨g2,a.trans a2,H2,e▸.next⟩
  ·exact Re R hc hb H fun g2 s2 x a2 H2 r=>⟨g2,a.trans a2,H2,e▸.ret r⟩
theorem NW (O:COk cx) (I:Inv cx g S.get S.nx h):∃g',Evo cx g S.get S.nx h g' (jh v S).2.get (jh v S).2.nx h∧∀x,VR cx g v x→VR cx g' (jh v S).1 x:=by
 refine Dg (P:=fun p=>∃g',Evo cx g S.get S.nx h g' p.2.get p.2.nx h∧∀x,VR cx g v x→VR cx g' p.1 x) ⟨g,.refl I,fun a r=>r⟩ fun j d l hv e=>?_;refine (I.obj j _ e).vw fun a a a a ra ho xd hd ko dr=>?_;have ev:=Evo.freeze I e ra ho;refine ⟨g.fzz _ _,by rw [St.get_del];exact ev,fun x r=>?_⟩;replace r:=hv▸r;refine b7 (jT r) fun a' ra'=>?_;rw [ra] at ra';apply gF ra';exact .fd (O.notSys (I.off _ ⟨j,_,e,.inl ra⟩).1) (g.fzz_at _ _) xd hd ko (dr.mono ev.le)
theorem VO.turn {g g':Gh} {v w:AV} {x:Option Value} (k :∀y,VR cx g v y→VR cx g' w y) (h:VO cx g (aa v) x):VO cx g' (aa w) x:=let ⟨y,e,r⟩:=h;⟨y,e,k y r⟩
theorem FR.turn {g g':Gh} {h:Heap} {i:Nat} {w:AV} (F:FR cx g vn env fr h) (hv:bc fr i=aa (aa v)) (L:g.le g') (k :∀y,VR cx g v y→VR cx g' w y):FR cx g' vn env (dT fr i (aa w)) h:=by
 obtain ⟨l,⟨m,hn,hl⟩,hc⟩:=F;refine ⟨by erw[ug];exact l,⟨m,hn,fun j x u e1 e2 e3=>?_⟩,fun j x u c e1 e2 e3 e4=>?_⟩
 ·rcases ju e2 with ⟨e,q⟩|⟨e,q⟩
  ·subst e;subst q;exact (hl i x _ e1 hv e3).turn k
  ·exact (hl j x u e1 q e3).mono L
 ·rcases ju e2 with ⟨e,q⟩|⟨e,q⟩
  ·subst e;subst q;refine cg (hc i x _ c e1 hv e3 e4) fun o ho r=>?_;exact ⟨o,ho,r.turn k⟩
  ·refine cg (hc j x u c e1 q e3 e4) fun o ho r=>?_;exact ⟨o,ho,r.mono L⟩
theorem Tq (O:COk cx) (hv:bc fr i=aa (aa v)) (h:JX cx n vn env ss (dT fr i (aa (jh v S).1)) (jh v S).2 fl dC S1):JX cx n vn env ss fr S fl dC S1:=fun A g s R H=>by
 refine cg (NW (v:=v) O H.inv) fun g' e k=>?_;have a:Aft cx g S s g' (jh v S).2 s:=⟨⟨s.heap,s.toks,rfl⟩,e⟩
 exact h.use R ⟨e.inv,H.fr.turn hv e.le k,H.sep.evo e⟩ fun g2 s2 f a2 H2 r2=>⟨g2,a.x.trans a2,H2,r2⟩
end
theorem pE {i j:Nat} (hi:i<nS) (hj:j<nS):ay i j=decide (sT i=sT j):=by
 by_cases h:i=j
 ·apply Q_ h;erw[(cp ..)];exact (decide_eq_true rfl).symm
 ·have:ay i j=ae:=by
   cases z:ay i j with
   |false=>rfl
   |true=>exact absurd (am z) h
  erw[this];exact (decide_eq_false fun e=>h (mj _ hi _ hj e)).symm
theorem Ef {P:Prop} (h:8=n) (l:n<8):P:=absurd (h▸l) (dK _)
theorem pi {x:AV} {l:List AV} (h:Fn (x::l)=n) (lt:n<8):∃i,x=.int i∧Fn l=n:=by
 cases x with
 |int i=>exact ⟨i,rfl,h⟩
 |_=>exact Ef h lt
theorem pg {x:AV} {l:List AV} (h:Fm (x::l)=n) (lt:n<8):∃i,x=.str i∧Fm l=n:=by
 cases x with
 |str i=>exact ⟨i,rfl,h⟩
 |_=>exact Ef h lt
theorem Eu (l:List AV):Fn l=2∨Fn l=8:=by
 induction l with
 |nil=>exact .inl rfl
 |cons x l ih=>cases x with
  |int i=>exact ih
  |_=>exact .inr rfl
theorem Et (l:List AV):Fm l=3∨Fm l=8:=by
 induction l with
 |nil=>exact .inl rfl
 |cons x l ih=>cases x with
  |str i=>exact ih
  |_=>exact .inr rfl
theorem qm (h:C4 l=n) (lt:n<8):(n=2∧Fn l=2)∨(n=3∧Fm l=3):=by
 cases l with
 |nil=>exact Ef h lt
 |cons x l=>cases x with
  |int i=>exact (Eu l).elim (fun q=>.inl ⟨h.symm.trans q,q⟩) fun q=>Ef (q.symm.trans h) lt
  |str i=>exact (Et l).elim (fun q=>.inr ⟨h.symm.trans q,q⟩) fun q=>Ef (q.symm.trans h) lt
  |_=>exact Ef h lt
theorem HL (h:C4 l=2):Fn l=2:=(qm h (by decide)).elim (·.2) fun q=>absurd q.1 (by decide)
theorem HK (h:C4 l=3):Fm l=3:=(qm h (by decide)).elim (fun q=>absurd q.1 (by decide)) (·.2)
theorem C2 (h:kd v<8):(∃i,v=.str i∧kd v=0)∨(∃i,v=.int i∧kd v=1)∨(∃l,v=.tup l∧kd v=2∧C4 l=2)∨(∃l,v=.tup l∧kd v=3∧C4 l=3):=by
 cases v with
 |str i=>exact .inl ⟨i,rfl,rfl⟩
 |int i=>exact .inr (.inl ⟨i,rfl,rfl⟩)
 |tup l=>exact (qm (l:=l) rfl h).elim (fun q=>.inr (.inr (.inl ⟨l,rfl,q.1,q.1⟩))) fun q=>.inr (.inr (.inr ⟨l,rfl,q.1,q.1⟩))
 |_=>exact absurd (show 8<8 from h) (dK 8)
section
variable {cx:Cx} {g:Gh}
theorem TP (l:List AV):∀{xs:List Value},Fn l=2→VRs cx g l xs→ItemsAre cx.iK (dY l) xs:=by
 induction l with
 |nil=>intro xs _ r;erw[r.nil_inv];exact .nil
 |cons x l ih=>
  intro xs h r;refine cg (pi h (by decide)) fun i e h=>?_;refine r.uncons fun y ys ey a b=>?_;rw [e] at a ⊢;refine ak (de a) fun t et=>?_;erw[ey,et];exact .cons (by show sV i (.int i t)=ac;simp [sV]) (ih h b)
theorem TO (l:List AV):∀{xs:List Value},Fm l=3→VRs cx g l xs→ItemsAre cx.sK (k6 l) xs:=by
 induction l with
 |nil=>intro xs _ r;erw[r.nil_inv];exact .nil
 |cons x l ih=>
  intro xs h r;refine cg (pg h (by decide)) fun i e h=>?_;refine r.uncons fun y ys ey a b=>?_;rw [e] at a ⊢;refine aK (fun c h30=>?_) (iW a);refine ak h30 fun t et=>?_;erw[ey,et];exact .cons (by show cG (sT i) (.str (sT i) t)=ac;simp [cG]) (ih h b)
theorem wI {α:Type} [DecidableEq α] {p q:AV} {l m:List AV} {i j:α} {is js:List α} (h:vS p q=decide (i=j)) (k:Bd l m=decide (is=js)):Bd (p::l) (q::m)=decide (i::is=j::js):=by
 unfold Bd;dsimp only;erw[h]
 by_cases e:i=j
 ·erw[decide_eq_true e,k,e];simp
 ·erw[decide_eq_false e];simp [e]
theorem Xk (l:List AV):∀{m:List AV},Fn l=2→Fn m=2→Bd l m=decide (dY l=dY m):=by
 induction l with
 |nil=>
  intro m _ h;cases m with
  |nil=>rfl
  |cons y m=>refine cg (pi h (by decide)) fun j e a=>?_;erw[e];rfl
 |cons x l ih=>
  intro m h h';refine cg (pi h (by decide)) fun i e h=>?_;erw[e];cases m with
  |nil=>rfl
  |cons y m=>refine cg (pi h' (by decide)) fun j e' h'=>?_;erw[e'];exact wI rfl (ih h h')
theorem Xj (l:List AV):∀{m:List AV} {xs ys:List Value},Fm l=3→Fm m=3→VRs cx g l xs→VRs cx g m ys→Bd l m=decide (k6 l=k6 m):=by
 induction l with
 |nil=>
  intro m xs ys _ h _ _;cases m with
  |nil=>rfl
  |cons y m=>refine cg (pg h (by decide)) fun j e c=>?_;erw[e];rfl
 |cons x l ih=>
  intro m xs ys h h' r r';refine cg (pg h (by decide)) fun i e h=>?_;rw [e] at r ⊢;cases m with
  |nil=>rfl
  |cons y m=>
   refine cg (pg h' (by decide)) fun j e' h'=>?_;rw [e'] at r' ⊢;exact r.uncons fun c c c a b=>r'.uncons fun c c c a' b'=>wI (pE (iW a).1 (iW a').1) (ih h h' b b')
theorem Bj (hf :∀a o,g.fz a=aa o→h.get? a=aa o) (hk:C4 l=2) (r:VR cx g (.tup l) x):∃a,x=.ref a∧IsTupleKey cx.iK h (dY l) a:=by
 apply l8 (ma r);intro a o vs n ha hc hd rs;exact ⟨a,rfl,o,vs,n,hf _ _ ha,hc,hd,TP _ (HL hk) rs⟩
theorem Bi (hf :∀a o,g.fz a=aa o→h.get? a=aa o) (hk:C4 l=3) (r:VR cx g (.tup l) x):∃a,x=.ref a∧IsTupleKey cx.sK h (k6 l) a:=by
 apply l8 (ma r);intro a o vs n ha hc hd rs;exact ⟨a,rfl,o,vs,n,hf _ _ ha,hc,hd,TO _ (HK hk) rs⟩
theorem YL:cx.sK.is (sT i) (.str (sT i) t)=ac:=by show cG (sT i) (.str (sT i) t)=ac;simp [cG]
theorem Zt:cx.iK.is i (.int i t)=ac:=by show sV i (.int i t)=ac;simp [sV]
theorem mq {α:Type} {es:Array α} {f:α→Bool}:es.findIdx? f=es.toList.findIdx? f:=by
 obtain ⟨l⟩:=es;simp
def Zo (v:AV):List Int:=match v with|.tup l=>dY l|_=>[]
def Zn (v:AV):List Str:=match v with|.tup l=>k6 l|_=>[]
def ib (k:AV) (l:List (AV×AV)):Option Nat:=l.findIdx? fun p=>lj p.1 k
theorem xR {E:Value→av→Prop} {Q:Int→av→Prop} (hf :∀a o,g.fz a=aa o→s.heap.get? a=aa o) (hu:A.units<cLine) (hk:kd k<8) (r:VR cx g k x)
 (h :∀tk,Q (khash cx k) {s with toks:=tk}):aA cx.mo A (pyHash x) Q E s:=by
 rcases C2 hk with ⟨i,rfl,_⟩|⟨i,rfl,_⟩|⟨l,rfl,_,hl⟩|⟨l,rfl,_,hl⟩
 ·refine aK (fun b h130=>?_) (iW r);refine ak h130 fun t q1310=>?_;apply dW q1310;exact cx.sK.pyHash (k:=sT i) YL (h _)
 ·refine ak (de r) fun t q1400=>?_;apply dW q1400;exact cx.iK.pyHash (k:=i) Zt (h _)
 ·apply b7 (Bj hf hl r);intro a q;have:=h (s.toks+((dY l).length+1));unfold khash at this;dsimp only at this;rw [if_pos hl] at this;exact (Fo cx.iK).pyHash hu q this
 ·apply b7 (Bi hf hl r);intro a q;have:=h (s.toks+((k6 l).length+1));unfold khash at this;dsimp only at this;rw [if_neg (by rw [hl];decide)] at this;exact (Fo cx.sK).pyHash hu q this
theorem rg (l:List (AV×AV)) (r:DRs cx g l es):(∀p∈l,∀e,VR cx g p.1 e.key→f e=lj p.1 k)→es.findIdx? f=ib k l:=
 DRs.ind (M:=fun l es=>(∀p∈l,∀e,VR cx g p.1 e.key→f e=lj p.1 k)→es.findIdx? f=ib k l) (fun b=>rfl) (fun p l e es a b b b ih h=>by
  have ih:=ih fun p' hp'=>h p' (.tail _ hp');unfold ib at ih ⊢;rw [eM,eM,h p (.head _) e a,ih]) l r
theorem uk {K:Type} [DecidableEq K] {knd:KeyKind cx.prog cx.w K} {key:AV→K} {l:List (AV×AV)} {es:List DictEntry} (r:DRs cx g l es):(∀p∈l,∀x,VR cx g p.1 x→knd.is (key p.1) x=ac∧khash cx p.1=knd.hash (key p.1))→
 ∀e∈es,∃k,knd.is k e.key=ac∧e.hash=knd.hash k:=
 DRs.ind (M:=fun l es=>(∀p∈l,∀x,VR cx g p.1 x→knd.is (key p.1) x=ac∧khash cx p.1=knd.hash (key p.1))→∀e∈es,∃k,knd.is k e.key=ac∧e.hash=knd.hash k) (fun c c he=>(nomatch he)) (fun p l e es a b c c ih h e' he=>
  (aN.mp he).elim (fun q=>⟨key p.1,q▸(h p (.head _) _ a).1,q▸b.trans (h p (.head _) _ a).2⟩) fun he=>ih (fun p' hp'=>h p' (.tail _ hp')) e' he) l r
theorem VH {K:Type} [DecidableEq K] {knd:HeapKind cx.prog cx.w K} {key:AV→K} {h:Heap} {l:List (AV×AV)} {es:List DictEntry} (r:DRs cx g l es):(∀p∈l,∀x,VR cx g p.1 x→∃a,x=.ref a∧knd.is h (key p.1) a∧khash cx p.1=knd.hash (key p.1))→
 ∃xs:List (K×Addr×Value),es=xs.map (entryOfKey knd)∧xs.map (·.1)=l.map (fun p=>key p.1)∧∀x∈xs,knd.is h x.1 x.2.1:=
 DRs.ind (M:=fun l es=>(∀p∈l,∀x,VR cx g p.1 x→∃a,x=.ref a∧knd.is h (key p.1) a∧khash cx p.1=knd.hash (key p.1))→∃xs:List (K×Addr×Value),es=xs.map (entryOfKey knd)∧xs.map (·.1)=l.map (fun p=>key p.1)∧∀x∈xs,knd.is h x.1 x.2.1)
  (fun c=>⟨[],rfl,rfl,fun c h=>nomatch h⟩) (fun p l e es a b c c ih h=>by
   refine lG (ih fun p' hp'=>h p' (.tail _ hp')) fun xs e1 e2 e3=>?_;refine lG (h p (.head _) _ a) fun d hd hi hh=>?_;refine ⟨(key p.1,d,e.val)::xs,?_,?_,fun x hx=>(aN.mp hx).elim (fun q=>q▸hi) (e3 x)⟩
   ·rw [e_,e1];exact congrArg (·::_) (by obtain ⟨hs,ky,vl⟩:=e;exact congrFun (congr (congrArg DictEntry.mk (b.trans hh)) hd) vl)
   ·rw [e_,e_,e2]) l r
theorem wS {K:Type} [DecidableEq K] {knd:HeapKind cx.prog cx.w K} {key:AV→K} {A:b9} {E:Value→av→Prop} {s:av} {d a:Addr} {o:Obj} {es:Array DictEntry} {ep:Nat} {l:List (AV×AV)} {k:AV} {Q:Option Nat→av→Prop} (hu:knd.room A)
 (hkey:knd.is s.heap (key k) a) (hh:khash cx k=knd.hash (key k)) (ho:s.heap.get? d=aa o) (hd:o.data=.dict es ep) (r:DRs cx g l es.toList)
 (hl :∀p∈l,∀x,VR cx g p.1 x→∃a,x=.ref a∧knd.is s.heap (key p.1) a∧khash cx p.1=knd.hash (key p.1))
 (hq :∀p∈l,lj p.1 k=decide (key p.1=key k)) (hp :∀p∈l,∀q∈l,lj p.1 q.1=decide (key p.1=key q.1)) (ko:l.Pairwise fun p q=>lj p.1 q.1=ae) (h:Q (ib k l) s):aA cx.mo A (dictFind d (.ref a) (khash cx k)) Q E s:=by
 refine lG (VH r hl) fun xs e1 e2 e3=>?_;have nd:(l.map fun p=>key p.1).Nodup:=by
  rw [xe,ip];refine List.Pairwise.imp_of_mem (R:=fun p q=>lj p.1 q.1=ae) (fun {p q} hp' hq' e z=>?_) ko;rw [hp p hp' q hq',decide_eq_true z] at e;exact U3 e
 have nd':(xs.map (·.1)).Nodup:=e2▸nd;have at_ :∀j p,xs[j]? = aa (key k,p)→ib k l=aa j:=fun j p hj=>by
  have hj':(xs.map (·.1))[j]? = aa (key k):=by rw [iq,hj];rfl
  rw [e2,iq] at hj';cases hlj:l[j]? with
  |none=>rw [hlj] at hj';exact no hj'
  |some q=>
   rw [hlj] at hj';have hk:key q.1=key k:=ao hj';unfold ib;refine ak (gE.mp hlj) fun hlt hq'=>?_;rw [List.findIdx?_eq_some_iff_getElem];refine ⟨hlt,?_,fun i hi=>?_⟩
   ·rw [hq',hq q (DO hlj)];exact decide_eq_true hk
   ·have hil:i<l.length:=jN hi hlt;rw [hq _ (List.getElem_mem hil)];simp only [decide_eq_true_eq];intro z;have:=(List.pairwise_iff_getElem.mp (xe.mp nd)) i j (by simpa using hil) (by simpa using hlt) hi;apply this;rw [sW,sW,hq',z,hk]
 rw [hh];refine wpAny_dictFind_heap hu hkey ho hd e1 e3 nd' (fun hno=>?_) fun j p hj=>by rw [at_ j p hj] at h;exact h
 have:ib k l=aj:=by
  unfold ib;rw [yu];intro p hp';rw [hq p hp'];refine decide_eq_false fun z=>?_;refine ak (List.mem_iff_getElem?.mp hp') fun j hj=>?_;have hj':(xs.map (·.1))[j]? = aa (key k):=by rw [e2,iq,hj];exact congrArg aa z
  rw [iq] at hj';cases hx:xs[j]? with
  |none=>rw [hx] at hj';exact no hj'
  |some y=>
   obtain ⟨y1,y2⟩:=y;rw [hx] at hj';have:y1=key k:=ao hj';subst this;exact hno j y2 hx
 rw [this] at h;exact h
theorem x2 (r:DRs cx g l es):∀p∈l,∃y,VR cx g p.1 y:=
 DRs.ind (M:=fun l b=>∀p∈l,∃y,VR cx g p.1 y) (fun b h=>(nomatch h)) (fun b b b b a b b b ih b hp=>(aN.mp hp).elim (fun q=>⟨_,q▸a⟩) (ih _)) l r
theorem kD (h:pe d k=ac):kd k<8∧(d=9∨kd k=d):=by
 unfold pe at h;cases q:ay d 9 with
 |true=>rw [q] at h;exact ⟨of_decide_eq_true (by simpa [aG] using h),.inl (am q)⟩
 |false=>
  rw [q] at h;dsimp only at h
  split at h
  ·rename_i e;have e':=am e;exact ⟨by rw [e'];simpa [aG] using h,.inr e'⟩
  ·exact ff h
theorem C3 {P:Prop} (h:kd v=n) (lt:n<8) (s :∀i,v=.str i→n=0→P) (i :∀i,v=.int i→n=1→P) (t :∀m,v=.tup m→n=C4 m→n=2∨n=3→P):P:=by
 rcases C2 (v:=v) (h▸lt) with ⟨k,e,q⟩|⟨k,e,q⟩|⟨m,e,q,z⟩|⟨m,e,q,z⟩
 ·exact s k e (h.symm.trans q)
 ·exact i k e (h.symm.trans q)
 ·exact t m e (h.symm.trans (q.trans z.symm)) (.inl (h.symm.trans q))
 ·exact t m e (h.symm.trans (q.trans z.symm)) (.inr (h.symm.trans q))
theorem C6 (h:kd v=0):∃i,v=.str i:=C3 h (by decide) (fun i e a=>⟨i,e⟩) (fun a a z=>absurd z (by decide)) fun a a a z=>absurd z (by decide)
theorem C5 (h:kd v=1):∃i,v=.int i:=C3 h (by decide) (fun a a z=>absurd z (by decide)) (fun i e a=>⟨i,e⟩) fun a a a z=>absurd z (by decide)
theorem Nh (h:kd v=2):∃m,v=.tup m∧C4 m=2:=C3 h (by decide) (fun a a z=>absurd z (by decide)) (fun a a z=>absurd z (by decide)) fun m e z a=>⟨m,e,z.symm⟩
theorem Ng (h:kd v=3):∃m,v=.tup m∧C4 m=3:=C3 h (by decide) (fun a a z=>absurd z (by decide)) (fun a a z=>absurd z (by decide)) fun m e z a=>⟨m,e,z.symm⟩
theorem xV {A:b9} {E:Value→av→Prop} {s:av} {da:Addr} {o:Obj} {es:Array DictEntry} {ep d:Nat} {l:List (AV×AV)} {k:AV} {x:Value} {Q:Option Nat→av→Prop} (hf :∀a o,g.fz a=aa o→s.heap.get? a=aa o) (hu:A.units<cLine)
 (hk:pe d k=ac) (ko:yg d l) (rk:VR cx g k x) (ho:s.heap.get? da=aa o) (hd:o.data=.dict es ep) (r:DRs cx g l es.toList) (h:Q (ib k l) s):aA cx.mo A (dictFind da x (khash cx k)) Q E s:=by
 refine aK (fun k8 kd9=>?_) (kD hk);have same :∀p∈l,kd p.1=kd k:=fun p hp=>by
  refine aK (fun e lt=>?_) (ko.1 p hp);rcases kd9 with z|z
  ·subst z;exact absurd lt (by decide)
  ·exact e.trans z.symm
 rcases C2 k8 with ⟨i,rfl,k0⟩|⟨i,rfl,k0⟩|⟨m,rfl,k0,hm⟩|⟨m,rfl,k0,hm⟩
 ·refine aK (fun hi h260=>?_) (iW rk);refine ak h260 fun t q2610=>?_;apply dW q2610;refine Vk (knd:=cx.sK) (k:=sT i) YL ho hd (fun e he=>?_) ?_
  ·refine uk (knd:=cx.sK) (key:=fun v=>match v with|.str j=>sT j|_=>⟨#[]⟩) r (fun p hp y ry=>?_) e (cD.mpr he);refine ak (C6 ((same p hp).trans k0)) fun j ej=>?_;rw [ej] at ry ⊢;refine aK (fun c h280=>?_) (iW ry);refine ak h280 fun t' q2810=>?_;apply dW q2810;exact ⟨YL,rfl⟩
  ·rw [mq,rg (k:=.str i) _ r fun p hp e re=>?_]
   ·exact h
   ·refine ak (C6 ((same p hp).trans k0)) fun j ej=>?_;rw [ej] at re ⊢;refine aK (fun hj h300=>?_) (iW re);refine ak h300 fun t' e'=>?_;rw [e'];show (sT j==sT i)=ay j i;rw [pE hj hi];rfl
 ·refine ak (de rk) fun t q3100=>?_;apply dW q3100;refine Vk (knd:=cx.iK) (k:=i) Zt ho hd (fun e he=>?_) ?_
  ·refine uk (knd:=cx.iK) (key:=fun v=>match v with|.int j=>j|_=>0) r (fun p hp y ry=>?_) e (cD.mpr he);refine ak (C5 ((same p hp).trans k0)) fun j ej=>?_;rw [ej] at ry ⊢;refine ak (de ry) fun t' q3300=>?_;apply dW q3300;exact ⟨Zt,rfl⟩
  ·rw [mq,rg (k:=.int i) _ r fun p hp e re=>?_]
   ·exact h
   ·refine ak (C5 ((same p hp).trans k0)) fun j ej=>?_;rw [ej] at re ⊢;refine ak (de re) fun t' e'=>?_;rw [e'];show (j==i)=decide (j=i);rfl
 ·apply b7 (Bj hf hm rk);intro a q;have at_ :∀p∈l,∃m',p.1=.tup m'∧C4 m'=2:=fun p hp=>Nh ((same p hp).trans k0);refine wS (knd:=Fo cx.iK) (key:=Zo) hu q ?_ ho hd r (fun p hp y ry=>?_) (fun p hp=>?_) (fun p hp q hq=>?_) ko.2 h
  ·unfold khash;dsimp only;rw [if_pos hm];rfl
  ·refine cg (at_ p hp) fun m' em km=>?_;rw [em] at ry ⊢;apply b7 (Bj hf km ry);intro b qb;exact ⟨b,rfl,qb,by unfold khash;dsimp only;rw [if_pos km];rfl⟩
  ·refine cg (at_ p hp) fun m' em km=>?_;rw [em];exact Xk _ (HL km) (HL hm)
  ·refine cg (at_ p hp) fun m' em km=>?_;refine cg (at_ q hq) fun m'' em' km'=>?_;rw [em,em'];exact Xk _ (HL km) (HL km')
 ·apply b7 (Bi hf hm rk);intro a q;have at_ :∀p∈l,∃m',p.1=.tup m'∧C4 m'=3:=fun p hp=>Ng ((same p hp).trans k0);refine U4 (ma rk) fun c c c c c c c c rm=>?_;refine wS (knd:=Fo cx.sK) (key:=Zn) hu q ?_ ho hd r (fun p hp y ry=>?_) (fun p hp=>?_) (fun p hp q hq=>?_) ko.2 h
  ·unfold khash;dsimp only;rw [if_neg (by rw [hm];decide)];rfl
  ·refine cg (at_ p hp) fun m' em km=>?_;rw [em] at ry ⊢;apply b7 (Bi hf km ry);intro b qb;exact ⟨b,rfl,qb,by unfold khash;dsimp only;rw [if_neg (by rw [km];decide)];rfl⟩
  ·refine cg (at_ p hp) fun m' em km=>?_;refine ak (x2 r p hp) fun y ry=>?_;rw [em] at ry ⊢;refine U4 (ma ry) fun c c c c c c c c rm'=>?_;exact Xj _ (HK km) (HK hm) rm' rm
  ·refine cg (at_ p hp) fun m' em km=>?_;refine cg (at_ q hq) fun m'' em' km'=>?_;refine ak (x2 r p hp) fun y ry=>?_;refine ak (x2 r q hq) fun y' ry'=>?_;rw [em] at ry ⊢;rw [em'] at ry' ⊢;refine U4 (ma ry) fun c c c c c c c c rm'=>?_;refine U4 (ma ry') fun c c c c c c c c rm''=>?_;exact Xj _ (HK km) (HK km') rm' rm''
end
section
variable {cx:Cx} {g:Gh}
section
variable {k v:AV} {p:AV×AV} {l:List (AV×AV)}
theorem BC (q:lj p.1 k=ac):ib k (p::l)=aa 0:=eM.trans (if_pos q)
theorem x5 (q:lj p.1 k=ae):ib k (p::l)=(ib k l).map (·+1):=eM.trans (if_neg (ne_true_of_eq_false q))
theorem qr {P:Prop} (h:ib k (p::l)=aa j) (h0:lj p.1 k=ac→j=0→P) (h1 :∀i,lj p.1 k=ae→ib k l=aa i→j=i+1→P):P:=by
 cases q:lj p.1 k with
 |true=>exact h0 q (ao (h.symm.trans (BC q)))
 |false=>refine cg (yE.mp ((x5 q).symm.trans h)) fun i a b=>?_;exact h1 i q a b.symm
theorem my (h:ib k (p::l)=aj):lj p.1 k=ae∧ib k l=aj:=by
 cases q:lj p.1 k with
 |true=>exact nomatch (BC q).symm.trans h
 |false=>exact ⟨rfl,Option.map_eq_none_iff.mp ((x5 q).symm.trans h)⟩
end
theorem zC (r:DRs cx g l es):∀{P:Prop},(∀j v e,ib k l=aa j→es[j]? = aa e→bD k l=aa v→VR cx g v e.val→P)→(ib k l=aj→bD k l=aj→P)→P:=
 DRs.ind (M:=fun l es=>∀{P:Prop},(∀j v e,ib k l=aa j→es[j]? = aa e→bD k l=aa v→VR cx g v e.val→P)→(ib k l=aj→bD k l=aj→P)→P) (fun h hn=>hn rfl rfl) (fun p l e es h h c h ih P hs hn=>by
  cases q:lj p.1 k with
  |true=>exact hs 0 p.2 e (BC q) rfl (sM q) c
  |false=>exact ih (fun j v e a b f d=>hs (j+1) v e ((x5 q).trans (congrArg (oE (·+1)) a)) b ((px q).trans f) d) fun a b=>hn ((x5 q).trans (congrArg (oE (·+1)) a)) ((px q).trans b)) l r
theorem GR (rv:VR cx g v y) (r:DRs cx g l es):∀{j:Nat},ib k l=aa j→DRs cx g (lz k v l) (es.modify j fun e=>{e with val:=y}):=
 DRs.ind (M:=fun l es=>∀{j:Nat},ib k l=aa j→DRs cx g (lz k v l) (es.modify j fun e=>{e with val:=y})) (fun h=>nomatch h) (fun p l e es a b c r ih j h=>
  qr h (fun q z=>by erw[z,BA q];exact .cons a b rv r) fun i q z z'=>by erw[z',uE q];exact .cons a b c (ih z)) l r
theorem yW:ib k l=aj→lz k v l=l++[(k,v)]:=by
 induction l with
 |nil=>exact fun a=>rfl
 |cons p l ih=>exact fun h=>(uE (my h).1).trans (congrArg (p::·) (ih (my h).2))
theorem DRs.append (h:DRs cx g l xs) (r:DRs cx g m ys):DRs cx g (l++m) (xs++ys):=
 DRs.ind (M:=fun l xs=>DRs cx g (l++m) (xs++ys)) r (fun d d d d a b c d ih=>.cons a b c ih) l h
theorem Jv (r:DRs cx g l es):∀{j:Nat},ib k l=aa j→DRs cx g (vX k l) (es.eraseIdx j):=
 DRs.ind (M:=fun l es=>∀{j:Nat},ib k l=aa j→DRs cx g (vX k l) (es.eraseIdx j)) (fun h=>nomatch h) (fun p l e es a b c r ih j h=>
  qr h (fun q z=>by erw[z,Jx q];exact r) fun i q z z'=>by erw[z',Jz q];exact .cons a b c (ih z)) l r
theorem EW (h:ib k l=aj):∀p∈l,lj p.1 k=ae:=by
 intro p hp;have:=yu.mp h p hp
 simpa using this
theorem mW:l.length≤(lz k v l).length:=by
 induction l with
 |nil=>exact a7 _
 |cons p l ih=>
  cases q:lj p.1 k with
  |true=>rw [BA q];exact aY _
  |false=>rw [uE q];exact gC ih
theorem ET :∀{j:Nat},ib k l=aa j→(lz k v l).map (·.1)=l.map (·.1):=by
 induction l with
 |nil=>exact fun h=>nomatch h
 |cons p l ih=>exact fun h=>qr h (fun q a=>by erw[BA q];rfl) fun i q z a=>by erw[uE q];exact congrArg (p.1::·) (ih z)
theorem KI (e:l'.map (·.1)=l.map (·.1)) (h:yg d l):yg d l':=by
 refine aK (fun h1 h2=>?_) h;refine ⟨fun p hp=>?_,?_⟩
 ·have:p.1∈l.map (·.1):=e▸jH hp;refine cg (bp.mp this) fun q hq e'=>?_;refine e'▸?_;exact h1 q hq
 ·have a:(l.map (·.1)).Pairwise fun x y=>lj x y=ae:=ip.mpr h2;replace a:=au e▸a;exact ip.mp a
theorem DI (hk:pe d k=ac) (h:yg d l):yg (kd k) (lz k v l):=by
 refine aK (fun k8 kd9=>?_) (kD hk);cases z:ib k l with
 |some j=>
  have e:d=kd k:=by
   rcases kd9 with q|q
   ·cases l with
    |nil=>exact no z
    |cons p l=>refine aK (fun c b=>?_) (h.1 p (.head _));replace b:=q▸b;exact absurd b (by decide)
   ·exact q.symm
  exact e▸KI (ET z) h
 |none=>
  erw[yW z];refine ⟨fun p hp=>?_,?_⟩
  ·rcases d3.mp hp with hp|hp
   ·refine aK (fun a b=>?_) (h.1 p hp);rcases kd9 with q|q
    ·replace b:=q▸b;exact absurd b (by decide)
    ·exact ⟨a.trans q.symm,k8⟩
   ·erw[aS.mp hp];exact ⟨rfl,k8⟩
  ·rw [List.pairwise_append];refine ⟨h.2,List.pairwise_singleton ..,fun p hp q hq=>?_⟩;erw[aS.mp hq];exact EW z p hp
theorem Jy:(vX k l).Sublist l:=by
 induction l with
 |nil=>exact .slnil
 |cons p l ih=>
  cases q:lj p.1 k with
  |true=>exact Jx q▸List.sublist_cons_self ..
  |false=>exact Jz q▸ih.cons_cons p
theorem Pv (e:l'.Sublist l) (h:yg d l):yg d l':=⟨fun p hp=>h.1 p (e.subset hp),h.2.sublist e⟩
structure DAt (cx:Cx) (g:Gh) (h:Heap) (a:Addr) (d:Nat) (l:List (AV×AV)):Prop where
 ok :∃o es n,h.get? a=aa o∧o.ExactDict∧o.data=.dict es n∧DRs cx g l es.toList
 ko:yg d l
 ns:(a==di)=ae
theorem iM {S:St} (O:COk cx) (I:Inv cx g S.get S.nx h) (e:S.get j=aa (.dict ro d l)) (r:VR cx g (.loc j) x):∃a,x=.ref a∧g.ρ j=aa a∧DAt cx g h a d l:=by
 apply b7 (jT r);intro a ra;refine (I.obj j _ e).vw fun b b b b r' ho xd hd ko dr=>?_;replace r':=ra▸r';cases r';exact ⟨a,rfl,ra,⟨_,_,_,ho,xd,hd,dr⟩,ko,O.notSys (I.off _ ⟨j,_,e,.inl ra⟩).1⟩
theorem iY {S:St} (O:COk cx) (I:Inv cx g S.get S.nx h) (e:ew S v=aa (d,l)) (r:VR cx g v x):∃a,x=.ref a∧DAt cx g h a d l:=
 EU e (fun z=>s7 (z▸r) fun a o es n e z f xd hd ko dr=>⟨a,e,⟨_,_,_,I.fz _ _ f,xd,hd,dr⟩,ko,z⟩) fun j ro z q=>let ⟨a,e,_,D⟩:=iM O I q (z▸r);⟨a,e,D⟩
theorem DAt.typeIs {s:av} (D:DAt cx g s.heap a d l):s.TypeIs (.ref a) "dict":=let ⟨o,_,_,ho,x,_,_⟩:=D.ok;⟨o,ho,x.1⟩
theorem DAt.noDict {s:av} (D:DAt cx g s.heap a d l):∀b,cY a=.ref b→∃o,s.heap.get? b=aa o∧o.dict=aj:=fun b e=>let ⟨o,_,_,ho,x,_,_⟩:=D.ok;⟨o,Ft e▸ho,x.2.1⟩
variable {A:b9} {E:Value→av→Prop} {s:av} {a:Addr} {d:Nat} {l:List (AV×AV)} {k v:AV} {x y:Value}
theorem sL {Q:Option Value→av→Prop} (hf :∀a o,g.fz a=aa o→s.heap.get? a=aa o) (hu:A.units<cLine) (hk:pe d k=ac) (rk:VR cx g k x) (D:DAt cx g s.heap a d l)
 (hs :∀v y tk,bD k l=aa v→VR cx g v y→Q (aa y) {s with toks:=tk}) (hn :∀tk,bD k l=aj→Q aj {s with toks:=tk}):aA cx.mo A (Ag a x) Q E s:=by
 obtain ⟨⟨o,es,n,ho,xd,hd,dr⟩,ko,ns⟩:=D;unfold Ag;refine aQ (ag (xR hf hu (kD hk).1 rk fun tk=>ag (xV (s:={s with toks:=tk}) hf hu hk ko rk ho hd dr ?_)));refine zC (k:=k) dr (fun j v e q h1 h2 h3=>?_) fun q f=>q▸aq (hn tk f)
 ·erw[q];refine ag (gi (s:={s with toks:=tk}) ho hd (aq ?_));have:es[j]? = aa e:=by refine bu▸?_;exact h1
  erw[this];exact hs v e.val tk h2 h3
theorem sJ {Q:Unit→av→Prop} (hf :∀a o,g.fz a=aa o→s.heap.get? a=aa o) (hu:A.units<cLine) (hk:pe d k=ac) (rk:VR cx g k x) (rv:VR cx g v y) (D:DAt cx g s.heap a d l) (hz:l.length≤1000)
 (h :∀h' tk,c9 a s.heap h'→DAt cx g h' a (kd k) (lz k v l)→Q () {s with heap:=h',toks:=tk}):aA cx.mo A (Af a x y) Q E s:=by
 obtain ⟨⟨o,es,n,ho,xd,hd,dr⟩,ko,ns⟩:=D;unfold Af;refine aQ (ag (xR hf hu (kD hk).1 rk fun tk=>?_));unfold dictSetHashed;refine aQ (ag (xV (s:={s with toks:=tk}) hf hu hk ko rk ho hd dr ?_));have hsz:es.size=l.length:=by rw [← dr.length];simp
 cases q:ib k l with
 |none=>
  dsimp only;refine ag (eG (Pw (s:={s with toks:=tk}) (hz:=by have:=mT hz;omega) ho hd (h _ tk (bT ..) ⟨⟨_,_,_,dN _ ho (pK (jl hd _)),xd.mapDictKeys _,jl hd _,?_⟩,DI hk ko,ns⟩)));rw [yW q,qL];exact dr.append (.cons rk rfl rv .nil)
 |some j=>
  dsimp only;refine ag (eG (ag (wpAny_updateDict (s:={s with toks:=tk}) ho hd (wpAny_point (h _ tk (bT ..) ⟨⟨_,_,_,dN _ ho (pK (PE hd _)),xd.mapDict _,PE hd _,?_⟩,DI hk ko,ns⟩)))));have:=GR rv dr q;obtain ⟨L⟩:=es
  simpa using this
end
theorem Room.u (h:Room A n) (k:Nat) (hk:k≤100):A.units+k<cLine:=by have:=h.units';show A.units+k<9900;omega
theorem Room.u1 (h:Room A n):A.in1.units<cLine:=h.u 1 (by omega)
theorem Room.u2 (h:Room A n):A.in1.in1.units<cLine:=by have:=h.units';show A.units+1+1<9900;omega
section
variable {cx:Cx} {g:Gh} {n:Nat} {S:St} {h h':Heap}
theorem uC (hs:c9 a h h') (e:h'.get? a≠aj):∀b,h.get? b≠aj→h'.get? b≠aj:=fun b q=>by
 by_cases z:b=a
 ·apply dW z;exact e
 ·erw[hs.2 b z];exact q
theorem t8 (I:Inv cx g S.get S.nx h) (e:S.get j=aa (.dict ae d l)) (ra:g.ρ j=aa a) (hs:c9 a h h') (D:DAt cx g h' a d' l'):
 Evo cx g S.get S.nx h g (S.put j (.dict ae d' l')).get (S.put j (.dict ae d' l')).nx h':=by
 refine Ra D.ok fun o es m ho xd hd dr=>?_;erw[(St.get_put ..),(St.nx_put ..)];refine Evo.set I e rfl (fun b=>⟨fun z=>?_,fun z=>?_⟩) (fun b o' nb eb=>?_) (uC hs (by erw[ho];exact fun z=>nomatch z)) (.dict ra ho xd hd D.ko dr)
 ·rcases z with z|⟨⟨_,_,z⟩,_⟩
  ·exact .inl z
  ·first|exact no z|exact ff z|cases z
 ·rcases z with z|⟨⟨_,_,z⟩,_⟩
  ·exact .inl z
  ·first|exact no z|exact ff z|cases z
 ·erw[hs.2 b fun z=>nb (.inl (z▸ra))];exact eb
theorem oY (I:Inv cx g S.get S.nx h) (e:S.get j=aa (.list ae p l q)) (ra:g.ρ j=aa a) (hs:c9 a h h')
 (ho:h'.get? a=aa {cls:=.type "list",data:=.seq vs m}) (hv:vs.toList=fo cx p'++mid++fo cx q') (r:VRs cx g l' mid):
 Evo cx g S.get S.nx h g (S.put j (.list ae p' l' q')).get (S.put j (.list ae p' l' q')).nx h':=by
 erw[(St.get_put ..),(St.nx_put ..)];refine Evo.set I e rfl (fun b=>⟨fun z=>?_,fun z=>?_⟩) (fun b o' nb eb=>?_) (uC hs (by erw[ho];exact fun z=>nomatch z)) (.list ra ho hv r)
 ·rcases z with z|⟨⟨_,_,z⟩,_⟩
  ·exact .inl z
  ·first|exact no z|exact ff z|cases z
 ·rcases z with z|⟨⟨_,_,z⟩,_⟩
  ·exact .inl z
  ·first|exact no z|exact ff z|cases z
 ·erw[hs.2 b fun z=>nb (.inl (z▸ra))];exact eb
variable {A:b9} {s:av} {a:Addr} {d:Nat} {l:List (AV×AV)} {k v:AV} {x y:Value}
theorem xT {Q:Value→av→Prop} (hf :∀a o,g.fz a=aa o→s.heap.get? a=aa o) (R:Room A n) (hk:pe d k=ac) (rk:VR cx g k x) (D:DAt cx g s.heap a d l) (hv:bD k l=aa v)
 (q :∀y tk,VR cx g v y→Q y {s with toks:=tk}):aA cx.mo A (wa (.ref a) x) Q F0 s:=by
 unfold wa;refine aQ (ag (v6 D.typeIs (by decide) ?_));refine ag (eV (name:=iE "__getitem__") D.typeIs v9
  (bR v9 D.typeIs entry_dict_getitem ?_ (args_dict_getitem _ _)))
 show aA _ _ (Ag a x >>= _) _ _ s;refine ag (sL hf R.u1 hk rk D (fun v' y tk e r=>?_) fun tk e=>?_)
 ·rw [hv] at e;cases e;exact aq ⟨y,rfl,aq (q y tk r)⟩
 ·rw [hv] at e;exact yx e
theorem xy {Q:Unit→av→Prop} (hf :∀a o,g.fz a=aa o→s.heap.get? a=aa o) (R:Room A n) (hk:pe d k=ac) (rk:VR cx g k x) (rv:VR cx g v y) (D:DAt cx g s.heap a d l) (hz:l.length≤1000)
 (q :∀h' tk,c9 a s.heap h'→DAt cx g h' a (kd k) (lz k v l)→Q () {s with heap:=h',toks:=tk}):aA cx.mo A (Ae (.ref a) x y) Q F0 s:=by
 unfold Ae;refine aQ (ag (v6 D.typeIs (by decide) ?_));refine ag (eV (name:=iE "__setitem__") D.typeIs Vo
  (bR Vo D.typeIs entry_dict_setitem ?_ (args_dict_setitem _ _ _)))
 show aA _ _ (Builtin.Dict.notOrdered "__setitem__" ⟨[.ref a,x,y],[]⟩ >>= _) _ _ s;refine ag (d5 D.typeIs ?_);show aA _ _ (Af a x y >>= _) _ _ s;exact ag (sJ hf R.u1 hk rk rv D hz fun h' tk hs D'=>aq ⟨.none,rfl,aq (q h' tk hs D')⟩)
theorem nI {Q:Bool→av→Prop} (hf :∀a o,g.fz a=aa o→s.heap.get? a=aa o) (R:Room A n) (hk:pe d k=ac) (rk:VR cx g k x) (D:DAt cx g s.heap a d l)
 (q :∀tk,Q (match bD k l with|some _=>ac|none=>ae) {s with toks:=tk}):aA cx.mo A (nt (.ref a) x) Q F0 s:=by
 unfold nt;refine aQ (ag (z6 D.typeIs uX.lookup ?_));show aA _ _ (if (aa (ym "dict.__contains__")==aa gW)=ac then _ else _) _ _ s;rw [if_neg (by rw [beq_builtin_none];exact jX)];refine ag (wpAny_callSpecialUnlessNone?_slot (name:=iE "__contains__") D.typeIs uX
  (bR uX D.typeIs entry_dict_contains ?_ (args_dict_contains _ _)))
 show aA _ _ (Ag a x >>= _) _ _ s;refine ag (sL hf R.u1 hk rk D (fun v' y tk e r=>?_) fun tk e=>?_)
 ·have:=q tk;rw [e] at this;show aA _ _ (ret (.bool ac)) _ _ _;exact aq ⟨_,rfl,i4 this⟩
 ·have:=q tk;rw [e] at this;show aA _ _ (Builtin.Dict.pendingKey? a x >>= _) _ _ _;exact ag (wpAny_pendingKey_other D.ns (aq ⟨_,rfl,i4 this⟩))
theorem zk {Q:Value→av→Prop} (hf :∀a o,g.fz a=aa o→s.heap.get? a=aa o) (R:Room A n) (hk:pe d k=ac) (rk:VR cx g k x) (D:DAt cx g s.heap a d l)
 (hr:(rest=[]∧u=.none)∨(∃z,rest=[z]∧VR cx g u z)) (q :∀y tk,VR cx g ((bD k l).getD u) y→Q y {s with toks:=tk}):aA cx.mo A (call (.builtin "dict.get") (.ref a::x::rest)) Q F0 s:=by
 rcases hr with ⟨rfl,rfl⟩|⟨z,rfl,rz⟩
 ·refine bR nP D.typeIs U2 ?_ (F.args_dict_get_2 _ _);show aA _ _ (Ag a x >>= _) _ _ s;refine ag (sL hf R.u1 hk rk D (fun v' y tk e r=>?_) fun tk e=>?_)
  ·exact aq ⟨y,rfl,q y tk (by erw[e];exact r)⟩
  ·show aA _ _ (wg a x >>= _) _ _ _;exact ag (US D.ns (aq ⟨.none,rfl,q _ tk (by erw[e];exact .none)⟩))
 ·refine bR nP D.typeIs U2 ?_ (F.args_dict_get_3 _ _ _);show aA _ _ (Ag a x >>= _) _ _ s;refine ag (sL hf R.u1 hk rk D (fun v' y tk e r=>?_) fun tk e=>?_)
  ·exact aq ⟨y,rfl,q y tk (by erw[e];exact r)⟩
  ·show aA _ _ (wg a x >>= _) _ _ _;exact ag (US D.ns (aq ⟨z,rfl,q _ tk (by erw[e];exact rz)⟩))
theorem tV {Q:Option DictEntry→av→Prop} (hf :∀a o,g.fz a=aa o→s.heap.get? a=aa o) (hu:A.units<cLine) (hk:pe d k=ac) (rk:VR cx g k x) (D:DAt cx g s.heap a d l) (hz:l.length≤1000)
 (hs :∀v e tk h',bD k l=aa v→VR cx g v e.val→c9 a s.heap h'→DAt cx g h' a d (vX k l)→Q (aa e) {s with heap:=h',toks:=tk}) (hn :∀tk,bD k l=aj→Q aj {s with toks:=tk}):aA cx.mo A (vo a x) Q F0 s:=by
 obtain ⟨⟨o,es,n,ho,xd,hd,dr⟩,ko,ns⟩:=D;have hsz:es.size=l.length:=by refine dr.length▸?_;simp
 unfold vo;refine aQ (ag (xR hf hu (kD hk).1 rk fun tk=>ag (xV (s:={s with toks:=tk}) hf hu hk ko rk ho hd dr ?_)));refine zC (k:=k) dr (fun j v e q h1 h2 h3=>?_) fun q f=>q▸aq (hn tk f)
 ·erw[q];dsimp only;refine ag (gi (s:={s with toks:=tk}) ho hd ?_);have:es[j]? = aa e:=by refine bu▸?_;exact h1
  erw[this];dsimp only;refine ag (Pw (s:={s with toks:=tk}) (hz:=by have:=mT hz;omega) ho hd (aq (hs v e tk _ h2 h3 (bT ..) ⟨⟨_,_,_,dN _ ho (pK (jl hd _)),xd.mapDictKeys _,jl hd _,?_⟩,Pv Jy ko,ns⟩)));have:=Jv dr q;obtain ⟨L⟩:=es
  simpa using this
theorem GS {Q:Value→av→Prop} (hf :∀a o,g.fz a=aa o→s.heap.get? a=aa o) (R:Room A n) (hk:pe d k=ac) (rk:VR cx g k x) (D:DAt cx g s.heap a d l) (hz:l.length≤1000) (rz:VR cx g u z)
 (hs :∀v y tk h',bD k l=aa v→VR cx g v y→c9 a s.heap h'→DAt cx g h' a d (vX k l)→Q y {s with heap:=h',toks:=tk}) (hn :∀tk,bD k l=aj→Q z {s with toks:=tk}):
 aA cx.mo A (call (.builtin "dict.pop") [.ref a,x,z]) Q F0 s:=by
 refine bR Vz D.typeIs F.entry_dict_pop ?_ (F.args_dict_pop_3 _ _ _);unfold gZ.«dict.pop»;refine ag ?_;unfold Builtin.Dict.keyAndDefault;refine ag (d5 D.typeIs ?_);show aA _ _ (cR (a,x,aa z)) _ _ s;refine aq ?_;dsimp only
 by_cases hp:(keyPart x).isSome=ac
 ·erw[if_pos hp];refine ag (aq ?_);simp only [b_,if_false];refine ag (tV hf R.u1 hk rk D hz (fun v e tk h' e1 r hsb D'=>?_) fun tk e1=>?_)
  ·simp only [DN,b_,if_false];exact ag (wpAny_letGo (aq ⟨_,rfl,hs v _ tk h' e1 r hsb D'⟩))
  ·simp only [oF,if_true];exact ag (lR D.ns (ag (eG (aq ⟨_,rfl,hn tk e1⟩))))
 ·erw[if_neg hp];refine Ra D.ok fun o es m ho xd hd dr=>?_;refine ag (gi ho hd (ag (aq ?_)));cases he:es.isEmpty with
  |false=>
   simp only [b_,if_false];refine ag (tV hf R.u1 hk rk D hz (fun v e tk h' e1 r hsb D'=>?_) fun tk e1=>?_)
   ·simp only [DN,b_,if_false];exact ag (wpAny_letGo (aq ⟨_,rfl,hs v _ tk h' e1 r hsb D'⟩))
   ·simp only [oF,if_true];exact ag (lR D.ns (ag (eG (aq ⟨_,rfl,hn tk e1⟩))))
  |true=>
   simp only [if_true];have hl:l=[]:=by
    have:es.toList=[]:=by simpa [Array.isEmpty_iff] using he
    replace dr:=this▸dr;cases dr;rfl
   refine ag (eG (ag (aq ?_)));simp only [oF,if_true];exact ag (lR D.ns (ag (eG (aq ⟨_,rfl,hn s.toks (by erw[hl];rfl)⟩))))
end
section
variable {cx:Cx} {g:Gh}
theorem VRs.get (r:VRs cx g l xs):bc l i=aa v→∃x,xs[i]? = aa x∧VR cx g v x:=
 VRs.ind (M:=fun l xs=>∀i,bc l i=aa v→∃x,xs[i]? = aa x∧VR cx g v x) (fun b h=>no h) (fun v l x xs a b ih i h=>by
  cases i with
  |zero=>exact ⟨x,rfl,ao h▸a⟩
  |succ i=>exact ih i h) l r i
theorem VRs.last (r:VRs cx g l xs):wG l=aa v→∃x,xs[xs.length-1]? = aa x∧VR cx g v x∧0<xs.length:=
 VRs.ind (M:=fun l xs=>wG l=aa v→∃x,xs[xs.length-1]? = aa x∧VR cx g v x∧0<xs.length) (fun h=>no h) (fun u l x xs a b ih h=>by
  cases l with
  |nil=>erw[b.nil_inv];exact ⟨x,rfl,ao h▸a,Nat.zero_lt_one⟩
  |cons w l=>
   refine lG (ih h) fun y hy r hp=>?_;exact b.uncons fun z zs e c c=>⟨y,by rw [e] at hy ⊢;exact hy,r,gB _⟩) l r
def LAt (cx:Cx) (g:Gh) (h:Heap) (a:Addr) (l:List AV):Prop:=∃vs n,h.get? a=aa {cls:=.type "list",data:=.seq vs n}∧VRs cx g l vs.toList
theorem mU {S:St} (I:Inv cx g S.get S.nx h) (e:S.get j=aa (.list ro .none l .none)) (r:VR cx g (.loc j) x):∃a,x=.ref a∧g.ρ j=aa a∧LAt cx g h a l:=by
 apply b7 (jT r);intro a ra;refine (I.obj j _ e).vw fun b b b b r' ho hv rs=>?_;replace r':=ra▸r';cases r';refine ⟨a,rfl,ra,_,_,ho,?_⟩;erw[hv];show VRs cx g l ([]++_++[])
 simpa using rs
theorem li {S:St} (I:Inv cx g S.get S.nx h) (e:c8 S v=aa l) (r:VR cx g v x):∃a,x=.ref a∧LAt cx g h a l:=
 kC e fun j ro z q=>let ⟨a,e,_,L⟩:=mU I q (z▸r);⟨a,e,L⟩
theorem LAt.is (L:LAt cx g h a l):∃vs,h.IsList a vs∧VRs cx g l vs.toList:=let ⟨vs,n,ho,r⟩:=L;⟨vs,⟨_,ho,rfl,n,rfl⟩,r⟩
theorem LAt.typeIs {s:av} (L:LAt cx g s.heap a l):s.TypeIs (.ref a) "list":=let ⟨vs,n,ho,r⟩:=L;⟨_,ho,rfl⟩
theorem LAt.noDict {s:av} (L:LAt cx g s.heap a l):∀b,cY a=.ref b→∃o,s.heap.get? b=aa o∧o.dict=aj:=fun b e=>by cases e;exact let ⟨vs,n,ho,r⟩:=L;⟨_,ho,rfl⟩
theorem nT {S:St} (I:Inv cx g S.get S.nx h) (r:VR cx g (.tup l) x):∃a vs n,x=.ref a∧IsT h a vs n∧VRs cx g l vs.toList:=by
 apply r.vw;exact fun a vs n f rs=>⟨_,_,_,rfl,I.fz _ _ f,rs⟩
variable {n:Nat} {S:St} {A:b9} {s:av}
theorem CI (h:0<n):Fh 0+(n:Int)=((n-1:Nat):Int):=by omega
theorem GD {j:Int} {k n:Nat} (e:(if j<0 then j+n else j)=(k:Int)) (h:k<n):Fp j n=aa k:=by
 show (if (decide (0≤(if j<0 then j+n else j))&&decide ((if j<0 then j+n else j)<n))=ac then aa (if j<0 then j+n else j).toNat else aj)=aa k;rw [e];exact if_pos (ax.mpr ⟨decide_eq_true (eX k),decide_eq_true (iI.mpr h)⟩)
theorem R0 {k n:Nat} (h:k<n):Fp (aw k) n=aa k:=GD (if_neg (yw.mpr (eX k))) h
theorem Md (h:0<n):Fp (Fh 0) n=aa (n-1):=GD ((if_pos (by decide)).trans (CI h)) (Nat.sub_lt h Nat.one_pos)
theorem EE {Q:Value→av→Prop} (L:LAt cx g s.heap a l) (e:un l i=aa v) (r:VR cx g i y) (q :∀z,VR cx g v z→Q z s):aA cx.mo A (wa (.ref a) y) Q F0 s:=by
 refine cg L.is fun vs hl rs=>?_;refine wM e (fun k ei hk e=>?_) fun ei e=>?_
 ·refine ak (de (ei▸r)) fun t q300=>?_;apply dW q300;refine cg (rs.get e) fun x hx rx=>?_;exact wpAny_getItem_list hl (eX k) (iI.mpr (jN hk (by decide))) (x:=x) (bu▸hx) (q x rx)
 ·refine ak (de (ei▸r)) fun t q300=>?_;apply dW q300;refine lG (rs.last e) fun x hx rx hp=>?_;have hsz:0<vs.size:=aC▸hp;refine wpAny_getItem_list_neg hl (by decide) (by show -(vs.size:Int)≤-1;omega) (by decide) (x:=x) ?_ (q x rx);rw [CI hsz];exact bu▸aC▸hx
theorem H8 {Q:Value→av→Prop} (T:IsT s.heap a vs m) (rs:VRs cx g l vs.toList) (e:un l i=aa v) (r:VR cx g i y) (q :∀z,VR cx g v z→Q z s):aA cx.mo A (wa (.ref a) y) Q F0 s:=by
 refine wM e (fun k ei hk e=>?_) fun ei e=>?_
 ·refine ak (de (ei▸r)) fun t q600=>?_;apply dW q600;refine cg (rs.get e) fun x hx rx=>?_;have hlt:k<vs.size:=aC▸(gE.mp hx).1;exact Vu T (by show _≤(k:Int);omega) (by show (k:Int)<_;omega) (k:=k) (R0 hlt) (y:=x) (bu▸hx) (q x rx)
 ·refine ak (de (ei▸r)) fun t q600=>?_;apply dW q600;refine lG (rs.last e) fun x hx rx hp=>?_;have hsz:0<vs.size:=aC▸hp;exact Vu T (by decide) (by decide) (k:=vs.size-1) (Md hsz) (y:=x) (bu▸aC▸hx) (q x rx)
theorem Pi (O:COk cx) (R:Room A n) (I:Inv cx g S.get S.nx s.heap) (e:pF o i S=aa v) (ro:VR cx g o x) (ri:VR cx g i y):
 ∃T id,s.TypeIs x T∧uW (.type T) "__getitem__" = cR (aa (.builtin id))∧∀Q:Value→av→Prop,(∀z tk,VR cx g v z→Q z {s with toks:=tk})→aA cx.mo A (wa x y) Q F0 s:=by
 refine gO e (fun l hl e=>?_) fun b e=>gO e (fun l hl e=>?_) fun b e=>ba e fun p hp e=>bQ e fun hk e=>?_
 ·replace ro:=fj hl▸ro;apply yH (nT I ro);intro a vs m T rs;exact ⟨"tuple",_,⟨_,T,rfl⟩,KZ.lookup,fun Q q=>H8 T rs e ri fun z rz=>q z s.toks rz⟩
 ·apply b7 (li I hl ro);intro a L;exact ⟨"list",_,L.typeIs,Q1,fun Q q=>EE L e ri fun z rz=>q z s.toks rz⟩
 ·apply b7 (iY O I hp ro);intro a D;exact ⟨"dict",_,D.typeIs,v9.lookup,fun Q q=>xT I.fz R hk ri D e fun y tk r=>q y tk r⟩
end
section
variable {cx:Cx} {n:Nat} {vn:List Nat} {env:Env} {fr:Fr} {S S1 S2:St} {v:AV}
theorem tW {A:b9} {s:av} {value slice:Expr} {o i:Value} {T id:String} {Q:Value→av→Prop} (hT:s.TypeIs o T) (hl:uW (.type T) "__getitem__" = cR (aa (.builtin id))) (h:aA cx.mo A (wa o i) Q F0 s):
 aA cx.mo A (mG value slice o i) Q F0 s:=by
 unfold mG;refine ag ?_;erw[getitemInPython_of_ne hT.not_modules];refine ag (z6 hT hl ?_);have fin:aA cx.mo A (subscripted slice ae o i) (fun r s₃=>aA cx.mo A (BY value o r >>= fun d=>cR r) Q F0 s₃) F0 s:=by
  have k :∀l,aA cx.mo A (operate l (wa o i)) (fun r s₃=>aA cx.mo A (BY value o r >>= fun d=>cR r) Q F0 s₃) F0 s:=fun l=>wpAny_operating (aE h (fun r s₃ h₃=>ag (wpAny_letTemporaryGo (aq h₃))) fun d d x=>x);cases slice with
  |Slice a b c p=>cases c with
   |none=>exact k _
   |some _=>exact k _
  |_=>exact k _
 first
  |exact aq (ag fin)
  |exact ag (aq (ag fin))
  |exact ag fin
theorem Tz {pos} (O:COk cx) (he:JE cx n vn env e fr S o S1) (hi:JE cx n vn env i fr S1 iv S2) (hs:pF o iv S2=aa v):JE cx n vn env (.Subscript e i pos) fr S v S2:=fun A g s R H=>by
 refine Subscript_ (he.use R H fun g1 s1 x a1 H1 r1=>hi.use R H1 fun g2 s2 y a2 H2 r2=>?_);refine rJ (Pi O R H2.inv hs (r1.mono a2.evo.le) r2) fun T id hT hl hg=>?_;exact tW hT hl (hg _ fun z tk rz=>⟨g2,(a1.trans H.inv a2).trans H.inv (.tok H2.inv tk),rz⟩)
theorem y9 (k:Nat):∀(l:List AV),o9 k l=l.drop k:=fF (fun a=>rfl) (fun a ih l=>l.casesOn rfl fun a l=>ih l) k
theorem Hs (k:Nat):∀(l:List AV),o7 k l=l.take k:=fF (fun b=>rfl) (fun b ih l=>l.casesOn rfl fun a l=>congrArg (a::·) (ih l)) k
theorem VRs.drop (r:VRs cx g l xs):∀k,VRs cx g (l.drop k) (xs.drop k):=
 VRs.ind (M:=fun l xs=>∀k,VRs cx g (l.drop k) (xs.drop k)) (fun k=>by erw[kW,kW];exact .nil) (fun v l x xs a b ih k=>by
  cases k with
  |zero=>exact .cons a b
  |succ k=>exact ih k) l r
theorem VRs.take (r:VRs cx g l xs):∀k,VRs cx g (l.take k) (xs.take k):=
 VRs.ind (M:=fun l xs=>∀k,VRs cx g (l.take k) (xs.take k)) (fun k=>by erw[UZ,UZ];exact .nil) (fun v l x xs a b ih k=>by
  cases k with
  |zero=>exact .nil
  |succ k=>exact .cons a (ih k)) l r
inductive UP:Nat→Option Expr→Prop
 |no:UP 0 aj
 |at {k k' pos}:UP k (aa (.Constant (.int (k:Int)) k' pos))
inductive UO:Option Nat→Option Expr→Prop
 |no:UO aj aj
 |at {k:Nat} {k' pos}:UO (aa k) (aa (.Constant (.int (k:Int)) k' pos))
theorem RU {A:b9} {s:av} {lo:Nat} {e:Option Expr} {Q:Value→av→Prop} (h:UP lo e) (q :∀v tk,(u_ v (aa (lo:Int))∧(∃t,v=.int lo t)∨lo=0∧v=.none)→Q v {s with toks:=tk}):aA cx.mo A (qD (KP e env)) Q F0 s:=by
 cases h with
 |no=>exact aq (q _ s.toks (.inr ⟨rfl,rfl⟩))
 |«at»=>rename_i k' p;exact lC (k:=k') (pos:=p) (q _ _ (.inl ⟨.int _ _,_,rfl⟩))
theorem RT {Q:Value→av→Prop} (h:UO hi e) (q :∀v tk,u_ v (hi.map aw)→Q v {s with toks:=tk}):aA cx.mo A (qD (KP e env)) Q F0 s:=by
 cases h with
 |no=>exact aq (q _ s.toks .none)
 |«at»=>rename_i k' p;exact lC (k:=k') (pos:=p) (q _ _ (.int _ _))
theorem GB {A:b9} {s:av} {lo:Nat} {hi:Option Nat} {e e':Option Expr} {pos} {Q:Value→av→Prop} (h:UP lo e) (h':UO hi e')
 (q :∀v u tk,(u_ v (aa (lo:Int))∧(∃t,v=.int lo t)∨lo=0∧v=.none)→u_ u (hi.map aw)→Q (.ref s.heap.objs.size) {s with toks:=tk,heap:=s.heap.push {cls:=.type "slice",data:=.fields #[v,u,.none]}}):aA cx.mo A (dm (.Slice e e' aj pos) env) Q F0 s:=by
 show aA _ _ (qD (KP e env) >>= fun l=>fu [l] (qD (KP e' env)) >>= fun u=>fu [l,u] (qD (KP aj env)) >>= fun s=>newFields "slice" [l,u,s]) _ _ _;refine ag (RU h fun v tk hv=>ag (aQ (RT h' fun u tk' hu=>ag (aQ (aq ?_)))));exact gf (q v u tk' hv hu)
theorem E4 {o v:AV} {lo:Nat} {hi:Option Nat} {S S2:St} {P:Prop} (h:qw o lo hi S=aa (v,S2)) (q1 :∀L,o=.tup L→hi=aj→0<lo→lo≤L.length→L.length≤1000→qi (o9 lo L) S=aa (v,S2)→P)
 (q2 :∀L b,c8 S o=aa L→hi=aa b→lo≤b→lo=0∨b≤L.length→L.length≤1000→gU (o9 lo (o7 b L)) S=aa (v,S2)→P):P:=by
 exact gO h (fun L hL h=>ut h fun eh h=>bQ h fun c1 h=>bQ h fun c2 h=>bQ h fun c3 h=>q1 L (fj hL) eh (aG.mp c1) (cC L▸az c2) (i7 c3) h)
  fun a h=>ba h fun L hL h=>ba h fun b hb h=>bQ h fun c1 h=>bQ h fun c2 h=>bQ h fun c3 h=>q2 L b hL hb (az c1) ((cM.mp c2).imp am fun q=>cC L▸az q) (i7 c3) h
theorem AK {vs:Array Value} {lo b:Nat} (c1:lo≤b) (c2:lo=0∨b≤vs.size):slicePick vs (aa (lo:Int)) (aa (b:Int)) aj=((vs.toList.drop lo).take (b-lo)).toArray:=by
 rcases c2 with rfl|c2
 ·show slicePick vs (aa 0) _ _=_;have:=slicePick_plain vs (aa ((0:Nat):Int)) (aa (b:Int));rw [show (0:Int)=((0:Nat):Int) from rfl,this];simp only [Option.elim,clipAt_nat,Nat.zero_min,List.drop_zero,Nat.sub_zero]
  congr 1
  rcases Nat.le_total b vs.size with h|h
  ·rw [Q3 h]
  ·rw [Nat.min_eq_right h,Aj (by simp),Aj (by simpa using h)]
 ·exact slicePick_run vs lo b c2 c1
theorem GC {A:b9} {s:av} {e sl:Expr} {x:Value} {vl vu:Value} {ov:AV} {L:List AV} {lo b:Nat} {i:Addr} (I:Inv cx g S.get S.nx s.heap) (hsl:s.heap.IsSliceOf i vl vu .none) (hL:c8 S ov=aa L) (r:VR cx g ov x)
 (hvl:u_ vl (aa (lo:Int))∨lo=0∧vl=.none) (hvu:u_ vu (aa (b:Int))) (c1:lo≤b) (c2:lo=0∨b≤L.length) (c3:L.length≤1000):
 aA cx.mo A (mG e sl x (.ref i)) (fun y s'=>∃g',Aft cx g S s g' (S.new (.list ae .none (o9 lo (o7 b L)) .none)) s'∧VR cx g' (.loc S.nx) y) F0 s:=by
 apply b7 (li I hL r);intro a LA;refine cg LA.is fun vs il rs=>?_;have hlen:vs.size=L.length:=by refine aC▸?_;exact rs.length
 have rr:VRs cx g (o9 lo (o7 b L)) ((vs.toList.drop lo).take (b-lo)):=by
  erw[(y9 ..),(Hs ..),(List.drop_take ..)];exact (rs.drop lo).take _
 have fin :∀lo':Option Int,u_ vl lo'→slicePick vs lo' (aa (b:Int)) aj=((vs.toList.drop lo).take (b-lo)).toArray→aA cx.mo A (mG e sl (.ref a) (.ref i)) (fun y s'=>∃g',Aft cx g S s g' (S.new (.list ae .none (o9 lo (o7 b L)) .none)) s'∧VR cx g' (.loc S.nx) y) F0 s:=fun lo' pl hp=>
  tW LA.typeIs Q1 (wpAny_getItem_list_slice il hsl pl hvu .none (by simp) (by erw[hp];exact qj I rr) (by erw[hlen];exact mT c3))
 rcases hvl with pl|⟨rfl,rfl⟩
 ·exact fin _ pl (AK c1 (hlen▸c2))
 ·refine fin _ .none ?_;erw[slicePick_upto' vs b];simp
theorem Mb {A:b9} {s:av} {e sl:Expr} {x:Value} {vl vu:Value} {o:AV} {lo:Nat} {hi:Option Nat} {i:Addr} (I:Inv cx g S.get S.nx s.heap) (hsl:s.heap.IsSliceOf i vl vu .none) (r:VR cx g o x) (hs:qw o lo hi S=aa (v,S2))
 (hvl:(u_ vl (aa (lo:Int))∧∃t,vl=.int lo t)∨lo=0∧vl=.none) (hvu:u_ vu (hi.map aw)):
 aA cx.mo A (mG e sl x (.ref i)) (fun y s'=>∃g',Aft cx g S s g' S2 s'∧VR cx g' v y) F0 s:=by
 refine E4 hs (fun L ho hh c1 c2 c3 h=>?_) (fun L b hL hh c1 c2 c3 h=>?_)
 ·subst ho hh;apply jP (mP h);intro hz q1602;apply dW q1602;refine me r fun a vs m ex f rs=>?_;subst ex;have T:=I.fz _ _ f;have hlen:vs.size=L.length:=by refine aC▸?_;exact rs.length
  rcases hvl with ⟨_,t,rfl⟩|⟨rfl,_⟩
  ·cases hvu;refine tW ⟨_,T,rfl⟩ KZ.lookup (getItem_tuple_from ⟨_,T,rfl,_,rfl⟩ hsl c1 (hlen▸c2) ?_ (by erw[hlen];exact mT c3));erw[(y9 ..)];exact qh I (rs.drop lo)
  ·exact absurd c1 (dK 0)
 ·subst hh;apply jP (jr h);intro hz q1702;subst q1702;exact GC I hsl hL r (hvl.imp And.left id) hvu c1 c2 c3
theorem TB {e:Expr} {l u:Option Expr} {pos pos'} {o:AV} {lo:Nat} {hi:Option Nat} (O:COk cx) (he:JE cx n vn env e fr S o S1) (hl:UP lo l) (hu:UO hi u) (hs:qw o lo hi S1=aa (v,S2)):JE cx n vn env (.Subscript e (.Slice l u aj pos') pos) fr S v S2:=fun A g s R H=>by
 refine Subscript_ (he.use R H fun g1 s1 x a1 H1 r1=>GB hl hu fun vl vu tk hvl hvu=>?_);have a2:Aft cx g1 S1 s1 g1 S1 {s1 with toks:=tk,heap:=s1.heap.push {cls:=.type "slice",data:=.fields #[vl,vu,.none]}}:=⟨⟨_,_,rfl⟩,.grow H1.inv (bC _)⟩
 exact aE (Mb a2.evo.inv (Vw ..) r1 hs hvl hvu) (fun y s' h=>h.elim fun g3 h=>⟨g3,(a1.trans H.inv a2).trans H.inv h.1,h.2⟩) fun a a z=>z
end
section
variable {cx:Cx} {g:Gh} {n:Nat} {S S':St} {v:AV}
def JU (cx:Cx) (n:Nat) (id:String) (o:AV) (vs:List AV) (S:St) (v:AV) (S':St):Prop:=
 ∀A g s x xs,Room A n→Inv cx g S.get S.nx s.heap→VR cx g o x→VRs cx g vs xs→aA cx.mo A (call (.builtin id) (x::xs)) (fun r s'=>∃g',Aft cx g S s g' S' s'∧VR cx g' v r) F0 s
theorem eY (h:VRs cx g [a] xs):∃x,xs=[x]∧VR cx g a x:=by cases h with|cons a b=>cases b;exact ⟨_,rfl,a⟩
theorem xj (h:VRs cx g [a,b] xs):∃x y,xs=[x,y]∧VR cx g a x∧VR cx g b y:=by
 cases h with|cons a b=>apply b7 (eY b);intro y r;exact ⟨_,y,rfl,a,r⟩
theorem CM (O:COk cx) (h:xG p args S=aa (v,S')) (at_ :∀g h x,Inv cx g S.get S.nx h→VR cx g o x→∃a,x=.ref a∧DAt cx g h a p.1 p.2):JU cx n "dict.get" o args S v S':=fun A g s x xs R I r rs=>by
 apply b7 (at_ g s.heap x I r);intro a D;cases args with
 |nil=>exact no h
 |cons k r=>
  refine rs.uncons fun y ys e ry rs=>?_;erw[e];cases r with
  |nil=>erw[rs.nil_inv];exact bQ h fun hk h=>zk I.fz R hk ry D (.inl ⟨rfl,rfl⟩) fun z tk rz=>by apply xg h;exact ⟨g,.tok I tk,rz⟩
  |cons d r=>
   refine rs.uncons fun z zs e rz rs=>?_;erw[e];cases r with
   |nil=>erw[rs.nil_inv];exact bQ h fun hk h=>zk I.fz R hk ry D (.inr ⟨z,rfl,rz⟩) fun z tk rz=>by apply xg h;exact ⟨g,.tok I tk,rz⟩
   |cons _ _=>exact no h
theorem O0 {cx:Cx} {g:Gh} {h:Heap} {a:Addr} {d:Nat} {l:List (AV×AV)} (D:DAt cx g h a d l):DAt cx g h a (kdE d l) l:=by
 cases l with
 |nil=>exact ⟨D.ok,⟨fun p hp=>(nomatch hp),.nil⟩,D.ns⟩
 |cons p l=>exact D
theorem MZ (O:COk cx) (hj:S.get j=aa (.dict ae p.1 p.2)) (h:W_ j p args S=aa (v,S')):JU cx n "dict.pop" (.loc j) args S v S':=fun A g s x xs R I r rs=>by
 apply wi (iM O I hj r);intro a ra D;refine I_ h fun k d e q9=>bQ q9 fun hz q9=>bQ q9 fun hk q9=>?_;replace h:=q9;subst e;apply PR (xj rs);intro y z ry rz;refine GS I.fz R hk ry D (i7 hz) rz (fun v' y tk h' e r' hs D'=>?_) fun tk e=>?_
 ·rw [e] at h;apply xg h;exact ⟨g,⟨⟨h',tk,rfl⟩,t8 I hj ra hs (O0 D')⟩,r'⟩
 ·rw [e] at h;apply xg h;exact ⟨g,.tok I tk,rz⟩
theorem mM {h:Heap} (ho:h.get? a=aa {cls:=.type "list",data:=.seq vs m}) (f:Array Value→Array Value):∃m',(h.update a (kc f)).get? a=aa {cls:=.type "list",data:=.seq (f vs) m'}:=
 ⟨_,dN _ ho rfl⟩
theorem hZ (I:Inv cx g S.get S.nx h) (e:S.get j=aa (.list ro ii l post)) (r:VR cx g (.loc j) x):
 ∃a vs m mid,x=.ref a∧g.ρ j=aa a∧h.get? a=aa {cls:=.type "list",data:=.seq vs m}∧vs.toList=fo cx ii++mid++fo cx post∧VRs cx g l mid:=by
 apply b7 (jT r);intro a ra;refine (I.obj j _ e).vw fun b b b b r' ho hv rs=>?_;replace r':=ra▸r';cases r';exact ⟨a,_,_,_,rfl,ra,ho,hv,rs⟩
theorem oQ (O:COk cx) (p:Option Nat):(fo cx p).length≤1000:=by
 cases p with
 |none=>exact a7 _
 |some k=>exact O.seg k
theorem qf (h:rK j ii l post S=aa S'):l.length≤1000∧S'=S.put j (.list ae ii l post):=by
 unfold rK at h
 split at h
 ·rename_i e;apply gF h;exact ⟨i7 e,rfl⟩
 ·exact no h
theorem wv (h:putD j d l S=aa S'):l.length≤1000∧S'=S.put j (.dict ae d l):=by
 unfold putD at h
 split at h
 ·rename_i e;apply gF h;exact ⟨i7 e,rfl⟩
 ·exact no h
theorem ue (O:COk cx) (hj:S.get j=aa (.list ae ii l post)) (h:xH j ii l post args S=aa (v,S')):JU cx n "list.append" (.loc j) args S v S':=fun A g s x xs R I r rs=>by
 apply l8 (hZ I hj r);intro a vs m mid ra ho hv rm;refine wP h fun u e q9=>ut q9 fun z q9=>?_;replace h:=q9;subst e z;apply b7 (eY rs);intro y ry;refine ba h fun S1 e e'=>?_;apply xg e';refine aK (fun hz q701=>?_) (qf e);apply dW q701;have hsz:vs.size≤2000:=by
  have:=congrArg u9 hv;simp only [bf,aC] at this;have h1:=oQ O ii;replace this:=rm.length▸this;replace hz:=(bf ..)▸(fM ..)▸hz;show vs.size≤2000;have:(fo cx aj).length=0:=rfl;omega
 refine bR slot_list_append ⟨_,ho,rfl⟩ entry_list_append ?_ (args_list_append _ _);show aA _ _ (updateSeq a (·.push y) >>= fun b=>ret .none) _ _ s;refine ag (wpAny_updateSeq ho rfl (hz:=by erw[bE];omega) (aq ⟨.none,rfl,?_⟩));refine ak (mM ho (·.push y)) fun m' e1=>?_;refine ⟨g,.of' (oY I hj ra (bT ..) e1 (mid:=mid++[y]) ?_ ?_),.none⟩
 ·erw[qL,hv];show fo cx ii++mid++[]++[y]=fo cx ii++(mid++[y])++[];simp
 ·erw[(fM ..)];exact rm.append (.cons ry .nil)
theorem AX (O:COk cx) (hj:S.get j=aa (.list ae ii l post)) (h:CN j ii l post args S=aa (v,S')):JU cx n "list.extend" (.loc j) args S v S':=fun A g s x xs R I r rs=>by
 apply l8 (hZ I hj r);intro a vs m mid ra ho hv rm;refine wP h fun u eu h=>ut h fun ep h=>?_;subst eu ep
 ·apply b7 (eY rs);intro y ry
  ·have fin :∀(ws:Array Value) (l2:List AV),VRs cx g l2 ws.toList→∀S1,rK j ii (dL l l2) aj S=aa S1→vs.size+ws.size≤2000∧
    Evo cx g S.get S.nx s.heap g S1.get S1.nx (s.heap.update a (kc fun x=>x++ws)):=by
    intro ws l2 r2 S1 e;refine aK (fun hz q1101=>?_) (qf e);apply dW q1101;refine ⟨?_,?_⟩
    ·have:=congrArg u9 hv;simp only [bf,aC] at this;have h1:=oQ O ii;replace this:=rm.length▸this;replace hz:=(bf ..)▸(fM ..)▸hz;have:(fo cx aj).length=0:=rfl;have:=r2.length;replace this:=aC▸this;omega
    ·refine ak (mM ho (fun x=>x++ws)) fun m' e1=>?_;refine oY I hj ra (bT ..) e1 (mid:=mid++ws.toList) ?_ ?_
     ·erw[Array.toList_append,hv];show fo cx ii++mid++[]++_=fo cx ii++(mid++_)++[];simp
     ·erw[(fM ..)];exact rm.append r2
   refine gO h (fun l2 hl2 h=>ba h fun S1 e e'=>?_) fun c h=>bQ h fun c h=>ba h fun l2 hl2 h=>ba h fun S1 e e'=>?_
   ·apply xg e';replace ry:=fj hl2▸ry;apply yH (nT I ry);intro b ws k T r2;refine aK (fun hz ev=>?_) (fin ws l2 r2 _ e);exact B1 rZ ⟨_,ho,rfl⟩ Li (K0 _ _) (AutoSeq1.list_extend_list_tuple_0 a vs m b ws k (extend_door (by erw[bE];omega)) (by erw[bE];omega) (by erw[bE];omega)) ⟨ho,T,g,.of ev,.none⟩
   ··apply xg e';refine cg (li I hl2 ry) fun b q1500 h150=>?_;refine pT h150 fun ws k T r2=>?_;apply dW q1500;refine aK (fun hz ev=>?_) (fin ws l2 r2 _ e);exact B1 rZ ⟨_,ho,rfl⟩ Li (K0 _ _) (AutoSeq1.list_extend_list_list_0 a vs m b ws k (extend_door (by erw[bE];omega)) (by erw[bE];omega) (by erw[bE];omega)) ⟨ho,T,g,.of ev,.none⟩
theorem Hi (O:COk cx) (hj:S.get j=aa (.list ae ii l post)) (h:Qj j ii l post args S=aa (v,S')):JU cx n "list.pop" (.loc j) args S v S':=fun A g s x xs R I r rs=>by
 apply l8 (hZ I hj r);intro a vs m mid ra ho hv rm;refine wP h fun u e q9=>ba q9 fun i hi q9=>bQ q9 fun h0 q9=>ut q9 fun z q9=>?_;replace h:=q9;subst e z;apply b7 (eY rs);intro y ry;replace ry:=(of_decide_eq_true h0)▸(cP hi)▸ry;refine ak (de ry) fun t q1900=>?_;apply dW q1900;cases l with
 |nil=>exact no h
 |cons u l=>
  refine bQ h fun hz h=>?_;have hz:=i7 hz;apply xg h;cases rm with
  |cons ru rm=>
   rename_i xu xs;have hsz:vs.size≤3000:=by
    have:=congrArg u9 hv;simp only [bf,aC] at this;have h1:=oQ O post;replace this:=rm.length▸lL▸this;have:(fo cx aj).length=0:=rfl;omega
   have hv':vs.toList=xu::(xs++fo cx post):=by erw[hv];rfl
   have h0:vs[0]? = aa xu:=by refine bu▸au hv'▸?_;rfl
   have hlt:0<vs.size:=by refine aC▸au hv'▸?_;exact gB _
   refine B1 Vy ⟨_,ho,rfl⟩ F.entry_list_pop (F.args_list_pop_2 _ _) (MeetsSeq.list_pop_at a vs m (aw 0) t 0 xu (by decide) ?_ h0 (by erw[bE];omega)) ⟨ho,?_⟩
   ·unfold Fp;simp;intro e;subst e;exact absurd hlt (dK 0)
   ·refine ak (mM ho (fun xs=>xs.eraseIdxIfInBounds 0)) fun m' e1=>?_;refine ⟨g,.of' (oY I hj ra (bT ..) e1 (mid:=xs) ?_ rm),ru⟩;have:(vs.eraseIdxIfInBounds 0).toList=vs.toList.eraseIdx 0:=by
     obtain ⟨L⟩:=vs;simp
    erw[this,hv'];show xs++fo cx post=[]++xs++fo cx post;simp
end
def bS (N:Nat→AV) (D:Nat→List (AV×AV)) (v:AV):AV:=
 AV.rec (motive_1:=fun c=>AV) (motive_2:=fun c=>List AV) (motive_3:=fun c=>List (AV×AV)) (motive_4:=fun c=>AV×AV) .none .bool .int .str (fun c ih=>.tup ih) (fun d c ih=>.fd d ih)
  .loc .fn .cls .bi .opq .mk .ge N (fun k=>.fd 0 (D k)) [] (fun c c a b=>a::b) [] (fun c c a b=>a::b) (fun x c c b=>(x,b)) v
def dE (N:Nat→AV) (D:Nat→List (AV×AV)) (l:List AV):List AV:=l.map (bS N D)
def kG (N:Nat→AV) (D:Nat→List (AV×AV)) (l:List (AV×AV)):List (AV×AV):=l.map fun p=>(p.1,bS N D p.2)
theorem jv (l:List AV):bS N D (.tup l)=.tup (dE N D l):=by
 induction l with
 |nil=>rfl
 |cons v l ih=>injection ih with e;exact congrArg (fun m=>AV.tup (bS N D v::m)) e
theorem kF (l:List (AV×AV)):bS N D (.fd d l)=.fd d (kG N D l):=by
 induction l with
 |nil=>rfl
 |cons v l ih=>injection ih with _ e;exact congrArg (fun m=>AV.fd d ((v.1,bS N D v.2)::m)) e
theorem iB:(kG N D l).map (·.1)=l.map (·.1):=l4
theorem iS (e:l.map (·.1)=m.map (·.1)) (h:yg d l):yg d m:=by
 refine ⟨fun p hp=>?_,?_⟩
 ·have:p.1∈m.map (·.1):=jH hp;replace this:=au e▸this;refine cg (bp.mp this) fun q hq eq=>?_;refine eq▸?_;exact h.1 q hq
 ·have h2:=(ip (f:=fX) (R:=fun a b=>lj a b=ae) (l:=l)).mpr h.2;replace h2:=(show l.map fX=m.map fX from e)▸h2;exact ip.mp h2
theorem VR.res (h:VR cx g v x):VR cx g (bS cx.N cx.D v) x:=
 VR.rec (motive_1:=fun v x f=>VR cx g (bS cx.N cx.D v) x) (motive_2:=fun l xs f=>VRs cx g (dE cx.N cx.D l) xs) (motive_3:=fun l es f=>DRs cx g (kG cx.N cx.D l) es)
  .none .bool .int .str (fun a f ih=>jv _▸.tup a ih) (fun z a b e k f ih=>kF _▸.fd z a b e (iS iB.symm k) ih) .loc .fn .cls .bi .opq (fun a r f=>.mk a r) .ge (fun h f=>h) (fun h f=>h)
  .nil (fun f f a b=>.cons a b) .nil (fun a b f f f c d=>.cons a b c d) h
structure nk (cx:Cx) (om:Om):Prop where
 eq :∀i j,om.eq i j=decide (cx.M i=cx.M j)
 memb :∀k i,om.memb k i=(cx.M k).contains i
 eqd :∀i nx,kI om ⟨.nil,nx⟩ (.fd 0 (cx.D i)) (bS cx.N cx.D (om.dv i))=aa (om.eqd i)
theorem Inv.nil (I:Inv cx g σ nx h):Inv cx g (⟨.nil,nx⟩:St).get (⟨.nil,nx⟩:St).nx h:=
 have no :∀j ob,(⟨.nil,nx⟩:St).get j≠aa ob:=fun j ob e=>by cases (show (aj:Option AO)=aa ob from e)
 ⟨I.g0,I.base,I.fz,fun j ob e=>(no _ _ e).elim,fun j ob k ob' a e=>(no _ _ e).elim,fun j ob a b e=>(no _ _ e).elim,fun a ⟨j,ob,e,_⟩ =>(no _ _ e).elim,I.top⟩
def pd (v:AV):PyData:=
 AV.rec (motive_1:=fun c=>PyData) (motive_2:=fun c=>List PyData) (motive_3:=fun c=>Unit) (motive_4:=fun c=>Unit) .none .bool .int (fun k=>.str (sT k)) (fun c ih=>.tuple ih) (fun c c c=>.none)
  (fun c=>.none) (fun c=>.none) (fun c=>.none) (fun c=>.none) (fun c=>.none) (fun c=>.none) (fun c=>.none) (fun c=>.none) (fun c=>.none) [] (fun c c a b=>a::b) () (fun c c c c=>()) (fun c c c c=>()) v
def ME (l:List AV):List PyData:=l.map pd
theorem xB (l:List AV):pd (.tup l)=.tuple (ME l):=by
 induction l with
 |nil=>rfl
 |cons v l ih=>injection ih with e;exact congrArg (fun m=>PyData.tuple (pd v::m)) e
theorem pc {α:Type} {f:α→Bool} {l:List α} (h:rP f l=ac):∀x∈l,f x=ac:=by
 induction l with
 |nil=>exact fun x hx=>nomatch hx
 |cons a l ih=>
  have h:=ax.mp (show (f a&&rP f l)=ac from h);intro x hx;cases hx with
  |head=>exact h.1
  |tail _ m=>exact ih h.2 x m
theorem L5 :∀k,k<nS→PyData.strOk (sT k)=ac:=by decide +kernel
section
variable {cx:Cx} {g:Gh} {h:Heap}
structure RdP (h:Heap) (x:Value) (d:PyData) (n:Nat):Prop where
 r :∃as,Reads h x d as
 l:d.canLay0=ac
 d:d.depth≤n
structure RdL (h:Heap) (xs:List Value) (ds:List PyData) (n:Nat):Prop where
 r :∃as,ReadsAll h xs ds as
 l:PyData.canLayAll0 ds=ac
 d:KU ds≤n
theorem AC (H :∀{v:AV} {x:Value},vh n v=ac→VR cx g v x→RdP h x (pd v) n) (l:List AV):∀{xs:List Value},VRs cx g l xs→rP (vh n) l=ac→RdL h xs (ME l) n:=
 VRs.ind (M:=fun l xs=>rP (vh n) l=ac→RdL h xs (ME l) n) (fun a=>⟨⟨_,.nil⟩,rfl,a7 _⟩) (fun v l x xs r rs ih hl=>by
  have hl:=ax.mp (show (vh n v&&rP (vh n) l)=ac from hl);obtain ⟨⟨as,ra⟩,rb,rc⟩:=H hl.1 r;obtain ⟨⟨bs,sa⟩,sb,sc⟩:=ih hl.2;exact ⟨⟨_,.cons ra sa⟩,ax.mpr ⟨rb,sb⟩,Nat.max_le.mpr ⟨rc,sc⟩⟩) l
theorem oW (hf :∀a o,g.fz a=aa o→h.get? a=aa o) (n:Nat):∀{v:AV} {x:Value},vh n v=ac→VR cx g v x→RdP h x (pd v) n:=by
 induction n with
 |zero=>exact fun h' c=>ff h'
 |succ n ih=>
  intro v x h' r;cases v with
  |none=>apply r.vw;exact ⟨⟨_,.none⟩,rfl,a7 _⟩
  |bool b=>apply r.vw;exact ⟨⟨_,.bool b⟩,rfl,a7 _⟩
  |int i=>apply r.vw;exact fun t=>⟨⟨_,.int i _⟩,rfl,a7 _⟩
  |str k=>apply r.vw;exact fun t hk=>⟨⟨_,.str _ _⟩,L5 k hk,a7 _⟩
  |tup l=>
   exact me r fun a vs m e f rs=>by
    obtain ⟨⟨as,ra⟩,rb,rc⟩:=AC ih l rs h';erw[(e ..),(xB ..)];exact ⟨⟨as,.tuple (hf _ _ f) rfl rfl ra⟩,rb,gC rc⟩
  |_=>exact ff h'
theorem Dn {f:AV→AV→Bool} {P:AV→Prop} (hf :∀a b,P a→P b→f a b=iP (pd a) (pd b)) (l:List AV):∀{m:List AV},(∀x∈l,P x)→(∀x∈m,P x)→EL f l m=w9 (ME l) (ME m):=by
 induction l with
 |nil=>intro m _ _;cases m<;>rfl
 |cons a l ih=>
  intro m h1 h2;cases m with
  |nil=>rfl
  |cons b m=>
   show (f a b&&EL f l m)=(iP (pd a) (pd b)&&w9 (ME l) (ME m))
   exact au (hf a b (h1 a (.head _)) (h2 b (.head _)))▸au (ih (fun x hx=>h1 x (.tail _ hx)) (fun x hx=>h2 x (.tail _ hx)))▸rfl
def j7 (cx:Cx) (g:Gh) (v:AV):Prop:=∃x,VR cx g v x
theorem Qo (l:List AV):∀{xs:List Value},VRs cx g l xs→∀x∈l,j7 cx g x:=
 VRs.ind (M:=fun l a=>∀x∈l,j7 cx g x) (fun x hx=>nomatch hx) (fun v l x xs r a ih y hy=>by
  cases hy with
  |head=>exact ⟨_,r⟩
  |tail _ m=>exact ih y m) l
theorem y6 {l:List AV} (h:j7 cx g (.tup l)):∀x∈l,j7 cx g x:=h.elim fun y r=>me r fun a a a a a rs=>Qo l rs
theorem Jl (n:Nat):∀{a b:AV},vh n a=ac→vh n b=ac→j7 cx g a→j7 cx g b→Ve n a b=iP (pd a) (pd b):=by
 induction n with
 |zero=>exact fun h1=>ff h1
 |succ n ih=>
  intro a b h1 h2 l1 l2;cases a with
  |none=>cases b<;>first|rfl|exact ff h2
  |bool b1=>cases b<;>first|exact ff h2|(cases b1<;>rfl)
  |int i1=>cases b with
   |bool b2=>cases b2<;>rfl
   |_=>first|rfl|exact ff h2
  |str k1=>cases b with
   |str k2=>exact l1.elim fun c r1=>l2.elim fun c r2=>pE (iW r1).1 (iW r2).1
   |_=>first|rfl|exact ff h2
  |tup m1=>cases b with
   |tup m2=>
    erw[(xB ..),(xB ..)];exact Dn (P:=fun x=>vh n x=ac∧j7 cx g x) (fun a b x y=>ih x.1 y.1 x.2 y.2) m1 (fun x hx=>⟨pc h1 x hx,y6 l1 x hx⟩) fun x hx=>⟨pc h2 x hx,y6 l2 x hx⟩
   |_=>first|(erw[(xB ..)];rfl)|exact ff h2
  |_=>exact ff h1
def Dat (cx:Cx) (g:Gh) (h:Heap) (v:AV) (d:PyData):Prop:=z9 d=ac∧∀x,VR cx g v x→∃as,Reads h x d as
def Z0 (cx:Cx) (g:Gh) (h:Heap) (a b:AV) (r:Bool):Prop:=∃d d',Dat cx g h a d∧Dat cx g h b d'∧r=iP d d'
theorem qa (l:d.canLay0=ac) (k:d.depth≤n) (h:n≤64):z9 d=ac:=by
 unfold z9;erw[l,decide_eq_true (aB k h)];rfl
theorem JH (hf :∀a o,g.fz a=aa o→h.get? a=aa o) (h1:vh 9 v=ac) (lv:j7 cx g v):Dat cx g h v (pd v):=
 ⟨lv.elim fun b r=>have q:=oW hf 9 h1 r;qa q.l q.d (by decide),fun b r=>(oW hf 9 h1 r).r⟩
theorem Ob (hf :∀a o,g.fz a=aa o→h.get? a=aa o) (e:Uk a b=aa r) (la:j7 cx g a) (lb:j7 cx g b):Z0 cx g h a b r:=by
 unfold Uk at e;cases h1:vh 9 a with
 |false=>replace e:=h1▸e;exact no e
 |true=>cases h2:vh 9 b with
  |false=>replace e:=h2▸h1▸e;exact no e
  |true=>replace e:=h2▸h1▸e;exact ⟨pd a,pd b,JH hf h1 la,JH hf h2 lb,(ao e).symm.trans (Jl 9 h1 h2 la lb)⟩
theorem zF (I:Inv cx g S.get S.nx h) (hl:c8 S v=aa l) (h1:rP (vh 8) l=ac) (lv:j7 cx g v):Dat cx g h v (.list (ME l))∧∀x∈l,j7 cx g x:=by
 refine ⟨⟨lv.elim fun x rx=>?_,fun y ry=>?_⟩,lv.elim fun x rx=>?_⟩
 ·refine cg (li I hl rx) fun a b h40=>?_;refine pT h40 fun vs k ho rs=>?_;have q:=AC (oW I.fz 8) l rs h1;exact qa (d:=.list (ME l)) (n:=9) q.l (gC q.d) (by decide)
 ·refine cg (li I hl ry) fun a' e h50=>?_;refine pT h50 fun vs' k' ho' rs'=>?_;erw[e];exact (AC (oW I.fz 8) l rs' h1).r.elim fun as q=>⟨_,.list ho' rfl rfl q⟩
 ·refine cg (li I hl rx) fun a b h60=>?_;refine pT h60 fun vs k ho rs=>?_;exact Qo l rs
theorem Dr {S:St} {a b:AV} {r:Bool} (I:Inv cx g S.get S.nx h) (e:uG S a b=aa r) (la:j7 cx g a) (lb:j7 cx g b):Z0 cx g h a b r:=by
 unfold uG at e;cases hl:c8 S a with
 |none=>replace e:=hl▸e;exact Ob I.fz e la lb
 |some l=>
  replace e:=hl▸e;cases hm:c8 S b with
  |none=>replace e:=hm▸e;exact no e
  |some m=>
   replace e:=hm▸e;have e:Dm l m=aa r:=e;unfold Dm at e;cases h1:rP (vh 8) l with
   |false=>replace e:=h1▸e;exact no e
   |true=>cases h2:rP (vh 8) m with
    |false=>replace e:=h2▸h1▸e;exact no e
    |true=>
     replace e:=h2▸h1▸e;have d1:=zF I hl h1 la;have d2:=zF I hm h2 lb;exact ⟨_,_,d1.1,d2.1,(ao e).symm.trans (Dn (P:=fun x=>vh 8 x=ac∧j7 cx g x) (fun a b x y=>Jl 8 x.1 y.1 x.2 y.2) l (fun x hx=>⟨pc h1 x hx,d1.2 x hx⟩) fun x hx=>⟨pc h2 x hx,d2.2 x hx⟩)⟩
theorem zw :∀ns ms:List Int,w9 (ns.map DM) (ms.map DM)=decide (ns=ms):=ked_eqvAll
theorem vN (ns:List Int):∀{xs:List Value},VRs cx g (ns.map .int) xs→∃as,ReadsAll h xs (ns.map DM) as:=by
 induction ns with
 |nil=>intro xs r;erw[r.nil_inv];exact ⟨_,.nil⟩
 |cons n ns ih=>exact fun r=>r.uncons fun x ys e r rs=>(ih rs).elim fun as q=>(de r).elim fun t e2=>by erw[e,e2];exact ⟨_,.cons (.int _ _) q⟩
theorem JJ (hf :∀a o,g.fz a=aa o→h.get? a=aa o) (k:Nat):Dat cx g h (.mk k) (.tuple ((cx.M k).map .int)):=by
 refine ⟨qa (n:=64) (ke_canLayAll0 _) ?_ (aY _),fun x r=>?_⟩
 ·show KU ((cx.M k).map .int)+1≤64;erw[(ke_depthAll ..)];decide
 ·apply r.vw;intro a vs m f rs;exact (vN (h:=h) _ rs).elim fun as q=>⟨_,.tuple (hf _ _ f) rfl rfl q⟩
theorem Ds (W:nk cx om) (I:Inv cx g S.get S.nx h) (e:zD om S a b=aa r) (la:j7 cx g a) (lb:j7 cx g b):Z0 cx g h a b r:=by
 cases a with
 |mk i=>cases b with
  |mk j=>exact ⟨_,_,JJ I.fz i,JJ I.fz j,(ao e).symm.trans ((W.eq i j).trans (zw _ _).symm)⟩
  |_=>exact no e
 |_=>exact Dr I e la lb
theorem Dat.eqAt {A:b9} {s:av} (ha:Dat cx g s.heap a d) (hb:Dat cx g s.heap b d') (ra:VR cx g a x) (rb:VR cx g b y) (hu:A.in1.units+64<cLine):wc A.in1 s x y (iP d d'):=by
 refine ak (ha.2 x ra) fun as p=>?_;refine ak (hb.2 y rb) fun bs q=>?_;exact keq_at p q ha.1 hb.1 hu
end
noncomputable def uH:Nat→B4
 |0=>.Eq|1=>.NotEq|2=>.Lt|3=>.LtE|4=>.Gt|5=>.GtE|6=>.In|7=>.NotIn|8=>.Is|_=>.IsNot
section
variable {cx:Cx} {g:Gh} {n:Nat} {S:St} {om:Om} {a b:AV} {r:Bool}
theorem mD {Q:Value→av→Prop} (D:DAt cx g s.heap d k l) (hu:A.units<cLine) (q:Q (.bool ac) s):aA cx.mo A (richCompare .NotEq .none (.ref d)) Q F0 s:=by
 refine SeqAt.rc_ne_decline_or (k:=ae) rfl D.typeIs (by decide) PySem.F.sub_dict_NoneType wd vk
  (fun a hq=>call_gives wd rfl PySem.F.entry_NoneType_ne (PySem.F.args_NoneType_ne_2 _ _) (SeqAt.NoneType___ne___none_ref_0 d) hq)
  (fun Q' hq=>?_) (fun a hq=>qC (rfl:isSame .none (.ref d)=cR ae) hq) (.inr hu) q
 refine bR vk D.typeIs PySem.F.entry_dict_ne ?_ (PySem.F.args_dict_ne_2 _ _);show aA _ _ (qK "__ne__" ⟨[.ref d,.none],[]⟩ >>= _) _ _ s;refine ag ?_;unfold qK;refine ag (d5 D.typeIs ?_);show aA _ _ (cR (cY d,gW)) _ _ s;refine aq ?_;refine ag (wpAny_isInstance (T:="NoneType") (b:=ae) rfl PySem.F.sub_NoneType_dict ?_);simp only [Bool.not_false,if_true];exact ag (eG (aq ⟨_,rfl,hq⟩))
theorem mV {d:Nat} {l:List (AV×AV)} (h:HM d=ac) (ko:yg d l):∀p∈l,∃i,p.1=.str i:=fun p hp=>by
 refine aK (fun e lt=>?_) (ko.1 p hp);have e0:kd p.1=0:=e.trans (zS h (fun a h=>absurd (am h▸lt) (by decide)) fun q a=>am q);rcases C2 (v:=p.1) (e0▸by decide) with ⟨i,q,_⟩|⟨i,q,z⟩|⟨m,q,z,_⟩|⟨m,q,z,_⟩
 ·exact ⟨i,q⟩
 all_goals exact absurd (z.symm.trans e0) (by decide)
noncomputable def RC (cx:Cx) (g:Gh) (l:List (AV×AV)) (kvs:List (Str×Value)):Prop:=∀(P:List (AV×AV)→List (Str×Value)→Prop),P [] []→(∀i v l y kvs,i<nS→VR cx g v y→P l kvs→P ((.str i,v)::l) ((sT i,y)::kvs))→P l kvs
theorem Y9 (q:ay j i=ac):kQ ((sT j,y)::kvs) (sT i)=aa y:=
 congrArg (oE w_) (Ak (p:=fun kv:Str×Value=>decide (kv.1=sT i)) (a:=(sT j,y)) (decide_eq_true (congrArg sT (am q))))
theorem VU (hi:i<nS) (hj:j<nS) (q:ay j i=ae):kQ ((sT j,y)::kvs) (sT i)=kQ kvs (sT i):=
 congrArg (oE w_) (Al (p:=fun kv:Str×Value=>decide (kv.1=sT i)) (a:=(sT j,y)) fun z=>eW q (mj _ hj _ hi (of_decide_eq_true z)))
theorem RC.hit (r:RC cx g l kvs) (hi:i<nS):bD (.str i) l=aa v→∃y,kQ kvs (sT i)=aa y∧VR cx g v y:=
 r (fun l kvs=>bD (.str i) l=aa v→∃y,kQ kvs (sT i)=aa y∧VR cx g v y) (fun h=>no h) fun j w l y kvs hj rw ih h=>by
  cases q:ay j i with
  |true=>exact ⟨y,Y9 q,pM ((sM (p:=(.str j,w)) (k:=.str i) q).symm.trans h)▸rw⟩
  |false=>rw [VU hi hj q];exact ih ((px (p:=(.str j,w)) (k:=.str i) q).symm.trans h)
theorem RC.miss (r:RC cx g l kvs) (hi:i<nS):bD (.str i) l=aj→kQ kvs (sT i)=aj:=
 r (fun l kvs=>bD (.str i) l=aj→kQ kvs (sT i)=aj) (fun a=>rfl) fun j w l y kvs hj a ih h=>by
  cases q:ay j i with
  |true=>exact yx ((sM (p:=(.str j,w)) (k:=.str i) q).symm.trans h)
  |false=>rw [VU hi hj q];exact ih ((px (p:=(.str j,w)) (k:=.str i) q).symm.trans h)
theorem RC.nin (r:RC cx g l kvs) (hj:j<nS):(∀q∈l,lj (.str j) q.1=ae)→sT j∉kvs.map fX:=
 r (fun l kvs=>(∀q∈l,lj (.str j) q.1=ae)→sT j∉kvs.map fX) (fun a=>List.not_mem_nil) fun i v l y kvs hi a ih h z=>
  (aN.mp z).elim (fun e=>eW (h _ (.head _)) (mj _ hj _ hi e)) (ih fun q hq=>h q (.tail _ hq))
theorem WM (dr:DRs cx g l es):(∀p∈l,∃i,p.1=.str i)→l.Pairwise (fun p q=>lj p.1 q.1=ae)→∃kvs:List (Str×Value),Pairs cx.sK es kvs∧(∀e∈es,∃k,cx.sK.is k e.key=ac∧e.hash=cx.sK.hash k)∧RC cx g l kvs∧(kvs.map fX).Nodup:=
 DRs.ind (M:=fun l es=>(∀p∈l,∃i,p.1=.str i)→l.Pairwise (fun p q=>lj p.1 q.1=ae)→∃kvs:List (Str×Value),Pairs cx.sK es kvs∧(∀e∈es,∃k,cx.sK.is k e.key=ac∧e.hash=cx.sK.hash k)∧RC cx g l kvs∧(kvs.map fX).Nodup)
  (fun d d=>⟨[],.nil,(fun d h=>nomatch h),fun d h d=>h,.nil⟩) (fun p l e es a b c d ih hs pw=>by
   obtain ⟨k,v⟩:=p;refine ak (hs _ (.head _)) fun j ej=>?_;replace ej:k=.str j:=ej;subst ej;refine aK (fun hj h50=>ak h50 fun t ek=>?_) (iW a);have hk:cx.sK.is (sT j) e.key=ac:=by rw [ek];exact YL
   have pw:=List.pairwise_cons.mp pw;refine Ar (ih (fun q hq=>hs q (.tail _ hq)) pw.2) fun kvs p1 p7 p8 nd=>?_;exact ⟨(sT j,e.val)::kvs,.cons hk rfl p1,fun e' he'=>(aN.mp he').elim (fun z=>z▸⟨sT j,hk,b⟩) (p7 e'),fun P z s=>s j v l e.val kvs hj c (p8 P z s),ce.mpr ⟨p8.nin hj pw.1,nd⟩⟩) l dr
theorem iC {a:Addr} {d:Nat} {l:List (AV×AV)} (D:DAt cx g h a d l) (hs :∀p∈l,∃i,p.1=.str i):∃kvs:List (Str×Value),h.DictOf cx.sK a kvs∧kvs.length=l.length∧
 (∀{i:Nat} {k v:AV},i<nS→k=.str i→bD k l=aa v→∃y,kQ kvs (sT i)=aa y∧VR cx g v y)∧(∀{i:Nat},i<nS→bD (.str i) l=aj→kQ kvs (sT i)=aj)∧RC cx g l kvs:=by
 obtain ⟨⟨o,es,n,ho,xd,hd,dr⟩,ko,ns⟩:=D;exact Ar (WM dr hs ko.2) fun kvs p1 p7 r nd=>⟨kvs,⟨o,es,n,ho,xd,hd,fun e he=>p7 e (cD.mpr he),p1,nd⟩,r (fun l kvs=>kvs.length=l.length) rfl fun b b b b b b b ih=>congrArg bW ih,fun hi hk h=>r.hit hi (hk▸h),r.miss,r⟩
theorem EN {A:b9} {s:av} (W:nk cx om) (I:Inv cx g S.get S.nx s.heap) (hu:A.in1.units+64<cLine) (lm :∀i v,bD (.str i) m=aa v→j7 cx g v)
 (f1 :∀{i:Nat} {k v:AV},i<nS→k=.str i→bD k m=aa v→∃y,kQ kb (sT i)=aa y∧VR cx g v y) (f2 :∀{i:Nat},i<nS→bD (.str i) m=aj→kQ kb (sT i)=aj)
 (rc :∀(P:List (AV×AV)→List (Str×Value)→Prop),P [] []→(∀i v l y kvs,i<nS→VR cx g v y→P l kvs→P ((.str i,v)::l) ((sT i,y)::kvs))→P l ka):∀r,Bv (zD om S) m l=aa r→KeqHits A.in1 s kb ka r:=by
 refine rc (fun l ka=>∀r,Bv (zD om S) m l=aa r→KeqHits A.in1 s kb ka r) (fun r h=>by apply gF h;exact .nil) fun i v l y kvs hi rv ih r h=>?_;refine gO (x:=bD (.str i) m) h (fun w hd h=>ba h fun e he h=>ba h fun b hb h=>?_) fun hd h=>?_
 ·apply gF h;refine cg (f1 hi rfl hd) fun y' hy' rw'=>?_;apply Fy (Ds W I he ⟨y,rv⟩ ⟨y',rw'⟩);intro d d' D1 D2;exact .hit hy' (D1.eqAt D2 rv rw' hu) (ih b hb)
 ·apply gF h;exact .miss (f2 hi hd)
theorem Room.u65 (h:Room A n):A.units+64<cLine∧A.in1.units+64<cLine∧A.units<cLine:=by have:=h.units';exact ⟨by show A.units+64<9900;omega,by show A.units+1+64<9900;omega,by show A.units<9900;omega⟩
theorem Xf (dr:DRs cx g l es):∀k v,bD k l=aa v→j7 cx g v:=
 DRs.ind (M:=fun l a=>∀k v,bD k l=aa v→j7 cx g v) (fun a a h=>no h) (fun p l e es a a c a ih k v h=>by
  cases q:lj p.1 k with
  |true=>exact ao ((sM q).symm.trans h)▸⟨_,c⟩
  |false=>exact ih k v ((px q).symm.trans h)) l dr
theorem Dt (O:COk cx) (W:nk cx om) (h:kI om S a b=aa r) (R:Room A n) (I:Inv cx g S.get S.nx s.heap) (ra:VR cx g a x) (rb:VR cx g b y) (Q:Value→av→Prop):(Q (.bool r) s→aA cx.mo A (iO .Eq x y) Q F0 s)∧(Q (.bool (!r)) s→aA cx.mo A (iO .NotEq x y) Q F0 s):=by
 refine gO h (fun p hp h=>ba h fun q hq h=>bQ h fun k1 h=>bQ h fun k2 h=>?_) fun hp h=>ut h fun hq h=>?_
 ····obtain ⟨d,l⟩:=p;obtain ⟨e,m⟩:=q;replace h:(be (aa ae) (Bv (zD om S) m l) (ay (eZ l) (eZ m)):Option Bool)=aa r:=h;apply b7 (iY O I hp ra);intro xa D1;apply b7 (iY O I hq rb);intro xb D2;refine U6 (iC D1 (mV k1 D1.ko)) fun ka da la c c rc=>?_;refine U6 (iC D2 (mV k2 D2.ko)) fun kb db lb f1 f2 c=>?_;have lies :∀i v,bD (.str i) m=aa v→j7 cx g v:=by
      refine Ra D2.ok fun o es k ho xd hd dr=>?_;exact fun i v=>Xf dr (.str i) v
     have key :∃r',(ka.length=kb.length→KeqHits A.in1 s kb ka r')∧(ka.length==kb.length&&r')=r:=by
      replace h:=(cC ..)▸(cC ..)▸h;cases hb:ay l.length m.length with
      |false=>
       replace h:=hb▸h;apply gF h;refine ⟨ae,fun e=>?_,by exact au (Q9 ..)▸rfl⟩;replace e:=lb▸la▸e;replace hb:=(cp ..)▸(e ..)▸hb;exact U3 hb
      |true=>
       replace h:=hb▸h;have e:=am hb;exact ⟨r,fun c=>EN W I R.u65.2.1 lies f1 f2 rc r h,by rw [la,lb,e,beq_self_eq_true];rfl⟩
     refine cg key fun r' k1' k2'=>?_;refine k2'▸?_;exact ⟨fun q=>keq_eq D1.ns D2.ns da db R.u65.2.2 k1' q,fun q=>keq_ne D1.ns D2.ns da db R.u65.2.2 k1' q⟩
 ··apply Fy (Ds W I h ⟨x,ra⟩ ⟨y,rb⟩);intro d d' D1 D2;refine ak (D1.2 x ra) fun as p=>?_;refine ak (D2.2 y rb) fun bs q=>?_;exact ⟨fun z=>SeqAt.compareEq_shaped p q D1.1 D2.1 R.u65.1 z,fun z=>SeqAt.compareNe_shaped p q D1.1 D2.1 R.u65.1 z⟩
theorem BB (O:COk cx) (W:nk cx om) (h:YS om S a b=aa r):JC cx n .Eq a b S r∧JC cx n .NotEq a b S (!r):=by
 have main :∀A g s x y,Room A n→Inv cx g S.get S.nx s.heap→VR cx g a x→VR cx g b y→∀Q:Value→av→Prop,(Q (.bool r) s→aA cx.mo A (iO .Eq x y) Q F0 s)∧(Q (.bool (!r)) s→aA cx.mo A (iO .NotEq x y) Q F0 s):=by
  intro A g s x y R I ra rb Q;refine gO h (fun i hi h=>bQ h fun e h=>?_) fun c h=>Dt O W h R I ra rb Q;apply gF h;replace ra:=yJ hi▸ra;replace rb:=DA _ e▸rb;apply ra.vw;intro x ra;exact Dt O W (W.eqd i S.nx) R I.nil ra rb.res Q
 exact ⟨fun A g s x y R I ra rb=>(main A g s x y R I ra rb _).1 ⟨rfl,g,.refl I⟩,fun A g s x y R I ra rb=>(main A g s x y R I ra rb _).2 ⟨rfl,g,.refl I⟩⟩
theorem Uq (O:COk cx) (W:nk cx om) (h:dne om S a b=aa r):JC cx n .NotEq a b S r:=by
 refine zS h (fun c h=>ba h fun q hq h=>?_) fun hn h=>gO h (fun p hp h=>?_) fun c h=>gO h (fun i hi h=>?_) fun c h=>ba h fun q hq h=>?_
 ·apply gF h;exact (BB O W hq).2
 ·apply gF h;apply dW (sh hn);intro A g s x y R I ra rb;apply ra.vw;apply b7 (iY O I hp rb);intro xb D;exact mD D R.u65.2.2 ⟨rfl,g,.refl I⟩
 ·apply gF h;apply dW (sh hn);apply dW (yJ hi);intro A g s x y R I ra rb;apply ra.vw;apply rb.vw;intro y rb;apply b7 (iY O I rfl rb);intro xb D;exact mD D R.u65.2.2 ⟨rfl,g,.refl I⟩
 ·apply gF h;exact (BB O W hq).2
end
section
variable {cx:Cx} {g:Gh} {n:Nat} {S S':St} {om:Om} {a b v:AV} {r:Bool}
theorem zJ {Q:Value→av→Prop} (h :∀Q:Bool→av→Prop,(∀tk,Q r {s with toks:=tk})→aA cx.mo A (nt c x) Q F0 s) (q :∀tk,Q (.bool r) {s with toks:=tk}):aA cx.mo A (iO .In x c) Q F0 s:=by
 show aA _ _ (do return .bool (← nt c x)) Q F0 s;exact ag (h _ fun tk=>aq (q tk))
theorem x6 {Q:Value→av→Prop} (h :∀Q:Bool→av→Prop,(∀tk,Q r {s with toks:=tk})→aA cx.mo A (nt c x) Q F0 s) (q :∀tk,Q (.bool (!r)) {s with toks:=tk}):aA cx.mo A (iO .NotIn x c) Q F0 s:=by
 show aA _ _ (do return .bool (!(← nt c x))) Q F0 s;exact ag (h _ fun tk=>aq (q tk))
open Classical in
def rq (h:Heap) (y:Value):PyData:=if e :∃d as,Reads h y d as∧d.canLay0=ac then e.choose else .none
theorem zG (r:Reads h y d as) (c:d.canLay0=ac):rq h y=d:=by
 have e :∃d as,Reads h y d as∧d.canLay0=ac:=⟨d,as,r,c⟩
 unfold rq;erw[dif_pos e];refine cg e.choose_spec fun as' r' c'=>?_;exact SeqAt.Reads.unique _ _ _ _ _ c' r' r
theorem CP (I:Inv cx g S.get S.nx h) (rx:VR cx g a x):∀{l:List AV} {xs:List Value} {r:Bool},Hm (uG S) a l=aa r→VRs cx g l xs→
 ∃e:Value→Bool,(∀y∈xs,∀(A:b9) (s:av),s.heap=h→A.in1.units+64<cLine→wc A.in1 s y x (e y))∧xs.any e=r:=by
 intro l xs r hm rs;refine ⟨fun y=>iP (rq h y) (rq h x),?_⟩;refine VRs.ind (M:=fun l xs=>∀r,Hm (uG S) a l=aa r→(∀y∈xs,∀(A:b9) (s:av),s.heap=h→A.in1.units+64<cLine→wc A.in1 s y x (iP (rq h y) (rq h x)))∧(xs.any fun y=>iP (rq h y) (rq h x))=r) (fun r hm=>⟨(fun y hy=>nomatch hy),pM hm⟩) (fun v l y0 xs rv rs ih r hm=>?_) l rs r hm;refine ba (x:=uG S v a) hm fun e he hm=>ba hm fun b hb hm=>?_;apply gF hm;apply Fy (Dr I he ⟨_,rv⟩ ⟨x,rx⟩);intro d d' D1 D2;refine ak (D1.2 _ rv) fun as p=>ak (D2.2 _ rx) fun bs q=>aK (fun i1 i2=>?_) (ih b hb);have e1:=zG p (z_ D1.1);have e2:=zG q (z_ D2.1);refine ⟨fun y hy A s hs hu=>(aN.mp hy).elim (fun ey=>?_) fun hy=>i1 y hy A s hs hu,?_⟩
 ·subst hs;rw [ey,e1,e2];exact keq_at p q D1.1 D2.1 hu
 ·rw [kX,i2,e1,e2]
theorem m7 {vs:Array Value}:vs.any e=vs.toList.any e:=by simp
noncomputable def Xr (i:Int) (y:Value):Bool:=match y with|.int j _=>j==i|_=>ae
theorem NJ {ns:List Int}:∀{xs:List Value},VRs cx g (ns.map .int) xs→∀i,(∀y∈xs,∃j u,y=lF j u)∧xs.any (Xr i)=ns.contains i:=by
 induction ns with
 |nil=>intro xs rs i;rw [rs.nil_inv];exact ⟨(fun y hy=>nomatch hy),rfl⟩
 |cons j ns ih=>
  intro xs rs i;refine VRs.uncons rs fun y ys e r rs=>?_;apply dW e;refine ak (de r) fun u q=>?_;apply dW q;refine aK (fun p q=>⟨fun y hy=>(aN.mp hy).elim (fun e=>⟨j,u,e⟩) (p y),?_⟩) (ih rs i);rw [kX,q,Fx];show (j==i||_)=(i==j||_)
  rw [Bool.beq_comm]
theorem Ky (O:COk cx) (W:nk cx om) (h:Yc om a b S=aa r):JC cx n .In a b S r∧JC cx n .NotIn a b S (!r):=by
 have main :∀A g s x y,Room A n→Inv cx g S.get S.nx s.heap→VR cx g a x→VR cx g b y→∀Q:Value→av→Prop,((∀tk,Q (.bool r) {s with toks:=tk})→aA cx.mo A (iO .In x y) Q F0 s)∧((∀tk,Q (.bool (!r)) {s with toks:=tk})→aA cx.mo A (iO .NotIn x y) Q F0 s):=by
  intro A g s x y R I ra rb Q;refine gO h (fun l hl h=>?_) fun d h=>gO h (fun k hk h=>ba h fun i hi h=>?_) fun d h=>gO h (fun l hl h=>?_) fun d h=>ba h fun p hp h=>bQ h fun hk h=>?_
  ·replace rb:=fj hl▸rb;apply yH (nT I rb);intro c vs m T rs;refine cg (CP I ra h rs) fun e he hr=>?_;exact ⟨fun q=>KT e ⟨_,T,rfl,_,rfl⟩ (fun z hz=>he z (cD.mpr hz) A s rfl R.u65.2.1) (m7.trans hr▸q s.toks),fun q=>DL e ⟨_,T,rfl,_,rfl⟩ (fun z hz=>he z (cD.mpr hz) A s rfl R.u65.2.1) (m7.trans hr▸q s.toks)⟩
  ·apply gF h;replace rb:=LK hk▸rb;replace ra:=cP hi▸ra;refine ak (de ra) fun t q1400=>?_;apply dW q1400;apply rb.vw;intro c vs m f rs;have T:=I.fz _ _ f;refine aK (fun k1 k2=>?_) (NJ rs i);have he :∀z,z∈vs→wc A.in1 s z (.int i t) (Xr i z):=fun z hz=>by
    apply PT (k1 z (cD.mpr hz));intro j u;exact SeqAt.EqAt.int_int j u i t
   erw[(W.memb ..)];exact ⟨fun q=>KT _ ⟨_,T,rfl,_,rfl⟩ he (m7.trans k2▸q s.toks),fun q=>DL _ ⟨_,T,rfl,_,rfl⟩ he (m7.trans k2▸q s.toks)⟩
  ·apply b7 (li I hl rb);intro c L;refine cg L.is fun vs il rs=>?_;refine cg (CP I ra h rs) fun e he hr=>?_;exact ⟨fun q=>SeqAt.in_listAt e il (fun z hz=>he z (cD.mpr hz) A s rfl R.u65.2.1) (m7.trans hr▸q s.toks),fun q=>SeqAt.notIn_listAt e il (fun z hz=>he z (cD.mpr hz) A s rfl R.u65.2.1) (m7.trans hr▸q s.toks)⟩
  ·apply gF h;apply b7 (iY O I hp rb);intro c D;exact ⟨fun q=>zJ (fun Q q=>nI I.fz R hk ra D fun tk=>q tk) q,fun q=>x6 (fun Q q=>nI I.fz R hk ra D fun tk=>q tk) q⟩
 exact ⟨fun A g s x y R I ra rb=>(main A g s x y R I ra rb _).1 fun tk=>⟨rfl,g,.tok I tk⟩,fun A g s x y R I ra rb=>(main A g s x y R I ra rb _).2 fun tk=>⟨rfl,g,.tok I tk⟩⟩
theorem uq (h:Bk v=aa r) (rx:VR cx g v x):plainIs x .none=ac∧(x==gW)=r:=by
 cases v with
 |none=>apply rx.vw;apply gF h;exact ⟨rfl,rfl⟩
 |opq k=>exact no h
 |opa k=>exact no h
 |bi k=>exact no h
 |opd k=>apply gF h;apply rx.vw;intro x z;apply z.vw;exact fun a a a a a a a a a a=>⟨rfl,rfl⟩
 |_=>apply gF h;apply rx.vw;first|exact ⟨rfl,rfl⟩|exact fun a=>⟨rfl,rfl⟩|exact fun a a=>⟨rfl,rfl⟩|exact fun a a a=>⟨rfl,rfl⟩|exact fun a a a a a=>⟨rfl,rfl⟩|exact fun a a a a a a a a a a=>⟨rfl,rfl⟩
theorem pI (h:zX op a b=aa r):JC cx n (uH op) a b S r:=by
 refine ba h fun j hj h=>?_;apply dW (cP hj);refine gO h (fun i hi h=>?_) fun c h=>ba h fun k hk h=>bQ h fun e h=>bQ h fun hd h=>?_
 ·apply dW (cP hi);intro A g s x y R I ra rb;apply rb.vw;intro u;apply ra.vw;intro t;apply qN h;exact ⟨fun h=>no h,fun h=>no h,fun h=>by apply gF h;exact P.lt_int ⟨rfl,g,.refl I⟩,fun h=>by apply gF h;exact P.le_int ⟨rfl,g,.refl I⟩,fun h=>by apply gF h;exact P.gt_int ⟨rfl,g,.refl I⟩,fun h=>by apply gF h;exact P.ge_int ⟨rfl,g,.refl I⟩,trivial⟩
 ·apply dW (am e);apply gF h;apply dW (LL hk);intro A g s x y R I ra rb;apply rb.vw;intro u;apply ra.vw;intro i t hg;exact P.gt_int ⟨congrArg Fe (decide_eq_true (Int.lt_of_lt_of_le (of_decide_eq_true hd) hg)),g,.refl I⟩
theorem Pq (O:COk cx) (W:nk cx om) (hop:op<10) (h:qx om op a b S=aa r):JC cx n (uH op) a b S r:=by
 apply qN h;refine ⟨fun h=>(BB O W h).1,fun h=>Uq O W h,pI,pI,pI,pI,fun h=>(Ky O W h).1,fun h=>ba h fun q hq h=>?_,fun h=>bQ h fun e h=>?_,fun h=>bQ h fun e h=>ba h fun q hq h=>?_,trivial⟩
 ·apply gF h;exact (Ky O W hq).2
 ·apply dW (sh e);intro A g s x y R I ra rb;apply rb.vw;refine aK (fun h1 h2=>?_) (uq h ra);exact wpAny_is_plain h1 ⟨h2.symm▸rfl,g,.refl I⟩
 ·apply dW (sh e);apply gF h;intro A g s x y R I ra rb;apply rb.vw;refine aK (fun h1 h2=>?_) (uq hq ra);exact wpAny_isNot_plain h1 ⟨h2.symm▸rfl,g,.refl I⟩
end
noncomputable def MJ:Nat→qJ
 |0=>.Add|1=>.Sub|3=>.FloorDiv|4=>.Mod|5=>.Pow|_=>.Mult
section
variable {cx:Cx} {g:Gh} {n:Nat} {S S':St} {a b v:AV}
theorem WX {P:Prop} (a:x=ac) (b:(!x)=ac):P:=by
 cases x with
 |true=>exact ff b
 |false=>exact ff a
theorem NH (h:Xv op a b S=aa (v,S')):JB cx n (MJ op) a b S v S':=by
 refine ba h fun i hi h=>ba h fun j hj h=>ba h fun r hr h=>?_;apply dW (cP hi);apply dW (cP hj);apply xg h;intro A g s x y R I ra rb;apply ra.vw;intro t;apply rb.vw;intro u;apply qN hr;refine ⟨fun h=>no h,fun hr=>?_,fun hr=>bQ hr fun hp hr=>?_,fun hr=>bQ hr fun hp hr=>?_,fun hr=>bQ hr fun hp hr=>?_,fun hr=>bQ hr fun hp hr=>?_,trivial⟩
 ·apply gF hr;exact P.sub_int ⟨g,.tok I _,.int _ _⟩
 ·apply gF hr;apply dW (of_decide_eq_true hp);exact PyProof.Rows.mul_int ⟨g,.tok I _,.int _ _⟩ (IntMulOk.of_left (by decide))
 ·apply gF hr;refine ak (cZ.mp hp) fun z hz=>?_;apply dW (of_decide_eq_true hz.2);have hz:=ai.mp (show ([1,2,4,8,3].all fun y:Int=>!(y==0)&&!decide ((if y==0 then 0 else y.natAbs.log2 / 30+1)>300))=ac by decide +kernel) z hz.1;exact AutoIntOps.floordiv_1 (fun e=>WX e (ax.mp hz).1) (fun e=>WX (ax.mp e).1 (ax.mp hz).2) ⟨g,.tok I _,.int _ _⟩
 ·apply gF hr;exact AutoIntOps.mod_1 (fun e=>by replace hp:=(gV e)▸hp;exact ff hp) ⟨g,.tok I _,.int _ _⟩
 ·apply dW (of_decide_eq_true hp);cases j with
  |negSucc _=>exact no hr
  |ofNat m=>
   apply qN (show sl [aa 1,aa 2,aa 4,aa 8] m=aa r from hr);exact ⟨fun hr=>by apply gF hr;exact AutoIntOps.pow_0 (by decide) (by decide) ⟨g,.tok I _,.int _ _⟩,fun hr=>by apply gF hr;exact oH (by decide) (by decide) (by decide) (by decide) (by decide +kernel) ⟨g,.tok I _,.int _ _⟩,
    fun hr=>by apply gF hr;exact oH (by decide) (by decide) (by decide) (by decide) (by decide +kernel) ⟨g,.tok I _,.int _ _⟩,fun hr=>by apply gF hr;exact oH (by decide) (by decide) (by decide) (by decide) (by decide +kernel) ⟨g,.tok I _,.int _ _⟩,trivial⟩
theorem Pt (h:Yd a b S=aa (v,S')):JB cx n .Add a b S v S':=by
 refine gO h (fun i hi h=>ba h fun j hj h=>?_) fun f h=>gO h (fun l hl h=>ba h fun m hm h=>?_) fun f h=>?_
 ··apply dW (cP hi);apply dW (cP hj);apply xg h;intro A g s x y R I ra rb;refine ak (de ra) fun t q200=>?_;apply dW q200;refine ak (de rb) fun u q300=>?_;apply dW q300;exact P.add_int ⟨g,.tok I _,.int _ _⟩
 ··apply dW (fj hl);apply dW (fj hm);intro A g s x y R I ra rb;apply jP (mP h);intro hz q402;apply dW q402;rw [fM] at hz ⊢;refine Ym (nT I ra) fun c vs k q500 T rs=>?_;subst q500;refine Ym (nT I rb) fun d ws k' q600 T' rs'=>?_;subst q600;have rr:=rs.append rs';have e1:vs.size=l.length:=by simpa using rs.length
   have e2:ws.size=m.length:=by simpa using rs'.length
   by_cases hv:vs.isEmpty=ac
   ·refine wb ⟨_,T,rfl⟩ ⟨_,T',rfl⟩ yj Fc wf ve (r7 _ _) (AutoSeq1.tuple___add___tuple_tuple_0 c vs k d ws k' hv) ⟨T,T',g,.refl I,?_⟩;have:l=[]:=by
     have:vs.size=0:=by simpa [se] using hv
     exact eK (by omega)
    erw[this];exact rb
   ·by_cases hw:ws.isEmpty=ac
    ·refine wb ⟨_,T,rfl⟩ ⟨_,T',rfl⟩ yj Fc wf ve (r7 _ _) (AutoSeq1.tuple___add___tuple_tuple_1 c vs k d ws k' hv hw) ⟨T,T',g,.refl I,?_⟩;have:m=[]:=by
      have:ws.size=0:=by simpa [se] using hw
      exact eK (by omega)
     erw[(this ..),(cf ..)];exact ra
    ·replace hz:=bf▸hz;refine wb ⟨_,T,rfl⟩ ⟨_,T',rfl⟩ yj Fc wf ve (r7 _ _) (AutoSeq1.tuple___add___tuple_tuple_2 c vs k d ws k' hv hw (by erw[bE];omega)) ⟨T,T',?_⟩;have e:vs++ws=(vs.toList++ws.toList).toArray:=by simp
     erw[e];exact qh I rr
 ·intro A g s x y R I ra rb;refine ba h fun l hl h=>?_;refine ba h fun m hm h=>?_;apply jP (jr h);intro hz q702;apply dW q702;rw [fM] at hz ⊢;refine cg (li I hl ra) fun c q800 h80=>?_;refine pT h80 fun vs k T rs=>?_;apply dW q800;refine cg (li I hm rb) fun d q900 h90=>?_;refine pT h90 fun ws k' T' rs'=>?_;apply dW q900;have rr:=rs.append rs';have e1:vs.size=l.length:=by simpa using rs.length
  have e2:ws.size=m.length:=by simpa using rs'.length
  replace hz:=bf▸hz;refine wb ⟨_,T,rfl⟩ ⟨_,T',rfl⟩ noFill_list_add seq_list_add F.slot_list_add F.entry_list_add (F.args_list_add_2 _ _) (list_addW c d vs ws k k' aj aj #[] #[] (by erw[bE];omega)) ⟨T,T',?_⟩;have e:vs++ws=(vs.toList++ws.toList).toArray:=by simp
  erw[e];exact qj I rr
theorem Ps (h:Kz op a b S=aa (v,S')):JB cx n (MJ op) a b S v S':=by
 match op with
 |0=>exact Pt h
 |k+1=>exact NH h
end
section
variable {prog:Program} {w:World} {A:b9} {E:Value→av→Prop} {s:av}
def EntAt (h:Heap) (d:Addr) (es:Array DictEntry) (ep:Nat):Prop:=∃o,h.get? d=aa o∧o.ExactDict∧o.data=.dict es ep
theorem EntAt.typeIs (x:EntAt s.heap d es ep):s.TypeIs (.ref d) "dict":=let ⟨o,ho,hx,_⟩:=x;⟨o,ho,hx.1⟩
theorem t7 {Q:Value→av→Prop} (hd:(d==di)=ae) (hm:EntAt s.heap d es ep)
 (hQ:Q (.ref s.heap.objs.size) {s with heap:=s.heap.push {cls:=.type "dict_keyiterator",data:=.fields #[.ref d,.int 0 0,.int es.size 0,.int ep 0]}}):aA (lD prog w) A (qG (.ref d)) Q E s:=by
 have hT:=hm.typeIs;refine lG hm fun o ho hx hdat=>?_;refine wpAny_pyIter_slot hT yo (bR yo hT PySem.F.entry_dict_iter ?_ (PySem.F.args_dict_iter_1 _));unfold gZ.«dict.__iter__»;refine ag ?_;unfold Builtin.Dict.dictSlotNone;refine ag (d5 hT ?_);show aA _ _ (cR (cY d)) _ _ s;refine aq ?_;show aA _ _ (vf d >>= _) _ _ s;unfold vf;rw [if_neg (by rw [hd];exact jX)];refine ag (aq ?_);refine ag (gi ho hdat ?_);refine ag (z8 ho hdat ?_);refine ag (gf (aq ⟨_,rfl,"dict_keyiterator",_,⟨_,bZ _ rfl,rfl⟩,cr.lookup,?_⟩))
 simpa [UT] using hQ
theorem AH {Q:Option Value→av→Prop} (hit:s.heap.IsKeyIter it d i es.size ep) (hm:EntAt s.heap d es ep) (hx:es[i]? = aa e)
 (hQ :∀h',h'.IsKeyIter it d (i+1) es.size ep→c9 it s.heap h'→Q (aa e.key) {s with heap:=h'}):aA (lD prog w) A (qF (.ref it)) Q E s:=by
 refine lG (id hit) fun o ho hc hd=>?_;refine lG (id hm) fun od hod a hdd=>?_;unfold qF;refine ag (wpAny_attempt (eV (name:=iE "__next__") hit.typeIs cr
  (bR cr hit.typeIs nN ?_ (ny _))))
 refine ag (aq ?_);refine ag ?_;refine ag ?_
 first|refine ag (fg hit.typeIs (aq ?_))|refine ag (ig hit.typeIs (aq ?_))
 refine ag (wpAny_fieldsOf ho hd ?_);have hown:l7 "dict_keyiterator" = ae:=by decide
 simp only [hown,b_,if_false];show aA _ _ (if (cY d==gW)=ac then _ else _) _ _ s;rw [if_neg (show ¬ ((cY d==gW)=ac) from jX)];refine ag (aq ?_);refine ag (gi hod hdd ?_);rw [if_neg (by simp)];refine ag (aq ?_);refine ag (z8 hod hdd ?_);rw [if_neg (by simp)];refine aq ?_;simp only [show ¬ ((i:Int)<0) from by omega,if_false,Lh,hx];refine ag ?_
 first|refine ag (fg hit.typeIs (aq ?_))|refine ag (ig hit.typeIs (aq ?_))
 refine ag (Lb hit.typeIs ?_);show aA _ _ (setField (.ref it) 1 (UT ((i:Int)+1)) >>= _) _ _ s;refine ag (wpAny_setField ho hd (by simp) ?_);have hit':(s.heap.update it (Vv (·.setIfInBounds 1 (UT ((i:Int)+1))))).IsKeyIter it d (i+1) es.size ep:=
  ⟨_,dN _ ho (Obj.isFreed_of_fields (KW hd _)),(Obj.cls_mapFields ..).trans hc,by rw [KW hd];simp [UT]⟩
 refine ag (aQ ?_);refine ag (Lb (s:={s with heap:=s.heap.update it (Vv (·.setIfInBounds 1 (UT ((i:Int)+1))))}) hit'.typeIs ?_);show aA _ _ (cR e.key) _ _ _;exact aq (aq ⟨_,rfl,aq (hQ _ hit' (bT ..))⟩)
theorem vO {Q:Option Value→av→Prop} (hh:A.handled=aj) (hit:s.heap.IsKeyIter it d i es.size ep) (hm:EntAt s.heap d es ep) (hx:es.size≤i)
 (hQ :∀h',Heap.ExtBut it s.heap h'→Q aj {s with heap:=h'}):aA (lD prog w) A (qF (.ref it)) Q E s:=by
 refine lG (id hit) fun o ho hc hd=>?_;refine lG (id hm) fun od hod c hdd=>?_;unfold qF;refine ag (wpAny_attempt (eV (name:=iE "__next__") hit.typeIs cr
  (bR cr hit.typeIs nN ?_ (ny _))))
 refine ag (aq ?_);refine ag ?_;refine ag ?_
 first|refine ag (fg hit.typeIs (aq ?_))|refine ag (ig hit.typeIs (aq ?_))
 refine ag (wpAny_fieldsOf ho hd ?_);have hown:l7 "dict_keyiterator" = ae:=by decide
 simp only [hown,b_,if_false];show aA _ _ (if (cY d==gW)=ac then _ else _) _ _ s;erw[if_neg (show ¬ ((cY d==gW)=ac) from jX)];refine ag (aq ?_);refine ag (gi hod hdd ?_);rw [if_neg (by simp)];refine ag (aq ?_);refine ag (z8 hod hdd ?_);rw [if_neg (by simp)];refine aq ?_;simp only [show ¬ ((i:Int)<0) from by omega,if_false,Lh,Array.getElem?_eq_none hx];refine ag ?_
 first|refine ag (fg hit.typeIs (aq ?_))|refine ag (ig hit.typeIs (aq ?_))
 show aA _ _ (setField (.ref it) 0 .none >>= _) _ _ s;refine ag (wpAny_setField ho hd (by simp) ?_);show aA _ _ (newExc (.type "StopIteration") [] >>= _) _ _ _;refine ag ?_;simp only [newExc,newTuple];refine ag (gf ?_ (by size_fits));refine ag (m:=firstArgMember _ _) (qC (a:=gW) (by first|rfl|(simp only [firstArgMember];rfl)) ?_)
 refine gf ?_ (by size_fits);simp only [raiseNew];refine ag (wpAny_handled ?_);erw[(show A.in1.handled=aj from hh)];refine ag (aq (wpAny_throw ?_));refine ag (wpAny_isInstance (T:="StopIteration") (b:=ac) ⟨_,bZ _ rfl,rfl⟩ isSubtype_stop ?_);exact aq (hQ _ (((bT ..).extBut.push _).push _))
theorem EntAt.at (x:EntAt h d es ep) (e :∀o,h.get? d=aa o→h'.get? d=aa o):EntAt h' d es ep:=let ⟨o,ho,r⟩:=x;⟨o,e _ ho,r⟩
theorem wl (hh:A.handled=aj) (I d:Addr) (hne:d≠I) (es:Array DictEntry) (ep:Nat):
 Walks prog w A I [I,d] [I] es.size (fun i v=>(es.toList.map (·.key))[i]? = aa v) (fun i h=>h.IsKeyIter I d i es.size ep∧EntAt h d es ep) where
 sub:=fun b hb=>by simp at hb;simp [hb]
 frame:=fun a a a st hk=>⟨(let ⟨o,ho,r⟩:=st.1;⟨o,hk I (by simp) _ ho,r⟩),st.2.at fun o e=>hk d (by simp) o e⟩
 item:=fun i s Q E hi st hQ=>by
  refine AH st.1 st.2 (e:=es[i]) (by simp [hi]) fun h' hit' hs'=>?_;exact hQ _ h' s.toks (by simp [hi]) ⟨hit',st.2.at fun o e=>hs'.extBut d o hne e⟩ fun b o hb e=>hs'.extBut b o (fun h=>hb (by simp [h])) e
 done:=fun s Q E st hQ=>vO hh st.1 st.2 (aY _) fun h' he'=>hQ h' s.toks fun b o hb e=>he' b o (fun h=>hb (by simp [h])) e
 self:=fun a a a a st hQ=>wpAny_pyIter_keyiter st.1 hQ
end
structure WalkG (cx:Cx) (A:b9) (I:Addr) (src:List Addr) (N:Nat) (P:Nat→Value→Prop) (St:Nat→Heap→Prop):Prop where
 W:Walks cx.prog cx.w A I (I::src) [I] N P St
 cls :∀i h,St i h→∃o T,h.get? I=aa o∧o.cls=.type T∧["enumerate","zip","dict_itemiterator","dict_reverseitemiterator","odict_iterator","itertools.zip_longest","itertools.pairwise"].contains T=ae
 ne :∀b∈src,b≠I
abbrev KB (cx:Cx) (A:b9) (I:Addr) (src:List Addr) (ys:List Value) (St:Nat→Heap→Prop):Prop:=WalkG cx A I src ys.length (fun i y=>ys[i]? = aa y) St
theorem WalkG.there {P:Nat→Value→Prop} {St:Nat→Heap→Prop} (X:WalkG cx A I src N P St) (i:Nat) (h:Heap) (st:St i h):h.get? I≠aj:=by
 refine pT (X.cls i h st) fun o T ho a=>?_;erw[ho];exact fun z=>nomatch z
section
variable {cx:Cx} {g:Gh} {n:Nat} {S S':St} {A:b9} {s:av} {v:AV} {x:Value}
theorem DRs.keys (h:DRs cx g l es):VRs cx g (l.map (·.1)) (es.map (·.key)):=
 DRs.ind (M:=fun (l:List (AV×AV)) (es:List DictEntry)=>VRs cx g (l.map fX) (es.map DictEntry.key)) .nil (fun b b b b a b b b ih=>.cons a ih) l h
theorem wL {v:AV} {S:St} {items:List AV} {aZ:Option Nat} {P:Prop} (e:dX v S=aa (items,aZ)) (q1 :∀l,v=.tup l→items=l→P) (q2 :∀d l,v=.fd d l→items=iz (·.1) l→P)
 (q3 :∀j ro l,v=.loc j→S.get j=aa (.list ro .none l .none)→items=l→aZ=aa j→P) (q4 :∀j ro d l,v=.loc j→S.get j=aa (.dict ro d l)→items=iz (·.1) l→aZ=aa j→P):P:=
 gO e (fun l a e=>Fk e fun x f=>q1 l (fj a) x.symm) fun f e=>gO e (fun p a e=>Fk e fun x f=>q2 p.1 p.2 (Ce a) x.symm) fun f e=>ba e fun j a e=>ba e fun o b e=>ba e fun l c e=>Fk e fun x y=>
  y4 c (fun ro z=>q3 j ro l (g_ a) (z▸b) x.symm y.symm) fun ro d m z w=>q4 j ro d m (g_ a) (z▸b) (x.symm.trans w) y.symm
inductive DJ (cx:Cx) (A:b9) (g:Gh) (s:av) (x:Value) (items:List AV) (aZ:Option Nat):Prop
 |mk (ys:List Value) (src:List Addr):VRs cx g items ys→(∀b∈src,s.heap.get? b≠aj∧(g.fz b≠aj∨∃j,aZ=aa j∧g.ρ j=aa b))→(oI:Obj)→(St:Nat→Heap→Prop)→oI.isFreed=ae→KB cx A s.heap.objs.size src ys St→St 0 (s.heap.push oI)→
  (∀(E:Value→av→Prop) (Q:Value→av→Prop),Q (.ref s.heap.objs.size) {s with heap:=s.heap.push oI}→aA cx.mo A (qG x) Q E s)→DJ cx A g s x items aZ
theorem qq {St:Nat→Heap→Prop} (T:s.heap.get? a=aa o) (hk:g.fz a≠aj∨∃j,aZ=aa j∧g.ρ j=aa a) (rs:VRs cx g items ys) (nf:oI.isFreed=ae)
 (X:a≠s.heap.objs.size→KB cx A s.heap.objs.size [a] ys St) (st:(∀o,s.heap.get? a=aa o→(s.heap.push oI).get? a=aa o)→(s.heap.push oI).get? s.heap.objs.size=aa oI→St 0 (s.heap.push oI))
 (q :∀(E:Value→av→Prop) (Q:Value→av→Prop),Q (.ref s.heap.objs.size) {s with heap:=s.heap.push oI}→aA cx.mo A (qG x) Q E s):DJ cx A g s x items aZ:=
 .mk ys [a] rs (fun b hb=>aS.mp hb▸⟨fun z=>no (z.symm.trans T),hk⟩) oI St nf (X (bv (dA T))) (st (fun c e=>dB _ e) (bZ _ nf)) q
theorem sH (O:COk cx) (hh:A.handled=aj) (I:Inv cx g S.get S.nx s.heap) (e:dX v S=aa (items,aZ)) (r:VR cx g v x):DJ cx A g s x items aZ:=by
 have dictCase :∀{d:Nat} {l:List (AV×AV)} {a:Addr},DAt cx g s.heap a d l→(g.fz a≠aj∨∃j,aZ=aa j∧g.ρ j=aa a)→items=l.map (·.1)→x=.ref a→DJ cx A g s x items aZ:=by
  intro d l a D hk el ex;apply dW el;subst ex;refine Ra D.ok fun o es ep ho xd hd dr=>?_;have hm:EntAt s.heap a es ep:=⟨o,ho,xd,hd⟩
  refine qq (oI:={cls:=.type "dict_keyiterator",data:=.fields #[.ref a,.int 0 0,.int es.size 0,.int ep 0]}) (St:=fun i h=>h.IsKeyIter s.heap.objs.size a i es.size ep∧EntAt h a es ep) ho hk dr.keys rfl (fun ne=>⟨?_,fun i h st=>?_,fun b hb=>aS.mp hb▸ne⟩) (fun k z=>⟨⟨_,z,rfl,rfl⟩,hm.at k⟩) (fun E Q q=>t7 D.ns hm q)
  ·erw[(a9 ..),(aC ..)];exact wl hh s.heap.objs.size a ne es ep
  ·exact st.1.elim fun o h=>⟨o,_,h.1,h.2.1,by decide⟩
 refine wL e (fun l hv hi=>?_) (fun d l hv hi=>?_) (fun j ro l hv hj hi hd=>?_) (fun j ro d l hv hj hi hd=>?_)
 ·subst hv hi;refine me r fun a vs m ex f rs=>?_;apply dW ex;have T:=I.fz _ _ f;refine qq (oI:={cls:=.type "tuple_iterator",data:=.fields #[.ref a,.int 0 0]}) (St:=fun i h=>h.IsTupleIter s.heap.objs.size a i∧h.IsTuple a vs) T (.inl (by erw[f];exact fun z=>nomatch z)) rs rfl (fun ne=>⟨?_,fun i h st=>?_,fun b hb=>aS.mp hb▸ne⟩) (fun k z=>⟨⟨_,z,rfl,rfl⟩,⟨_,k _ T,rfl,_,rfl⟩⟩) (fun E Q q=>wpAny_pyIter_tuple ⟨_,T,rfl,_,rfl⟩ q)
  ·have:=Walks.tuple (prog:=cx.prog) (w:=cx.w) hh s.heap.objs.size a ne vs;erw[aC]
   simpa only [bu] using this
  ·exact st.1.elim fun o h=>⟨o,_,h.1,h.2.1,by decide⟩
 ·subst hv;exact s7 r fun a o es n ex z f xd hd ko dr=>dictCase ⟨⟨_,_,_,I.fz _ _ f,xd,hd,dr⟩,ko,z⟩ (.inl (by erw[f];exact fun z=>nomatch z)) (hi.trans (iL _ _)) ex
 ·subst hv hi;refine lG (mU I hj r) fun a q700 ra h70=>?_;refine pT h70 fun vs m T rs=>?_;apply dW q700;refine qq (oI:={cls:=.type "list_iterator",data:=.fields #[.ref a,.int 0 0]}) (St:=fun i h=>h.IsListIter s.heap.objs.size a i∧h.IsList a vs) T (.inr ⟨j,hd,ra⟩) rs rfl (fun ne=>⟨?_,fun i h st=>?_,fun b hb=>aS.mp hb▸ne⟩) (fun k z=>⟨⟨_,z,rfl,rfl⟩,⟨_,k _ T,rfl,_,rfl⟩⟩) (fun E Q q=>wpAny_pyIter_list ⟨_,T,rfl,_,rfl⟩ q)
  ·have:=Walks.list (prog:=cx.prog) (w:=cx.w) hh s.heap.objs.size a ne vs;erw[aC]
   simpa only [bu] using this
  ·exact st.1.elim fun o h=>⟨o,_,h.1,h.2.1,by decide⟩
 ·subst hv;refine lG (iM O I hj r) fun a q800 ra D=>?_;subst q800;exact dictCase D (.inr ⟨j,hd,ra⟩) (hi.trans (iL _ _)) rfl
end
section
variable {cx:Cx} {g g':Gh} {σ:Sto} {nx nx':Nat} {h h':Heap} {env:Env}
theorem Inv.swap {j:Nat} {ob ob':AO} (I:Inv cx g σ nx h) (e:σ j=aa ob) (same :∀a,cH g j ob' a↔cH g j ob a) (R:OR cx g h j ob'):Inv cx g (vg σ j (aa ob')) nx h:=by
 have oc :∀i ob1,vg σ j (aa ob') i=aa ob1→∃ob2,σ i=aa ob2∧(∀a,cH g i ob1 a↔cH g i ob2 a):=by
  intro i ob1 q
  by_cases z:i=j
  ·subst z;replace q:=(bo ..)▸q;cases q;exact ⟨ob,e,same⟩
  ·replace q:=(bA _ _ z)▸q;exact ⟨ob1,q,fun c=>.rfl⟩
 refine ⟨I.g0,I.base,I.fz,fun i ob1 q=>?_,fun i ob1 i' ob1' a q q' o o'=>?_,fun i ob1 a b q o o'=>?_,fun a z=>?_,I.top⟩
 ·by_cases z:i=j
  ·subst z;replace q:=(bo ..)▸q;cases q;exact R
  ·replace q:=(bA _ _ z)▸q;exact I.obj i ob1 q
 ·refine cg (oc i ob1 q) fun ob2 q2 s=>?_;refine cg (oc i' ob1' q') fun ob2' q2' s'=>?_;exact I.sep i ob2 i' ob2' a q2 q2' ((s a).mp o) ((s' a).mp o')
 ·refine cg (oc i ob1 q) fun ob2 q2 s=>?_;exact I.two i ob2 a b q2 o o'
 ·refine pT z fun i ob1 q o=>?_;refine cg (oc i ob1 q) fun ob2 q2 s=>?_;exact I.off a ⟨i,ob2,q2,(s a).mp o⟩
theorem iQ (r:Bool) (j:Nat) (S:St):(gq r j S=S)∨∃ob ob',S.get j=aa ob∧gq r j S=S.put j ob'∧EF ob' = !r∧(∀c fs,ob≠.inst c fs)∧(∀c fs,ob'≠.inst c fs)∧(∀(cx:Cx) g h,OR cx g h j ob→OR cx g h j ob'):=by
 unfold gq;cases S.get j with
 |none=>exact .inl rfl
 |some o=>cases o with
  |list b p l q=>exact .inr ⟨_,_,rfl,rfl,rfl,(fun i i z=>nomatch z),(fun i i z=>nomatch z),fun cx g h o=>o.vw fun i i i i a b c d=>.list a b c d⟩
  |dict b d l=>exact .inr ⟨_,_,rfl,rfl,rfl,(fun i i z=>nomatch z),(fun i i z=>nomatch z),fun cx g h o=>o.vw fun i i i i a b c d e f=>.dict a b c d e f⟩
  |inst _ _=>exact .inl rfl
theorem GL:dy (aa j) S=ae→∃ob,S.get j=aa ob∧EF ob=ac:=by
 show (aM ac TQ (S.get j):Bool)=ae→_;cases S.get j with
 |none=>exact fun h=>U3 h
 |some o=>exact fun h=>⟨o,rfl,o.casesOn (fun a a a a h=>congrArg Q8 h) (fun a a a h=>congrArg Q8 h) (fun a a a=>rfl) h⟩
theorem mO {j:Nat} {ob ob':AO} (n :∀c fs,ob≠.inst c fs) (n' :∀c fs,ob'≠.inst c fs) (a:Addr):cH g j ob' a↔cH g j ob a:=by
 constructor
 ·rintro (z|⟨⟨c,fs,z⟩,_⟩)
  ·exact .inl z
  ·exact absurd z (n' c fs)
 ·rintro (z|⟨⟨c,fs,z⟩,_⟩)
  ·exact .inl z
  ·exact absurd z (n c fs)
theorem qc {r:Bool} {j:Nat} {S:St} (I:Inv cx g S.get S.nx h):Inv cx g (gq r j S).get (gq r j S).nx h:=by
 rcases iQ r j S with e|⟨ob,ob',e,e2,w,n,n',k⟩
 ·erw[e];exact I
 ·erw[(e2 ..),(St.get_put ..),(St.nx_put ..)];exact I.swap e (mO n n') (k _ _ _ (I.obj j ob e))
theorem zi {o:Option Nat} {S:St} (I:Inv cx g S.get S.nx h):Evo cx g S.get S.nx h g (cL o S).get (cL o S).nx h:=by
 cases o with
 |none=>exact .refl I
 |some j=>
  show Evo cx g S.get S.nx h g (gq ac j S).get (gq ac j S).nx h;have I':=qc (r:=ac) (j:=j) I;rcases iQ ac j S with e|⟨ob,ob',e,e2,w,n,n',k⟩
  ·erw[e];exact .refl I
  ·rw [e2,St.get_put,St.nx_put] at I' ⊢;refine ⟨.refl g,I',fun a o q b=>q,fun a z=>.inl ?_,fun a z=>.inl ?_,fun a z=>.inl z,fun i z=>.inl ?_,fun a z=>z,aY _⟩
   ·refine pT z fun i ob1 q o=>?_
    by_cases y:i=j
    ·subst y;replace q:=(bo ..)▸q;cases q;exact ⟨i,ob,e,(mO n n' a).mp o⟩
    ·replace q:=(bA _ _ y)▸q;exact ⟨i,ob1,q,o⟩
   ·refine rJ z fun i ob1 q w1 o=>?_
    by_cases y:i=j
    ·subst y;replace q:=(bo ..)▸q;cases q;rw [w] at w1;cases w1
    ·replace q:=(bA _ _ y)▸q;exact ⟨i,ob1,q,w1,o⟩
   ·by_cases y:i=j
    ·subst y;erw[e];exact fun z=>nomatch z
    ·replace z:=(bA _ _ y)▸z;exact z
theorem nR {o:Option Nat} {S S':St} {Pl:Addr→Prop} (I:Inv cx g S.get S.nx h) (x:EvX cx Pl g S.get S.nx h g' S'.get S'.nx h'):EvX cx Pl g S.get S.nx h g' (bG o (dy o S) S').get (bG o (dy o S) S').nx h':=by
 cases hr:dy o S with
 |true=>exact x
 |false=>
  cases o with
  |none=>exact x
  |some j=>
   show EvX cx Pl g S.get S.nx h g' (gq ae j S').get (gq ae j S').nx h';have I':=qc (r:=ae) (j:=j) x.inv;rcases iQ ae j S' with e|⟨ob,ob',e,e2,w,n,n',k⟩
   ·erw[e];exact x
   ·refine cg (GL hr) fun ob0 e0 w0=>?_;refine ak ((I.obj j ob0 e0).place) fun a0 ra0=>?_;rw [e2,St.get_put,St.nx_put] at I' ⊢;refine ⟨x.le,I',x.keep,fun a z=>?_,fun a z=>?_,x.fzf,fun i z=>?_,x.ext,x.nx⟩
    ·refine pT z fun i ob1 q o=>?_
     by_cases y:i=j
     ·subst y;replace q:=(bo ..)▸q;cases q;exact x.fresh a ⟨i,ob,e,(mO n n' a).mp o⟩
     ·replace q:=(bA _ _ y)▸q;exact x.fresh a ⟨i,ob1,q,o⟩
    ·refine rJ z fun i ob1 q w1 o=>?_
     by_cases y:i=j
     ·subst y;replace q:=(bo ..)▸q;cases q;rcases o with o|⟨⟨c,fs,z⟩,_⟩
      ·replace o:=(x.le.ρ _ _ ra0)▸o;cases o;exact .inl ⟨i,ob0,e0,w0,.inl ra0⟩
      ·exact absurd z (n' c fs)
     ·replace q:=(bA _ _ y)▸q;exact x.wr a ⟨i,ob1,q,w1,o⟩
    ·by_cases y:i=j
     ·subst y;exact .inl (by erw[e0];exact fun z=>nomatch z)
     ·replace z:=(bA _ _ y)▸z;exact x.ids i z
theorem wO (I:Inv cx g S.get S.nx h) (ho :∃l,(∃ro,S.get j=aa (.list ro .none l .none))∨∃ro d m,S.get j=aa (.dict ro d m)) (ra:g.ρ j=aa a):¬ Own g (gq ac j S).get a:=by
 rintro ⟨i,ob1,q,w1,o⟩;have I':=qc (r:=ac) (j:=j) I;rcases iQ ac j S with e|⟨ob,ob',e,e2,w,n,n',k⟩
 ·replace q:=e▸q;have:S.get j≠aj:=by
   obtain ⟨l,⟨ro,z⟩|⟨ro,d,m,z⟩⟩:=ho<;>(erw[z];exact fun y=>nomatch y)
  unfold gq at e;obtain ⟨l,⟨ro,z⟩|⟨ro,d,m,z⟩⟩:=ho
  ·replace e:=z▸e;have e:S.put j (.list ac aj l aj)=S:=e;have hij:=I.sep i ob1 j _ a q z o (.inl ra);subst hij;replace q:=(bo ..)▸(St.get_put ..)▸au (e ..)▸q;cases q;cases w1
  ·replace e:=z▸e;have e:S.put j (.dict ac d m)=S:=e;have hij:=I.sep i ob1 j _ a q z o (.inl ra);subst hij;replace q:=(bo ..)▸(St.get_put ..)▸au (e ..)▸q;cases q;cases w1
 ·replace q:=(St.get_put ..)▸(e2 ..)▸q
  by_cases y:i=j
  ·subst y;replace q:=(bo ..)▸q;cases q;rw [w] at w1;cases w1
  ·replace q:=(bA _ _ y)▸q;exact y (I.sep i ob1 j ob a q e o (.inl ra))
end
inductive QW (vn:List Nat) (env:Env) (Pl:Addr→Prop):List Nat→List Expr→Prop
 |nil:QW vn env Pl [] []
 |cons {i x pos is es}:bc vn i=aa x→env.kindOf (sT x)≠aa .free→(∀a,(a=env.locals∨(env.kindOf (sT x)≠aa .local∧env.cells.lookup (sT x)=aa a))→Pl a)→QW vn env Pl is es→QW vn env Pl (i::is) (.Name (sT x) pos::es)
inductive Ad (vn:List Nat) (env:Env) (Pl:Addr→Prop):List Nat→Bool→Expr→Prop
 |one {i x pos}:bc vn i=aa x→env.kindOf (sT x)≠aa .free→(∀a,(a=env.locals∨(env.kindOf (sT x)≠aa .local∧env.cells.lookup (sT x)=aa a))→Pl a)→Ad vn env Pl [i] ac (.Name (sT x) pos)
 |tup {is es k pos}:QW vn env Pl is es→Ad vn env Pl is ae (.Tuple es k pos)
section
variable {cx:Cx} {n:Nat} {vn:List Nat} {env:Env} {Pl:Addr→Prop} {fr dC:Fr} {S:St} {v:AV}
theorem Kf {E:Value→av→Prop} (F:jw cx vn env) (T:QW vn env Pl is es):∀{xs:List AV} {ys:List Value} {fr:Fr} {s:av} {Q:Unit→av→Prop},kO is xs fr=aa dC→VRs cx g xs ys→Here cx vn env fr g S s→
 (∀s',AftX cx Pl g S s g S s'→Here cx vn env dC g S s'→Q () s')→aA cx.mo A (Fd ((uZ es env).map (·.2)) ys) Q E s:=by
 induction T with
 |nil=>
  intro xs ys fr s Q hb r H q;cases xs with
  |nil=>exact aq (q s (Aft.refl H.inv).x (ao hb▸H))
  |cons=>exact no hb
 |@cons i nm pos is es hx nf hp t ih=>
  intro xs ys fr s Q hb r H q;cases xs with
  |nil=>exact no hb
  |cons x xs=>
   refine r.uncons fun y ys e r rs=>?_;erw[e];show aA cx.mo A (fu ys (j_ (.Name (sT nm) pos) env _) >>= fun a=>Fd _ ys) Q E s;exact ag (aQ (v8 (mN F hx nf hp H r fun s1 a1 H1=>ih hb rs H1 fun s2 a2 H2=>q s2 (a1.trans a2) H2)))
theorem uQ (T:QW vn env Pl is es):(uZ es env).length=is.length∧(uZ es env).findIdx? (·.1)=aj:=by
 induction T with
 |nil=>exact ⟨rfl,rfl⟩
 |@cons i nm pos is es hx nf hp t ih=>
  have e:uZ (.Name (sT nm) pos::es) env=(ae,j_ (.Name (sT nm) pos) env)::uZ es env:=rfl;rw [e];exact ⟨congrArg bW ih.1,by rw [eM,ih.2];rfl⟩
theorem wZ (h:kO is xs fr=aa dC):xs.length=is.length:=by
 induction is generalizing xs fr with
 |nil=>cases xs with
  |nil=>rfl
  |cons=>exact no h
 |cons i is ih=>cases xs with
  |nil=>exact no h
  |cons x xs=>exact congrArg bW (ih h)
theorem zv (e:Heap.ExtBut h.objs.size h h'):∀b o,h.get? b=aa o→h'.get? b=aa o:=fun b o q=>e b o (bv (dA q)) q
theorem qv {E:Value→av→Prop} {Q:Unit→av→Prop} (hh:A.handled=aj) (F:jw cx vn env) (T:Ad vn env Pl bm one t) (hb:eI bm one v fr=aa dC) (r:VR cx g v y) (H:Here cx vn env fr g S s)
 (q :∀s',AftX cx Pl g S s g S s'→Here cx vn env dC g S s'→Q () s'):aA cx.mo A (j_ t env y) Q E s:=by
 cases T with
 |one hx nf hp=>
  have e:=pM hb;subst e;exact v8 (mN F hx nf hp H r q)
 |tup t=>
  refine ba (x:=nQ v) hb fun l hl hb=>?_
  ·replace r:=fj hl▸r;apply yH (nT H.inv r);intro a vs m T rs;refine aK (fun e1 e2=>?_) (uQ t);refine wpAny_assign_Tuple hh ⟨_,T,rfl,_,rfl⟩ (by refine au e1▸(wZ hb)▸rs.length▸?_;simp) e2 fun h' he=>?_;have a1:Aft cx g S s g S {s with heap:=h'}:=.of' (.grow H.inv (zv he));exact Kf F t hb rs (H.after a1) fun s2 a2 H2=>q s2 (a1.x.trans a2) H2
end
section
variable {cx:Cx} {g g':Gh} {σ σ':Sto} {nx nx':Nat} {h h' h'':Heap} {env:Env} {W Pl:Addr→Prop}
structure Stay (cx:Cx) (g:Gh) (σ:Sto) (Pl:Addr→Prop) (h:Heap) (b:Addr):Prop where
 there:h.get? b≠aj
 own:¬ Own g σ b
 pl:¬ Pl b
theorem Stay.evx (X:Stay cx g σ Pl h b) (x:EvX cx Pl g σ nx h g' σ' nx' h'):Stay cx g' σ' Pl h' b:=
 ⟨x.ext b X.there,fun w=>(x.wr b w).elim X.own X.there,X.pl⟩
theorem Stay.keep (X:Stay cx g σ Pl h b) (x:EvX cx Pl g σ nx h g' σ' nx' h'):∀o,h.get? b=aa o→h'.get? b=aa o:=fun o e=>x.keep b o e X.own X.pl
theorem Stay.heap (X:Stay cx g σ Pl h b) (k :∀b o,¬ W b→h.get? b=aa o→h'.get? b=aa o) (nw:¬ W b):Stay cx g σ Pl h' b:=by
 refine ⟨fun z=>?_,X.own,X.pl⟩;cases e:h.get? b with
 |none=>exact X.there e
 |some o=>replace z:=(k b o nw e)▸z;exact yx z
theorem EvX.sideN (x:EvX cx Pl g σ nx h g' σ' nx' h') (P:Priv cx g' σ' h' W) (k :∀b o,¬ W b→h'.get? b=aa o→h''.get? b=aa o) (fr :∀a,W a→h.get? a=aj):EvX cx Pl g σ nx h g' σ' nx' h'':=
 ⟨x.le,x.inv.side P k,fun a o e w p=>k a o (fun w'=>(by replace e:=(fr a w')▸e;exact no e)) (x.keep a o e w p),x.fresh,x.wr,x.fzf,x.ids,(fun a e z=>by
  have nw:¬ W a:=fun w'=>e (fr a w');cases q:h'.get? a with
  |none=>exact x.ext a e q
  |some o=>replace z:=(k a o nw q)▸z;exact yx z),x.nx⟩
theorem FR.side (R:FR cx g vn env fr h) (k :∀a o,fb env a→h.get? a=aa o→h'.get? a=aa o):FR cx g vn env fr h':=by
 obtain ⟨l,⟨m,⟨o,es,ep,ho,r⟩,hl⟩,hc⟩:=R;refine ⟨l,⟨m,⟨o,es,ep,k _ _ (.inl rfl) ho,r⟩,hl⟩,fun i x v c e1 e2 e3 e4=>?_⟩;obtain ⟨o,⟨ob,hob,hd⟩,hv⟩:=hc i x v c e1 e2 e3 e4;exact ⟨o,⟨ob,k _ _ (.inr ⟨_,e4⟩) hob,hd⟩,hv⟩
theorem Here.side {fr:Fr} {S:St} {s s':av} (H:Here cx vn env fr g S s) (P:Priv cx g S.get s.heap W) (k :∀b o,¬ W b→s.heap.get? b=aa o→s'.heap.get? b=aa o) (np :∀a,fb env a→¬ W a):Here cx vn env fr g S s':=by
 refine ⟨H.inv.side P k,H.fr.side fun a o p e=>k a o (np a p) e,⟨fun a p=>?_⟩⟩;refine Lm (H.sep.off a p) fun a1 a2 a3 a4=>?_;refine ⟨a1,a2,a3,fun z=>?_⟩;cases e:s.heap.get? a with
 |none=>exact a4 e
 |some o=>replace z:=(k a o (np a p) e)▸z;exact yx z
theorem AftX.sideN (x:AftX cx Pl g S s g' S' s') (P:Priv cx g' S'.get s'.heap W) (k :∀b o,¬ W b→s'.heap.get? b=aa o→hh.get? b=aa o) (fr :∀a,W a→s.heap.get? a=aj):
 AftX cx Pl g S s g' S' {s' with heap:=hh,toks:=tk}:=by
 obtain ⟨⟨h1,t1,rfl⟩,e⟩:=x;exact ⟨⟨hh,tk,rfl⟩,e.sideN P k fr⟩
end
inductive QZ (cx:Cx) (n:Nat) (vn:List Nat) (env:Env) (bm:List Nat) (one:Bool) (body:List b8) (x:AV) (K:Fr→St→jk→Fr→St→Prop) (fr:Fr) (S:St) (fl:jk) (fr3:Fr) (S3:St):Prop
 |next {dC fr2:Fr} {S2:St}:eI bm one x fr=aa dC→JX cx n vn env body dC S .next fr2 S2→K fr2 S2 fl fr3 S3→QZ cx n vn env bm one body x K fr S fl fr3 S3
 |brk {dC:Fr}:eI bm one x fr=aa dC→JX cx n vn env body dC S .brk fr3 S3→fl=.next→QZ cx n vn env bm one body x K fr S fl fr3 S3
 |ret {dC:Fr} {v:AV}:eI bm one x fr=aa dC→JX cx n vn env body dC S (.ret v) fr3 S3→fl=.ret v→QZ cx n vn env bm one body x K fr S fl fr3 S3
def Lp (cx:Cx) (n:Nat) (vn:List Nat) (env:Env) (bm:List Nat) (one:Bool) (body:List b8) (l:List AV):Fr→St→jk→Fr→St→Prop:=
 aP (fun fr S fl fr' S'=>fl=.next∧fr=fr'∧S=S') (fun x a ih=>QZ cx n vn env bm one body x ih) l
section
variable {cx:Cx} {n:Nat} {vn:List Nat} {env:Env} {bm:List Nat} {one:Bool} {body:List b8}
theorem Bb {E:Value→av→Prop} {P:Nat→Value→Prop} {Wt:Nat→Heap→Prop} {Q:Unit→av→Prop} (X:WalkG cx A I src N P Wt) (st:Wt i s.heap) (q:Q () s):aA cx.mo A (fR t (.ref I) y) Q E s:=by
 refine rJ (X.cls i _ st) fun o T ho hc hn=>?_;have core:aA cx.mo A (fR (.Tuple [] 0 default) (.ref I) y) Q E s:=by
  cases y with
  |ref a=>
   refine ag (wpAny_load ho ?_);rw [hc];generalize o.data=d;cases d with
   |fields vs=>
    show aA _ _ (if (List.contains _ T&&_)=ac then _ else cR ()) _ _ _;rw [hn];exact aq q
   |_=>exact aq q
  |_=>exact aq q
 cases t with
 |Tuple=>exact core
 |List=>exact core
 |_=>exact aq q
structure rB (cx:Cx) (vn:List Nat) (env:Env) (Pl:Addr→Prop) (A:b9) (it:Value) (t:Expr) (bm:List Nat) (one:Bool) (g0:Gh) (S0:St) (s0:av) (items:List AV) (Wt:Nat→Gh→St→av→Prop):Prop where
 keep :∀{i g S s g' S' s'},Wt i g S s→AftX cx Pl g S s g' S' s'→Wt i g' S' s'
 step :∀{i x fr dC g S s} {E:Value→av→Prop} {Q:Unit→av→Prop},items[i]? = aa x→eI bm one x fr=aa dC→Wt i g S s→Here cx vn env fr g S s→AftX cx Pl g0 S0 s0 g S s→
  (∀g' s',AftX cx Pl g0 S0 s0 g' S s'→Here cx vn env dC g' S s'→Wt (i+1) g' S s'→g.le g'→Q () s')→
  aA cx.mo A (qF it) (fun r s1=>match r with|none=>False|some v=>aA cx.mo A (fR t it v) (fun _ s2=>aA cx.mo A (j_ t env v) Q E s2) E s1) E s
 stop :∀{fr g S s} {E:Value→av→Prop} {Q:Option Value→av→Prop},Wt items.length g S s→Here cx vn env fr g S s→AftX cx Pl g0 S0 s0 g S s→
  (∀s',AftX cx Pl g0 S0 s0 g S s'→Here cx vn env fr g S s'→Q aj s')→aA cx.mo A (qF it) Q E s
 self :∀{i g S s} {E:Value→av→Prop} {Q:Value→av→Prop},Wt i g S s→Q it s→aA cx.mo A (qG it) Q E s
def RV (cx:Cx) (g:Gh) (P:Nat→Value→Prop) (items:List AV):Prop:=∀i x y,items[i]? = aa x→P i y→VR cx g x y
theorem VRs.rv (h:VRs cx g l ys):RV cx g (fun i y=>ys[i]? = aa y) l:=
 VRs.ind (M:=fun l ys=>RV cx g (fun i y=>ys[i]? = aa y) l) (fun i x y h a=>no h) (fun a a a a r rs ih i=>i.casesOn (fun x y h h'=>pM h▸pM h'▸r) fun i=>ih i) l h
structure Yg (cx:Cx) (Pl:Addr→Prop) (I:Addr) (src:List Addr) (P:Nat→Value→Prop) (items:List AV) (Wt:Nat→Heap→Prop) (i:Nat) (g:Gh) (S:Mine.St) (s:av):Prop where
 rv:RV cx g P items
 P:Priv cx g S.get s.heap (· = I)
 ks :∀b∈src,Stay cx g S.get Pl s.heap b
 st:Wt i s.heap
theorem tb {Pl:Addr→Prop} {P:Nat→Value→Prop} {Wt:Nat→Heap→Prop} (hh:A.handled=aj) (F:jw cx vn env) (T:Ad vn env Pl bm one t) (X:WalkG cx A I src items.length P Wt) (hPl :∀a,Pl a→fb env a) (np:¬ fb env I) (nw:s0.heap.get? I=aj):
 rB cx vn env Pl A (.ref I) t bm one g0 S0 s0 items (Yg cx Pl I src P items Wt):=by
 have keep :∀{i g S s g' S' s'},Yg cx Pl I src P items Wt i g S s→AftX cx Pl g S s g' S' s'→Yg cx Pl I src P items Wt i g' S' s':=by
  intro i g S s g' S' s' k a;refine ⟨fun i x y h h'=>(k.rv i x y h h').mono a.evo.le,k.P.evx a.evo,fun b hb=>(k.ks b hb).evx a.evo,X.W.frame i _ _ k.st fun b hb o e=>?_⟩;rcases aN.mp hb with rfl|hb
  ·exact a.evo.keep _ _ e (fun w=>(k.P.off _ rfl).1 w.oc) fun z=>np (hPl _ z)
  ·exact (k.ks b hb).keep a.evo o e
 refine ⟨keep,?_,?_,fun k q=>X.W.self _ _ _ _ k.st q⟩
 ·intro i x fr dC g S s E Q hi hb k H a q;obtain ⟨rv,Pr,ks,st⟩:=k;have hlt:i<items.length:=(gE.mp hi).1;refine X.W.item i s _ _ hlt st fun y h' tk hy st' hk=>?_;have r0:=rv i x y hi hy;have k' :∀b o,¬ (b=I)→s.heap.get? b=aa o→h'.get? b=aa o:=fun b o nb e=>hk b o (by simpa using nb) e;have a1:AftX cx Pl g0 S0 s0 g S {s with heap:=h',toks:=tk}:=a.sideN Pr k' fun a e=>e▸nw;have H1:Here cx vn env fr g S {s with heap:=h',toks:=tk}:=H.side Pr k' fun a p e=>np (e▸p);have W1:Yg cx Pl I src P items Wt (i+1) g S {s with heap:=h',toks:=tk}:=
   ⟨rv,⟨fun b e=>let ⟨p1,p2,p3,_⟩:=Pr.off b e;⟨p1,p2,p3,e▸X.there _ _ st'⟩⟩,fun b hb=>(ks b hb).heap k' (X.ne b hb),st'⟩
  exact Bb X (i:=i+1) st' (qv hh F T hb r0 H1 fun s2 a2 H2=>q g s2 (a1.trans a2) H2 (keep W1 a2) (.refl g))
 ·intro fr g S s E Q k H a q;obtain ⟨rv,Pr,ks,st⟩:=k;refine X.W.done s _ _ st fun h' tk hk=>?_;have k' :∀b o,¬ (b=I)→s.heap.get? b=aa o→h'.get? b=aa o:=fun b o nb e=>hk b o (by simpa using nb) e;exact q _ (a.sideN Pr k' fun a e=>e▸nw) (H.side Pr k' fun a p e=>np (e▸p))
theorem jW {α:Type} {x:α} {xs:List α} (l:List α):∀{i:Nat},x::xs=l.drop i→l[i]? = aa x∧xs=l.drop (i+1):=by
 induction l with
 |nil=>intro i h;rw [kW] at h;exact nomatch h
 |cons a l ih=>
  intro i h;cases i with
  |zero=>injection h with e1 e2;exact ⟨congrArg aa e1.symm,e2⟩
  |succ i=>exact ih h
inductive Yj (cx:Cx) (n:Nat) (vn:List Nat) (env:Env) (bm:List Nat) (one:Bool) (body:List b8) (g0:Gh) (S0:St) (s0:av) (items:List AV) (fl:jk) (dC:Fr) (S1:St) (Wt:Nat→Gh→Mine.St→av→Prop):Nat→av→Prop
 |mk {i g fr S xs s}:i+xs.length=items.length→xs=items.drop i→Lp cx n vn env bm one body xs fr S fl dC S1→Here cx vn env fr g S s→AftX cx (fb env) g0 S0 s0 g S s→Wt i g S s→Yj cx n vn env bm one body g0 S0 s0 items fl dC S1 Wt xs.length s
theorem uA {Wt:Nat→Gh→Mine.St→av→Prop} {Q:d_→av→Prop} {E:Value→av→Prop} {Z:av→Prop} (R:Room A n) (X:rB cx vn env (fb env) A it t bm one g0 S0 s0 items Wt)
 (hix:items[i]? = aa x) (hb:eI bm one x fr=aa dC) (J:JX cx n vn env body dC S fl fr2 S2) (H:Here cx vn env fr g S s) (a:AftX cx (fb env) g0 S0 s0 g S s) (st:Wt i g S s)
 (q :∀g2 s2 f,AftX cx (fb env) g0 S0 s0 g2 S2 s2→Here cx vn env fr2 g2 S2 s2→FlR cx g2 fl f→Wt (i+1) g2 S2 s2→Q f s2):
 aA cx.mo A (qF it) (fun r s1=>match r with|none=>Z s1|some v=>aA cx.mo A (fR t it v) (fun b s2=>aA cx.mo A (j_ t env v) (fun b s₂=>aA cx.mo A (qH body env) Q E s₂) E s2) E s1) E s:=
 aE (X.step (Q:=fun b s₂=>aA cx.mo A (qH body env) Q E s₂) hix hb st H a fun g2 s2 a2 H2 K2 b=>aE (J.use R H2 fun g3 s3 f a3 H3 r3=>q g3 s3 f (a2.trans a3) H3 r3 (X.keep K2 a3)) (fun b b z=>z) Fb)
  (fun r s1 h1=>by cases r with
   |none=>exact h1.elim
   |some v=>exact h1) fun b b z=>z
theorem wR {A:b9} {it:Value} {t:Expr} {g0 g:Gh} {S0 S S1:St} {s0 s:av} {items:List AV} {fr dC:Fr} {fl:jk} {Wt:Nat→Gh→Mine.St→av→Prop} (R:Room A n) (X:rB cx vn env (fb env) A it t bm one g0 S0 s0 items Wt)
 (L:Lp cx n vn env bm one body items fr S fl dC S1) (H:Here cx vn env fr g S s) (a:AftX cx (fb env) g0 S0 s0 g S s) (st:Wt 0 g S s):
 gm cx.mo A (.forLoop t it body [] env) (fun r s'=>match r with|.ok f=>∃g',AftX cx (fb env) g0 S0 s0 g' S1 s'∧Here cx vn env dC g' S1 s'∧FlR cx g' fl f|.error e=>UY cx.mo A env F0 e s') s:=by
 refine codeAny_forLoop_any (Yj cx n vn env bm one body g0 S0 s0 items fl dC S1 Wt) (fun k s I=>?_) items.length (.mk (dI _) rfl L H a st);refine I.rec fun {i g fr S xs s} hi hxs L H a st=>?_;cases xs with
 |nil=>
  have L:fl=.next∧fr=dC∧S=S1:=L;exact X.stop ((Nat.add_zero _).symm.trans hi▸st) H a fun s' a' H'=>z7 ⟨_,L.2.2▸a',L.2.1▸L.2.2▸H',L.1▸.next⟩
 |cons x xs=>
  have L:QZ cx n vn env bm one body x (Lp cx n vn env bm one body xs) fr S fl dC S1:=L;refine L.rec (fun hb J L'=>?_) (fun hb J e=>?_) (fun hb J e=>?_)
  ·exact uA R X (jW _ hxs).1 hb J H a st fun g2 s2 f a2 H2 r2 K2=>by cases r2;exact ⟨_,a8 _,.mk ((gX _ _).trans hi) (jW _ hxs).2 L' H2 a2 K2⟩
  ·exact uA R X (jW _ hxs).1 hb J H a st fun g2 s2 f a2 H2 r2 K2=>by cases r2;exact ⟨g2,a2,H2,e▸.next⟩
  ·exact uA R X (jW _ hxs).1 hb J H a st fun g2 s2 f a2 H2 r2 K2=>by cases r2 with|ret r=>exact ⟨g2,a2,H2,e▸.ret r⟩
end
noncomputable def ft (e:Expr):Bool:=nE 7 e
theorem lx (h:ft e=ac):Vq e env x=cR x:=by cases e<;>first|rfl|exact ff h
section
variable {cx:Cx} {n:Nat} {vn:List Nat} {env:Env} {bm:List Nat} {one:Bool} {body:List b8} {fr dC:Fr} {S S1 S2:St} {v:AV} {fl:jk}
theorem qZ (h:dX v S=aa (items,aa j)):∃l,(∃ro,S.get j=aa (.list ro .none l .none))∨∃ro d m,S.get j=aa (.dict ro d m):=
 gO h (fun a a h=>Fk h fun a y=>no y) fun a h=>gO h (fun a a h=>Fk h fun a y=>no y) fun a h=>ba h fun k a h=>ba h fun o e h=>ba h fun l q h=>Fk h fun a y=>
  pM y▸y4 q (fun ro z=>⟨l,.inl ⟨ro,z▸e⟩⟩) fun ro d m z a=>⟨[],.inr ⟨ro,d,m,z▸e⟩⟩
theorem qO {A:Addr} {s:av} (H:Here cx vn env fr g S s):¬ fb env s.heap.objs.size:=fun p=>(H.sep.off _ p).2.2.2 (a_ _)
def KD (g:Gh) (aZ:Option Nat) (S:St) (h:Heap) (src:List Addr):Prop:=
 ∀b∈src,h.get? b≠aj∧(g.fz b≠aj∨∃j,aZ=aa j∧g.ρ j=aa b∧∃l,(∃ro,S.get j=aa (.list ro .none l .none))∨∃ro d m,S.get j=aa (.dict ro d m))
theorem s6 {g:Gh} {s:av} {oI:Obj} {src:List Addr} {P:Nat→Value→Prop} {Wt:Nat→Heap→Prop} {aZ:Option Nat} {items:List AV} {Pl:Addr→Prop} (hPl :∀a,Pl a→fb env a) (H:Here cx vn env fr g S s) (nf:oI.isFreed=ae) (hs:KD g aZ S s.heap src) (rv:RV cx g P items) (st:Wt 0 (s.heap.push oI)):
 Aft cx g S s g (cL aZ S) {s with heap:=s.heap.push oI}∧¬ fb env s.heap.objs.size∧Yg cx Pl s.heap.objs.size src P items Wt 0 g (cL aZ S) {s with heap:=s.heap.push oI}:=by
 have k :∀b o,s.heap.get? b=aa o→(s.heap.push oI).get? b=aa o:=bC oI;have a1:Aft cx g S s g S {s with heap:=s.heap.push oI}:=.of' (.grow H.inv k);have H1:=H.after a1;have ah:Aft cx g S {s with heap:=s.heap.push oI} g (cL aZ S) {s with heap:=s.heap.push oI}:=⟨⟨_,_,rfl⟩,zi H1.inv⟩
 have H2:=H1.after ah;have P0:Priv cx g S.get (s.heap.push oI) (· = s.heap.objs.size):=Priv.new H.inv fun a e=>⟨e▸a_ _,by erw[e,gG nf];exact fun z=>nomatch z⟩
 have np:=qO (A:=0) H;refine ⟨a1.trans H.inv ah,np,rv,P0.evx (Pl:=Pl) ah.x.evo,fun b hb=>?_,st⟩;refine aK (fun h1 h2=>?_) (hs b hb);refine ⟨j6 k b h1,?_,?_⟩
 ·rcases h2 with h2|⟨j,e,ra,hi⟩
  ·exact fun w=>h2 (H2.inv.off b w.oc).2
  ·apply dW e;exact wO H.inv hi ra
 ·intro p;refine B6 (H.sep.off b (hPl b p)) fun p1 p2 c=>?_;rcases h2 with h2|⟨j,e,ra,l,⟨ro,z⟩|⟨ro,d,m,z⟩⟩
  ·exact h2 p2
  ·apply dW e;exact p1 ⟨j,_,z,.inl ra⟩
  ·apply dW e;exact p1 ⟨j,_,z,.inl ra⟩
theorem zm {P:Nat→Value→Prop} {Wt:Nat→Heap→Prop} (R:Room A n) (F:jw cx vn env) (T:Ad vn env (fb env) bm one t) (H:Here cx vn env fr g S s)
 (nf:oI.isFreed=ae) (hs:KD g aZ S s.heap src) (rv:RV cx g P items) (X:WalkG cx A s.heap.objs.size src items.length P Wt) (st:Wt 0 (s.heap.push oI)) (L:Lp cx n vn env bm one body items fr (cL aZ S) fl dC S2):
 gm cx.mo A (.forLoop t (.ref s.heap.objs.size) body [] env) (fun r s'=>match r with|.ok f=>∃g',AftX cx (fb env) g S s g' (bG aZ (dy aZ S) S2) s'∧Here cx vn env dC g' (bG aZ (dy aZ S) S2) s'∧FlR cx g' fl f|.error e=>UY cx.mo A env F0 e s') {s with heap:=s.heap.push oI}:=by
 refine B6 (s6 (Pl:=fb env) (fun a z=>z) H nf hs rv st) fun a2 np wk=>?_;refine dp (wR (S0:=S) (s0:=s) (g0:=g) R (tb R.handled F T X (fun a z=>z) np (a_ _)) L (H.after a2) a2.x wk) fun r s' hr=>?_;cases r with
 |error e=>exact hr
 |ok f=>
  refine lG hr fun g' a3 H3 r3=>?_;have a4:AftX cx (fb env) g S s g' (bG aZ (dy aZ S) S2) s':=⟨a3.same,nR H.inv a3.evo⟩
  exact ⟨g',a4,⟨a4.evo.inv,H3.fr,H.sep.evx a4.evo⟩,r3⟩
theorem Jd (O:COk cx) (R:Room A n) (F:jw cx vn env) (T:Ad vn env (fb env) bm one t) (H:Here cx vn env fr g S s) (r:VR cx g v x) (hi:dX v S=aa (items,aZ))
 (L:Lp cx n vn env bm one body items fr (cL aZ S) fl dC S2):
 aA cx.mo A (qG x) (fun it s₂=>gm cx.mo A (.forLoop t it body [] env) (fun r s'=>match r with|.ok f=>∃g',AftX cx (fb env) g S s g' (bG aZ (dy aZ S) S2) s'∧Here cx vn env dC g' (bG aZ (dy aZ S) S2) s'∧FlR cx g' fl f|.error e=>UY cx.mo A env F0 e s') s₂) F0 s:=by
 obtain ⟨ys,src,rs,hs,oI,Wt,nf,X,st,hp⟩:=sH O R.handled H.inv hi r;have X':WalkG cx A s.heap.objs.size src items.length (fun i y=>ys[i]? = aa y) Wt:=by refine rs.length▸?_;exact X
 refine hp _ _ (zm R F T H nf (fun b hb=>?_) rs.rv X' st L);refine aK (fun h1 h2=>?_) (hs b hb);refine ⟨h1,h2.imp id ?_⟩;rintro ⟨j,e,ra⟩;subst e;exact ⟨j,rfl,ra,qZ hi⟩
theorem TL {pos} (O:COk cx) (F:jw cx vn env) (T:Ad vn env (fb env) bm one t) (ns:ft it=ac) (he:JE cx n vn env it fr S v S1) (hi:dX v S1=aa (items,aZ)) (L:Lp cx n vn env bm one body items fr (cL aZ S1) fl dC S2):
 J1 cx n vn env (.For t it body [] pos) fr S fl dC (bG aZ (dy aZ S1) S2):=fun A g s R H=>by
 refine wpAny_For (he.use R H fun g1 s1 x a1 H1 r1=>?_) fun b=>lx ns;refine aE (Jd O R F T H1 r1 hi L) (fun it s2 h=>dp h fun r s' hr=>?_) fun b b z=>z;cases r with
 |error e=>exact hr
 |ok f=>refine lG hr fun g' a H' r'=>?_;exact ⟨g',a1.x.trans a,H',r'⟩
theorem t5 (k:Nat):∀(a c:Int),(nV k a c).length=k:=fF (fun b b=>rfl) (fun b ih a c=>congrArg bW (ih (a+c) c)) k
theorem AF (k:Nat):∀(a c:Int) (i:Nat) (x:AV),(nV k a c)[i]? = aa x→x=.int (a+i*c):=by
 induction k with
 |zero=>exact fun b b i x h=>no h
 |succ k ih=>
  intro a c i x h;cases i with
  |zero=>apply gF h;rw [Int.natCast_zero,Int.zero_mul,Int.add_zero]
  |succ i=>rw [ih (a+c) c i x h,Int.natCast_succ,Int.add_mul,Int.one_mul,Int.add_comm (_*_) c,Int.add_assoc]
theorem xW (h:N8 i=ac):-1000<i∧i<1000:=⟨of_decide_eq_true (ax.mp h).1,of_decide_eq_true (ax.mp h).2⟩
theorem wu (h:t6 a b c=aa items):0<c∧items=nV items.length a c∧f7 a b c=(items.length:Int)∧vm a b c=ac∧(-1000<a∧a<1000)∧(-1000<b∧b<1000)∧c<1000:=by
 refine bQ h fun h0 h=>bQ h fun h1 h=>bQ h fun h2 h=>bQ h fun h3 e=>?_;apply gF e;have h0:=of_decide_eq_true h0;have h1:=xW h1;have h2:=xW h2;have h3:=xW h3;have hk:f7 a b c=(AG a b c:Int)∧f7 a b c<2000∧0≤f7 a b c:=by
  show (if 0<c then if a<b then (b-a-1) / c+1 else 0 else _)=_∧(if 0<c then if a<b then (b-a-1) / c+1 else 0 else _)<_∧_≤(if 0<c then if a<b then (b-a-1) / c+1 else 0 else _);rw [if_pos h0];unfold AG
  by_cases q:a<b
  ·rw [if_pos q,decide_eq_true q];have h4:0≤(b-a-1) / c:=Int.ediv_nonneg (by omega) (by omega);have h5:(b-a-1) / c≤b-a-1:=Int.ediv_le_self _ (by omega);exact ⟨(Int.toNat_of_nonneg (U0 h4)).symm,by omega,U0 h4⟩
  ·rw [if_neg q,decide_eq_false q];exact ⟨rfl,by decide,by decide⟩
 refine ⟨h0,by exact au (t5 ..)▸rfl,by rw [t5];exact hk.1,?_,h1,h2,h3.2⟩;unfold vm Builtin.Range.rangeFitsLong;have hs:=hk.2;have g0:c>0:=h0;simp only [g0,if_true,Lj,decide_eq_true_eq,Bool.or_eq_true,beq_iff_eq];refine ⟨⟨⟨⟨?_,?_⟩,?_⟩,?_⟩,.inr ?_⟩<;>constructor<;>omega
theorem yU (hh:A.handled=aj) (I:Addr) (a c:Int) (k:Nat):WalkG cx A I [] k (fun i v=>∃t,v=.int (a+i*c) t) (fun i h=>IsRangeIter h I (a+(i:Nat)*c) ((k:Int)-(i:Nat)) c):=
 ⟨Walks.range hh I a c k,fun i h st=>⟨_,_,st,rfl,by decide⟩,fun b hb=>by cases hb⟩
theorem GO:RV cx g (fun i v=>∃t,v=.int (a+i*c) t) (nV k a c):=fun i x y h ⟨t,e⟩ =>by
 erw[AF k a c i x h,e];exact .int _ t
theorem AE (rs:VRs cx g vs xs) (h:oX vs=aa items):∃(a b c:Int) (t u w:Tok),t6 a b c=aa items∧
 ∀(E:Value→av→Prop) (Q:Value→av→Prop),(∀tk t u w,Q (.ref s.heap.objs.size) {s with heap:=s.heap.push {cls:=.type "range",data:=.fields #[.int a t,.int b u,.int c w]},toks:=tk})→aA cx.mo A (call (.type "range") xs) Q E s:=by
 cases vs with
 |nil=>exact no h
 |cons a vs=>
  refine ba h fun x hx h=>rs.uncons fun y ys e ra rs=>?_;erw[e];refine ak (de (cP hx▸ra)) fun t q700=>?_;apply dW q700;cases vs with
  |nil=>erw[rs.nil_inv];exact ⟨0,_,1,0,0,0,h,fun E Q q=>call_range_1 (q _ _ _ _)⟩
  |cons b vs=>
   refine ba h fun y hy h=>rs.uncons fun z zs e rb rs=>?_;erw[e];refine ak (de (cP hy▸rb)) fun u q800=>?_;apply dW q800;cases vs with
   |nil=>erw[rs.nil_inv];exact ⟨_,_,1,0,0,0,h,fun E Q q=>call_range_2 (q _ _ _ _)⟩
   |cons c vs=>
    refine ba h fun z hz h=>rs.uncons fun z zs e rc rs=>?_;erw[e];refine ak (de (cP hz▸rc)) fun w q900=>?_;apply dW q900;cases vs with
    |nil=>
     erw[rs.nil_inv];refine z06 (wu h) fun h0 d d d h1 h2 d=>?_;exact ⟨_,_,_,0,0,0,h,fun E Q q=>call_range_3 (Int.ne_of_gt h0) (q _ _ _ _) (.inl (PyProof.noPylong_small (by omega)))⟩
    |cons _ _=>exact no h
end
section
variable {cx:Cx} {n:Nat} {vn:List Nat} {env:Env} {bm:List Nat} {one:Bool} {body:List b8} {fr dC:Fr} {S S1 S2 S3:St} {v:AV} {fl:jk}
theorem iZ (h:VR cx g (.bi k) x):x=bV k:=h.vw (Q:=fun x=>x=bV k) rfl
theorem Ec {Q:Value→av→Prop} (O:COk cx) (na:dS e=ac) (ns:cO args=ac) (he:JE cx n vn env e fr S (.bi 1) S1) (hl:JL cx n vn env args fr S1 vs S2) (hr:oX vs=aa items) (R:Room A n) (H:Here cx vn env fr g S s)
 (q :∀g' s' r,Aft cx g S s g' S2 s'→Here cx vn env fr g' S2 s'→(∀(E:Value→av→Prop) (Q:Value→av→Prop),(∀oI a c,oI.isFreed=ae→items=nV items.length a c→IsRangeIter (s'.heap.push oI) s'.heap.objs.size (a+(0:Nat)*c) ((items.length:Int)-(0:Nat)) c→Q (.ref s'.heap.objs.size) {s' with heap:=s'.heap.push oI})→aA cx.mo A (qG r) Q E s')→Q r s'):
 aA cx.mo A (dm (.Call e args [] pos) env) Q F0 s:=by
 erw[gH na];refine ag (he.use R H fun g1 s1 x a1 H1 r1=>?_);erw[iZ r1];refine zP (first:=[]) O (.inr fun a z=>by cases z) ns hl R H1 fun g2 s2 xs a2 H2 r2=>?_;obtain ⟨a,b,c,_,_,_,h3,hc⟩:=AE r2 hr;refine z04 (wu h3) fun h0 hi hsz hsm d=>?_;refine hc _ _ fun tk t u w=>?_;have a3:Aft cx g2 S2 s2 g2 S2 {s2 with heap:=s2.heap.push {cls:=.type "range",data:=.fields #[.int a t,.int b u,.int c w]},toks:=tk}:=⟨⟨_,_,rfl⟩,.grow H2.inv (bC _)⟩
 have H3:=H2.after a3;refine q g2 _ _ ((a1.trans H.inv a2).trans H.inv a3) H3 fun E Q q=>?_;have hR:IsRange (s2.heap.push {cls:=.type "range",data:=.fields #[.int a t,.int b u,.int c w]}) s2.heap.objs.size a b c t u w:=bZ _ rfl;refine wpAny_pyIter_range hR hsm ?_;refine q _ a c rfl hi ?_;erw[hsz];have e1:a+((0:Nat):Int)*c=a:=by simp
 have e2:(items.length:Int)-((0:Nat):Int)=items.length:=by simp
 erw[e1,e2];exact bZ _ rfl
theorem Nw {pos pos'} (O:COk cx) (F:jw cx vn env) (T:Ad vn env (fb env) bm one t) (na:dS e=ac) (ns:cO args=ac) (he:JE cx n vn env e fr S (.bi 1) S1) (hl:JL cx n vn env args fr S1 vs S2) (hr:oX vs=aa items)
 (L:Lp cx n vn env bm one body items fr S2 fl dC S3):J1 cx n vn env (.For t (.Call e args [] pos') body [] pos) fr S fl dC S3:=fun A g s R H=>by
 refine wpAny_For (Ec O na ns he hl hr R H fun g1 s1 r a1 H1 hp=>?_) fun d=>rfl;refine hp _ _ fun oI a c nf hi st=>?_;have X:=yU (cx:=cx) R.handled s1.heap.objs.size a c items.length;refine dp (zm (aZ:=aj) (items:=items) R F T H1 nf (fun b hb=>by cases hb) (hi▸GO) X st L) fun r s' hr=>?_;cases r with
 |error e=>exact hr
 |ok f=>refine lG hr fun g' a H' r'=>?_;exact ⟨g',a1.x.trans a,H',r'⟩
end
section
variable {cx:Cx} {g g':Gh} {σ σ':Sto} {nx nx':Nat} {h h':Heap} {Pl:Addr→Prop}
theorem Inv.frz (I:Inv cx g σ nx h) (ho:h.get? a=aa o) (no:¬ Oc g σ a) (nf:g.fz a=aj):Inv cx (g.fzz a o) σ nx h:=by
 have L:=g.fzz_le (o:=o) nf;refine ⟨I.g0.trans L,I.base,fun b p q=>?_,fun j ob q=>(I.obj j ob q).mono L,I.sep,I.two,fun b z=>?_,I.top⟩
 ·by_cases z:b=a
  ·subst z;replace q:=(Gh.fzz_at ..)▸q;cases q;exact ho
  ·exact I.fz b p (by replace q:=(show (g.fzz a o).fz b=g.fz b from if_neg z)▸q;exact q)
 ·have z':Oc g σ b:=z;refine ⟨(I.off b z').1,?_⟩;erw[(show (g.fzz a o).fz b=g.fz b from if_neg fun (y:b=a)=>no (y▸z'))];exact (I.off b z').2
theorem EvX.frz (x:EvX cx Pl g σ nx h g' σ' nx' h') (ho:h'.get? a=aa o) (no:¬ Oc g' σ' a) (nf:g'.fz a=aj) (nw:h.get? a=aj):EvX cx Pl g σ nx h (g'.fzz a o) σ' nx' h':=
 ⟨x.le.trans (g'.fzz_le nf),x.inv.frz ho no nf,x.keep,x.fresh,x.wr,fun b z=>by
  by_cases y:b=a
  ·exact .inr (.inl (y▸nw))
  ·exact x.fzf b (by rw [show (g'.fzz a o).fz b=g'.fz b from if_neg y] at z;exact z),x.ids,x.ext,x.nx⟩
end
theorem EP (l:List AV):∀(k i:Nat) (x:AV),(rn k l)[i]? = aa x→∃y,l[i]? = aa y∧x=.tup [.int ((k+i:Nat):Int),y]:=by
 induction l with
 |nil=>exact fun k i x h=>no h
 |cons a l ih=>exact fun k i x=>i.casesOn (fun h=>⟨a,rfl,pM h▸rfl⟩) fun i h=>gX k i▸ih (k+1) i x h
theorem EO (l:List AV):∀(k:Nat),(rn k l).length=l.length:=aP (fun a=>rfl) (fun a a ih k=>congrArg bW (ih (k+1))) l
section
variable {cx:Cx} {n:Nat} {vn:List Nat} {env:Env} {bm:List Nat}
structure Y0 (cx:Cx) (Pl:Addr→Prop) (e it la:Addr) (vs:Array Value) (l:List AV) (i:Nat) (g:Gh) (S:Mine.St) (s:av):Prop where
 rs:VRs cx g l vs.toList
 P:Priv cx g S.get s.heap (fun b=>b=e∨b=it)
 ks:Stay cx g S.get Pl s.heap la
 en :∃old,IsEnum s.heap e it ((i:Nat):Int) old
 iter:s.heap.IsListIter it la i
 lst:s.heap.IsList la vs
theorem td {Pl:Addr→Prop} (hh:A.handled=aj) (F:jw cx vn env) (T:Ad vn env Pl bm ae t) (ne:e≠it) (n1:la≠e) (n2:la≠it) (hPl :∀a,Pl a→fb env a) (np:¬ fb env e∧¬ fb env it) (nw:s0.heap.get? e=aj∧s0.heap.get? it=aj):
 rB cx vn env Pl A (.ref e) t bm ae g0 S0 s0 (rn 0 l) (Y0 cx Pl e it la vs l):=by
 have keep :∀{i g S s g' S' s'},Y0 cx Pl e it la vs l i g S s→AftX cx Pl g S s g' S' s'→Y0 cx Pl e it la vs l i g' S' s':=by
  intro i g S s g' S' s' k a;have ke :∀o,s.heap.get? e=aa o→s'.heap.get? e=aa o:=fun o q=>a.evo.keep _ _ q (fun w=>(k.P.off e (.inl rfl)).1 w.oc) fun z=>np.1 (hPl _ z);have ki :∀o,s.heap.get? it=aa o→s'.heap.get? it=aa o:=fun o q=>a.evo.keep _ _ q (fun w=>(k.P.off it (.inr rfl)).1 w.oc) fun z=>np.2 (hPl _ z);refine ak k.en fun old en=>?_;exact ⟨k.rs.mono a.evo.le,k.P.evx a.evo,k.ks.evx a.evo,⟨old,ke _ en⟩,k.iter.at ki,k.lst.at fun o q=>k.ks.keep a.evo o q⟩
 refine ⟨keep,?_,?_,fun k q=>?_⟩
 ·intro i x fr dC g S s E Q hi hb k H a q;refine cg (EP l 0 i x hi) fun y hy q201=>?_;subst q201;replace hb:=(dI ..)▸hb;obtain ⟨rs,P,ks,⟨old,en⟩,hit,hl⟩:=k;obtain ⟨yv,hyv,ry⟩:∃z,vs[i]? = aa z∧VR cx g y z:=by
   have hlt:i<vs.toList.length:=by erw[rs.length];exact (gE.mp hy).1
   exact ⟨vs.toList[i],by refine bu▸?_;exact gR hlt,rs.rv i y _ hy (gR hlt)⟩
  refine wpAny_pyNext_enum_item en hit hl hyv ne fun h1 heo hit1 ht1 hz1 hk1=>?_;cases T with
  |tup T=>
   refine wpAny_letOwnedTupleGo_enum heo fun h2 he2 hs2=>?_;replace hs2:c9 e h1 h2:=hs2;have heL:e<s.heap.objs.size:=dA en;have k2 :∀b o,¬ (b=e∨b=it)→s.heap.get? b=aa o→h2.get? b=aa o:=fun b o nb q=>hs2.extBut b o (fun z=>nb (.inl z)) (hk1 b o (fun z=>nb (.inl z)) (fun z=>nb (.inr z)) q);have tup2:h2.get? s.heap.objs.size=aa {cls:=.type "tuple",data:=.seq #[.int i s.toks,yv]}:=hs2.extBut _ _ (iF heL) ht1;have a1:AftX cx Pl g0 S0 s0 g S {s with heap:=h2,toks:=s.toks+1}:=a.sideN P k2 fun b z=>by rcases z with rfl|rfl;exact nw.1;exact nw.2
   have H1:Here cx vn env fr g S {s with heap:=h2,toks:=s.toks+1}:=H.side P k2 fun b p z=>by rcases z with rfl|rfl;exact np.1 p;exact np.2 p
   have szn:=a_ s.heap;have no:¬ Oc g S.get s.heap.objs.size:=fun w=>by refine ak (H.inv.there w) fun o z=>?_;replace z:=szn▸z;exact no z
   have nf:g.fz s.heap.objs.size=aj:=by
    cases z:g.fz s.heap.objs.size with
    |none=>rfl
    |some o=>have:=H.inv.fz _ _ z;replace this:=szn▸this;cases this
   have n0:s0.heap.get? s.heap.objs.size=aj:=by
    cases z:s0.heap.get? s.heap.objs.size with
    |none=>rfl
    |some o=>exact absurd szn (a.evo.ext _ (by erw[z];exact fun z=>nomatch z))
   have ex:=a1.evo.frz tup2 no nf n0;have a1':AftX cx Pl g0 S0 s0 (g.fzz s.heap.objs.size {cls:=.type "tuple",data:=.seq #[.int i s.toks,yv]}) S {s with heap:=h2,toks:=s.toks+1}:=⟨a1.same,ex⟩
   have L:=g.fzz_le (o:={cls:=.type "tuple",data:=.seq #[.int i s.toks,yv]}) nf;have npl:¬ fb env s.heap.objs.size:=qO (A:=0) H;have H1':Here cx vn env fr (g.fzz s.heap.objs.size {cls:=.type "tuple",data:=.seq #[.int i s.toks,yv]}) S {s with heap:=h2,toks:=s.toks+1}:=by
    refine ⟨ex.inv,⟨H1.fr.len,?_,fun j z v c e1 e2 e3 e4=>?_⟩,⟨fun b p=>?_⟩⟩
    ·refine cg H1.fr.loc fun m hn hl=>?_;exact ⟨m,hn,fun j z v e1 e2 e3=>(hl j z v e1 e2 e3).mono L⟩
    ·refine cg (H1.fr.cel j z v c e1 e2 e3 e4) fun o ho hv=>?_;exact ⟨o,ho,hv.mono L⟩
    ·refine Lm (H1.sep.off b p) fun p1 p2 p3 p4=>?_;refine ⟨p1,?_,p3,p4⟩;show (if b=s.heap.objs.size then _ else g.fz b)=aj;erw[(if_neg fun (z:b=s.heap.objs.size)=>npl (z▸p))];exact p2
   have rx:VR cx (g.fzz s.heap.objs.size {cls:=.type "tuple",data:=.seq #[.int i s.toks,yv]}) (.tup [.int ((i:Nat):Int),y]) (.ref s.heap.objs.size):=
    .tup (g.fzz_at _ _) (.cons (.int _ _) (.cons (ry.mono L) .nil))
   refine qv hh F (.tup T) hb rx H1' fun s2 a2 H2=>q _ s2 (a1'.trans a2) H2 (keep ⟨rs.mono L,⟨fun b z=>?_⟩,⟨?_,?_,ks.pl⟩,⟨yv,?_⟩,?_,?_⟩ a2) L
   ·refine Lm (P.off b z) fun p1 p2 p3 p4=>?_;refine ⟨p1,?_,p3,?_⟩
    ·show (if b=s.heap.objs.size then _ else g.fz b)=aj;erw[(if_neg fun (y:b=s.heap.objs.size)=>p4 (y▸szn))];exact p2
    ·rcases z with rfl|rfl
     ·erw[he2];exact fun z=>nomatch z
     ·refine cg hit1 fun o ho d=>?_;erw[hs2.extBut _ _ (yq ne) ho];exact fun z=>nomatch z
   ·refine cg hl fun o ho d=>?_;erw[k2 la o (fun z=>by rcases z with z|z;exact n1 z;exact n2 z) ho];exact fun z=>nomatch z
   ·exact ks.own
   ·have:(((i+1:Nat):Int))=(i:Int)+1:=by push_cast;rfl
    erw[this];exact he2
   ·exact hit1.at fun o q=>hs2.extBut _ _ (yq ne) q
   ·exact hl.at fun o q=>k2 la o (fun z=>by rcases z with z|z;exact n1 z;exact n2 z) q
 ·intro fr g S s E Q k H a q;obtain ⟨rs,P,ks,⟨old,en⟩,hit,hl⟩:=k;rw [EO] at en hit;refine wpAny_pyNext_enum_end hh en hit hl (by refine bu▸rs.length▸?_;simp) fun h' he=>?_;have k2 :∀b o,¬ (b=e∨b=it)→s.heap.get? b=aa o→h'.get? b=aa o:=fun b o nb q=>he b o (fun z=>nb (.inr z)) q;exact q _ (a.sideN (tk:=s.toks) P k2 fun b z=>by rcases z with rfl|rfl;exact nw.1;exact nw.2) (H.side P k2 fun b p z=>by rcases z with rfl|rfl;exact np.1 p;exact np.2 p)
 ·refine ak k.en fun old en=>?_;exact v7 en q
end
section
variable {cx:Cx} {n:Nat} {vn:List Nat} {env:Env} {bm:List Nat} {body:List b8} {fr dC:Fr} {S S1 S2 S3:St} {v:AV} {fl:jk}
theorem zx {Pl:Addr→Prop} {Q:Value→av→Prop} (O:COk cx) (na:dS e=ac) (ns:ix arg=ac) (he:JE cx n vn env e fr S (.bi 0) S1) (ha:JE cx n vn env arg fr S1 (.loc j) S2) (hj:S2.get j=aa (.list ro .none l .none)) (hPl :∀a,Pl a→fb env a) (R:Room A n) (H:Here cx vn env fr g S s)
 (q :∀g' s1 s' en it la vs,Aft cx g S s g' S2 s1→Here cx vn env fr g' S2 s1→Aft cx g' S2 s1 g' (cL (aa j) S2) s'→en≠it→la≠en→la≠it→(¬ fb env en∧¬ fb env it)→(s1.heap.get? en=aj∧s1.heap.get? it=aj)→Y0 cx Pl en it la vs l 0 g' (cL (aa j) S2) s'→Q (.ref en) s'):
 aA cx.mo A (dm (.Call e [arg] [] pos) env) Q F0 s:=by
 erw[gH na];refine ag (he.use R H fun g1 s1 x a1 H1 r1=>?_);erw[iZ r1];have nss:cO [arg]=ac:=by show (ix arg&&ac)=ac;erw[ns];rfl
 refine zP (first:=[]) O (.inr fun a z=>by cases z) nss (C9 ns ha Bh) R H1 fun g2 s2 xs a2 H2 r2=>?_;apply b7 (eY r2);intro x rx;refine lG (mU H2.inv hj rx) fun la q100 ra h10=>?_;refine pT h10 fun vs m T rs=>?_;subst q100;refine call_enumerate_list ⟨_,T,rfl,_,rfl⟩ fun h' en it hz hk=>?_;have a3:Aft cx g2 S2 s2 g2 S2 {s2 with heap:=h'}:=.of' (.grow H2.inv hk);have H3:=H2.after a3;have ah:Aft cx g2 S2 {s2 with heap:=h'} g2 (cL (aa j) S2) {s2 with heap:=h'}:=⟨⟨_,_,rfl⟩,zi H3.inv⟩
 have none1:s2.heap.get? (s2.heap.objs.size+1)=aj:=fY (ie _);have none0:=a_ s2.heap;have lt:la<s2.heap.objs.size:=dA T;have P0:Priv cx g2 S2.get h' (fun b=>b=s2.heap.objs.size+1∨b=s2.heap.objs.size):=Priv.new H2.inv fun a z=>by
  rcases z with rfl|rfl
  ·exact ⟨none1,by erw[en];exact fun z=>nomatch z⟩
  ·refine cg it fun o ho c=>?_;exact ⟨none0,by erw[ho];exact fun z=>nomatch z⟩
 have npl :∀b,s2.heap.get? b=aj→¬ fb env b:=fun b z p=>(H2.sep.off b p).2.2.2 z;refine q g2 s2 _ _ _ la vs (a1.trans H.inv a2) H2 (a3.trans H2.inv ah) (PG _) (bv (dq lt)) (bv lt) ⟨npl _ none1,npl _ none0⟩ ⟨none1,none0⟩
  ⟨rs,P0.evx (Pl:=Pl) ah.x.evo,⟨?_,wO H3.inv ⟨l,.inl ⟨ro,hj⟩⟩ ra,fun p=>(H2.sep.off la (hPl _ p)).1 ⟨j,_,hj,.inl ra⟩⟩,⟨_,en⟩,it,⟨_,hk _ _ T,rfl,_,rfl⟩⟩
 show h'.get? la≠aj;erw[hk _ _ T];exact fun z=>nomatch z
theorem Nx {pos pos'} (O:COk cx) (F:jw cx vn env) (T:Ad vn env (fb env) bm ae t) (na:dS e=ac) (ns:ix arg=ac) (he:JE cx n vn env e fr S (.bi 0) S1) (ha:JE cx n vn env arg fr S1 (.loc j) S2) (hj:S2.get j=aa (.list ro .none l .none))
 (L:Lp cx n vn env bm ae body (rn 0 l) fr (cL (aa j) S2) fl dC S3):J1 cx n vn env (.For t (.Call e [arg] [] pos') body [] pos) fr S fl dC (bG (aa j) (dy (aa j) S2) S3):=fun A g s R H=>by
 refine wpAny_For (zx (Pl:=fb env) O na ns he ha hj (fun a z=>z) R H fun g1 s1 s2 en it la vs a1 H1 ah ne n1 n2 np nw W=>?_) fun a=>rfl;have H2:=H1.after ah;refine v7 W.en.choose_spec ?_;refine dp (wR (S0:=S2) (s0:=s1) (g0:=g1) R (td R.handled F T ne n1 n2 (fun a z=>z) np nw) L H2 ah.x W) fun r s' hr=>?_;cases r with
 |error e=>exact hr
 |ok f=>
  refine lG hr fun g' a3 H3 r3=>?_;have a4:AftX cx (fb env) g1 S2 s1 g' (bG (aa j) (dy (aa j) S2) S3) s':=⟨a3.same,nR H1.inv a3.evo⟩
  exact ⟨g',a1.x.trans a4,⟨a4.evo.inv,H3.fr,H1.sep.evx a4.evo⟩,r3⟩
end
def qy (e:Expr) (target iter:Expr) (ifs:List Expr) (it acc:Value) (env:Env) (emit:Sem Unit):Prop:=
 BZ e 0 it acc env=(do
  l3 iter.pos
  match ← qF it with
  |none=>cR (.done .next)
  |some v=>
   fR target it v
   j_ target env v
   let mut ok:=ac
   for c in ifs do
    if ok then ok ← isTrue c env (dm c env)
   if ok then emit
   again (.compLoop e 0 it acc env))
theorem DT (elt target iter:Expr) (ifs:List Expr) (scope:Scope) (pos:Pos) (it acc:Value) (env:Env):
 qy (.ListComp elt [⟨target,iter,ifs,0⟩] scope pos) target iter ifs it acc env (do let _ ← call (.builtin "list.append") [acc,← dm elt env]):=rfl
theorem DU (k v target iter:Expr) (ifs:List Expr) (scope:Scope) (pos:Pos) (it:Value) (d:Addr) (env:Env):
 qy (.DictComp k v [⟨target,iter,ifs,0⟩] scope pos) target iter ifs it (.ref d) env (do
  let kv ← dm k env
  let vv ← fu [kv] (dm v env)
  l3 {k.pos with endLine:=v.pos.endLine,endCol:=v.pos.endCol}
  fu [kv,vv] (Af d kv vv)):=rfl
theorem pz {R:Result→av→Prop} (T:qy e target iter ifs it acc env emit) (hu:A.under (.compLoop e 0 it acc env)=A) (hd:(lD prog w).den (.compLoop e 0 it acc env)=(BZ e 0 it acc env).onRaise (fun x=>do Fq x env;oC x)) (I:Nat→av→Prop)
 (turn :∀n s,I n s→aA (lD prog w) A (qF it) (fun r s₁=>match r with
  |none=>R (.ok .next) s₁
  |some v=>aA (lD prog w) A (fR target it v) (fun a s₁'=>aA (lD prog w) A (j_ target env v) (fun a s₂=>
   aA (lD prog w) A (Fs ifs ac fun c r=>if r=ac then do let ok ← isTrue c env (dm c env);cR (bU ok) else cR (bU r)) (fun ok s₃=>
    if ok=ac then aA (lD prog w) A emit (fun a s₅=>∃m,m<n∧I m s₅) (KO (lD prog w) A env fun e s'=>R (.error e) s') s₃
    else∃m,m<n∧I m s₃) (KO (lD prog w) A env fun e s'=>R (.error e) s') s₂) (KO (lD prog w) A env fun e s'=>R (.error e) s') s₁') (KO (lD prog w) A env fun e s'=>R (.error e) s') s₁) (KO (lD prog w) A env fun e s'=>R (.error e) s') s)
 (n:Nat) (h:I n s):gm (lD prog w) A (.compLoop e 0 it acc env) R s:=by
 refine codeAny_loop rfl I (fun n s hI=>?_) n h;erw[hu,hd];refine wpAny_noted ?_;erw[T];refine ag (dP (ag (aE (turn n s hI) (fun r s₁ h₁=>?_) fun a a h'=>h')));cases r with
 |none=>exact aq h₁
 |some v=>
  refine ag (aE h₁ (fun a s₁' h₁'=>?_) fun a a h'=>h');refine ag (aE h₁' (fun a s₂ h₂=>ag (aE h₂ (fun ok s₃ h₃=>?_) fun a a h'=>h')) fun a a h'=>h');cases ok with
  |false=>exact aq ⟨rfl,h₃⟩
  |true=>exact ag (aE h₃ (fun a s₅ h₅=>aq ⟨rfl,h₅⟩) fun a a h'=>h')
section
variable {cx:Cx} {n:Nat} {vn:List Nat} {env:Env} {bm:List Nat} {one:Bool}
def JM (cx:Cx) (n:Nat) (vn:List Nat) (env:Env) (j:Nat) (emit:Addr→Sem Unit) (fr:Fr) (S S':St):Prop:=
 ∀A g s D,Room A n→Here cx vn env fr g S s→g.ρ j=aa D→aA cx.mo A (emit D) (fun a s'=>∃g',Aft cx g S s g' S' s') F0 s
def Q0 (cx:Cx) (n:Nat) (vn:List Nat) (env:Env) (ifs:List Expr) (fr:Fr) (S:St) (r:Bool) (S':St):Prop:=
 ∀A g s,Room A n→Here cx vn env fr g S s→aA cx.mo A (Fs ifs ac fun c r=>if r=ac then do let ok ← isTrue c env (dm c env);cR (bU ok) else cR (bU r)) (fun b s'=>b=r∧∃g',Aft cx g S s g' S' s') F0 s
inductive Vi (cx:Cx) (n:Nat) (vn:List Nat) (env:Env) (bm:List Nat) (one:Bool) (ifs:List Expr) (j:Nat) (emit:Addr→Sem Unit) (x:AV) (K:Fr→St→St→Prop) (fr:Fr) (S S3:St):Prop
 |hit {dC:Fr} {S1 S2:St}:eI bm one x fr=aa dC→Q0 cx n vn env ifs dC S ac S1→JM cx n vn env j emit dC S1 S2→K dC S2 S3→Vi cx n vn env bm one ifs j emit x K fr S S3
 |miss {dC:Fr} {S1:St}:eI bm one x fr=aa dC→Q0 cx n vn env ifs dC S ae S1→K dC S1 S3→Vi cx n vn env bm one ifs j emit x K fr S S3
inductive ZZ (S S3:St):Prop
 |mk:S=S3→ZZ S S3
def Lc (cx:Cx) (n:Nat) (vn:List Nat) (env:Env) (bm:List Nat) (one:Bool) (ifs:List Expr) (j:Nat) (emit:Addr→Sem Unit) (l:List AV):Fr→St→St→Prop:=
 aP (fun a S S'=>ZZ S S') (fun x a ih=>Vi cx n vn env bm one ifs j emit x ih) l
inductive Yk (cx:Cx) (n:Nat) (vn:List Nat) (env:Env) (bm:List Nat) (one:Bool) (ifs:List Expr) (j:Nat) (emit:Addr→Sem Unit) (Pl:Addr→Prop) (D:Addr) (g0:Gh) (S0:St) (s0:av) (items:List AV) (S1:St) (Wt:Nat→Gh→Mine.St→av→Prop):Nat→av→Prop
 |mk {i g fr S xs s}:i+xs.length=items.length→xs=items.drop i→Lc cx n vn env bm one ifs j emit xs fr S S1→Here cx vn env fr g S s→AftX cx Pl g0 S0 s0 g S s→Wt i g S s→g.ρ j=aa D→Yk cx n vn env bm one ifs j emit Pl D g0 S0 s0 items S1 Wt xs.length s
theorem wX {Pl:Addr→Prop} {Wt:Nat→Gh→Mine.St→av→Prop} {Q:Bool→av→Prop} {E:Value→av→Prop} {Z:av→Prop} (R:Room A n)
 (X:rB cx vn env Pl A it target bm one g0 S0 s0 items Wt) (hix:items[i]? = aa x) (hb:eI bm one x fr=aa dC) (jt:Q0 cx n vn env ifs dC S b S') (H:Here cx vn env fr g S s) (a:AftX cx Pl g0 S0 s0 g S s) (st:Wt i g S s) (hD:g.ρ j=aa D)
 (q :∀g3 s3,AftX cx Pl g0 S0 s0 g3 S' s3→Here cx vn env dC g3 S' s3→Wt (i+1) g3 S' s3→g3.ρ j=aa D→Q b s3):
 aA cx.mo A (qF it) (fun r s1=>match r with|none=>Z s1|some v=>aA cx.mo A (fR target it v) (fun d s2=>aA cx.mo A (j_ target env v) (fun d s₂=>aA cx.mo A (Fs ifs ac fun c r=>if r=ac then do let ok ← isTrue c env (dm c env);cR (bU ok) else cR (bU r)) Q E s₂) E s2) E s1) E s:=
 aE (X.step (Q:=fun d s₂=>aA cx.mo A (Fs ifs ac fun c r=>if r=ac then do let ok ← isTrue c env (dm c env);cR (bU ok) else cR (bU r)) Q E s₂) hix hb st H a fun g2 s2 a2 H2 K2 hl2=>
  aE (jt A g2 s2 R H2) (fun b' s3 ⟨eb,g3,a3⟩ =>eb▸q g3 s3 (a2.trans a3.x) (H2.after a3) (X.keep K2 a3.x) (a3.evo.le.ρ _ _ (hl2.ρ _ _ hD))) Fb)
  (fun r s1 h1=>by cases r with
   |none=>exact h1.elim
   |some v=>exact h1) fun d d z=>z
theorem BD {Pl:Addr→Prop} {Wt:Nat→Gh→Mine.St→av→Prop} (R:Room A n) (T:qy e target iter ifs it (.ref D) env (emit D)) (hu:A.under (.compLoop e 0 it (.ref D) env)=A) (hd:cx.mo.den (.compLoop e 0 it (.ref D) env)=(BZ e 0 it (.ref D) env).onRaise (fun x=>do Fq x env;oC x))
 (X:rB cx vn env Pl A it target bm one g0 S0 s0 items Wt) (L:Lc cx n vn env bm one ifs j emit items fr S S1) (H:Here cx vn env fr g S s) (a:AftX cx Pl g0 S0 s0 g S s) (st:Wt 0 g S s) (hD:g.ρ j=aa D):
 gm cx.mo A (.compLoop e 0 it (.ref D) env) (fun r s'=>r=.ok .next∧∃g' fr',AftX cx Pl g0 S0 s0 g' S1 s'∧Here cx vn env fr' g' S1 s'∧g'.ρ j=aa D) s:=by
 refine pz T hu hd (Yk cx n vn env bm one ifs j emit Pl D g0 S0 s0 items S1 Wt) (fun k s I=>?_) items.length (.mk (dI _) rfl L H a st hD);refine I.rec fun {i g fr S xs s} hi hxs L H a st hD=>?_;cases xs with
 |nil=>
  have L:ZZ S S1:=L;exact L.rec fun e=>X.stop ((Nat.add_zero _).symm.trans hi▸st) H a fun s' a' H'=>⟨rfl,_,_,e▸a',e▸H',hD⟩
 |cons x xs=>
  have L:Vi cx n vn env bm one ifs j emit x (Lc cx n vn env bm one ifs j emit xs) fr S S1:=L;refine L.rec (fun hb jt jm L'=>?_) (fun hb jt L'=>?_)
  ·refine wX R X (jW _ hxs).1 hb jt H a st hD fun g3 s3 a3 H3 U7 h3=>?_;rw [if_pos rfl];exact aE (jm A g3 s3 D R H3 h3) (fun _ s4 ⟨g4,a4⟩ =>⟨_,a8 _,.mk ((gX _ _).trans hi) (jW _ hxs).2 L' (H3.after a4) (a3.trans a4.x) (X.keep U7 a4.x) (a4.evo.le.ρ _ _ h3)⟩) Fb
  ·refine wX R X (jW _ hxs).1 hb jt H a st hD fun g3 s3 a3 H3 U7 h3=>?_;rw [if_neg (by decide)];exact ⟨_,a8 _,.mk ((gX _ _).trans hi) (jW _ hxs).2 L' H3 a3 U7 h3⟩
end
def qt (cells:List (Str×Addr)) (names:List (Str×NameKind)):List (Str×Addr)→List (Str×Addr):=
 names.rec id fun p a ih acc=>bif p.2==.free then ih ((p.1,(cells.lookup p.1).getD 0)::acc) else ih acc
theorem BF (names:List (Str×NameKind)):∀(acc:List (Str×Addr)),(∀x∈names,x.2=bL→∃c,env.cells.lookup x.1=aa c)→
 (Fs names acc fun x cs=>match x with|(name,kind)=>(if (kind==bL)=ac then do let c ← cellOf env name;cR (bU ((name,c)::cs)) else cR (bU cs):Sem (ForInStep (List (Str×Addr)))))=cR (qt env.cells names acc):=by
 induction names with
 |nil=>exact fun a a=>rfl
 |cons p r ih=>
  intro acc h;rw [jx];have h2:=fun acc=>ih acc fun x hx=>h x (.tail _ hx);cases hk:p.2==.free with
  |true=>
   refine ak (h p (.head _) (gV hk)) fun c hc=>?_;have hcell:cellOf env p.1=cR c:=by unfold cellOf;exact au hc▸rfl
   refine yF (congrArg (· >>= _) ((if_pos hk).trans (congrArg (· >>= _) hcell))) ?_;refine ((congrArg (· >>= _) (nq ..)).trans (nq ..)).trans ((h2 _).trans (congrArg cR ?_));show _=bif p.2==.free then _ else _
   erw[hk,hc];rfl
  |false=>
   refine yF (congrArg (· >>= _) (if_neg (ne_true_of_eq_false hk))) ?_;refine (nq ..).trans ((h2 _).trans (congrArg cR ?_));show _=bif p.2==.free then _ else _
   erw[hk];rfl
theorem vY (h :∀x∈scope.names,x.2=bL→∃c,env.cells.lookup x.1=aa c):closureFor scope env=cR (qt env.cells scope.names []):=by
 unfold closureFor;rw [bind_pure];exact BF scope.names [] h
theorem J0 (names:List (Str×NameKind)):∀{acc:List (Str×Addr)},p∈qt cells names acc→p∈acc∨(p.1,bL)∈names∧p.2=(cells.lookup p.1).getD 0:=by
 induction names with
 |nil=>exact fun h=>.inl h
 |cons q r ih=>
  intro acc h;have t:(p.1,bL)∈r∧p.2=(cells.lookup p.1).getD 0→(p.1,bL)∈q::r∧p.2=(cells.lookup p.1).getD 0:=.imp_left (.tail _)
  change p∈bif q.2==.free then qt cells r ((q.1,(cells.lookup q.1).getD 0)::acc) else qt cells r acc at h
  cases hk:q.2==.free with
  |true=>
   rw [hk] at h;refine (ih h).elim (fun h=>?_) fun h=>.inr (t h);refine (aN.mp h).elim (fun e=>.inr (e▸⟨?_,rfl⟩)) .inl;rw [← gV hk];exact .head _
  |false=>rw [hk] at h;exact (ih h).imp_right t
theorem J7 (names:List (Str×NameKind)):∀{acc:List (Str×Addr)},(x,bL)∈names∨(acc.lookup x).isSome=ac→((qt cells names acc).lookup x).isSome=ac:=by
 induction names with
 |nil=>exact fun h=>h.elim (nomatch ·) id
 |cons q r ih=>
  intro acc h;show (u8 x (bif q.2==.free then qt cells r ((q.1,(cells.lookup q.1).getD 0)::acc) else qt cells r acc)).isSome=ac;cases hk:q.2==.free with
  |true=>exact ih (h.elim (fun h=>(aN.mp h).elim (fun e=>.inr (sA (.inl (e▸rfl)))) .inl) fun h=>.inr (sA (.inr h)))
  |false=>exact ih (h.imp_left fun h=>(aN.mp h).resolve_left fun e=>nomatch (congrArg (fun z:Str×NameKind=>z.2==.free) e).trans hk)
theorem zO (h :∀x∈names,x.2=bL→∃c,cells.lookup x.1=aa c) (e:(qt cells names []).lookup x=aa d):cells.lookup x=aa d:=by
 have m:=(J0 names (a6 e)).resolve_left (nomatch ·);refine ak (h _ m.1 rfl) fun c hc=>?_;have:=m.2;rw [hc] at this;exact hc.trans (congrArg aa this.symm)
theorem E0 (h :∀x∈names,x.2=bL→∃c,cells.lookup x.1=aa c) (m:(x,bL)∈names):(qt cells names []).lookup x=cells.lookup x:=by
 refine ak (kq.mp (J7 names (cells:=cells) (acc:=[]) (.inl m))) fun d e=>?_;exact e.trans (zO h e).symm
theorem UD (names:List (Str×NameKind)):∀(n:Nat) (acc:List (Str×Addr)),cj n names acc=cj n names []++acc:=by
 induction names with
 |nil=>exact fun a a=>rfl
 |cons p r ih=>
  intro n acc;erw[(sP ..),(sP ..)];cases p.2==.cell with
  |true=>exact (ih _ _).trans ((congrArg (·++acc) (ih _ [(p.1,n)])).trans (rH ..)).symm
  |false=>exact ih _ _
theorem UB (names:List (Str×NameKind)):∀{n:Nat} {acc:List (Str×Addr)},q∈cj n names acc→q∈acc∨(q.1,cU)∈names:=by
 induction names with
 |nil=>exact fun h=>.inl h
 |cons p r ih=>
  intro n acc h;rw [sP] at h;cases hk:p.2==.cell with
  |true=>
   rw [hk] at h;refine (ih h).elim (fun h=>?_) fun h=>.inr (.tail _ h);refine (aN.mp h).elim (fun e=>.inr ?_) .inl;rw [e,← gV hk];exact .head _
  |false=>rw [hk] at h;exact (ih h).imp_right (.tail _)
theorem QT (names:List (Str×NameKind)) (n:Nat):∃h,CellsOk h n (cj n names []):=
 ⟨_,(Array.size_replicate:(Lk n (default:Obj)).size=n)▸cellsFrom_ok names ⟨Lk n default,{}⟩ _ [] ⟨fun a a h=>(nomatch h),.nil⟩ (aY _)⟩
theorem jj (e:(cj n names []).lookup x=aa c):(x,cU)∈names∧n≤c:=
 let ⟨_,h⟩:=QT names n
 ⟨(UB names (a6 e)).resolve_left (nomatch ·),(h.empty _ _ (a6 e)).2⟩
theorem vZ (e:(cj n names []).lookup x=aa c) (e':(cj n names []).lookup y=aa c):x=y:=
 let ⟨_,h⟩:=QT names n
 name_of_addr h.apart (a6 e) (a6 e')
theorem Da {α β:Type} {c:Prop} [Decidable c] {a b:α×β} {x:α} (ha:a.1=x) (hb:b.1=x):(ite c a b).1=x:=by split<;>assumption
theorem Hv {f:Str×NameKind→Str×NameKind} (hf :∀p,(f p).1=p.1) {x:Str} {k:NameKind}:∀{l:List (Str×NameKind)},l.lookup x=aa k→(l.map f).lookup x=aa (f (x,k)).2:=by
 intro l
 induction l with
 |nil=>exact fun h=>nomatch h
 |cons p r ih=>
  intro h;erw[e_];rw [eF] at h ⊢;erw[(hf ..)];cases q:x==p.1 with
  |true=>replace h:=q▸h;exact au (gV q)▸(ao h)▸rfl
  |false=>replace h:=q▸h;exact ih h
noncomputable def Ea (env:Env) (p:Str×NameKind):Str×NameKind:=if (p.2==bL&&env.scope.kind==.function&&env.kindOf p.1==aa .cell) then (p.1,cU) else p
theorem oV {names:List (Str×NameKind)} {x:Str} (h:names.lookup x=aa cU):(names.map (Ea env)).lookup x=aa .cell:=Hv (f:=Ea env) (fun a=>Da rfl rfl) h
theorem oU {names:List (Str×NameKind)} {x:Str} (h:names.lookup x=aa bL):(names.map (Ea env)).lookup x=aa .cell∨(names.map (Ea env)).lookup x=aa .free:=by
 rw [Hv (f:=Ea env) (fun a=>Da rfl rfl) h];unfold Ea
 split
 ·exact .inl rfl
 ·exact .inr rfl
def dG (env:Env) (scope:Scope) (C:Addr):List (Str×Addr):=cj (C+1) scope.names (qt env.cells scope.names [])
theorem x_ (env:Env) (scope:Scope) (C:Addr) (x:Str):(dG env scope C).lookup x=((cj (C+1) scope.names []).lookup x).or ((qt env.cells scope.names []).lookup x):=(congrArg (u8 x) (UD ..)).trans List.lookup_append
theorem uK (h:(cj (C+1) scope.names []).lookup x=aa c):(dG env scope C).lookup x=aa c:=by rw [x_,h];rfl
def G_ (scope:Scope) (C:Addr) (a:Addr):Prop:=a=C∨∃x,(cj (C+1) scope.names []).lookup x=aa a
theorem G9 (h:G_ scope C a):C≤a:=by
 rcases h with h|⟨x,h⟩
 ·exact h▸aY _
 ·exact rX (jj h).2
theorem MV {M:Model} {A:b9} {E:Value→av→Prop} {s:av} {scope:Scope} {globals:Addr} {closure:List (Str×Addr)} {qual:Str} {func:Option Addr} {code:Value} {outer:Env} {builtins:Addr} {Q:Env→av→Prop}
 (hQ:Q (newEnv scope s.heap.objs.size globals (cj (s.heap.objs.size+1) scope.names closure) qual func code (aa outer) builtins) {s with heap:=pushCells (s.heap.push {cls:=.type "dict",data:=.dict #[]}) scope.names}):
 aA M A (BX scope globals closure [] qual func code (aa outer) builtins) Q E s:=by
 simp only [BX,Option.isSome_some,if_true];refine ag (wpAny_alloc ?_);refine ag (wpAny_layCells _ (fun name kind cells=>by cases hkc:kind==cU<;>simp [hkc]) _ _ _ _ ?_);erw[(show ({s with heap:=s.heap.push {cls:=.type "dict",data:=.dict #[]}}:av).heap.objs.size=s.heap.objs.size+1 from nO ..)];rw [Q6];exact ag (aq (aq hQ))
def bY (vn:List Nat) (aJ:List Nat):List Nat:=aJ.map fun i=>(bc vn i).getD 0
structure iU (vn:List Nat) (env:Env) (scope:Scope) (own aJ:List Nat):Prop where
 kind:scope.kind=.function
 noc :∀x∈scope.names,x.2=.cell→scope.names.lookup x.1=aa .cell
 loc :∀x∈scope.names,x.2=.local→scope.names.lookup x.1=aa .local
 mine :∀x∈own,(scope.names.lookup (sT x)=aa .local∨scope.names.lookup (sT x)=aa .cell)∧x<nS
 cap :∀i∈aJ,∃x,bc vn i=aa x∧scope.names.lookup (sT x)=aa .free∧env.kindOf (sT x)≠aa .local
 fre :∀x∈scope.names,x.2=.free→∃c,env.cells.lookup x.1=aa c
 nodup:(own++bY vn aJ).Nodup
theorem pA {vn aJ:List Nat} {scope:Scope} {own:List Nat} (K:iU vn env scope own aJ) {y:Nat} (h:y∈bY vn aJ):∃i,bc vn i=aa y∧i∈aJ∧scope.names.lookup (sT y)=aa .free∧env.kindOf (sT y)≠aa .local:=by
 refine cg (bp.mp h) fun i hi e=>?_;refine lG (K.cap i hi) fun x hx h1 h2=>?_;replace e:=hx▸e;have e:x=y:=e;apply Q_ e;exact ⟨i,hx,hi,h1,h2⟩
theorem lB {vn own aJ:List Nat} {scope:Scope} (K:iU vn env scope own aJ) {C:Addr} {x:Str} {c:Addr} (h:(dG env scope C).lookup x=aa c):
 ((cj (C+1) scope.names []).lookup x=aa c∧scope.names.lookup x=aa .cell∧C+1≤c)∨((cj (C+1) scope.names []).lookup x=aj∧env.cells.lookup x=aa c):=by
 rw [x_] at h;cases q:(cj (C+1) scope.names []).lookup x with
 |some d=>
  rw [q] at h;exact .inl ⟨h,K.noc _ (jj q).1 rfl,(jj (q.trans h)).2⟩
 |none=>
  rw [q] at h;exact .inr ⟨rfl,zO K.fre h⟩
theorem E1 (K:iU vn env scope own aJ) (hf:scope.names.lookup x=aa .free) (hc:env.cells.lookup x=aa c):(dG env scope C).lookup x=aa c:=by
 erw[(x_ ..)];cases q:(cj (C+1) scope.names []).lookup x with
 |some d=>exact absurd (hf.symm.trans (K.noc _ (jj q).1 rfl)) (nomatch ·)
 |none=>exact (E0 K.fre (a6 hf)).trans hc
theorem O3 (F:jw cx vn env) (K:iU vn env scope own aJ) (hC :∀n c,env.cells.lookup n=aa c→c<C):jw cx (own++bY vn aJ) (bh scope (dG env scope C) C env):=by
 refine ⟨K.kind,F.glob,F.blt,fun x hx=>?_,fun x hx=>?_,K.nodup,fun x hx hn=>?_,fun n n' c h h'=>?_,fun n c h=>?_⟩
 ·rcases d3.mp hx with hx|hx
  ·rcases (K.mine x hx).1 with h|h
   ·exact .inl (jM h)
   ·exact .inr (.inl (oV h))
  ·refine Ar (pA K hx) fun i d d hf d=>?_;rcases oU (env:=env) hf with h|h
   ·exact .inr (.inl h)
   ·exact .inr (.inr h)
 ·rcases d3.mp hx with hx|hx
  ·exact (K.mine x hx).2
  ·refine cg (pA K hx) fun i hi d=>?_;exact F.inS x (er hi)
 ·rcases d3.mp hx with hx|hx
  ·rcases (K.mine x hx).1 with h|h
   ·exact absurd (jM h) hn
   ·refine ak (gA (C+1) (a6 h)) fun c hc=>?_;exact ⟨c,uK hc⟩
  ·refine Ar (pA K hx) fun i hi d hf d=>?_;refine ak (K.fre _ (a6 hf) rfl) fun c hc=>?_;exact ⟨c,E1 K hf hc⟩
 ·rcases lB K h with ⟨a,_,a2⟩|⟨a,a2⟩<;>rcases lB K h' with ⟨b,_,b2⟩|⟨b,b2⟩
  ·exact vZ a b
  ·exact absurd (hC _ _ b2) (i5.mpr (rX a2))
  ·exact absurd (hC _ _ a2) (i5.mpr (rX b2))
  ·exact F.cellsInj n n' c a2 b2
 ·rcases lB K h with ⟨a,_,a2⟩|⟨a,a2⟩
  ·exact iF a2
  ·exact bv (hC _ _ a2)
theorem mS {α:Type} {l m:List α} {i:Nat} {x:α} (h:bc (dL l m) i=aa x):(i<l.length∧bc l i=aa x)∨(l.length≤i∧bc m (i-l.length)=aa x):=by
 induction l generalizing i with
 |nil=>exact .inr ⟨a7 _,h⟩
 |cons a l ih=>cases i with
  |zero=>exact .inl ⟨gB _,h⟩
  |succ i=>exact (ih h).elim (fun q=>.inl ⟨u4 q.1,q.2⟩) fun q=>.inr ⟨gC q.1,(Nat.add_sub_add_right i 1 l.length).symm▸q.2⟩
theorem mm {α:Type} {l m:List α} {i:Nat} {x:α} (h:bc (l++m) i=aa x):(i<l.length∧bc l i=aa x)∨(l.length≤i∧bc m (i-l.length)=aa x):=by
 rw [← fM] at h;exact mS h
theorem Eo {aJ:List Nat} {j y:Nat} (h:bc (bY vn aJ) j=aa y):∃i,bc aJ j=aa i∧(bc vn i).getD 0=y:=by
 induction aJ generalizing j with
 |nil=>exact no h
 |cons i aJ ih=>cases j with
  |zero=>exact ⟨i,rfl,pM h⟩
  |succ j=>exact ih h
theorem y8 {fr:Fr} {aJ:List Nat} {j:Nat} {v:Option AV} (h:bc (eB aJ fr) j=aa v):∃i,bc aJ j=aa i∧v=(bc fr i).getD aj:=by
 induction aJ generalizing j with
 |nil=>exact no h
 |cons i aJ ih=>cases j with
  |zero=>refine ⟨i,rfl,?_⟩;apply gF h;cases bc fr i<;>rfl
  |succ j=>exact ih h
theorem BH {fr:Fr} (aJ:List Nat):(eB aJ fr).length=aJ.length:=aP rfl (fun a a ih=>congrArg bW ih) aJ
theorem JY {cx:Cx} {vn own aJ:List Nat} {env:Env} {scope:Scope} {C:Addr} {fr:Fr} {g:Gh} {S:St} {s s':av} {m:Str→Option Value} (F:jw cx vn env) (K:iU vn env scope own aJ) (H:Here cx vn env fr g S s) (I:Inv cx g S.get S.nx s'.heap)
 (k :∀b o,s.heap.get? b=aa o→s'.heap.get? b=aa o) (fresh :∀a,G_ scope C a→s.heap.get? a=aj) (hn:s'.heap.Ns C m) (hm :∀x,m x=aj) (he :∀x c,(cj (C+1) scope.names []).lookup x=aa c→s'.heap.IsCell c aj):
 Here cx (own++bY vn aJ) (bh scope (dG env scope C) C env) (dL (d4 own.length) (eB aJ fr)) g S s':=by
 refine ⟨I,⟨?_,⟨m,hn,fun i x v e1 e2 e3=>?_⟩,fun i x v c e1 e2 e3 e4=>?_⟩,⟨fun a p=>?_⟩⟩
 ·rw [fM,bf,jq,BH,bf];unfold bY;exact au (a9 ..)▸rfl
 ·rcases mS e2 with ⟨p,q⟩|⟨p,q⟩
  ·have:=nY q;subst this;exact hm _
  ·rw [jq] at p q;rcases mm e1 with ⟨p',q'⟩|⟨p',q'⟩
   ·omega
   ·have hx:=er q';refine Ar (pA K hx) fun i' f f hf f=>?_;rcases oU (env:=env) hf with h|h
    ·have e4:=e3.symm.trans (show Env.kindOf (bh scope (dG env scope C) C env) (sT x)=aa .cell from h);cases e4
    ·have e4:=e3.symm.trans (show Env.kindOf (bh scope (dG env scope C) C env) (sT x)=aa .free from h);cases e4
 ·have e4:(dG env scope C).lookup (sT x)=aa c:=e4;rcases mm e1 with ⟨p',q'⟩|⟨p',q'⟩
  ·rcases (K.mine x (er q')).1 with h|h
   ·exact absurd (jM h) e3
   ·rcases lB K e4 with ⟨a,_,_⟩|⟨a,_⟩
    ·rcases mS e2 with ⟨p,q⟩|⟨p,q⟩
     ·have:=nY q;subst this;exact ⟨aj,he _ _ a,rfl⟩
     ·replace p:=(jq ..)▸p;omega
    ·refine ak (gA (C+1) (a6 h)) fun d hd=>?_;replace a:=hd▸a;cases a
  ·rcases mS e2 with ⟨p,q⟩|⟨p,q⟩
   ·replace p:=(jq ..)▸p;omega
   ·replace q:=(jq ..)▸q;refine cg (Eo q') fun i1 h1 h2=>?_;refine cg (y8 q) fun i2 h3 h4=>?_;replace h3:=h1▸h3;cases h3;refine lG (K.cap i1 (er h1)) fun y hy hf hnl=>?_;replace h2:=hy▸h2;have h2:y=x:=h2;subst h2;have hl :∃w,bc fr i1=aa w:=by
     have :∀{α β:Type} {l:List α} {l':List β} {i:Nat} {x:α},l'.length=l.length→bc l i=aa x→∃w,bc l' i=aa w:=by
      intro α β l
      induction l with
      |nil=>intro l' i x _ h;cases h
      |cons a l ih=>
       intro l' i x hl h;cases l' with
       |nil=>simp at hl
       |cons b l'=>
        cases i with
        |zero=>exact ⟨b,rfl⟩
        |succ i=>exact ih (l':=l') (i:=i) (by simpa using hl) h
     exact this H.fr.len hy
    refine ak hl fun w hw=>?_;replace h4:=hw▸h4;have h4:v=w:=h4;subst h4;rcases lB K e4 with ⟨_,a,_⟩|⟨_,a⟩
    ·replace a:=hf▸a;cases a
    ·obtain ⟨o,⟨ob,hob,hd⟩,hv⟩:=H.fr.cel i1 y v c hy hw hnl a;exact ⟨o,⟨ob,k _ _ hob,hd⟩,hv⟩
 ·have new:G_ scope C a→s'.heap.get? a≠aj→¬ Oc g S.get a∧g.fz a=aj∧cx.h₀.get? a=aj∧s'.heap.get? a≠aj:=fun w t=>by
   have fa:=fresh a w;refine ⟨fun w=>?_,?_,?_,t⟩
   ·refine ak (H.inv.there w) fun oo z=>?_;replace z:=fa▸z;cases z
   ·cases q:g.fz a with
    |none=>rfl
    |some oo=>have:=H.inv.fz _ _ q;replace this:=fa▸this;cases this
   ·cases q:cx.h₀.get? a with
    |none=>rfl
    |some oo=>have:=H.inv.base _ _ q;replace this:=fa▸this;cases this
  rcases p with e|⟨n,hc⟩
  ·have e:a=C:=e;refine U5 hn fun oL f f hL f=>?_;exact new (.inl e) (by erw[e,hL];exact fun z=>nomatch z)
  ·rcases lB K hc with ⟨q,_,_⟩|⟨_,q⟩
   ·refine cg (he _ _ q) fun ob hob f=>?_;exact new (.inr ⟨n,q⟩) (by erw[hob];exact fun z=>nomatch z)
   ·refine Lm (H.sep.off a (.inr ⟨n,q⟩)) fun a1 a2 a3 a4=>?_;exact ⟨a1,a2,a3,j6 k a a4⟩
theorem EvX.evoP {Pl:Addr→Prop} {σ σ':Sto} {nx nx':Nat} {h h':Heap} (x:EvX cx Pl g σ nx h g' σ' nx' h') (n :∀a,Pl a→h.get? a=aj):Evo cx g σ nx h g' σ' nx' h':=
 ⟨x.le,x.inv,fun a o e w=>x.keep a o e w fun p=>(by rw [n a p] at e;exact no e),x.fresh,x.wr,x.fzf,x.ids,x.ext,x.nx⟩
theorem Ee (h:Oc g (bG o r S).get a):Oc g S.get a:=by
 cases r with
 |true=>exact h
 |false=>cases o with
  |none=>exact h
  |some j=>
   have h:Oc g (gq ae j S).get a:=h;rcases iQ ae j S with e|⟨ob,ob',e,e2,w,n,n',k⟩
   ·replace h:=e▸h;exact h
   ·refine pT h fun i ob1 q ow=>?_;replace q:=(St.get_put ..)▸(e2 ..)▸q
    by_cases z:i=j
    ·subst z;replace q:=(bo ..)▸q;cases q;exact ⟨i,ob,e,(mO n n' a).mp ow⟩
    ·replace q:=(bA _ _ z)▸q;exact ⟨i,ob1,q,ow⟩
theorem NK (o:Option Nat) (S:St):(cL o S).nx=S.nx:=by
 cases o with
 |none=>rfl
 |some j=>
  show (gq ac j S).nx=S.nx;unfold gq;cases S.get j with
  |none=>rfl
  |some o=>cases o<;>first|rfl|exact St.nx_put ..
section
variable {cx:Cx} {n:Nat} {vn own aJ:List Nat} {env:Env} {scope:Scope} {bm:List Nat} {one:Bool} {fr:Fr} {S S1 S2:St} {v:AV}
def uU (cx:Cx) (n:Nat) (vn:List Nat) (env:Env) (iter target:Expr) (bm:List Nat) (one:Bool) (fr:Fr) (S:St) (items:List AV) (aZ:Option Nat) (S1:St):Prop:=
 ∀A g s (Q:Value→av→Prop),Room A n→Here cx vn env fr g S s→
  (∀g1 s1 s2 itv,Aft cx g S s g1 S1 s1→Here cx vn env fr g1 S1 s1→Aft cx g1 S1 s1 g1 (cL aZ S1) s2→
   (∀vn' env' (W:Addr→Prop),(∀a,W a→s2.heap.get? a=aj)→jw cx vn' env'→(∀a,fb env' a→W a∨fb env a)→(∀a,W a→fb env' a)→Ad vn' env' W bm one target→
    ∃Wt,rB cx vn' env' W A itv target bm one g1 S1 s1 items Wt∧∀g' S' s',AftX cx W g1 (cL aZ S1) s2 g' S' s'→Wt 0 g' S' s')→Q itv s2)→
  aA cx.mo A (dm iter env) (fun x s'=>aA cx.mo A (qG x) Q F0 s') F0 s
theorem Stay.pl' {Pl Pl':Addr→Prop} (x:Stay cx g σ Pl h b) (k:¬ Pl' b):Stay cx g σ Pl' h b:=⟨x.there,x.own,k⟩
theorem JR (O:COk cx) (he:JE cx n vn env iter fr S v S1) (hi:dX v S1=aa (items,aZ)):uU cx n vn env iter target bm one fr S items aZ S1:=by
 intro A g s Q R H q;refine he.use R H fun g1 s1 x a1 H1 r1=>?_;obtain ⟨ys,src,rs,hs,oI,Wt,nf,X,st,hp⟩:=sH O R.handled H1.inv hi r1;have X':WalkG cx A s1.heap.objs.size src items.length (fun i y=>ys[i]? = aa y) Wt:=by refine rs.length▸?_;exact X
 have hs':KD g1 aZ S1 s1.heap src:=fun b hb=>by
  refine aK (fun h1 h2=>?_) (hs b hb);refine ⟨h1,h2.imp id ?_⟩;rintro ⟨j,e,ra⟩;subst e;exact ⟨j,rfl,ra,qZ hi⟩
 refine B6 (s6 (Pl:=fb env) (fun c z=>z) H1 nf hs' rs.rv st) fun a2 np wk=>?_;refine hp _ _ (q g1 s1 _ _ a1 H1 a2 fun vn' env' W hC F' hP hL T=>?_);have npI:¬ W s1.heap.objs.size:=fun z=>by
  have:=gG (h:=s1.heap) nf;have hC:(s1.heap.push oI).get? s1.heap.objs.size=aj:=hC _ z;replace this:=hC▸this;exact no this
 have np':¬ fb env' s1.heap.objs.size:=fun z=>(hP _ z).elim npI np;have tw:=tb (Pl:=W) (t:=target) (g0:=g1) (S0:=S1) (s0:=s1) R.handled F' T X' hL np' (a_ _);refine ⟨_,tw,fun g' S' s' a=>tw.keep ⟨wk.rv,wk.P,fun b hb=>(wk.ks b hb).pl' fun z=>?_,wk.st⟩ a⟩;exact (wk.ks b hb).there (hC b z)
theorem EY (O:COk cx) (na:dS e=ac) (ns:ix arg=ac) (he:JE cx n vn env e fr S (.bi 0) S1) (ha:JE cx n vn env arg fr S1 (.loc j) S2) (hj:S2.get j=aa (.list ro .none l .none)):
 uU cx n vn env (.Call e [arg] [] pos) target bm ae fr S (rn 0 l) (aa j) S2:=by
 intro A g s Q R H q;refine zx (Pl:=fb env) O na ns he ha hj (fun c z=>z) R H fun g1 s1 s2 en it la vs a1 H1 ah ne n1 n2 np nw W=>?_;refine v7 W.en.choose_spec ?_;refine q g1 s1 s2 _ a1 H1 ah fun vn' env' WW hC F' hP hL T=>?_;have there :∀b,s2.heap.get? b≠aj→¬ WW b:=fun b h z=>h (hC b z);have e1:s2.heap.get? en≠aj:=(W.P.off en (.inl rfl)).2.2.2;have e2:s2.heap.get? it≠aj:=(W.P.off it (.inr rfl)).2.2.2;have tw:=td (Pl:=WW) (t:=target) (g0:=g1) (S0:=S2) (s0:=s1) (e:=en) (it:=it) (la:=la) (vs:=vs) (l:=l) R.handled F' T ne n1 n2 hL
  ⟨fun z=>(hP _ z).elim (there _ e1) np.1,fun z=>(hP _ z).elim (there _ e2) np.2⟩ nw
 exact ⟨_,tw,fun g' S' s' a=>tw.keep ⟨W.rs,W.P,W.ks.pl' (there _ W.ks.there),W.en,W.iter,W.lst⟩ a⟩
inductive Vh (vn:List Nat) (m:Nat):List Nat→List Expr→Prop
 |nil:Vh vn m [] []
 |cons {i x pos is es}:bc vn i=aa x→i<m→Vh vn m is es→Vh vn m (i::is) (.Name (sT x) pos::es)
inductive zY (vn:List Nat) (m:Nat):List Nat→Bool→Expr→Prop
 |one {i x pos}:bc vn i=aa x→i<m→zY vn m [i] ac (.Name (sT x) pos)
 |tup {is es k pos}:Vh vn m is es→zY vn m is ae (.Tuple es k pos)
theorem o8 (h:bc (l++m) i=aa x) (hi:i<l.length):x∈l:=by
 rcases mm h with ⟨_,q⟩|⟨q,_⟩
 ·exact er q
 ·omega
theorem o3 (K:iU vn env scope own aJ) (h:x∈own):(bh scope (dG env scope C) C env).kindOf (sT x)≠aa .free∧∀a,(a=C∨(bh scope (dG env scope C) C env).kindOf (sT x)≠aa .local∧(dG env scope C).lookup (sT x)=aa a)→G_ scope C a:=by
 rcases (K.mine x h).1 with q|q
 ·have hl:(bh scope (dG env scope C) C env).kindOf (sT x)=aa .local:=jM q;refine ⟨(fun z=>nomatch hl.symm.trans z),fun a z=>?_⟩;rcases z with z|z
  ·exact .inl z
  ·exact absurd hl z.1
 ·have hl:(bh scope (dG env scope C) C env).kindOf (sT x)=aa .cell:=oV q;refine ⟨(fun z=>nomatch hl.symm.trans z),fun a z=>?_⟩;rcases z with z|⟨_,z⟩
  ·exact .inl z
  ·refine ak (gA (C+1) (a6 q)) fun d hd=>?_;have z:aa d=aa a:=(uK hd).symm.trans z;apply gF z;exact .inr ⟨_,hd⟩
theorem Rr (K:iU vn env scope own aJ) (h:Vh (own++bY vn aJ) own.length is es):QW (own++bY vn aJ) (bh scope (dG env scope C) C env) (G_ scope C) is es:=by
 induction h with
 |nil=>exact .nil
 |cons hx hi t ih=>exact .cons hx (o3 K (o8 hx hi)).1 (o3 K (o8 hx hi)).2 ih
theorem V5 (K:iU vn env scope own aJ) (T:zY (own++bY vn aJ) own.length bm one t):Ad (own++bY vn aJ) (bh scope (dG env scope C) C env) (G_ scope C) bm one t:=by
 cases T with
 |one hx hi=>exact .one hx (o3 K (o8 hx hi)).1 (o3 K (o8 hx hi)).2
 |tup t=>exact .tup (Rr K t)
theorem O1 {A:b9} {g1:Gh} {S1 SL:St} {s1 s2:av} {aZ:Option Nat} {items:List AV} {e target iter:Expr} {ifs:List Expr} {emit:Env→Addr→Sem Unit} {newAcc:Sem Value} {acc0:AO} {oD:Obj} {itv:Value} {use:Option (Value→Sem Unit)} {Q:Value→av→Prop}
 (O:COk cx) (R:Room A n) (F:jw cx vn env) (K:iU vn env scope own aJ) (T:zY (own++bY vn aJ) own.length bm one target)
 (hst :∀D d8 s RR,gm cx.mo A (.compLoop e 0 itv (.ref D) d8) RR s→(∀(Q:Value→av→Prop) (E:Value→av→Prop),Q itv s→aA cx.mo A (qG itv) Q E s)→gm cx.mo A (.compStart e 0 itv (.ref D) d8) RR s)
 (hT :∀D d8,qy e target iter ifs itv (.ref D) d8 (emit d8 D)) (hu :∀D d8,A.under (.compLoop e 0 itv (.ref D) d8)=A)
 (hd :∀D d8,cx.mo.den (.compLoop e 0 itv (.ref D) d8)=(BZ e 0 itv (.ref D) d8).onRaise (fun x=>do Fq x d8;oC x))
 (H1:Here cx vn env fr g1 S1 s1) (a2:Aft cx g1 S1 s1 g1 (cL aZ S1) s2)
 (hnew :∀(Q:Value→av→Prop) (E:Value→av→Prop) s,Q (.ref s.heap.objs.size) {s with heap:=s.heap.push oD}→aA cx.mo A newAcc Q E s) (nf:oD.isFreed=ae)
 (ni :∀c fs,acc0≠.inst c fs) (hacc :∀g h a,h.get? a=aa oD→g.ρ S1.nx=aa a→OR cx g h S1.nx acc0)
 (X :∀vn' env' (W:Addr→Prop),(∀a,W a→s2.heap.get? a=aj)→jw cx vn' env'→(∀a,fb env' a→W a∨fb env a)→(∀a,W a→fb env' a)→Ad vn' env' W bm one target→
  ∃Wt,rB cx vn' env' W A itv target bm one g1 S1 s1 items Wt∧∀g' S' s',AftX cx W g1 (cL aZ S1) s2 g' S' s'→Wt 0 g' S' s')
 (L :∀C,jw cx (own++bY vn aJ) (bh scope (dG env scope C) C env)→Lc cx n (own++bY vn aJ) (bh scope (dG env scope C) C env) bm one ifs S1.nx (emit (bh scope (dG env scope C) C env)) items (dL (d4 own.length) (eB aJ fr)) ((cL aZ S1).new acc0) SL)
 (q :∀g' s' D C,Aft cx g1 S1 s1 g' (bG aZ (dy aZ S1) SL) s'→g'.ρ S1.nx=aa D→s1.heap.get? C=aj→Priv cx g' (bG aZ (dy aZ S1) SL).get s'.heap (· = C)→(∃m,s'.heap.Ns C m)→qI cx.mo A F0 use Q (.ref D) C (.ok .next) s'):
 aA cx.mo A newAcc (fun acc s₃=>aA cx.mo A (BX scope env.globals (qt env.cells scope.names []) [] env.qual aj .none (aa env)) (fun d8 s₄=>gm cx.mo A (.compStart e 0 itv acc {d8 with scope:=relabel scope env}) (qI cx.mo A F0 use Q acc d8.locals) s₄) F0 s₃) F0 s2:=by
 refine hnew _ _ _ (MV ?_);dsimp only;have H2:=H1.after a2;have hnx:(cL aZ S1).nx=S1.nx:=NK ..;have k3 :∀b o,s2.heap.get? b=aa o→(s2.heap.push oD).get? b=aa o:=bC oD;have e3:(s2.heap.push oD).get? s2.heap.objs.size=aa oD:=gG nf;have ev3:Evo cx g1 (cL aZ S1).get (cL aZ S1).nx s2.heap (g1.put (cL aZ S1).nx s2.heap.objs.size) ((cL aZ S1).new acc0).get ((cL aZ S1).new acc0).nx (s2.heap.push oD):=
  AT H2.inv k3 (a_ _) ni (hnx▸hacc _ _ _ e3 (hnx▸iw))
 have a3:Aft cx g1 (cL aZ S1) s2 (g1.put (cL aZ S1).nx s2.heap.objs.size) ((cL aZ S1).new acc0) {s2 with heap:=s2.heap.push oD}:=.of' ev3;have H3:=H2.after a3
 let h₁:Heap:=pushCells ((s2.heap.push oD).push {cls:=.type "dict",data:=.dict #[]}) scope.names
 have k4 :∀b o,(s2.heap.push oD).get? b=aa o→h₁.get? b=aa o:=fun b o z=>pushCells_keeps _ _ b o (bC _ b o z);have big :∀a,(s2.heap.push oD).objs.size≤a→(s2.heap.push oD).get? a=aj:=fun a ha=>by
  cases z:(s2.heap.push oD).get? a with
  |none=>rfl
  |some o=>exact absurd (dA z) (i5.mpr ha)
 have hC2 :∀a,G_ scope (s2.heap.push oD).objs.size a→s2.heap.get? a=aj:=fun a w=>by
  cases z:s2.heap.get? a with
  |none=>rfl
  |some o=>have:=k3 _ _ z;rw [big a (G9 w)] at this;exact no this
 have hC1 :∀a,G_ scope (s2.heap.push oD).objs.size a→s1.heap.get? a=aj:=fun a w=>by
  cases z:s1.heap.get? a with
  |none=>rfl
  |some o=>exact absurd (hC2 a w) (a2.evo.ext _ (by rw [z];exact fun z=>nomatch z))
 have Lnw :∀nm c,env.cells.lookup nm=aa c→c<(s2.heap.push oD).objs.size:=fun nm c z=>u6 fun y=>(H3.sep.off c (.inr ⟨nm,z⟩)).2.2.2 (big c y);have F':=O3 F K Lnw;have a4:Aft cx (g1.put (cL aZ S1).nx s2.heap.objs.size) ((cL aZ S1).new acc0) {s2 with heap:=s2.heap.push oD} (g1.put (cL aZ S1).nx s2.heap.objs.size) ((cL aZ S1).new acc0) {s2 with heap:=h₁}:=⟨⟨_,_,rfl⟩,.grow H3.inv k4⟩
 have hns:h₁.Ns (s2.heap.push oD).objs.size (fun d=>aj):=(Heap.Ns.new (s2.heap.push oD) (.type "dict")).keeps (pushCells_keeps _ _);have hsz:((s2.heap.push oD).push {cls:=.type "dict",data:=.dict #[]}).objs.size=(s2.heap.push oD).objs.size+1:=nO ..;have ok:=cellsFrom_ok scope.names ((s2.heap.push oD).push {cls:=.type "dict",data:=.dict #[]}) ((s2.heap.push oD).objs.size+1) [] ⟨fun d d hm=>(nomatch hm),List.Pairwise.nil⟩ (iH hsz.symm);rw [hsz] at ok;have H4:Here cx (own++bY vn aJ) (bh scope (dG env scope (s2.heap.push oD).objs.size) (s2.heap.push oD).objs.size env) (dL (d4 own.length) (eB aJ fr)) (g1.put (cL aZ S1).nx s2.heap.objs.size) ((cL aZ S1).new acc0) {s2 with heap:=h₁}:=
  JY F K H3 a4.evo.inv k4 (fun a w=>big a (G9 w)) hns (fun x=>rfl) fun x c hc=>(ok.empty x c (a6 hc)).1
 have a34:=a3.trans H2.inv a4;have aX:AftX cx (G_ scope (s2.heap.push oD).objs.size) g1 S1 s1 (g1.put (cL aZ S1).nx s2.heap.objs.size) ((cL aZ S1).new acc0) {s2 with heap:=h₁}:=(a2.trans H1.inv a34).x;have hP :∀a,fb (bh scope (dG env scope (s2.heap.push oD).objs.size) (s2.heap.push oD).objs.size env) a→G_ scope (s2.heap.push oD).objs.size a∨fb env a:=fun a z=>by
  rcases z with z|⟨nm,z⟩
  ·exact .inl (.inl z)
  ·rcases lB K z with ⟨y,_,_⟩|⟨_,y⟩
   ·exact .inl (.inr ⟨nm,y⟩)
   ·exact .inr (.inr ⟨nm,y⟩)
 have hL :∀a,G_ scope (s2.heap.push oD).objs.size a→fb (bh scope (dG env scope (s2.heap.push oD).objs.size) (s2.heap.push oD).objs.size env) a:=fun a z=>by
  rcases z with z|⟨nm,z⟩
  ·exact .inl z
  ·exact .inr ⟨nm,uK z⟩
 refine cg (X _ _ _ hC2 F' hP hL (V5 K T)) fun Wt tw w0=>?_
 ·have st0:=w0 _ _ _ a34.x;refine hst _ _ _ _ ?_ fun Q E z=>tw.self st0 z;refine dp (BD R (hT _ _) (hu _ _) (hd _ _) tw (L _ F') H4 aX st0 (by rw [hnx];exact iw)) ?_;rintro r s' ⟨rfl,g',fr',a',H',hD⟩;have ev:Evo cx g1 S1.get S1.nx s1.heap g' (bG aZ (dy aZ S1) SL).get (bG aZ (dy aZ S1) SL).nx s'.heap:=(nR H1.inv a'.evo).evoP hC1;refine cg H'.fr.loc fun m hm d=>?_;refine q g' s' _ _ ⟨a'.same,ev⟩ hD (hC1 _ (.inl rfl)) ⟨fun a z=>?_⟩ ⟨m,hm⟩;apply dW z;refine Lm (H'.sep.off _ (.inl rfl)) fun p1 p2 p3 p4=>?_;exact ⟨fun z=>p1 (Ee z),p2,p3,p4⟩
end
theorem AftX.drop {Pl:Addr→Prop} (x:AftX cx Pl g S s g' S' s') (n :∀a,Pl a→s.heap.get? a=aj):Aft cx g S s g' S' s':=⟨x.same,x.evo.evoP n⟩
section
variable {cx:Cx} {n:Nat} {vn own aJ:List Nat} {env:Env} {scope:Scope} {bm:List Nat} {one:Bool} {fr:Fr} {S S1 SL:St} {v:AV}
theorem zN {e target iter:Expr} {ifs:List Expr} {aZ:Option Nat} {items:List AV} {emit:Env→Addr→Sem Unit} {newAcc:Sem Value} {acc0:AO} {oD:Obj} {pos:Pos} {gr:eH} {grs:List eH}
 (O:COk cx) (F:jw cx vn env) (K:iU vn env scope own aJ) (T:zY (own++bY vn aJ) own.length bm one target) (hcl:clausesOf e=gr::grs) (hs :∀x,Vq gr.iter env x=cR x)
 (hst :∀{A:b9} itv D d8 s RR,gm cx.mo A (.compLoop e 0 itv (.ref D) d8) RR s→(∀(Q:Value→av→Prop) (E:Value→av→Prop),Q itv s→aA cx.mo A (qG itv) Q E s)→gm cx.mo A (.compStart e 0 itv (.ref D) d8) RR s)
 (hT :∀itv D d8,qy e target iter ifs itv (.ref D) d8 (emit d8 D)) (hu :∀(A:b9) itv D d8,A.under (.compLoop e 0 itv (.ref D) d8)=A)
 (hd :∀itv D d8,cx.mo.den (.compLoop e 0 itv (.ref D) d8)=(BZ e 0 itv (.ref D) d8).onRaise (fun x=>do Fq x d8;oC x))
 (hnew :∀(A:b9) (Q:Value→av→Prop) (E:Value→av→Prop) s,Q (.ref s.heap.objs.size) {s with heap:=s.heap.push oD}→aA cx.mo A newAcc Q E s) (nf:oD.isFreed=ae)
 (ni :∀c fs,acc0≠.inst c fs) (hacc :∀g h a k,h.get? a=aa oD→g.ρ k=aa a→OR cx g h k acc0)
 (hsrc:uU cx n vn env iter target bm one fr S items aZ S1)
 (L :∀C,jw cx (own++bY vn aJ) (bh scope (dG env scope C) C env)→Lc cx n (own++bY vn aJ) (bh scope (dG env scope C) C env) bm one ifs S1.nx (emit (bh scope (dG env scope C) C env)) items (dL (d4 own.length) (eB aJ fr)) ((cL aZ S1).new acc0) SL)
 {A:b9} {s:av} {use:Option (Value→Sem Unit)} {Q:Value→av→Prop} (R:Room A n) (H:Here cx vn env fr g S s)
 (q :∀g' s' D C,Aft cx g S s g' (bG aZ (dy aZ S1) SL) s'→Here cx vn env fr g' (bG aZ (dy aZ S1) SL) s'→g'.ρ S1.nx=aa D→s.heap.get? C=aj→¬ fb env C→Priv cx g' (bG aZ (dy aZ S1) SL).get s'.heap (· = C)→(∃m,s'.heap.Ns C m)→qI cx.mo A F0 use Q (.ref D) C (.ok .next) s'):
 aA cx.mo A (mI e scope env pos newAcc ae (dm iter env) use) Q F0 s:=by
 refine wpAny_comprehension_free hcl hs (vY K.fre) K.kind K.loc ?_;refine hsrc A g s _ R H fun g1 s1 s2 itv a1 H1 a2 X=>?_;refine O1 O R F K T (fun D d8 s RR=>hst itv D d8 s RR) (fun D d8=>hT itv D d8) (fun D d8=>hu A itv D d8) (fun D d8=>hd itv D d8) H1 a2 (hnew A) nf ni (fun g h a=>hacc g h a S1.nx) X L fun g' s' D C a' hD hC P hn=>?_;have a0:=a1.trans H.inv a';have hC0:s.heap.get? C=aj:=by
  cases z:s.heap.get? C with
  |none=>rfl
  |some o=>exact absurd hC (a1.evo.ext _ (by erw[z];exact fun z=>nomatch z))
 exact q g' s' D C a0 (H.after a0) hD hC0 (fun p=>(H.sep.off C p).2.2.2 hC0) P hn
theorem zL (a:Aft cx g S s g' S' s') (hD:g'.ρ j=aa D) (hC:s.heap.get? C=aj) (P:Priv cx g' S'.get s'.heap (· = C)) (hn :∃m,s'.heap.Ns C m):
 qI cx.mo A F0 aj (fun x s''=>∃g'',Aft cx g S s g'' S' s''∧VR cx g'' (.loc j) x) (.ref D) C (.ok .next) s':=by
 refine ak hn fun m hn=>?_;refine ⟨m,hn,fun h' hs=>⟨g',(a.x (Pl:=fun c=>False)).sideN (tk:=s'.toks) P (gM hs) (fun b z=>z▸hC) |>.drop (fun b z=>z.elim),.loc hD⟩⟩
theorem zM (F:jw cx vn env) (hx:bc vn i=aa x) (nfr:env.kindOf (sT x)≠aa .free) (a:Aft cx g S s g' S' s') (H':Here cx vn env fr g' S' s') (hD:g'.ρ j=aa D) (hC:s.heap.get? C=aj) (np:¬ fb env C) (P:Priv cx g' S'.get s'.heap (· = C)) (hn :∃m,s'.heap.Ns C m):
 qI cx.mo A F0 (aa (j_ (.Name (sT x) pos') env)) (fun c s''=>∃g'',AftX cx (fb env) g S s g'' S' s''∧Here cx vn env (dT fr i (aa (.loc j))) g'' S' s'') (.ref D) C (.ok .next) s':=by
 refine ak hn fun m hn=>?_;refine v8 (mN F hx nfr uz H' (.loc hD) fun s2 a2 H2=>⟨m,hn.at' fun o e=>a2.evo.keep C o e (fun w=>(P.off C rfl).1 w.oc) np,fun h' hs=>?_⟩);have P2:Priv cx g' S'.get s2.heap (· = C):=P.evx a2.evo;exact ⟨g',(a.x.trans a2).sideN (tk:=s2.toks) P2 (gM hs) (fun b z=>z▸hC),H2.side P2 (gM hs) fun b p z=>np (z▸p)⟩
theorem y5 {Q E:Value→av→Prop} (h:Q (.ref s.heap.objs.size) {s with heap:=s.heap.push {cls:=.type "list",data:=.seq #[]}}):aA cx.mo A (newList []) Q E s:=gf h
theorem qV {Q E:Value→av→Prop} (h:Q (.ref s.heap.objs.size) {s with heap:=s.heap.push {cls:=.type "dict",data:=.dict #[]}}):aA cx.mo A newDict Q E s:=gf h
theorem G3 (e:h.get? a=aa {cls:=.type "list",data:=.seq #[]}) (r:g.ρ k=aa a):OR cx g h k (.list ae .none [] .none):=
 .list (vs:=#[]) (mid:=[]) r e rfl .nil
theorem G4 (e:h.get? a=aa {cls:=.type "dict",data:=.dict #[]}) (r:g.ρ k=aa a):OR cx g h k (.dict ae 9 []):=
 .dict r e ⟨rfl,rfl,rfl⟩ rfl ⟨fun p h=>(by first|exact no h|exact ff h|cases h),.nil⟩ .nil
noncomputable def wT (elt:Expr) (env:Env) (D:Addr):Sem Unit:=do let _ ← call (.builtin "list.append") [.ref D,← dm elt env]
noncomputable def wU (k v:Expr) (env:Env) (D:Addr):Sem Unit:=do
 let kv ← dm k env
 let vv ← fu [kv] (dm v env)
 l3 {k.pos with endLine:=v.pos.endLine,endCol:=v.pos.endCol}
 fu [kv,vv] (Af D kv vv)
theorem HA (O:COk cx) (F:jw cx vn env) (K:iU vn env scope own aJ) (T:zY (own++bY vn aJ) own.length bm one target) (ns:ft iter=ac)
 (hsrc:uU cx n vn env iter target bm one fr S items aZ S1)
 (L :∀C,jw cx (own++bY vn aJ) (bh scope (dG env scope C) C env)→Lc cx n (own++bY vn aJ) (bh scope (dG env scope C) C env) bm one ifs S1.nx (wT elt (bh scope (dG env scope C) C env)) items (dL (d4 own.length) (eB aJ fr)) ((cL aZ S1).new (.list ae .none [] .none)) SL)
 {Q:Value→av→Prop} (R:Room A n) (H:Here cx vn env fr g S s)
 (q :∀g' s' D C,Aft cx g S s g' (bG aZ (dy aZ S1) SL) s'→Here cx vn env fr g' (bG aZ (dy aZ S1) SL) s'→g'.ρ S1.nx=aa D→s.heap.get? C=aj→¬ fb env C→Priv cx g' (bG aZ (dy aZ S1) SL).get s'.heap (· = C)→(∃m,s'.heap.Ns C m)→qI cx.mo A F0 use Q (.ref D) C (.ok .next) s') (p:Pos):
 aA cx.mo A (mI (.ListComp elt [⟨target,iter,ifs,0⟩] scope pos) scope env p (newList []) ae (dm iter env) use) Q F0 s:=
 zN (acc0:=.list ae .none [] .none) (emit:=wT elt) (iter:=iter) (ifs:=ifs) O F K T rfl (fun x=>lx ns) (fun itv D d8 s RR h0 hp=>codeAny_compStart_list h0 (hp _ _ h0)) (fun itv D d8=>DT ..) (fun A itv D d8=>rfl) (fun itv D d8=>rfl) (fun A Q E s h=>y5 h) rfl (fun c fs z=>nomatch z)
  (fun g h a k e r=>G3 e r) hsrc L R H q
theorem JD (O:COk cx) (F:jw cx vn env) (K:iU vn env scope own aJ) (T:zY (own++bY vn aJ) own.length bm one target) (ns:ft iter=ac)
 (hsrc:uU cx n vn env iter target bm one fr S items aZ S1)
 (L :∀C,jw cx (own++bY vn aJ) (bh scope (dG env scope C) C env)→Lc cx n (own++bY vn aJ) (bh scope (dG env scope C) C env) bm one ifs S1.nx (wU kx vx (bh scope (dG env scope C) C env)) items (dL (d4 own.length) (eB aJ fr)) ((cL aZ S1).new (.dict ae 9 [])) SL)
 {Q:Value→av→Prop} (R:Room A n) (H:Here cx vn env fr g S s)
 (q :∀g' s' D C,Aft cx g S s g' (bG aZ (dy aZ S1) SL) s'→Here cx vn env fr g' (bG aZ (dy aZ S1) SL) s'→g'.ρ S1.nx=aa D→s.heap.get? C=aj→¬ fb env C→Priv cx g' (bG aZ (dy aZ S1) SL).get s'.heap (· = C)→(∃m,s'.heap.Ns C m)→qI cx.mo A F0 use Q (.ref D) C (.ok .next) s') (p:Pos):
 aA cx.mo A (mI (.DictComp kx vx [⟨target,iter,ifs,0⟩] scope pos) scope env p newDict ae (dm iter env) use) Q F0 s:=
 zN (acc0:=.dict ae 9 []) (emit:=wU kx vx) (iter:=iter) (ifs:=ifs) O F K T rfl (fun x=>lx ns) (fun itv D d8 s RR h0 hp=>codeAny_compStart_dict h0 (hp _ _ h0)) (fun itv D d8=>DU ..) (fun A itv D d8=>rfl) (fun itv D d8=>rfl) (fun A Q E s h=>qV h) rfl (fun c fs z=>nomatch z)
  (fun g h a k e r=>G4 e r) hsrc L R H q
theorem Qx (O:COk cx) (F:jw cx vn env) (K:iU vn env scope own aJ) (T:zY (own++bY vn aJ) own.length bm one target) (ns:ft iter=ac)
 (hsrc:uU cx n vn env iter target bm one fr S items aZ S1)
 (L :∀C,jw cx (own++bY vn aJ) (bh scope (dG env scope C) C env)→Lc cx n (own++bY vn aJ) (bh scope (dG env scope C) C env) bm one ifs S1.nx (wT elt (bh scope (dG env scope C) C env)) items (dL (d4 own.length) (eB aJ fr)) ((cL aZ S1).new (.list ae .none [] .none)) SL):
 JE cx n vn env (.ListComp elt [⟨target,iter,ifs,0⟩] scope pos) fr S (.loc S1.nx) (bG aZ (dy aZ S1) SL):=fun A g s R H=>by
 rw [eval_ListComp];exact HA O F K T ns hsrc L R H (fun g' s' D C a H' hD hC np P hn=>zL a hD hC P hn) _
theorem Qy (O:COk cx) (F:jw cx vn env) (K:iU vn env scope own aJ) (T:zY (own++bY vn aJ) own.length bm one target) (ns:ft iter=ac)
 (hsrc:uU cx n vn env iter target bm one fr S items aZ S1)
 (L :∀C,jw cx (own++bY vn aJ) (bh scope (dG env scope C) C env)→Lc cx n (own++bY vn aJ) (bh scope (dG env scope C) C env) bm one ifs S1.nx (wU kx vx (bh scope (dG env scope C) C env)) items (dL (d4 own.length) (eB aJ fr)) ((cL aZ S1).new (.dict ae 9 [])) SL):
 JE cx n vn env (.DictComp kx vx [⟨target,iter,ifs,0⟩] scope pos) fr S (.loc S1.nx) (bG aZ (dy aZ S1) SL):=fun A g s R H=>by
 rw [arm_eval_DictComp];exact JD O F K T ns hsrc L R H (fun g' s' D C a H' hD hC np P hn=>zL a hD hC P hn) _
theorem wK (F:jw cx vn env) (hx:bc vn i=aa x) (nf:env.kindOf (sT x)≠aa .free) (hb:swapsWith e (aa (.Name (sT x) pos')) pos.line env=cR b) (h:JE cx n vn env e fr S (.loc j) S')
 (hu :∀A g s,Room A n→Here cx vn env fr g S s→aA cx.mo A (evalThenUse e env (j_ (.Name (sT x) pos') env)) (fun c s''=>∃g'',AftX cx (fb env) g S s g'' S' s''∧Here cx vn env (dT fr i (aa (.loc j))) g'' S' s'') F0 s):
 J1 cx n vn env (.Assign [.Name (sT x) pos'] e pos) fr S .next (dT fr i (aa (.loc j))) S':=fun A g s R H=>by
 cases b with
 |false=>exact Vl (h.use R H fun g1 s1 y a1 H1 r1=>mN F hx nf uz H1 r1 fun s2 a2 H2=>⟨g1,a1.x.trans a2,H2,.next⟩) hb
 |true=>
  erw[exec_Assign_Name_used _ _ _ _ hb];refine ag (dP (ag (aE (hu A g s R H) (fun _ s'' ⟨g'',a,H'⟩ =>aq ⟨g'',a,H',.next⟩) fun c c z=>z)))
theorem EB (O:COk cx) (F:jw cx vn env) (hx:bc vn i=aa x) (nf:env.kindOf (sT x)≠aa .free) (K:iU vn env scope own aJ) (T:zY (own++bY vn aJ) own.length bm one target) (ns:ft iter=ac)
 (hsrc:uU cx n vn env iter target bm one fr S items aZ S1)
 (L :∀C,jw cx (own++bY vn aJ) (bh scope (dG env scope C) C env)→Lc cx n (own++bY vn aJ) (bh scope (dG env scope C) C env) bm one ifs S1.nx (wT elt (bh scope (dG env scope C) C env)) items (dL (d4 own.length) (eB aJ fr)) ((cL aZ S1).new (.list ae .none [] .none)) SL):
 J1 cx n vn env (.Assign [.Name (sT x) pos'] (.ListComp elt [⟨target,iter,ifs,0⟩] scope pos) pos2) fr S .next (dT fr i (aa (.loc S1.nx))) (bG aZ (dy aZ S1) SL):=
 wK F hx nf rfl (Qx O F K T ns hsrc L) fun A g s R H=>by
  show aA cx.mo A (do let _ ← mI (.ListComp elt [⟨target,iter,ifs,0⟩] scope pos) scope env (firstIterPos [⟨target,iter,ifs,0⟩] pos) (newList []) ae (dm iter env) (aa (j_ (.Name (sT x) pos') env))) _ F0 s;exact ag (aE (HA (use:=aa (j_ (.Name (sT x) pos') env)) O F K T ns hsrc L R H (fun g' s' D C a H' hD hC np P hn=>zM F hx nf a H' hD hC np P hn) _) (fun b s'' h=>aq h) fun b b z=>z)
theorem EC (O:COk cx) (F:jw cx vn env) (hx:bc vn i=aa x) (nf:env.kindOf (sT x)≠aa .free) (K:iU vn env scope own aJ) (T:zY (own++bY vn aJ) own.length bm one target) (ns:ft iter=ac)
 (hsrc:uU cx n vn env iter target bm one fr S items aZ S1)
 (L :∀C,jw cx (own++bY vn aJ) (bh scope (dG env scope C) C env)→Lc cx n (own++bY vn aJ) (bh scope (dG env scope C) C env) bm one ifs S1.nx (wU kx vx (bh scope (dG env scope C) C env)) items (dL (d4 own.length) (eB aJ fr)) ((cL aZ S1).new (.dict ae 9 [])) SL):
 J1 cx n vn env (.Assign [.Name (sT x) pos'] (.DictComp kx vx [⟨target,iter,ifs,0⟩] scope pos) pos2) fr S .next (dT fr i (aa (.loc S1.nx))) (bG aZ (dy aZ S1) SL):=
 wK F hx nf rfl (Qy O F K T ns hsrc L) fun A g s R H=>by
  show aA cx.mo A (do let _ ← mI (.DictComp kx vx [⟨target,iter,ifs,0⟩] scope pos) scope env (firstIterPos [⟨target,iter,ifs,0⟩] pos) newDict ae (dm iter env) (aa (j_ (.Name (sT x) pos') env))) _ F0 s;exact ag (aE (JD (use:=aa (j_ (.Name (sT x) pos') env)) O F K T ns hsrc L R H (fun g' s' D C a H' hD hC np P hn=>zM F hx nf a H' hD hC np P hn) _) (fun b s'' h=>aq h) fun b b z=>z)
theorem Xn (O:COk cx) (h:JE cx n vn env elt fr S v S1) (hj:S1.get j=aa (.list ae ii l post)) (hp:xH j ii l post [v] S1=aa (.none,S2)):JM cx n vn env j (wT elt env) fr S S2:=fun A g s D R H hD=>by
 refine ag (h.use R H fun g1 s1 x a1 H1 r1=>ag (aE (ue O hj hp A g1 s1 (.ref D) [x] R H1.inv (.loc (a1.evo.le.ρ _ _ hD)) (.cons r1 .nil)) (fun _ s2 ⟨g2,a2,_⟩ =>aq ⟨g2,a1.trans H.inv a2⟩) fun a a z=>z))
theorem Xo (O:COk cx) (hk:JE cx n vn env kx fr S kv S1) (hv:JE cx n vn env vx fr S1 vv S2) (hj:S2.get j=aa (.dict ae d l)) (ko:pe d kv=ac) (hz:l.length≤1000) (e3:S3=S2.put j (.dict ae (kd kv) (lz kv vv l))):JM cx n vn env j (wU kx vx env) fr S S3:=fun A g s D R H hD=>by
 apply dW e3;refine ag (hk.use R H fun g1 s1 x a1 H1 r1=>ag (aQ (hv.use R H1 fun g2 s2 y a2 H2 r2=>ag (dP (aQ ?_)))));have hD2:=a2.evo.le.ρ _ _ (a1.evo.le.ρ _ _ hD);refine lG (iM O H2.inv hj (.loc hD2)) fun a e ra DD=>?_
 first|exact no e|exact ff e|cases e
 refine sJ H2.inv.fz R.units ko (r1.mono a2.evo.le) r2 DD hz fun h' tk hs D'=>?_;exact ⟨g2,(a1.trans H.inv a2).trans H.inv ⟨⟨_,_,rfl⟩,t8 H2.inv hj hD2 hs D'⟩⟩
theorem Nl:Q0 cx n vn env [] fr S ac S:=fun A g s R H=>aq ⟨rfl,g,.refl H.inv⟩
theorem Nm (h:JT cx n vn env c fr S ac S1) (k:Q0 cx n vn env cs fr S1 r SL):Q0 cx n vn env (c::cs) fr S r SL:=fun A g s R H=>by
 rw [jx,if_pos rfl,bind_assoc];refine ag (h.use R H fun g1 s1 a1 H1=>?_);rw [nq];exact aE (k A g1 s1 R H1) (fun b s2 ⟨e,g2,a2⟩ =>⟨e,g2,a1.trans H.inv a2⟩) fun a a z=>z
theorem HR (cs:List Expr) (A) (g:Gh) (s:av) (H:Here cx vn env fr g S s):aA cx.mo A (Fs cs ae fun c r=>if r=ac then do let ok ← isTrue c env (dm c env);cR (bU ok) else cR (bU r)) (fun b s'=>b=ae∧∃g',Aft cx g S s g' S s') F0 s:=by
 induction cs with
 |nil=>exact aq ⟨rfl,g,.refl H.inv⟩
 |cons c cs ih=>rw [jx,if_neg (by decide),nq];exact ih
theorem HS (h:JT cx n vn env c fr S ae S1):Q0 cx n vn env (c::cs) fr S ae S1:=fun A g s R H=>by
 rw [jx,if_pos rfl,bind_assoc];refine ag (h.use R H fun g1 s1 a1 H1=>?_);rw [nq];exact aE (HR cs A g1 s1 H1) (fun b s2 ⟨e,g2,a2⟩ =>⟨e,g2,a1.trans H.inv a2⟩) fun a a z=>z
end
theorem xI:uW (.type "list") "keys" = cR aj:=am_miss_of_fast (by decide +kernel)
theorem rN:uW (.type "list") "__getattr__" = cR aj:=by erw[(typeLookup_type ..),(Ld ..)];kernel_rfl
theorem pq (l:Addr) (vs:Array Value) (n:Nat) (u:Tok):
 Meets (gZ.«object.__getattribute__» ⟨[.ref l,.str "keys" u],[]⟩) (fun A R s=>s.heap.get? l=aa {cls:=.type "list",data:=.seq vs n}∧raisesAttr (.ref l) "keys" A R s):=
 Meets.of_wp fun prog w A R s hs=>by
  obtain ⟨hp,g,d,tk,os⟩:=s;have hT:ol ⟨hp,g,d,tk,os⟩ (.ref l) "list":=⟨_,hs.1,rfl⟩
  have f5:=xI;have ho:=hs.1;unfold gZ.«object.__getattribute__»
  repeat (any_goals (first|assumption|wp_step))
  exact wpAny_raiseAttrError hs.2.1 hs.2.2 (attrMsg_fits (by decide +kernel) (by size_fits))
theorem nD {E:Value→av→Prop} {Q:Option Value→av→Prop} (hA:A.handled=aj)
 (ho:s.heap.get? l=aa {cls:=.type "list",data:=.seq vs n}) (h :∀h' tk,(∀b o,s.heap.get? b=aa o→h'.get? b=aa o)→Q aj {s with heap:=h',toks:=tk}):
 aA (lD prog w) A (getAttr? (.ref l) "keys") Q E s:=by
 obtain ⟨hp,g,d,tk,os⟩:=s;have hT :∀tk,ol ⟨hp,g,d,tk,os⟩ (.ref l) "list":=fun a=>⟨_,ho,rfl⟩
 have f1:=sub_AttributeError;have f3:=lW.lookup;have f4:=lW.bind (.ref l);have f5:=rN;unfold getAttr? getAttrBy? getAttrBy
 repeat (any_goals (first|assumption|((with_reducible show aA _ _ (call (ym "list.__getattribute__") _ _) _ _ _);refine B1 lW (hT _) F.entry_list_ga (F.args_list_getattribute_2 _ _) (pq l vs n _) ⟨ho,hA,fun h' tk' e hx=>?_⟩)|wp_step))
 refine wh hx.there fun t' u' he=>?_;show aA _ _ (UX _ _ _ _ _ _ _) _ _ _;unfold UX
 repeat (any_goals (first|assumption|wp_step))
 exact h _ _ fun b o e=>hx.keeps b o e
theorem C1 {es:Array DictEntry} (ns:(d==di)=ae):KdlSrc prog w "dict" d d es.size (fun i v=>(es.toList.map (·.key))[i]? = aa v) (fun h=>EntAt h d es ep) where
 type:=fun s e=>e.typeIs
 there:=fun h ⟨o,ho,_⟩ =>⟨dA ho,dA ho⟩
 keep:=fun h h' e k=>e.at (k d (.inl rfl))
 notList:=by decide
 notTuple:=by decide
 hint:=fun A E s Q e q=>kdl_hint_dict e.typeIs q
 iter:=fun A s hh e=>⟨_,_,(fun E Q q=>t7 ns e q),wl hh _ d (let ⟨o,ho,_⟩:=e;bv (dA ho)) es ep,⟨⟨_,bZ _ rfl,rfl,rfl⟩,e.at (bC _ d)⟩⟩
section
variable {cx:Cx} {g:Gh} {n:Nat} {S S':St} {v:AV} {x:Value} {items:List AV} {aZ:Option Nat}
inductive Lain (cx:Cx) (g:Gh) (h:Heap) (items:List AV):Value→Prop
 |seq {a o T vs n}:T = "list"∨T = "tuple"→h.get? a=aa o→o.cls=.type T→o.data=.seq vs n→VRs cx g items vs.toList→Lain cx g h items (.ref a)
 |ent {a es ep l}:(a==di)=ae→EntAt h a es ep→DRs cx g l es.toList→items=l.map (·.1)→Lain cx g h items (.ref a)
theorem qY (O:COk cx) (I:Inv cx g S.get S.nx h) (e:dX v S=aa (items,aZ)) (r:VR cx g v x):Lain cx g h items x:=
 wL e (fun l hv hi=>by subst hv hi;exact me r fun a vs n ex f rs=>ex▸.seq (.inr rfl) (I.fz _ _ f) rfl rfl rs)
  (fun d l hv hi=>by subst hv;exact s7 r fun a o es n ex z f b c k dr=>ex▸.ent z ⟨_,I.fz _ _ f,b,c⟩ dr (hi.trans (iL _ _)))
  (fun j ro l hv hj hi i=>by
   subst hv hi;refine wi (mU I hj r) fun a ra h00=>?_;refine pT h00 fun vs m T rs=>?_;exact .seq (.inl rfl) T rfl rfl rs)
  (fun j ro d l hv hj hi i=>by
   subst hv;refine wi (iM O I hj r) fun a ra D=>?_;refine Ra D.ok fun o es n ho hx hd dr=>?_;exact .ent D.ns ⟨o,ho,hx,hd⟩ dr (hi.trans (iL _ _)))
theorem CY {es:Array DictEntry} {l:List (AV×AV)} {acc:Array Value} (dr:DRs cx g l es.toList) (hi:ItemsOf (fun i v=>(es.toList.map (·.key))[i]? = aa v) acc es.size):VRs cx g (l.map (·.1)) acc.toList:=by
 have e:acc.toList=es.toList.map (·.key):=by
  apply KY;intro i
  by_cases z:i<acc.size
  ·have h1:=hi.2 i acc[i] (by simp [z]);erw[h1,bu];simp [z]
  ·have h2:es.size≤i:=by refine hi.1▸?_;omega
   rw [B3 (by simpa using z),B3 (by simpa using h2)]
 erw[e];exact dr.keys
theorem BE {A:b9} {s:av} {E:Value→av→Prop} {R:List Value→av→Prop} (hh:A.handled=aj) (L:Lain cx g s.heap items x) (hz:items.length≤1000)
 (q :∀h' tk vs,(∀b o,s.heap.get? b=aa o→h'.get? b=aa o)→VRs cx g items vs→R vs {s with heap:=h',toks:=tk}):aA cx.mo A (collect x) R E s:=by
 cases L with
 |seq hT ho hc hd rs=>
  exact wpAny_collect_seq _ hT ho hc hd (fun h' k=>q h' s.toks _ k rs) (by refine aC▸au rs.length▸au bE▸?_;omega)
 |ent ns e dr hi=>
  subst hi;refine kdu_collect (C1 ns) hh e (by refine aC▸au dr.length▸au bE▸?_;simp at hz;omega) fun h' tk acc k hI=>q h' tk _ k (CY dr hI)
theorem Lain.keep (L:Lain cx g h items x) (k :∀b o,h.get? b=aa o→h'.get? b=aa o):Lain cx g h' items x:=by
 cases L with
 |seq hT ho hc hd rs=>exact .seq hT (k _ _ ho) hc hd rs
 |ent ns e dr hi=>exact .ent ns (e.at (k _)) dr hi
theorem M9 (O:COk cx) (e:dX v S=aa (items,aZ)) (h:gU items S=aa (u,S')):JF cx n (.bi 6) [v] S u S':=fun A g s f xs R I rf rxs=>by
 apply b7 (eY rxs);intro y ry;rw [iZ rf];apply jP (jr h);intro hz q402;apply dW q402;have L:=qY O I e ry;have key :∀(h':Heap) tk (acc:Array Value) c,(∀b o,s.heap.get? b=aa o→h'.get? b=aa o)→h'.get? s.heap.objs.size=aa {cls:=.type "list",dict:=aj,data:=.seq acc c,slots:=#[]}→VRs cx g items acc.toList→
  ∃g',Aft cx g S s g' (S.new (.list ae .none items .none)) {s with heap:=h',toks:=tk}∧VR cx g' (.loc S.nx) (.ref s.heap.objs.size):=fun h' tk acc c k ho rs=>by
  refine aK (fun ev r=>?_) (xD (xs:=acc.toList) I k (a_ _) (by rw [ho,i6]) rs);exact ⟨_,⟨⟨_,_,rfl⟩,ev⟩,r⟩
 show aA cx.mo A (call (.type "list") [y]) _ F0 s;cases L with
 |seq hT ho hc hd rs=>
  exact call_list_seq _ hT ho hc hd (fun h' c k ho'=>key h' s.toks _ c k ho' rs) (by refine aC▸au rs.length▸au bE▸?_;omega)
 |ent ns e' dr hi=>
  subst hi;refine kdl_call (C1 ns) R.handled e' (by refine aC▸au dr.length▸au bE▸?_;simp at hz;omega) fun h' tk acc c k ho' hI=>key h' tk acc c k ho' (CY dr hI)
theorem F_ (O:COk cx) (e:c8 S v=aa l) (h:qi l S=aa (u,S')):JF cx n (.bi 8) [v] S u S':=fun A g s f xs R I rf rxs=>by
 apply b7 (eY rxs);intro y ry;erw[iZ rf];apply jP (mP h);intro hz q702;apply dW q702;refine kC e fun j ro z hj=>?_;subst z;apply l8 (hZ I hj ry);intro a vs m mid ra ho hv rs;have rs:VRs cx g l vs.toList:=by erw[hv];simpa [fo] using rs
 show aA cx.mo A (call (.type "tuple") [.ref a]) _ F0 s;refine call_tuple_list ⟨_,ho,rfl,_,rfl⟩ (fun h' k=>?_) (by refine aC▸au rs.length▸au bE▸?_;omega);have fr:s.heap.get? h'.objs.size=aj:=by
  cases z:s.heap.get? h'.objs.size with
  |none=>rfl
  |some o=>have:=k _ _ z;replace this:=(a_ ..)▸this;cases this
 refine aK (fun ev r=>?_) (CH (xs:=vs.toList) (h':=h'.push {cls:=.type "tuple",data:=.seq vs}) (n:=0) I (fun b o z=>bC _ b o (k b o z)) fr (by rw [gG rfl,i6]) rs);exact ⟨_,⟨⟨_,_,rfl⟩,ev⟩,r⟩
theorem Po {v u:AV} {S:St} {P:Prop} (e:E8 v S=aa u) (q1 :∀l,v=.tup l→l.length≤1000→u=.int (aw (eZ l))→P)
 (q2 :∀j ro l,v=.loc j→S.get j=aa (.list ro .none l .none)→l.length≤1000→u=.int (aw (eZ l))→P) (q3 :∀j ro p l q,v=.loc j→S.get j=aa (.list ro p l q)→l.length≤1000→u=.ge (eZ l)→P)
 (q4 :∀j ro d l,v=.loc j→S.get j=aa (.dict ro d l)→HM d=ac→l.length≤1000→u=.int (aw (eZ l))→P):P:=by
 refine gO e (fun l hl e=>bQ e fun hs e=>q1 l (fj hl) (i7 hs) (pM e).symm) fun a e=>ba e fun j hj e=>ba e fun o ho e=>?_;replace hj:=g_ hj;cases o with
 |list ro p l q=>
  refine bQ e fun hs e=>?_;cases p with
  |some _=>exact q3 j ro _ l _ hj ho (i7 hs) (pM e).symm
  |none=>cases q with
   |some _=>exact q3 j ro _ l _ hj ho (i7 hs) (pM e).symm
   |none=>exact q2 j ro l hj ho (i7 hs) (pM e).symm
 |dict ro d l=>exact bQ e fun k0 e=>bQ e fun hs e=>q4 j ro d l hj ho k0 (i7 hs) (pM e).symm
 |inst _ _=>exact no e
theorem N4 {k:Nat} (h:k≤3000):(k:Int)<2 ^ 63:=Int.lt_of_le_of_lt (rY.mpr h) (by decide)
theorem Ta (O:COk cx) (e:E8 v S=aa u):JF cx n (.bi 2) [v] S u S:=fun A g s f xs R I rf rxs=>by
 apply b7 (eY rxs);intro y ry;erw[iZ rf];show aA cx.mo A (call (.builtin "len") [y]) _ F0 s;have fin :∀(z:Int) tk,VR cx g u (.int z (s.toks+1))→∃g',Aft cx g S s g' S {s with toks:=tk}∧VR cx g' u (.int z (s.toks+1)):=fun z tk r=>⟨g,.tok I tk,r⟩
 have fi :∀{α:Type} {l:List α} {k:Nat},u=.int (aw (eZ l))→l.length=k→VR cx g u (.int (aw k) (s.toks+1)):=fun hu hl=>by refine au (hu ..)▸(hl ..)▸(cC ..)▸?_;exact .int _ _
 refine Po e (fun l hv hs hu=>?_) (fun j ro l hv hj hs hu=>?_) (fun j ro p l q hv hj hs hu=>?_) (fun j ro d l hv hj k0 hs hu=>?_)
 ·subst hv;refine me ry fun a vs m ex f rs=>?_;apply dW ex;have hl:l.length=vs.size:=by refine aC▸?_;exact rs.length.symm
  exact len_tuple ⟨_,I.fz _ _ f,rfl,m,rfl⟩ (N4 (hl▸aB hs (by decide))) (fin _ _ (fi hu hl))
 ·subst hv;refine lG (mU I hj ry) fun a q1100 ra h110=>?_;refine pT h110 fun vs m ho rs=>?_;subst q1100;have hl:l.length=vs.size:=by refine aC▸?_;exact rs.length.symm
  exact call_len_list ⟨_,ho,rfl,_,rfl⟩ (N4 (hl▸aB hs (by decide))) (fin _ _ (fi hu hl))
 ·subst hv;apply l8 (hZ I hj ry);intro a vs m mid ra ho hv rs;have hl:vs.size=(fo cx p).length+l.length+(fo cx q).length:=by rw [← aC,hv,bf,bf,rs.length]
  have hz:vs.size≤3000:=hl▸yt (yt (oQ O p) hs) (oQ O q);refine call_len_list ⟨_,ho,rfl,_,rfl⟩ (N4 hz) (fin _ _ (hu▸.ge (rY.mpr ?_)));erw[(hl ..),(cC ..)];exact aB (we ..) (gD ..)
 ·subst hv;apply wi (iM O I hj ry);intro a ra D;refine U6 (iC D (mV k0 D.ko)) fun ka da la b b rc=>?_;exact call_len_dict D.ns da (N4 (la.symm▸aB hs (by decide))) (fin _ _ (fi hu la.symm))
end
theorem wH {α β:Type} {c:Nat→Nat→Option Bool} {f:α→KasT β} {b:β} {a:α} {t:KasT α} (h:rQ c t=aa a) (k:rQ c (f a)=aa b):rQ c (t.bind f)=aa b:=by
 induction t with
 |ret x=>apply VC h;exact k
 |ask i j g ih=>
  exact ba (x:=c i j) h fun r e h=>(congrArg (fun x=>ob x fun r=>rQ c ((g r).bind f)) e).trans (ih r h)
theorem Nc {α:Type} {c:Nat→Nat→Option Bool} {cmp:Nat→Nat→(Bool→av→Prop)→av→Prop} {J:av→Prop} (hc :∀i j b C s,c i j=aa b→J s→(∀s',J s'→C b s')→cmp i j C s) {a:α} {Q:α→av→Prop}
 {t:KasT α}:∀{s:av},rQ c t=aa a→J s→(∀s',J s'→Q a s')→t.kasWp cmp Q s:=by
 induction t with
 |ret x=>intro s h j q;apply VC h;exact q s j
 |ask i k f ih=>
  intro s h j q;exact ba (x:=c i k) h fun r e h=>hc i k r _ s e j fun s' j'=>ih r h j' q
theorem Kt :∀{l:List AV} {i:Nat} {x y:AV},E6 l=ac→bc l (i+1)=aa x→bc l i=aa y→Yb x y=aa ae
 |[],_,_,_,_,h,_=>by exact no h
 |[a],i,_,_,_,h,_=>by cases i<;>exact no h
 |a::b::l,i,x,y,h,h1,h2=>by
  unfold E6 at h;dsimp only at h
  split at h
  ·rename_i r e
   split at h
   ·exact ff h
   ·cases i with
    |zero=>apply gF h1;cases h2;exact e
    |succ i=>exact Kt (l:=b::l) (i:=i) h h1 h2
  ·exact ff h
theorem CU {α:Type} {l:List α} {i:Nat} (h:i<l.length):∃x,bc l i=aa x:=by
 induction l generalizing i with
 |nil=>exact nomatch h
 |cons a l ih=>cases i with
  |zero=>exact ⟨a,rfl⟩
  |succ i=>exact ih (dJ h)
theorem GP (h:i<n):(cv (bz n)).getD i 0=i:=by
 simp [Array.getD,h]
theorem HF {l:List AV} (h:E6 l=ac) (f:Nat):∀(k:Nat),k+1+f≤l.length→rQ (kJ l) (kas_asc (cv (bz l.length)) f (k+1))=aa (k+1+f):=by
 induction f with
 |zero=>exact fun a a=>rfl
 |succ f ih=>
  intro k hk;refine ak (CU (l:=l) (i:=k+1) (by omega)) fun x hx=>?_;refine ak (CU (l:=l) (i:=k) (by omega)) fun y hy=>?_;have e:kJ l ((cv (bz l.length)).getD (k+1) 0) ((cv (bz l.length)).getD (k+1-1) 0)=aa ae:=by
   rw [GP (by omega),GP (by omega)];show (ob (bc l (k+1)) fun x=>ob (bc l k) fun y=>Yb x y)=_;rw [hx,hy];exact Kt h hx hy
  refine (congrArg (fun x=>ob x fun c=>rQ (kJ l) (if c=ac then KasT.ret (k+1) else kas_asc (cv (bz l.length)) f (k+1+1))) e).trans ?_;show rQ _ (if ae=ac then _ else _)=_;rw [if_neg (by decide),ih (k+1) (by omega)]
  congr 1;omega
theorem zb {l:List AV} (h:E6 l=ac) (h1:1≤l.length):rQ (kJ l) (Py l.length)=aa (cv (bz l.length)):=by
 unfold Py;refine wH (a:=(l.length,cv (bz l.length))) ?_ ?_
 ·unfold kas_count;refine wH (HF h (l.length-1) 0 (by omega)) ?_;have e:0+1+(l.length-1)=l.length:=by omega
  rw [e,if_pos (by simp)];rfl
 ·rw [if_neg (by simp)];rfl
theorem oZ {vs:List Value} (r:VRs cx g l vs):∀i,VR cx g (nC l i) (vs.getD i .none):=
 VRs.ind (M:=fun l vs=>∀i,VR cx g (nC l i) (vs.getD i .none)) (fun b=>.none) (fun v l x xs a b ih i=>by
  cases i with
  |zero=>exact a
  |succ i=>exact ih i) l r
theorem GT (rs:VRs cx g l vs) (p:List Nat):VRs cx g (iz (nC l) p) (p.map fun i=>vs.getD i .none):=
 aP .nil (fun i a ih=>.cons (oZ rs i) ih) p
theorem AJ:iz (nC l) (bz l.length)=l:=by
 erw[(iL ..)];apply KY;intro i;erw[iq]
 by_cases z:i<l.length
 ·have e :∀(l:List AV) (i:Nat) (h:i<l.length),nC l i=l[i]:=by
   intro l
   induction l with
   |nil=>intro i h;simp at h
   |cons a l ih=>intro i h;cases i with
    |zero=>rfl
    |succ i=>exact ih i (by simpa using h)
  simp [z,e l i z]
 ·have z':l.length≤i:=by omega
  simp [z']
section
variable {cx:Cx} {g:Gh} {n:Nat} {S S':St} {v u:AV} {items out:List AV} {aZ:Option Nat}
theorem D5 {α:Type} (l:List α):((cv l).zip (cv l)).map (·.2)=cv l:=by
 apply K1.mp;simp;exact List.map_snd_zip (aY _)
theorem Uv {A:b9} {H:Heap} {s0:av} {κ:PD} {vs:List Value} (ask :∀i j b,kJ items i j=aa b→∀(C:Bool→av→Prop) tk,(∀tk',C b {s0 with heap:=H,toks:=tk'})→v_ cx.prog cx.w A κ vs i j C {s0 with heap:=H,toks:=tk}):
 ∀i j b C s,kJ items i j=aa b→(∃tk,s = {s0 with heap:=H,toks:=tk})→(∀s',(∃tk,s' = {s0 with heap:=H,toks:=tk})→C b s')→v_ cx.prog cx.w A κ vs i j C s:=by
 rintro i j b C s h ⟨tk,rfl⟩ q;exact ask i j b h C tk fun tk'=>q _ ⟨tk',rfl⟩
theorem Gy (h:Gz items=aa out) (h1:1≤items.length):∃p:Array Nat,rQ (kJ items) (Py items.length)=aa p∧out=iz (nC items) p.toList:=by
 unfold Gz at h
 split at h
 ·rename_i e;apply gF h;exact ⟨_,zb e h1,by exact au List.toList_toArray▸au AJ▸rfl⟩
 ·refine ba h fun p hp h=>?_;apply gF h;exact ⟨p,by replace hp:=(cC ..)▸hp;exact hp,rfl⟩
theorem Ht {A:b9} {s:av} {a:Addr} {vs:List Value} {m:Nat} {P:PySem.Fin→av→Prop} {E:Value→av→Prop} (ho:s.heap.get? a=aa (yi "list" vs.toArray m)) (hz:vs.length<64) (rs:VRs cx g items vs)
 (hr:(items.length<2∧out=items)∨(2≤items.length∧∃p:Array Nat,rQ (kJ items) (Py items.length)=aa p∧out=iz (nC items) p.toList∧
  ∀(H:Heap) tk,(∀b o,b≠a→s.heap.get? b=aa o→H.get? b=aa o)→∀(Q:PD→av→Prop),
   (∀κ tk',(∀i j b,kJ items i j=aa b→∀(C:Bool→av→Prop) tk,(∀tk',C b {s with heap:=H,toks:=tk'})→v_ cx.prog cx.w A κ vs i j C {s with heap:=H,toks:=tk})→Q κ {s with heap:=H,toks:=tk'})→
   aA cx.mo A (keyKind' vs.toArray) Q E {s with heap:=H,toks:=tk}))
 (q :∀h' tk vs' c,(∀b o,b≠a→s.heap.get? b=aa o→h'.get? b=aa o)→h'.get? a=aa (yi "list" vs'.toArray c)→VRs cx g out vs'→P (.done (.ret .none)) {s with heap:=h',toks:=tk}):
 aA cx.mo A (gZ.«list.sort» ⟨[.ref a],[]⟩) P E s:=by
 have hlen:vs.length=items.length:=rs.length;have ha:a<s.heap.objs.size:=dA ho;obtain ⟨e1,ho1⟩:∃e1,(s.heap.update a (kc fun d=>(#[]:Array Value))).get? a=aa (yi "list" #[] e1):=⟨_,get?_update_seq ho fun d=>#[]⟩
 have k1 :∀b o,b≠a→s.heap.get? b=aa o→(s.heap.update a (kc fun d=>(#[]:Array Value))).get? b=aa o:=fun b o nb e=>(Ap _ _ (yq nb)).trans e;erw[(list_sort_plain ..)];refine ag (listItems_at ho rfl ?_);refine ag (listUpdate_at ho rfl ?_ (by erw[kS,bE];omega) (a7 _));refine ag (seqEpoch_at ho1 rfl ?_);refine ag (wpAny_newTuple ?_ (by show vs.length≤_;erw[bE];omega));refine ag (wpAny_newList ?_ (a7 _));refine aQ ?_;generalize hH:((s.heap.update a (kc fun d=>(#[]:Array Value))).push (yi "tuple" vs.toArray 0)).push (yi "list" #[] 0)=H;have kH :∀b o,b≠a→s.heap.get? b=aa o→H.get? b=aa o:=fun b o nb e=>by
  refine hH▸?_;exact dB _ (dB _ (k1 b o nb e))
 have aH:H.get? a=aa (yi "list" #[] e1):=by
  refine hH▸?_;exact dB _ (dB _ ho1)
 show aA cx.mo A _ P E {s with heap:=H};dsimp only;have fin :∀(st':SortSt) (vs':List Value) tk,(arrOf st').map (·.2)=cv vs'→vs'.length<64→failedOf st'=aj→VRs cx g out vs'→
  aA cx.mo A (do
   let touched:=(← seqEpoch a) != e1
   Builtin.List.listUpdate (.ref a) fun d=>(arrOf st').map (·.2)
   if let aa e:=failedOf st' then rule "list.sort.comparison-raised";throw e
   if touched then rule "list.sort.modified";raiseError "ValueError" "list modified during sort"
   ret .none) P E {s with heap:=H,toks:=tk}:=by
  intro st' vs' tk hout hz' hf r';refine ag (seqEpoch_at aH rfl ?_);erw[hout];obtain ⟨c2,hc2⟩:∃c2,(H.update a (kc fun d=>cv vs')).get? a=aa (yi "list" (cv vs') c2):=⟨_,get?_update_seq aH fun d=>cv vs'⟩
  refine ag (listUpdate_at aH rfl ?_ (a7 _) (by erw[kS,bE];omega));erw[hf];simp only [bne_self_eq_false,b_,if_false];exact aq (q _ tk vs' c2 (fun b o nb e=>(Ap _ _ (yq nb)).trans (kH b o nb e)) hc2 r')
 rcases hr with ⟨h2,rfl⟩|⟨h2,p,hp,rfl,ask⟩
 ·have hn2:vs.toArray.size<2:=by erw[kS];omega
  erw[if_pos hn2,if_pos hn2];refine ag (aq ?_);refine ag (aq ?_);exact fin _ vs s.toks (D5 vs) hz rfl rs
 ·have hn2:¬ vs.toArray.size<2:=by erw[kS];omega
  erw[if_neg hn2,if_neg hn2];refine ag (ask H s.toks kH _ fun κ tk hk=>?_);refine ag (aE (kat_run (ks:=vs) (vs:=vs) (κ:=κ) (Q:=fun st' s'=>(∃tk,s' = {s with heap:=H,toks:=tk})∧arrOf st'=p.map (kas_item (vs.toArray.zip vs.toArray))∧failedOf st'=aj∧p.size=vs.length)
   (G:=fun p' s'=>p'=p∧∃tk,s' = {s with heap:=H,toks:=tk})
   rfl (by omega) hz (fun p' st' s' a1 a2 a3 a4=>by obtain ⟨e,a4⟩:=a4;apply Q_ e;exact ⟨a4,a2,a3,a1⟩) ?_) ?_ fun d d e=>e)
  ·erw[hlen];exact Nc (J:=fun s'=>∃tk,s' = {s with heap:=H,toks:=tk}) (Uv hk) hp ⟨_,rfl⟩ fun s' j=>⟨rfl,j⟩
  ·rintro ⟨⟨⟩,st'⟩ s' ⟨⟨tk',rfl⟩,har,hf,hps⟩;exact fin st' _ tk' (kat_snds rfl har) (by erw[(a9 ..),(aC ..),(hps ..)];exact hz) hf (GT rs p.toList)
theorem pG {α:Type} {f:α→Bool} {x:α} {l:List α} (h:(x::l).all f=ac):f x=ac∧l.all f=ac:=ax.mp h
theorem zh (l:List AV) {vs:List Value} (r:VRs cx g l vs):BV l=ac→IntsAre vs (dY l):=
 VRs.ind (M:=fun l vs=>BV l=ac→IntsAre vs (dY l)) (fun b=>.nil) (fun v l x xs a b ih h=>by
  refine ak (Ko (pG h).1) fun i e=>?_;rw [e] at a ⊢;refine ak (de a) fun t et=>?_;erw[et];exact .cons _ _ (ih (pG h).2)) l r
theorem CV {α:Type} {x:α} (l:List α):∀{i:Nat},bc l i=aa x→x∈l:=by
 induction l with
 |nil=>exact fun h=>no h
 |cons a l ih=>
  intro i h;cases i with
  |zero=>exact ao h▸.head _
  |succ i=>exact .tail _ (ih h)
theorem DE {l:List AV} {i:Nat} {x:AV} (h:BV l=ac) (e:bc l i=aa x):∃k,x=.int k:=Ko (ai.mp h x (CV l e))
theorem DC {l:List AV} {i:Nat} {x:AV} (h:E7 l=ac) (e:bc l i=aa x):∃p q,x=.tup [.str p,.str q]:=zf (ai.mp h x (CV l e))
theorem su (e:bc l i=aa x):nC l i=x:=by unfold nC;exact au e▸rfl
theorem uI (h:kJ items i j=aa b):∃x y,bc items i=aa x∧bc items j=aa y∧Yb x y=aa b:=by
 refine ba h fun x hx h=>?_;refine ba h fun y hy h=>?_;exact ⟨x,y,hx,hy,h⟩
theorem Rq {α:Type} {l:List α} (h:2≤l.length):∃a b r,l=a::b::r:=by
 match l,h with
 |a::b::r,_=>exact ⟨a,b,r,rfl⟩
theorem Kr {A:b9} {vs:List Value} {E:Value→av→Prop} (hI:BV items=ac) (rs:VRs cx g items vs) (h2:2≤items.length) {s:av} (H:Heap) (tk:Nat) (Q:PD→av→Prop)
 (q :∀κ tk',(∀i j b,kJ items i j=aa b→∀(C:Bool→av→Prop) tk,(∀tk',C b {s with heap:=H,toks:=tk'})→v_ cx.prog cx.w A κ vs i j C {s with heap:=H,toks:=tk})→Q κ {s with heap:=H,toks:=tk'}):
 aA cx.mo A (keyKind' vs.toArray) Q E {s with heap:=H,toks:=tk}:=by
 have hi:=zh _ rs hI;have hl:2≤vs.length:=by rw [rs.length];exact h2
 refine z30 (Rq hl) fun v1 v2 r e=>?_;subst e;refine qC (keyKind_ints hi) (q _ tk fun i j b h C tk' hC=>?_);refine rJ (uI h) fun x y hx hy h=>?_;refine ak (DE hI hx) fun k q900=>?_;subst q900;refine ak (DE hI hy) fun k' q1000=>?_;subst q1000;have r1:=oZ rs i;have r2:=oZ rs j;rw [su hx] at r1;rw [su hy] at r2;refine ak (de r1) fun t e1=>?_;refine ak (de r2) fun u e2=>?_;unfold v_;rw [e1,e2];have hb:decide (k<k')=b:=ao h;exact kat_lt_int (hb▸hC tk')
theorem ltW :∀i,i<13→∀j,j<13→6<i→6<j→aF i j=decide ((sT i).cps.toList<(sT j).cps.toList):=by decide +kernel
theorem CS (h:S9 (.str i) (.str j)=aa b):b=decide ((sT i).cps.toList<(sT j).cps.toList):=by
 have h:(match aF 6 i&&aF i 13&&aF 6 j&&aF j 13 with|true=>aa (aF i j)|false=>.none)=aa b:=h
 split at h
 ·rename_i e;simp only [Lj] at e;obtain ⟨⟨⟨e1,e2⟩,e3⟩,e4⟩:=e;apply gF h;exact ltW i (aG.mp e2) j (aG.mp e4) (aG.mp e1) (aG.mp e3)
 ·exact no h
theorem xl {p q:Nat} {x:Value} (h:VR cx g (.tup [.str p,.str q]) x):∃a o n t u,x=.ref a∧g.fz a=aa o∧o.cls=.type "tuple"∧o.data=.seq #[.str (sT p) t,.str (sT q) u] n∧p<nS∧q<nS:=by
 apply l8 (ma h);intro a o vs n f hc hd rs;refine rJ (xj rs) fun y z e r1 r2=>?_;refine aK (fun h1 h160=>?_) (iW r1);refine ak h160 fun t q1610=>?_;subst q1610;refine aK (fun h2 h170=>?_) (iW r2);refine ak h170 fun u q1710=>?_;subst q1710;have e:vs = #[.str (sT p) t,.str (sT q) u]:=by exact (i6 (xs:=vs))▸au e▸rfl
 exact ⟨a,o,n,t,u,rfl,f,hc,e▸hd,h1,h2⟩
theorem HN {h:Heap} (hf :∀a o,g.fz a=aa o→o.cls=.type "tuple"→h.get? a=aa o) (l:List AV) {vs:List Value} (r:VRs cx g l vs):E7 l=ac→∃fs,KatTups h vs fs∧fs.length=vs.length∧∀v∈fs,∃x t,v=.str x t:=
 VRs.ind (M:=fun l vs=>E7 l=ac→∃fs,KatTups h vs fs∧fs.length=vs.length∧∀v∈fs,∃x t,v=.str x t) (fun b=>⟨[],trivial,rfl,fun b h=>nomatch h⟩) (fun v l x xs r b ih hw=>by
  refine wh (zf (pG hw).1) fun p q e=>?_;replace r:=e▸r;refine Y2 (xl r) fun a o n t u ex f hc hd b b=>?_;refine lG (ih (pG hw).2) fun fs k hl ht=>?_;erw[ex];exact ⟨.str (sT p) t::fs,.cons (hf a o f hc) hc hd rfl k,congrArg bW hl,fun v hv=>(aN.mp hv).elim (fun e=>e▸⟨_,_,rfl⟩) (ht v)⟩) l r
theorem E5 {A:b9} {vs:List Value} {E:Value→av→Prop} (hW:E7 items=ac) (rs:VRs cx g items vs) (h2:2≤items.length) {s:av} (H:Heap) (hf :∀a o,g.fz a=aa o→o.cls=.type "tuple"→H.get? a=aa o) (tk:Nat) (Q:PD→av→Prop)
 (q :∀κ tk',(∀i j b,kJ items i j=aa b→∀(C:Bool→av→Prop) tk,(∀tk',C b {s with heap:=H,toks:=tk'})→v_ cx.prog cx.w A κ vs i j C {s with heap:=H,toks:=tk})→Q κ {s with heap:=H,toks:=tk'}):
 aA cx.mo A (keyKind' vs.toArray) Q E {s with heap:=H,toks:=tk}:=by
 refine lG (HN (h:=H) hf _ rs hW) fun fs kt hl ht=>?_;refine kat_kind (s:={s with heap:=H,toks:=tk}) (T:=.type "str") kt (by erw[hl,rs.length];omega) (fun v hv=>?_) rfl (q _ tk fun i j b h C tk' hC=>?_)
 ·apply PT (ht v hv);intro x t;exact .now
 ·refine rJ (uI h) fun x y hx hy h=>?_;refine wh (DC hW hx) fun p p' q2400=>?_;subst q2400;refine wh (DC hW hy) fun r r' q2500=>?_;subst q2500;have r1:=oZ rs i;have r2:=oZ rs j;replace r1:=(su hx)▸r1;replace r2:=(su hy)▸r2;refine Y2 (xl r1) fun a oa na ta ua e1 fa hca hda lp lp'=>?_;refine Y2 (xl r2) fun c oc nc tc uc e2 fc hcc hdc lr lr'=>?_;unfold v_;erw[e1,e2];refine kat_lt (s:={s with heap:=H,toks:=tk'}) (hf _ _ fa hca) hda (hf _ _ fc hcc) hdc ?_;have h:(match vS (.str p) (.str r) with|true=>M6 [.str p'] [.str r']|false=>S9 (.str p) (.str r))=aa b:=h
  show KatLex _ _ _ _ _ _ [(.str (sT p) ta,.str (sT r) tc),(.str (sT p') ua,.str (sT r') uc)] 0 _;refine kat_cons (wpAny_eqBool_str ?_);have b1:vS (.str p) (.str r)=decide (sT p=sT r):=pE lp lr;refine b1▸?_;cases hk:vS (.str p) (.str r) with
  |true=>
   replace h:=hk▸h;refine kat_yes (kat_cons (wpAny_eqBool_str ?_));have h:(match vS (.str p') (.str r') with|true=>M6 [] []|false=>S9 (.str p') (.str r'))=aa b:=h
   have b2:vS (.str p') (.str r')=decide (sT p'=sT r'):=pE lp' lr';refine b2▸?_;cases hk2:vS (.str p') (.str r') with
   |true=>
    replace h:=hk2▸h;have h:aa ae=aa b:=h
    first|exact no h|exact ff h|cases h
    exact kat_yes (kat_nil (hC tk'))
   |false=>
    replace h:=hk2▸h;refine kat_no ?_;exact kat_one _ _ (lt_str (CS h▸hC tk'))
  |false=>
   replace h:=hk▸h;refine kat_no ?_;exact oneLt_str (CS h▸hC tk')
theorem DZ (O:COk cx) (e:dX v S=aa (items,aZ)) (hs:Fl items=aa out) (h:gU out S=aa (u,S')):JF cx n (.bi 3) [v] S u S':=fun A g s f xs R I rf rxs=>by
 apply b7 (eY rxs);intro y ry;erw[iZ rf];apply jP (jr h);intro hz q2902;apply dW q2902;have L:=qY O I e ry;have cases':(items.length<2∧out=items)∨(2≤items.length∧items.length<64∧(BV items=ac∨E7 items=ac)∧Gz items=aa out):=by
  unfold Fl at hs
  split at hs
  ·rename_i e1;apply gF hs;exact .inl ⟨by have:=aG.mp e1;replace this:=(cC ..)▸this;exact this,rfl⟩
  ·rename_i e1;have n1:¬ items.length<2:=fun z=>by
    have:aF (eZ items) 2=ac:=aG.mpr (by erw[(cC ..)];exact z);replace e1:=this▸e1;exact U3 e1
   unfold Wl at hs
   split at hs
   ·exact no hs
   ·rename_i e2;have n2:=aG.mp e2;replace n2:=(cC ..)▸n2
    split at hs
    ·rename_i e3;exact .inr ⟨by omega,n2,.inl e3,hs⟩
    ·split at hs
     ·rename_i e3;exact .inr ⟨by omega,n2,.inr e3,hs⟩
     ·exact no hs
 have l64:items.length<64:=by rcases cases' with ⟨h,_⟩|⟨_,h,_⟩<;>omega
 show aA cx.mo A (call (.builtin "sorted") [y]) _ F0 s;refine call_function_entry kind_sorted plain_sorted entry_sorted (args_sorted1 _) ?_;unfold gZ.«sorted»;refine ag (m:=checkCount "sorted" 1 1 _) (aq ?_);refine ag (BE (A:=A.in1) R.handled L (by omega) fun h1 tk vs k1 rs=>?_);have hvl:vs.length=items.length:=rs.length;refine ag (wpAny_newList ?_ (by erw[hvl,bE];omega));have hn:(h1.push {cls:=.type "list",data:=.seq vs.toArray}).get? h1.objs.size=aa (yi "list" vs.toArray 0):=gG rfl;have k2 :∀b o,s.heap.get? b=aa o→(h1.push {cls:=.type "list",data:=.seq vs.toArray}).get? b=aa o:=fun b o z=>bC _ b o (k1 b o z);have fr:s.heap.get? h1.objs.size=aj:=by
  cases z:s.heap.get? h1.objs.size with
  |none=>rfl
  |some o=>have:=k1 _ _ z;replace this:=(a_ ..)▸this;exact no this
 have ne :∀b o,s.heap.get? b=aa o→b≠h1.objs.size:=fun b o z w=>by replace z:=fr▸w▸z;exact no z
 refine ag (aQ (bR slot_list_sort ⟨_,hn,rfl⟩ entry_list_sort ?body (args_list_sort _)))
 case body=>
  refine Ht (g:=g) (items:=items) (out:=out) (m:=0) hn (by omega) rs ?_ fun h' tk' vs' c k3 ho' rs'=>⟨_,rfl,?_⟩
  ·rcases cases' with h|⟨n2,_,hk,hs2⟩
   ·exact .inl h
   ·refine cg (Gy hs2 (by omega)) fun p hp ho=>?_;refine .inr ⟨n2,p,hp,ho,fun H tk' kH Q q=>?_⟩;have hfz :∀b o,g.fz b=aa o→H.get? b=aa o:=fun b o z=>kH b o (ne b o (I.fz b o z)) (k2 b o (I.fz b o z));rcases hk with hk|hk
    ·exact Kr (s:={s with heap:=h1.push {cls:=.type "list",data:=.seq vs.toArray},toks:=tk}) hk rs n2 H tk' Q q
    ·exact E5 (s:={s with heap:=h1.push {cls:=.type "list",data:=.seq vs.toArray},toks:=tk}) hk rs n2 H (fun b o z _=>hfz b o z) tk' Q q
  ·refine aq ⟨_,rfl,?_⟩;refine aK (fun ev r=>?_) (xD (xs:=vs') (n:=c) I (fun b o z=>k3 b o (ne b o z) (k2 b o z)) fr ho' rs');exact ⟨_,⟨⟨_,_,rfl⟩,ev⟩,r⟩
end
section
variable {cx:Cx} {g:Gh} {n:Nat} {S S':St} {v u:AV} {items out:List AV} {aZ:Option Nat}
theorem Zj (e:(be a i (decide (i<a)):Int)=w):(w=a∨w=i)∧w≤a∧w≤i:=by
 apply Q_ e;cases q:decide (i<a) with
 |true=>exact ⟨.inr rfl,Int.le_of_lt (of_decide_eq_true q),Int.le_refl _⟩
 |false=>exact ⟨.inl rfl,Int.le_refl _,yw.mp (of_decide_eq_false q)⟩
theorem M1 :∀{a m:Int},Xa a l=aa m→BV l=ac∧m∈a::dY l∧∀b∈a::dY l,m≤b:=by
 induction l with
 |nil=>intro a m h;apply gF h;exact ⟨rfl,.head _,fun b hb=>Int.le_of_eq (aS.mp hb).symm⟩
 |cons x l ih=>
  intro a m h;refine ba (x:=jL x) h fun i ei h=>?_;apply dW (cP ei);refine B6 (ih h) fun h1 h2 h3=>B6 (Zj (a:=a) (i:=i) rfl) fun e1 e2 e3=>?_;have h4:=h3 _ (.head _);refine ⟨h1,(?_:m∈a::i::dY l),fun b (hb:b∈a::i::dY l)=>?_⟩
  ·exact (aN.mp h2).elim (fun z=>e1.elim (fun e=>z.trans e▸.head _) fun e=>z.trans e▸.tail _ (.head _)) fun z=>.tail _ (.tail _ z)
  ·exact (aN.mp hb).elim (fun e=>e▸Int.le_trans h4 e2) fun hb=>(aN.mp hb).elim (fun e=>e▸Int.le_trans h4 e3) fun hb=>h3 b (.tail _ hb)
theorem SW (O:COk cx) (h:X_ v S=aa (u,S')):JF cx n (.bi 4) [v] S u S':=fun A g s f xs R I rf rxs=>by
 apply b7 (eY rxs);intro y ry;rw [iZ rf];show aA cx.mo A (call (.builtin "min") [y]) _ F0 s;refine ba h fun l hl h=>?_;refine kC hl fun j ro z hj=>?_;subst z;apply l8 (hZ I hj ry);intro a vs m mid ra ho hv rs;have rs:VRs cx g l vs.toList:=by rw [hv];simpa [fo] using rs
 cases l with
 |nil=>exact no h
 |cons x l=>
  refine ba (x:=jL x) h fun i ei q=>?_;replace h:=q;have ei:=cP ei;subst ei
  ·refine ba h fun r hr h=>?_;apply xg h;refine B6 (M1 hr) fun h1 h2 h3=>?_;have hi:IntsAre vs.toList (i::dY l):=zh (.int i::l) rs h1;refine ak hi.allInts.items fun ys e=>?_;have hns:i::dY l=ys.toList.map (·.1):=by
    rw [← hi.numsOf,← nums_intItems,← e]
   have hsz:0<ys.size:=by
    have:=congrArg u9 hns;simp at this;omega
   rw [i6] at e;refine min_intList R.handled ⟨_,ho,rfl,_,by rw [← e]⟩ hsz fun w h' tk hw k=>?_;refine ak (intItems_at hw) fun t q500=>?_;apply dW q500;refine aK (fun g1 g2=>?_) (argBest_lt (yC ys) (ys.size-1));have m1:yC ys (argBest (fun i j=>decide (yC ys i<yC ys j)) (ys.size-1))∈i::dY l:=by
    rw [hns,numAt_eq];exact getD_mem (by rw [a9,aC];omega)
   have m2 :∀b∈i::dY l,yC ys (argBest (fun i j=>decide (yC ys i<yC ys j)) (ys.size-1))≤b:=fun b hb=>by
    rw [hns] at hb;refine sY (mem_getD hb) fun j hj=>?_;rw [a9,aC] at hj;rw [← numAt_eq];exact g2 j (by omega)
   have e2:yC ys (argBest (fun i j=>decide (yC ys i<yC ys j)) (ys.size-1))=r:=Int.le_antisymm (m2 _ h2) (h3 _ m1);rw [e2];exact ⟨g,⟨⟨_,_,rfl⟩,.grow I k⟩,.int _ _⟩
theorem rp :∀{d d':Nat} {acc out:List (AV×AV)},iD l d acc=aa (d',out)→acc.length≤out.length:=by
 induction l with
 |nil=>intro _ _ _ _ h;apply xg h;exact aY _
 |cons x l ih=>
  intro d d' acc out h;exact ba (x:=nQ x) h fun t a h=>I_ h fun k v a h=>bQ h fun a h=>aB mW (ih h)
theorem jE:entryFor table "dict.update.loop" = aa gZ.«dict.update.loop»:=entryFor_of_tree (by kernel_rfl)
theorem eg:plainId "dict.update.loop" = ac:=by decide +kernel
theorem AM {E:Value→av→Prop} {Q:List Value→av→Prop} (ho:s.heap.get? a=aa o) (hc:o.cls=.type "tuple") (hd:o.data=.seq vs m) (q:Q vs.toList s):aA M A (sX (.ref a)) Q E s:=by
 unfold sX;refine ag (KL (T:="tuple") ⟨o,ho,hc⟩ ?_);rw [if_pos (by rfl)];refine ag ?_;unfold seqItems?;refine ag (wpAny_load ho ?_);erw[hd];exact aq (aq q)
theorem DAt.at (D:DAt cx g h a d l) (k :∀o,h.get? a=aa o→h'.get? a=aa o):DAt cx g h' a d l:=
 let ⟨o,es,n,ho,x,hd,dr⟩:=D.ok;⟨⟨o,es,n,k o ho,x,hd,dr⟩,D.ko,D.ns⟩
theorem F4 {A:b9} {Wt:Nat→Heap→Prop} {items:List AV} {fin:List (AV×AV)} {s0:av} {R:Result→av→Prop} (hu:A.in1.units<cLine) (X:KB cx A.in1 I src ys Wt) (rs:VRs cx g items ys) (hf :∀a o,g.fz a=aa o→s0.heap.get? a=aa o) (hD:s0.heap.get? D=aj) (hI:s0.heap.get? I=aj) (hsrc :∀b∈src,s0.heap.get? b≠aj) (nDI:D≠I) (hz:fin.length≤1000)
 (q :∀h' tk,(∀b o,s0.heap.get? b=aa o→h'.get? b=aa o)→DAt cx g h' D d' fin→R (.ok (.ret .none)) {s0 with heap:=h',toks:=tk}):
 ∀(k i:Nat) (d:Nat) (acc:List (AV×AV)) (H:Heap) (tk:Nat) (z:Int) (t:Tok),k+i=items.length→iD (items.drop i) d acc=aa (d',fin)→Wt i H→DAt cx g H D d acc→(∀b o,s0.heap.get? b=aa o→H.get? b=aa o)→
  gm cx.mo A (.builtin "dict.update.loop" ⟨[.ref D,.ref I,.int z t,.none],[]⟩) R {s0 with heap:=H,toks:=tk}:=by
 intro k
 induction k with
 |zero=>
  intro i d acc H tk z t hk hd st DD kp;have hi:i=items.length:=by omega
  subst hi;replace hd:=List.drop_length▸hd;refine Fk hd fun qc540 qc541=>?_;subst qc540;subst qc541;refine j9 jE ?_;erw[fI eg _];unfold gZ.«dict.update.loop»;refine ag (X.W.done _ _ _ (by erw[rs.length];exact st) fun h' tk' k'=>?_);refine ag (aq (aq ?_));exact q h' tk' (fun b o e=>k' b o (fun w=>by replace e:=hI▸(aS.mp w)▸e;cases e) (kp b o e)) (DD.at fun o e=>k' D o (fun w=>nDI (aS.mp w)) e)
 |succ k ih=>
  intro i d acc H tk z t hk hd st DD kp;have hlt:i<items.length:=by omega
  replace hd:=(List.drop_eq_getElem_cons hlt)▸hd;generalize hx:items[i]=x at hd;have hix:items[i]? = aa x:=by exact au (gR hlt)▸au hx▸rfl
  refine ba (x:=nQ x) hd fun t et hd=>I_ hd fun kk vv e2 hd=>bQ hd fun ko hd=>?_
  ··refine j9 jE ?_;erw[fI eg _];unfold gZ.«dict.update.loop»;refine ag (X.W.item i _ _ _ (by erw[rs.length];exact hlt) st fun y h' tk' hy st' k'=>?_);have ry:VR cx g (.tup [kk,vv]) y:=(e2▸fj et)▸rs.rv i _ _ hix hy;apply l8 (ma ry);intro a o vs m f hc hdd rs2;refine rJ (xj rs2) fun k0 v0 e0 rk rv=>?_;have kp' :∀b o,s0.heap.get? b=aa o→h'.get? b=aa o:=fun b o e=>k' b o (fun w=>by replace e:=hI▸(aS.mp w)▸e;exact no e) (kp b o e);have DD':DAt cx g h' D d acc:=DD.at fun o e=>k' D o (fun w=>nDI (aS.mp w)) e;dsimp only;refine ag (aQ (ag (wpAny_tryCatch (AM (kp' _ _ (hf _ _ f)) hc hdd ?_))));erw[e0];refine aQ (sJ (k:=kk) (v:=vv) (fun b o e=>kp' b o (hf b o e)) hu ko rk rv DD' (by have:=rp hd;have:=mW (k:=kk) (v:=vv) (l:=acc);omega) fun h2 tk2 hs D2=>?_);refine aq ⟨sS eg _,?_⟩;refine ih (i+1) (kd kk) (lz kk vv acc) h2 tk2 (z+1) 0 (by omega) hd (X.W.frame _ _ _ st' fun b hb o e=>?_) D2 fun b o e=>?_
    ·refine hs.extBut b o ?_ e;rcases aN.mp hb with rfl|hb
     ·exact yq nDI
     ·exact fun w=>hsrc b hb (w▸hD)
    ·exact hs.extBut b o (fun w=>by replace e:=hD▸w▸e;exact no e) (kp' b o e)
theorem mx (I:Inv cx g S.get S.nx s.heap) (k :∀b o,s.heap.get? b=aa o→h'.get? b=aa o) (D:DAt cx g h' s.heap.objs.size d l):
 ∃g',Aft cx g S s g' (S.new (.dict ae d l)) {s with heap:=h',toks:=tk}∧VR cx g' (.loc S.nx) (.ref s.heap.objs.size):=by
 refine Ra D.ok fun o es m ho hx hd dr=>?_;refine aK (fun ev r=>?_) (MX I k (a_ _) ho hx hd D.ko dr);exact ⟨_,⟨⟨_,_,rfl⟩,ev⟩,r⟩
theorem SN (ns:(a==di)=ae) (e:h.get? a=aa {cls:=.type "dict",data:=.dict #[]}):DAt cx g h a 9 []:=
 ⟨⟨_,#[],0,e,⟨rfl,rfl,rfl⟩,rfl,.nil⟩,⟨fun p h=>(by first|exact no h|exact ff h|cases h),.nil⟩,ns⟩
theorem lg (O:COk cx) (I:Inv cx g S.get S.nx h):(h.objs.size==di)=ae:=by
 refine O.notSys ?_;cases z:cx.h₀.get? h.objs.size with
 |none=>rfl
 |some o=>have:=I.base _ _ z;rw [a_] at this;exact no this
theorem Jr (O:COk cx) (hl:c8 S v=aa l) (hp:iD l 9 []=aa p) (h:nh p.1 p.2 S=aa (u,S')):JF cx n (.bi 7) [v] S u S':=fun A g s f xs R I rf rxs=>by
 apply b7 (eY rxs);intro y ry;rw [iZ rf];apply jP (mQ h);intro hz q1302;subst q1302;show aA cx.mo A (call (.type "dict") [y]) _ F0 s;refine kC hl fun j ro z hj=>?_;subst z;have hi:dX (.loc j) S=aa (l,aa j):=um hj rfl;refine U4 (hZ I hj ry) fun la vs m mid q1400 ra ho hv rs0=>?_;subst q1400;refine callType_codes (Q₁:=fun obj s₁=>obj=.ref s.heap.objs.size∧s₁ = {s with heap:=s.heap.push {cls:=.type "dict",data:=.dict #[]}}) F.kt_called_dict (F.kt_typeCall_dict_1 _) F.entry_dict_init (kt_code_dict_new _ ⟨rfl,rfl⟩) ?_;rintro obj s₁ ⟨rfl,rfl⟩;have hnew:(s.heap.push {cls:=.type "dict",data:=.dict #[]}).get? s.heap.objs.size=aa {cls:=.type "dict",data:=.dict #[]}:=gG rfl;have ns:=lg O I;have kp:=bC (h:=s.heap) {cls:=.type "dict",data:=.dict #[]};have D0:DAt cx g (s.heap.push {cls:=.type "dict",data:=.dict #[]}) s.heap.objs.size 9 []:=SN ns hnew;have hT:ol {s with heap:=s.heap.push {cls:=.type "dict",data:=.dict #[]}} (.ref s.heap.objs.size) "dict":=⟨_,hnew,rfl⟩
 refine ⟨hT,F.args_dict_init_2 _ _,?_⟩;unfold gZ.«dict.__init__»;refine ag ?_;unfold rI;refine ag (d5 hT ?_);show aA _ _ (cR (s.heap.objs.size,[cY la])) _ _ _;refine aq ?_;show aA _ _ (gc "dict.__init__" s.heap.objs.size (.ref la) [] .none) _ _ _;unfold gc;refine ag (KL (T:="list") ⟨_,kp _ _ ho,rfl⟩ ?_);rw [if_pos (by decide)];refine ag (nD R.handled (kp _ _ ho) fun h1 tk1 k1=>?_);rw [if_pos (show (xc (aj:Option Value))=ac from rfl)];refine ag (eG ?_);have kp1 :∀b o,s.heap.get? b=aa o→h1.get? b=aa o:=fun b o z=>k1 b o (kp b o z);have e1:Aft cx g S s g S {s with heap:=h1,toks:=tk1}:=⟨⟨_,_,rfl⟩,.grow I kp1⟩
 have D1:DAt cx g h1 s.heap.objs.size 9 []:=D0.at fun o e=>k1 _ o e;obtain ⟨ys,src,rs,hs,oI,Wt,nf,X,st,hpi⟩:=sH (A:=A.in1.in1) O R.handled e1.evo.inv hi ry;refine ag (hpi _ _ ?_);have hIn:s.heap.get? h1.objs.size=aj:=by
  cases z:s.heap.get? h1.objs.size with
  |none=>rfl
  |some o=>have:=kp1 _ _ z;rw [a_] at this;cases this
 have kp2 :∀b o,h1.get? b=aa o→(h1.push oI).get? b=aa o:=bC oI;have hDI:s.heap.objs.size≠h1.objs.size:=fun w=>by
  have:=k1 _ _ hnew;rw [w,a_] at this;cases this
 refine aq ⟨sS eg _,?_⟩;refine F4 (A:=A.in1) (g:=g) (s0:=s) (D:=s.heap.objs.size) (I:=h1.objs.size) (src:=src) (ys:=ys) (Wt:=Wt) (items:=l) (d':=p.1) (fin:=p.2) (by have:=R.units';show A.units+1+1<9900;omega) X rs I.fz (a_ _) hIn (fun b hb=>?_) hDI hz
  (fun h' tk k D=>⟨rfl,mx I k D⟩) l.length 0 9 [] (h1.push oI) tk1 0 0 rfl hp st (D1.at fun o e=>kp2 _ o e) fun b o e=>kp2 b o (kp1 b o e)
 refine aK (fun h2 h3=>?_) (hs b hb);rcases h3 with h3|⟨j',e,ra'⟩
 ·cases z:g.fz b with
  |none=>exact absurd z h3
  |some o=>rw [I.fz _ _ z];exact fun z=>nomatch z
 ·first|exact no e|exact ff e|cases e
  rw [ra] at ra';cases ra';rw [ho];exact fun z=>nomatch z
end
section
variable {cx:Cx} {g:Gh} {n:Nat} {S S':St} {v u:AV}
theorem Js (O:COk cx) (hp:ew S v=aa p) (k0:HM p.1=ac) (h:nh p.1 p.2 S=aa (u,S')):JF cx n (.bi 7) [v] S u S':=fun A g s f xs R I rf rxs=>by
 apply b7 (eY rxs);intro y ry;erw[iZ rf];apply jP (mQ h);intro hz q102;subst q102;show aA cx.mo A (call (.type "dict") [y]) _ F0 s;obtain ⟨d,l⟩:=p;apply b7 (iY O I hp ry);intro a D;refine U6 (iC D (mV k0 D.ko)) fun kvs hd hl _ _ rc=>?_;refine kt_call_dict D.ns hd (by erw[hl,bE];have:l.length≤1000:=hz;omega) fun h' hd' hs=>?_;have ns:=lg O I;have kp :∀b o,s.heap.get? b=aa o→h'.get? b=aa o:=fun b o e=>hs.extBut b o (bv (dA e)) (bC _ b o e);refine Y4 hd' fun o es ep ho hx hdat hk hpr hn=>?_;have dr:DRs cx g l es.toList:=by
  refine rc (fun l kvs=>∀es:List DictEntry,Pairs cx.sK es kvs→(∀e∈es,∃k,cx.sK.is k e.key=ac∧e.hash=cx.sK.hash k)→DRs cx g l es) ?_ ?_ es.toList hpr (fun e he=>hk e (by simpa using he))
  ·intro es hp _;cases hp;exact .nil
  ·intro i w l y kvs hi ry ih es hp hk;cases hp with
   |cons h1 h2 h3=>
    rename_i e es;refine cg (hk e (.head _)) fun k k1 k2=>?_;have h1' :∃t,e.key=.str (sT i) t:=by
     have:cG (sT i) e.key=ac:=h1;cases q:e.key<;>replace this:=q▸this<;>first|(simp [cG] at this;apply dW this;exact ⟨_,rfl⟩)|(simp [cG] at this)
    refine ak h1' fun t e1=>?_;have e2:k=sT i:=by
     have:cG k e.key=ac:=k1;replace this:=e1▸this;simp [cG] at this;exact this.symm
    refine .cons (by erw[e1];exact .str i t hi) ?_ (h2▸ry) (ih es h3 fun e' he'=>hk e' (.tail _ he'));erw[k2,e2];rfl
 exact mx (tk:=s.toks) I kp ⟨⟨o,es,ep,ho,hx,hdat,dr⟩,D.ko,ns⟩
end
section
variable {cx:Cx} {n:Nat} {vn:List Nat} {env:Env} {fr:Fr} {S S1 S2 S3:St} {v ov:AV} {vs:List AV}
theorem jD {o:Expr} {nm:Nat} {T id:String} {args:List Expr} {d9 pos:Pos} (O:COk cx) (pb:bJ o=ac) (ns:cO args=ac) (few:args.length<30) (cE:(d9.endLine==pos.line)=ac)
 (ho:JE cx n vn env o fr S ov S1) (hl:JL cx n vn env args fr S1 vs S2) (pa:PlainAttrs T) (slot:Slot T (sT nm) id) (hty:typeOf (.builtin id)=cR (.type "method_descriptor"))
 (hT :∀g (s:av) x,Inv cx g S1.get S1.nx s.heap→VR cx g ov x→s.TypeIs x T∧∀b,x=.ref b→∃o,s.heap.get? b=aa o∧o.dict=aj) (hc:JU cx n id ov vs S2 v S3):
 JE cx n vn env (.Call (.Attribute o (sT nm) d9) args [] pos) fr S v S3:=by
 refine xM O pb ns few cE ho hl fun A g s x pl R I r=>?_;refine aK (fun h1 h2=>?_) (hT g s x I r);exact ⟨.builtin id,[x],.inr (fun a z=>nomatch z),fun Q q=>Vp h1 pa slot hty h2 (q s.toks),fun g' s' xs a' r'=>hc A g' s' _ _ R a'.evo.inv (r.mono a'.evo.le) r'⟩
theorem xq (O:COk cx) (hj:S1.get j=aa (.dict ro d l)):∀g (s:av) x,Inv cx g S1.get S1.nx s.heap→VR cx g (.loc j) x→s.TypeIs x "dict"∧∀b,x=.ref b→∃o,s.heap.get? b=aa o∧o.dict=aj:=fun g s x I r=>by
 apply wi (iM O I hj r);intro a ra D;exact ⟨D.typeIs,D.noDict⟩
theorem V3 (O:COk cx):∀g (s:av) x,Inv cx g S1.get S1.nx s.heap→VR cx g (.fd d l) x→s.TypeIs x "dict"∧∀b,x=.ref b→∃o,s.heap.get? b=aa o∧o.dict=aj:=fun g s x I r=>by
 apply b7 (iY O I (show ew S1 (.fd d l)=aa (d,l) from rfl) r);intro a D;exact ⟨D.typeIs,D.noDict⟩
theorem xp (hj:S1.get j=aa (.list ro p l q)):∀g (s:av) x,Inv cx g S1.get S1.nx s.heap→VR cx g (.loc j) x→s.TypeIs x "list"∧∀b,x=.ref b→∃o,s.heap.get? b=aa o∧o.dict=aj:=fun g s x I r=>by
 apply l8 (hZ I hj r);intro a vs m mid ra ho hv rs;exact ⟨⟨_,ho,rfl⟩,fun b e=>by cases e;exact ⟨_,ho,rfl⟩⟩
theorem sT0:sT 0 = "get":=by decide +kernel
theorem sT1:sT 1 = "pop":=by decide +kernel
theorem sT2:sT 2 = "items":=by decide +kernel
theorem sT3:sT 3 = "values":=by decide +kernel
theorem sT4:sT 4 = "update":=by decide +kernel
theorem sT5:sT 5 = "append":=by decide +kernel
theorem sT6:sT 6 = "extend":=by decide +kernel
theorem MY (O:COk cx) (hj:S.get j=aa (.dict ae d l)) (h:W9 args S=aa (v,S3)):JU cx n "dict.update" (.loc j) args S v S3:=fun A g s x xs R I r rs=>by
 refine wP h fun u eu h=>ba h fun m hm h=>?_;apply b7 (eY (show VRs cx g [u] xs from eu▸rs));intro y ry;cases m with
 |cons=>exact no h
 |nil=>
  apply xg h;refine kC hm fun i ro z hi=>?_;subst z;refine U4 (hZ I hi ry) fun la vs m mid q500 ra ho hv rs0=>?_;subst q500;have hio:dX (.loc i) S=aa ([],aa i):=um hi rfl;refine lG (iM O I hj r) fun a q600 rad D=>?_;apply dW q600;have hT:=D.typeIs;refine wpAny_call (codeAny_call_builtin r5.plain F.entry_dict_update (r5.check _ _ _ _ _ _ _ _ hT (F.args_dict_update_2 _ _) ?_));unfold gZ.«dict.update»;refine ag ?_;unfold rI;refine ag (d5 hT ?_);show aA _ _ (cR (a,[cY la])) _ _ _;refine aq ?_;show aA _ _ (gc "dict.update" a (.ref la) [] .none) _ _ _;unfold gc;refine ag (KL (T:="list") ⟨_,ho,rfl⟩ ?_);rw [if_pos (by decide)];refine ag (nD R.handled ho fun h1 tk1 k1=>?_);erw[(if_pos (show (xc (aj:Option Value))=ac from rfl))];refine ag (eG ?_);have e1:Aft cx g S s g S {s with heap:=h1,toks:=tk1}:=⟨⟨_,_,rfl⟩,.grow I k1⟩
  obtain ⟨ys,src,rs1,hs,oI,Wt,nf,X,st,hpi⟩:=sH (A:=A.in1) O R.handled e1.evo.inv hio ry;refine ag (hpi _ _ ?_);refine aq ⟨sS eg _,?_⟩;refine j9 jE ?_;erw[fI eg _];unfold gZ.«dict.update.loop»;have hl:ys.length=0:=by erw[rs1.length];rfl
  refine ag (X.W.done _ _ _ (by erw[hl];exact st) fun h' tk' k'=>?_);refine ag (aq (aq ?_));refine ⟨g,⟨⟨_,_,rfl⟩,.grow I fun b o z=>k' b o (fun w=>?_) (bC oI b o (k1 b o z))⟩,.none⟩;have:=k1 b o z;replace this:=(a_ ..)▸(aS.mp w ..)▸this;exact no this
theorem HY (O:COk cx) (pb:bJ o=ac) (ns:cO args=ac) (few:args.length<30) (cE:(d9.endLine==pos.line)=ac)
 (ho:JE cx n vn env o fr S (.loc j) S1) (hj:S1.get j=aa (.dict ro d l)) (hl:JL cx n vn env args fr S1 vs S2) (h:wC j nm vs S2=aa (v,S3)):JE cx n vn env (.Call (.Attribute o (sT nm) d9) args [] pos) fr S v S3:=by
 refine ba h fun u hj' h=>MP h fun ro' d' l' eu h=>?_;have hj':=hj'.trans (congrArg aa eu);apply qN h;exact ⟨fun h=>jD O pb ns few cE ho hl fZ (sT0▸nP) Vx (xq O hj) (CM O h fun g hh x I r=>lG (iM O I hj' r) fun a e b D=>⟨a,e,D⟩),
  fun h=>bQ h fun k h=>jD O pb ns few cE ho hl fZ (sT1▸Vz) F.type_dict_pop (xq O hj) (MZ O (nB k▸hj') h),fun h=>no h,fun h=>no h,
  fun h=>bQ h fun k h=>jD O pb ns few cE ho hl fZ (sT4▸r5) F.type_dict_update (xq O hj) (MY O (nB k▸hj') h),trivial⟩
theorem HV (O:COk cx) (pb:bJ o=ac) (ns:cO args=ac) (few:args.length<30) (cE:(d9.endLine==pos.line)=ac)
 (ho:JE cx n vn env o fr S (.loc j) S1) (hj:S1.get j=aa (.list ro p l q)) (hl:JL cx n vn env args fr S1 vs S2) (h:ub j nm vs S2=aa (v,S3)):JE cx n vn env (.Call (.Attribute o (sT nm) d9) args [] pos) fr S v S3:=by
 refine ba h fun u hj' h=>MN h fun ro' p' l' q' eu h=>bQ h fun k h=>?_;have hj':S2.get j=aa (.list ae p' l' q'):=hj'.trans (congrArg aa (eu.trans (congrArg (AO.list · p' l' q') (nB k))));apply qN h;exact ⟨fun h=>no h,fun h=>jD O pb ns few cE ho hl vd (sT1▸Vy) F.type_list_pop (xp hj) (Hi O hj' h),fun h=>no h,fun h=>no h,fun h=>no h,
  fun h=>jD O pb ns few cE ho hl vd (sT5▸F.slot_list_append) F.type_list_append (xp hj) (ue O hj' h),
  fun h=>jD O pb ns few cE ho hl vd (sT6▸rZ) F.type_list_extend (xp hj) (AX O hj' h),trivial⟩
theorem HX (O:COk cx) (pb:bJ o=ac) (ns:cO args=ac) (few:args.length<30) (cE:(d9.endLine==pos.line)=ac)
 (ho:JE cx n vn env o fr S (.fd d l) S1) (hl:JL cx n vn env args fr S1 vs S2) (h:CO d l nm vs S2=aa (v,S3)):JE cx n vn env (.Call (.Attribute o (sT nm) d9) args [] pos) fr S v S3:=by
 apply qN h;exact ⟨fun h=>jD O pb ns few cE ho hl fZ (sT0▸nP) Vx (V3 O) (CM (p:=(d,l)) O h fun g hh x I r=>iY O I (show ew S2 (.fd d l)=aa (d,l) from rfl) r),trivial⟩
end
theorem Evo.newF {σ:Sto} {nx:Nat} {h h':Heap} {ob:AO} (I:Inv cx g σ nx h) (k :∀b o,h.get? b=aa o→h'.get? b=aa o) (L:g.le g')
 (hρ :∀j,j≠nx→g'.ρ j=g.ρ j) (hδ :∀j,j≠nx→g'.δ j=g.δ j) (hfz :∀a o,g'.fz a=aa o→g.fz a=aa o∨(h.get? a=aj∧h'.get? a=aa o∧¬ cH g' nx ob a))
 (R:OR cx g' h' nx ob) (f :∀a,cH g' nx ob a→h.get? a=aj) (tw :∀a b,g'.ρ nx=aa a→g'.δ nx=aa b→a≠b):Evo cx g σ nx h g' (vg σ nx (aa ob)) (nx+1) h':=by
 have old :∀j ob',j≠nx→vg σ nx (aa ob) j=aa ob'→σ j=aa ob':=fun j ob' z e=>by replace e:=(bA _ _ z)▸e;exact e
 have oc :∀a,Oc g' (vg σ nx (aa ob)) a→Oc g σ a∨h.get? a=aj:=by
  rintro a ⟨j,ob',e,o⟩
  by_cases z:j=nx
  ·subst z;replace e:=(bo ..)▸e;cases e;exact .inr (f a o)
  ·have e':=old j ob' z e;exact .inl ⟨j,ob',e',(I.obj j ob' e').own L o⟩
 refine ⟨L,⟨I.g0.trans L,fun b o e=>k _ _ (I.base b o e),fun a o e=>?_,fun j ob' e=>?_,fun j ob1 i ob2 a e1 e2 o1 o2=>?_,fun j ob' a b e o1 o2=>?_,fun a z=>?_,fun j z=>?_⟩,
  fun a o e c=>k a o e,oc,fun a w=>?_,fun a z=>?_,fun j e=>?_,j6 k,ie _⟩
 ·rcases hfz a o e with q|⟨_,q,_⟩
  ·exact k _ _ (I.fz a o q)
  ·exact q
 ·by_cases z:j=nx
  ·subst z;replace e:=(bo ..)▸e;cases e;exact R
  ·exact ((I.obj j ob' (old j ob' z e)).mono L).keep fun b c o=>k b o
 ·by_cases z1:j=nx
  ·by_cases z2:i=nx
   ·exact au z1▸au z2▸rfl
   ·exfalso
    subst z1;replace e1:=(bo ..)▸e1;cases e1;have e2':=old i ob2 z2 e2;refine ak ((I.obj i ob2 e2').there ((I.obj i ob2 e2').own L o2)) fun oo w=>?_;replace w:=(f a o1)▸w;cases w
  ·have e1':=old j ob1 z1 e1
   by_cases z2:i=nx
   ·exfalso
    subst z2;replace e2:=(bo ..)▸e2;cases e2;refine ak ((I.obj j ob1 e1').there ((I.obj j ob1 e1').own L o1)) fun oo w=>?_;replace w:=(f a o2)▸w;cases w
   ·have e2':=old i ob2 z2 e2;exact I.sep j ob1 i ob2 a e1' e2' ((I.obj j ob1 e1').own L o1) ((I.obj i ob2 e2').own L o2)
 ·by_cases z:j=nx
  ·subst z;exact tw a b o1 o2
  ·replace o1:=(hρ j z)▸o1;replace o2:=(hδ j z)▸o2;exact I.two j ob' a b (old j ob' z e) o1 o2
 ·have hn:g'.fz a=aj→cx.h₀.get? a=aj→cx.h₀.get? a=aj∧g'.fz a=aj:=fun p q=>⟨q,p⟩
  have base:h.get? a=aj→cx.h₀.get? a=aj:=fun y=>by
   cases q:cx.h₀.get? a with
   |none=>rfl
   |some o=>replace y:=(I.base a o q)▸y;cases y
  rcases oc a z with y|y
  ·refine hn ?_ (I.off a y).1;cases q:g'.fz a with
   |none=>rfl
   |some o=>
    rcases hfz a o q with q'|⟨q',_⟩
    ·replace q':=((I.off a y).2)▸q';cases q'
    ·refine ak (I.there y) fun oo w=>?_;replace w:=q'▸w;cases w
  ·refine hn ?_ (base y);cases q:g'.fz a with
   |none=>rfl
   |some o=>
    rcases hfz a o q with q'|⟨_,_,q'⟩
    ·replace y:=(I.fz a o q')▸y;cases y
    ·exfalso
     refine pT z fun j ob' e o1=>?_
     by_cases z:j=nx
     ·subst z;replace e:=(bo ..)▸e;cases e;exact q' o1
     ·refine ak ((I.obj j ob' (old j ob' z e)).there ((I.obj j ob' (old j ob' z e)).own L o1)) fun oo w=>?_;replace w:=y▸w;cases w
 ·have z':nx≤j:=by omega
  have n:j≠nx:=by omega
  erw[hρ j n,hδ j n];exact I.top j z'
 ·refine rJ w fun j ob' e wr o=>?_
  by_cases z:j=nx
  ·subst z;replace e:=(bo ..)▸e;cases e;exact .inr (f a o)
  ·have e':=old j ob' z e;exact .inl ⟨j,ob',e',wr,(I.obj j ob' e').own L o⟩
 ·cases q:g'.fz a with
  |none=>exact absurd q z
  |some o=>
   rcases hfz a o q with q'|⟨q',_⟩
   ·exact .inl (by erw[q'];exact fun z=>nomatch z)
   ·exact .inr (.inl q')
 ·by_cases z:j=nx
  ·exact .inr (by omega)
  ·replace e:=(bA _ _ z)▸e;exact .inl e
section
variable {cx:Cx} {g:Gh} {n:Nat} {S S':St} {v u:AV}
noncomputable def Gh.fzl (g:Gh) (as:List Addr) (h:Heap):Gh:={g with fz:=fun a=>if a∈as then h.get? a else g.fz a}
theorem H7 {kvs:List (Str×Value)} {l:List (AV×AV)} {as:List Addr} {h:Heap} {g':Gh} (L:g.le g') (hf :∀a∈as,g'.fz a=h.get? a)
 (rc :∀(P:List (AV×AV)→List (Str×Value)→Prop),P [] []→(∀i v l y kvs,i<nS→VR cx g v y→P l kvs→P ((.str i,v)::l) ((sT i,y)::kvs))→P l kvs)
 (hp :∀(j:Nat) (a:Addr),as[j]? = aa a→∃key k x,kvs[j]? = aa (k,x)∧cx.sK.is k key=ac∧h.get? a=aa {cls:=.type "tuple",data:=.seq #[key,x]}) (hl:as.length=kvs.length):
 VRs cx g' (l.map fun q=>AV.tup [q.1,q.2]) (as.map cY):=by
 refine rc (fun l kvs=>∀as:List Addr,(∀a∈as,g'.fz a=h.get? a)→(∀(j:Nat) (a:Addr),as[j]? = aa a→∃key k x,kvs[j]? = aa (k,x)∧cx.sK.is k key=ac∧h.get? a=aa {cls:=.type "tuple",data:=.seq #[key,x]})→as.length=kvs.length→
  VRs cx g' (l.map fun q=>AV.tup [q.1,q.2]) (as.map cY)) ?_ ?_ as hf hp hl
 ·intro as _ _ hl;have:as=[]:=eK hl;subst this;exact .nil
 ·intro i w l y kvs hi ry ih as hf hp hl;cases as with
  |nil=>simp at hl
  |cons a as=>
   refine Ym (hp 0 a rfl) fun key k x e1 e2 e3=>?_;have e1:(sT i,y)=(k,x):=ao e1
   first|exact no e1|exact ff e1|cases e1
   have hk :∃t,key=.str (sT i) t:=by
    have:cG (sT i) key=ac:=e2;cases q:key<;>rw [q] at this<;>first|(simp [cG] at this;apply dW this;exact ⟨_,rfl⟩)|(simp [cG] at this)
   refine ak hk fun t q700=>?_;subst q700;refine .cons (.tup ((hf a (.head _)).trans e3) (.cons (.str i t hi) (.cons (ry.mono L) .nil))) (ih as (fun b hb=>hf b (.tail _ hb)) (fun j b e=>?_) (by simpa using hl));refine Ym (hp (j+1) b (by simpa using e)) fun key k x p1 p2 p3=>?_;exact ⟨key,k,x,by simpa using p1,p2,p3⟩
theorem zd {A:b9} {s:av} {x:Value} {p:Nat×List (AV×AV)} (O:COk cx) (R:Room A n) (hp:ew S v=aa p) (k0:HM p.1=ac) (h:gU (iz (fun q=>.tup [q.1,q.2]) p.2) S=aa (u,S')) (I:Inv cx g S.get S.nx s.heap) (r:VR cx g v x):
 aA cx.mo A (call (.builtin "dict.items") [x]) (fun w s1=>(∃ov,s1 = {s with heap:=s.heap.push ov})∧aA cx.mo A (call (.type "list") [w]) (fun y s'=>∃g',Aft cx g S s g' S' s'∧VR cx g' u y) F0 s1) F0 s:=by
 apply jP (jr h);intro hz q902;apply dW q902;obtain ⟨d,l⟩:=p;apply b7 (iY O I hp r);intro a D;refine U6 (iC D (mV k0 D.ko)) fun kvs hd hl f f rc=>?_;refine call_meetsIn Q7 hd.typeIs F.entry_dict_items (F.args_dict_items_1 _) (meets_dict_items cx.sK a D.ns) ⟨⟨kvs,hd⟩,⟨_,rfl⟩,?_⟩;have kp:=bC (h:=s.heap) {cls:=.type "dict_items",data:=.fields #[.ref a]};refine Y4 hd fun o es ep ho hx hdat hk hpr hn=>?_;have hat:(s.heap.push {cls:=.type "dict_items",data:=.fields #[.ref a]}).DictAt cx.sK a kvs ep:=⟨o,es,kp _ _ ho,hx,hdat,hk,hpr,hn⟩
 have hll:kvs.length≤1000:=by erw[hl];replace hz:=(a9 ..)▸(iL ..)▸hz;exact hz
 refine kdx_call (s:={s with heap:=s.heap.push {cls:=.type "dict_items",data:=.fields #[.ref a]}}) R.handled ⟨_,bZ _ rfl,rfl,rfl⟩ hat (by erw[bE];omega) fun h' tk acc c as k hS hal hG hacc=>?_;have kk :∀b o,s.heap.get? b=aa o→h'.get? b=aa o:=fun b o z=>k b o (kp b o z);have hD:(s.heap.push {cls:=.type "dict_items",data:=.fields #[.ref a]}).objs.size=s.heap.objs.size+1:=nO ..;have fresh :∀b,s.heap.objs.size≤b→s.heap.get? b=aj:=fun b h=>fY h;have asfr :∀b∈as,s.heap.get? b=aj∧b≠(s.heap.push {cls:=.type "dict_items",data:=.fields #[.ref a]}).objs.size:=fun b hb=>by
  have h1:(s.heap.push {cls:=.type "dict_items",data:=.fields #[.ref a]}).objs.size<b:=hG.above b hb;have h2:s.heap.objs.size≤b:=by replace h1:=hD▸h1;exact iG (Nat.lt_of_succ_lt h1)
  exact ⟨fresh b h2,iF h1⟩
 have fzn :∀b,s.heap.get? b=aj→g.fz b=aj:=fun b z=>by
  cases q:g.fz b with
  |none=>rfl
  |some o=>replace z:=(I.fz b o q)▸z;exact yx z
 have L1:g.le (g.fzl as h'):=⟨fun f f e=>e,fun f f e=>e,fun b o e=>by
  show (if b∈as then h'.get? b else g.fz b)=aa o;erw[if_neg fun z=>by rw [fzn b (asfr b z).1] at e;exact no e];exact e⟩
 have L2:g.le ((g.fzl as h').put S.nx (s.heap.push {cls:=.type "dict_items",data:=.fields #[.ref a]}).objs.size):=L1.trans (Gh.put_le _ (jy I).1);have rs:=H7 (g':=(g.fzl as h').put S.nx (s.heap.push {cls:=.type "dict_items",data:=.fields #[.ref a]}).objs.size) (h:=h') L2 (fun b hb=>if_pos hb) rc hG.pairs hal;refine ⟨(g.fzl as h').put S.nx (s.heap.push {cls:=.type "dict_items",data:=.fields #[.ref a]}).objs.size,⟨⟨_,_,rfl⟩,?_⟩,.loc iw⟩;erw[(St.get_new ..),(St.nx_new ..)];refine Evo.newF I kk L2 (fun j z=>if_neg z) (fun j z=>rfl) (fun b o e=>?_) (.list (vs:=acc) (p:=aj) (q:=aj) (mid:=as.map cY) iw hS (by simp [fo,hacc]) (by erw[(iL ..)];exact rs)) (fun b ow=>?_) (fun b c e1 e2=>?_)
 ·have e:(if b∈as then h'.get? b else g.fz b)=aa o:=e
  by_cases z:b∈as
  ·replace e:=(if_pos z)▸e;refine .inr ⟨(asfr b z).1,e,fun ow=>?_⟩;rcases ow with ow|⟨⟨_,_,q⟩,_⟩
   ·replace ow:=iw▸ow;cases ow;exact (asfr _ z).2 rfl
   ·exact nomatch q
  ·replace e:=(if_neg z)▸e;exact .inl e
 ·rcases ow with ow|⟨⟨_,_,q⟩,_⟩
  ·replace ow:=iw▸ow;apply gF ow;exact fresh _ (by erw[hD];omega)
  ·exact nomatch q
 ·have:=(jy I).2;have e2:g.δ S.nx=aa c:=e2;replace e2:=this▸e2;exact no e2
end
theorem Evo.adopt {σ σ':Sto} {nx nx':Nat} {h h':Heap} {D:Addr} {ob:AO} (I:Inv cx g σ nx h) (x:Evo cx g σ nx h g' σ' nx' h') (hD:h.get? D=aj) (no:¬ Oc g' σ' D) (nf:g'.fz D=aj)
 (ni :∀c fs,ob≠.inst c fs) (R:OR cx (g'.put nx' D) h' nx' ob):Evo cx g σ nx h (g'.put nx' D) (vg σ' nx' (aa ob)) (nx'+1) h':=by
 have I':=x.inv;have tp:=I'.top nx' (aY _);have L:g'.le (g'.put nx' D):=Gh.put_le _ tp.1;have own :∀a,cH (g'.put nx' D) nx' ob a→a=D:=by
  rintro a (z|⟨⟨_,_,z⟩,_⟩)
  ·have z:(g'.put nx' D).ρ nx'=aa a:=z;replace z:=iw▸z;cases z;rfl
  ·exact absurd z (ni _ _)
 have old :∀j ob',j≠nx'→vg σ' nx' (aa ob) j=aa ob'→σ' j=aa ob':=fun j ob' z e=>by replace e:=(bA _ _ z)▸e;exact e
 have oc :∀a,Oc (g'.put nx' D) (vg σ' nx' (aa ob)) a→Oc g' σ' a∨a=D:=by
  rintro a ⟨j,ob',e,o⟩
  by_cases z:j=nx'
  ·subst z;replace e:=(bo ..)▸e;cases e;exact .inr (own a o)
  ·exact .inl ⟨j,ob',old j ob' z e,(I'.obj j ob' (old j ob' z e)).own L o⟩
 have h0:cx.h₀.get? D=aj:=by
  cases q:cx.h₀.get? D with
  |none=>rfl
  |some o=>replace hD:=(I.base _ _ q)▸hD;cases hD
 refine ⟨x.le.trans L,⟨I'.g0.trans L,I'.base,I'.fz,fun j ob' e=>?_,fun j ob1 i ob2 a e1 e2 o1 o2=>?_,fun j ob' a b e o1 o2=>?_,fun a z=>?_,fun j z=>?_⟩,
  x.keep,fun a w=>?_,fun a w=>?_,x.fzf,fun j e=>?_,x.ext,Lf x.nx⟩
 ·by_cases z:j=nx'
  ·subst z;replace e:=(bo ..)▸e;cases e;exact R
  ·exact (I'.obj j ob' (old j ob' z e)).mono L
 ·by_cases z1:j=nx'
  ·by_cases z2:i=nx'
   ·exact au z1▸au z2▸rfl
   ·exfalso
    subst z1;replace e1:=(bo ..)▸e1;cases e1;have:=own a o1;subst this;exact no ⟨i,ob2,old i ob2 z2 e2,(I'.obj i ob2 (old i ob2 z2 e2)).own L o2⟩
  ·by_cases z2:i=nx'
   ·exfalso
    subst z2;replace e2:=(bo ..)▸e2;cases e2;have:=own a o2;subst this;exact no ⟨j,ob1,old j ob1 z1 e1,(I'.obj j ob1 (old j ob1 z1 e1)).own L o1⟩
   ·exact I'.sep j ob1 i ob2 a (old j ob1 z1 e1) (old i ob2 z2 e2) ((I'.obj j ob1 (old j ob1 z1 e1)).own L o1) ((I'.obj i ob2 (old i ob2 z2 e2)).own L o2)
 ·by_cases z:j=nx'
  ·subst z;have o2:g'.δ j=aa b:=o2;replace o2:=tp.2▸o2;cases o2
  ·have o1:(if j=nx' then aa D else g'.ρ j)=aa a:=o1;replace o1:=(if_neg z)▸o1;exact I'.two j ob' a b (old j ob' z e) o1 o2
 ·rcases oc a z with y|y
  ·exact I'.off a y
  ·subst y;exact ⟨h0,nf⟩
 ·have n:j≠nx':=by omega
  have t:=I'.top j (by omega);exact ⟨(if_neg n).trans t.1,t.2⟩
 ·rcases oc a w with y|y
  ·exact x.fresh a y
  ·exact .inr (y▸hD)
 ·refine rJ w fun j ob' e wr o=>?_
  by_cases z:j=nx'
  ·subst z;replace e:=(bo ..)▸e;cases e;exact .inr (own a o▸hD)
  ·exact x.wr a ⟨j,ob',old j ob' z e,wr,(I'.obj j ob' (old j ob' z e)).own L o⟩
 ·by_cases z:j=nx'
  ·exact .inr (z▸x.nx)
  ·replace e:=(bA _ _ z)▸e;exact x.ids j e
section
variable {cx:Cx} {g:Gh} {n:Nat} {vn:List Nat} {env:Env} {fr:Fr} {S S' S1 S2 S3:St} {v u:AV}
inductive PRs (cx:Cx) (g:Gh):List (AV×AV)→List (Value×Value)→Prop
 |nil:PRs cx g [] []
 |cons {p l x xs}:VR cx g p.1 x.1→VR cx g p.2 x.2→PRs cx g l xs→PRs cx g (p::l) (x::xs)
theorem PRs.mono (L:g.le g') (h:PRs cx g l xs):PRs cx g' l xs:=by
 induction h with
 |nil=>exact .nil
 |cons a b _ ih=>exact .cons (a.mono L) (b.mono L) ih
def JP (cx:Cx) (n:Nat) (vn:List Nat) (env:Env) (ks vs:List Expr) (fr:Fr) (S:St) (l:List (AV×AV)) (S':St):Prop:=
 ∀A g s pos,Room A n→Here cx vn env fr g S s→aA cx.mo A (evalPairs (pairTrees (ks.map aa) vs env pos)) (fun xs s'=>∃g',Aft cx g S s g' S' s'∧PRs cx g' l xs) F0 s
theorem Tu:JP cx n vn env [] [] fr S [] S:=fun A g s pos R H=>pairTrees_nil_walk ⟨g,.refl H.inv,.nil⟩
theorem No (hk:JE cx n vn env k fr S kv S1) (he:JE cx n vn env e fr S1 vv S2) (h:JP cx n vn env ks vs fr S2 l S3):JP cx n vn env (k::ks) (e::vs) fr S ((kv,vv)::l) S3:=fun A g s pos R H=>
 pairTrees_cons_walk (hk.use R H fun g1 s1 x a1 H1 r1=>he.use R H1 fun g2 s2 y a2 H2 r2=>aE (h A g2 s2 pos R H2) (fun xs s3 ⟨g3,a3,r3⟩ =>⟨g3,(a1.trans H.inv a2).trans H.inv a3,.cons ((r1.mono a2.evo.le).mono a3.evo.le) (r2.mono a3.evo.le) r3⟩) fun a a z=>z)
theorem DV {A:b9} {s:av} {Q:PUnit→av→Prop} {fin:List (AV×AV)} (hf :∀a o,g.fz a=aa o→a≠D) (hu:A.units<cLine) (hz:fin.length≤1000)
 (q :∀h' tk,c9 D s.heap h'→DAt cx g h' D d' fin→Q ⟨⟩ {s with heap:=h',toks:=tk}):
 ∀{l:List (AV×AV)} {xs:List (Value×Value)},PRs cx g l xs→∀{d:Nat} {acc:List (AV×AV)} {H:Heap} {tk:Nat},iD (l.map fun p=>.tup [p.1,p.2]) d acc=aa (d',fin)→c9 D s.heap H→(∀a o,g.fz a=aa o→H.get? a=aa o)→DAt cx g H D d acc→
  aA cx.mo A (Fs xs PUnit.unit fun (x:Value×Value) (_:PUnit)=>(do Af D x.1 x.2;cR (bU PUnit.unit):Sem (ForInStep PUnit))) Q F0 {s with heap:=H,toks:=tk}:=by
 intro l xs P
 induction P with
 |nil=>
  intro d acc H tk hd hs hz' DD;refine Fk hd fun qc340 qc341=>?_;subst qc340;subst qc341;rw [Q6];exact aq (q H tk hs DD)
 |@cons p l x xs rk rv r ih=>
  intro d acc H tk hd hs hz' DD;rw [jx];exact bQ (b:=pe d p.1) hd fun ko hd=>ag (ag (sJ (k:=p.1) (v:=p.2) hz' hu ko rk rv DD (aB mW (aB (rp hd) hz)) fun h2 tk2 hs2 D2=>aq (ih hd (hs.trans hs2) (fun a o e=>hs2.extBut a o (hf a o e) (hz' a o e)) D2)))
theorem Nq (O:COk cx) (hn:nh 9 [] S=aa (v,S2)):JE cx n vn env (.Dict [] [] pos) fr S v S2:=fun A g s R H=>by
 apply jP (mQ hn);intro hz q102;apply dW q102;erw[(eval_Dict_empty ..)];refine ag (dP (qV ?_));exact mx H.inv (bC _) (SN (lg O H.inv) (gG rfl))
theorem TG {k e:Expr} {ks vs:List Expr} {pos:Pos} {l:List (AV×AV)} {p:Nat×List (AV×AV)} (O:COk cx) (hl:ks.length=vs.length) (h15:ks.length<15) (h:JP cx n vn env (k::ks) (e::vs) fr S l S1) (hp:iD (l.map fun p=>.tup [p.1,p.2]) 9 []=aa p) (hn:nh p.1 p.2 S1=aa (v,S2)):
 JE cx n vn env (.Dict ((k::ks).map aa) (e::vs) pos) fr S v S2:=fun A g s R H=>by
 apply jP (mQ hn);intro hz q202;apply dW q202;have hall:((k::ks).map aa).all (·.isSome)=ac:=by simp
 have hlen:((k::ks).map aa).length=(e::vs).length:=by simp [hl]
 have hpl:=pairTrees_length ((k::ks).map aa) (e::vs) env pos hall hlen;have hpl':(pairTrees ((k::ks).map aa) (e::vs) env pos).length=ks.length+1:=by rw [hpl];simp
 rw [arm_eval_Dict,zip_pairTrees _ _ env pos hall hlen,dictDisplay_pairs _ (fun z=>by rw [z] at hpl';simp at hpl') (by omega)];refine ag (dP (ag ?_));unfold subDict;refine ag (wpAny_alloc ?_);refine ag (aQ ?_);rw [if_pos (by omega)];have kp:=bC (h:=s.heap) {cls:=.type "dict",data:=.dict #[]};have hDn:=a_ s.heap;have a1:Aft cx g S s g S {s with heap:=s.heap.push {cls:=.type "dict",data:=.dict #[]}}:=.of' (.grow H.inv kp);have H1:=H.after a1;have hD1:(s.heap.push {cls:=.type "dict",data:=.dict #[]}).get? s.heap.objs.size=aa {cls:=.type "dict",data:=.dict #[]}:=gG rfl;have no1:¬ Oc g S.get s.heap.objs.size:=fun w=>by refine ak (H.inv.there w) fun o z=>?_;rw [hDn] at z;exact no z
 have nf1:g.fz s.heap.objs.size=aj:=by
  cases z:g.fz s.heap.objs.size with
  |none=>rfl
  |some o=>rw [H.inv.fz _ _ z] at hDn;exact yx hDn
 have ns:=lg O H.inv;refine ag (aE (h A g _ pos R H1) (fun xs s2 ⟨g2,a2,r2⟩ =>?_) fun c c z=>z);have hD2:=a2.evo.keep _ _ hD1 fun w=>no1 w.oc;have no2:¬ Oc g2 S1.get s.heap.objs.size:=fun w=>by
  rcases a2.evo.fresh _ w with z|z
  ·exact no1 z
  ·rw [show ({s with heap:=s.heap.push {cls:=.type "dict",data:=.dict #[]}}:av).heap.get? s.heap.objs.size=_ from hD1] at z;exact yx z
 have nf2:g2.fz s.heap.objs.size=aj:=by
  apply bj;intro q;rcases a2.evo.fzf _ q with z|z|z
  ·exact z nf1
  ·rw [show ({s with heap:=s.heap.push {cls:=.type "dict",data:=.dict #[]}}:av).heap.get? s.heap.objs.size=_ from hD1] at z;exact yx z
  ·exact no1 z.oc
 have I2:=a2.evo.inv;refine aQ (ag (DV (g:=g2) (D:=s.heap.objs.size) (s:=s2) (d':=p.1) (fin:=p.2) (fun a o z y=>by rw [y,nf2] at z;exact no z) R.units hz (fun h' tk hs DD=>?_) (H:=s2.heap) (tk:=s2.toks) r2 hp (.refl _ _) I2.fz (SN ns hD2)));refine aq (aq (aq ?_));have P2:Priv cx g2 S1.get s2.heap (· = s.heap.objs.size):=⟨fun a z=>by
  apply dW z;refine ⟨no2,nf2,?_,by rw [hD2];exact fun z=>nomatch z⟩;cases q:cx.h₀.get? s.heap.objs.size with
  |none=>rfl
  |some o=>rw [H.inv.base _ _ q] at hDn;exact yx hDn⟩
 have a3:Aft cx g S s g2 S1 {s2 with heap:=h',toks:=tk}:=((a1.trans H.inv a2).x (Pl:=fun c=>False)).sideN P2 (gM hs) (fun b z=>z▸hDn) |>.drop (fun b z=>z.elim)
 refine Ra DD.ok fun o es m ho hx hd dr=>?_;have L:=Gh.put_le g2 (j:=S1.nx) (a:=s.heap.objs.size) (jy I2).1;refine ⟨g2.put S1.nx s.heap.objs.size,⟨a3.same,?_⟩,.loc iw⟩;rw [St.get_new,St.nx_new];exact Evo.adopt H.inv a3.evo hDn no2 nf2 (fun c c z=>nomatch z) (.dict iw ho hx hd DD.ko (dr.mono L))
theorem Qn {A:b9} {s:av} {e:Expr} {nm:Nat} {T id:String} {d9 pos:Pos} {Q:Value→av→Prop} (O:COk cx) (pb:bJ e=ac) (cE:(d9.endLine==pos.line)=ac) (he:JE cx n vn env e fr S v S1) (pa:PlainAttrs T) (slot:Slot T (sT nm) id) (hty:typeOf (.builtin id)=cR (.type "method_descriptor"))
 (hT :∀g (s:av) x,Inv cx g S1.get S1.nx s.heap→VR cx g v x→s.TypeIs x T∧∀b,x=.ref b→∃o,s.heap.get? b=aa o∧o.dict=aj) (R:Room A n) (H:Here cx vn env fr g S s)
 (k :∀g' s' x,Aft cx g S s g' S1 s'→Here cx vn env fr g' S1 s'→VR cx g' v x→aA cx.mo A (call (.builtin id) [x]) Q F0 s'):aA cx.mo A (dm (.Call (.Attribute e (sT nm) d9) [] [] pos) env) Q F0 s:=by
 erw[(arm_eval_Call ..),(og pb ..)];refine ag (he.use R H fun g1 s1 x a1 H1 r1=>ag (dP ?_));have ns:cO ([]:List Expr)=ac:=rfl;have hform:methodCallForm (([]:List Expr).length+([]:List ox).length) (jG pos (eD [] env)) (PC pos (yD [] env))=ac:=qT ns (by decide);have hpos:sU ac e env d9 pos=cR pos:=by unfold sU;simp [cE]
 unfold methodCall;erw[hform];refine aK (fun h1 h2=>?_) (hT g1 s1 x H1.inv r1);refine ag (aQ (Vp h1 pa slot hty h2 ?_));refine ag (qC hpos ?_);refine zP (S:=S1) (vs:=[]) (first:=[x]) O (.inr (fun a z=>nomatch z)) ns Bh R H1 fun g2 s2 xs a2 H2 r2=>?_
 first|exact no r2|exact ff r2|cases r2
 exact k g2 s2 x (a1.trans H.inv a2) H2 (r1.mono a2.evo.le)
theorem wn (O:COk cx) (hp:ew S1 v=aa p):∀g (s:av) x,Inv cx g S1.get S1.nx s.heap→VR cx g v x→s.TypeIs x "dict"∧∀b,x=.ref b→∃o,s.heap.get? b=aa o∧o.dict=aj:=fun g s x I r=>by
 apply b7 (iY O I hp r);intro a D;exact ⟨D.typeIs,D.noDict⟩
theorem Ez {fe e:Expr} {d9 pos pos2:Pos} (O:COk cx) (na:dS fe=ac) (pb:bJ e=ac) (cE:(d9.endLine==pos2.line)=ac) (hf:JE cx n vn env fe fr S (.bi 6) S1) (he:JE cx n vn env e fr S1 v S2) (h:Dl v S2=aa (u,S3)):
 JE cx n vn env (.Call fe [.Call (.Attribute e (sT 2) d9) [] [] pos2] [] pos) fr S u S3:=fun A g s R H=>by
 refine ba h fun p hp h=>bQ h fun k0 h=>?_;erw[gH na];refine ag (hf.use R H fun g1 s1 x a1 H1 r1=>?_);erw[iZ r1];show aA _ _ (Pz pos (.type "list") [] (jG pos (eD [.Call (.Attribute e (sT 2) d9) [] [] pos2] env)) []) _ _ _;refine callWith_of (P:=fun h=>cx.K.In h) (by rw [qU rfl];rfl) (fun h X=>⟨.machine,.inr (.inl rfl),qW (fun a z=>nomatch z)⟩) ?_;rw [iJ rfl];refine evalArgs_plain ?_;show aA _ _ (dm (.Call (.Attribute e (sT 2) d9) [] [] pos2) env >>= fun v=>cR [v] >>= fun here=>fu here (KN (jG pos (eD [] env))) >>= fun r=>cR (here++r)) _ _ _;refine ag (Qn O pb cE he fZ (sT2▸Q7) F.type_dict_items (wn O hp) R H1 fun g2 s2 y a2 H2 r2=>?_);refine aE (zd O R hp k0 h H2.inv r2) (fun w s3 ⟨⟨ov,e3⟩,hw⟩ =>?_) fun b b z=>z;refine ag (aq (ag (aQ (aq (aq ⟨?_,?_⟩)))))
 ·erw[e3];exact (O.kIn H2.inv).keeps (bC ov)
 ·exact aE hw (fun z s4 ⟨g4,a4,r4⟩ =>⟨g4,(a1.trans H.inv a2).trans H.inv a4,r4⟩) fun b b z=>z
theorem jC:uW (.type "dict_values") "__contains__" = cR aj:=by erw[(typeLookup_type ..),(Ld ..)];kernel_rfl
theorem i9:entryFor table "proto.contains_iter" = aa gZ.«proto.contains_iter»:=entryFor_of_tree (by kernel_rfl)
theorem f_:plainId "proto.contains_iter" = ac:=by decide +kernel
theorem Kv {A:b9} {P:Nat→Value→Prop} {Wt:Nat→Heap→Prop} {s0:av} {R:Result→av→Prop} (W:Walks cx.prog cx.w A.in1 I (I::src) [I] N P Wt) (hI:s0.heap.get? I=aj) (f:Nat→Int) (hP :∀k v,P k v→∃u,v=.int (f k) u)
 (q :∀h' tk,(∀b o,s0.heap.get? b=aa o→h'.get? b=aa o)→R (.ok (.ret (.bool ((bz N).any fun k=>decide (f k=i))))) {s0 with heap:=h',toks:=tk}):
 ∀(m k:Nat) (H:Heap) (tk:Nat),m+k=N→Wt k H→(∀j,j<k→f j≠i)→(∀b o,s0.heap.get? b=aa o→H.get? b=aa o)→gm cx.mo A (.builtin "proto.contains_iter" ⟨[.ref I,.int i t],[]⟩) R {s0 with heap:=H,toks:=tk}:=by
 have kp :∀{H h':Heap},(∀b o,s0.heap.get? b=aa o→H.get? b=aa o)→(∀b o,b∉[I]→H.get? b=aa o→h'.get? b=aa o)→∀b o,s0.heap.get? b=aa o→h'.get? b=aa o:=fun k k' b o e=>k' b o (fun w=>by rw [aS.mp w,hI] at e;exact no e) (k b o e);intro m
 induction m with
 |zero=>
  intro k H tk hk st hne kk;have:k=N:=by omega
  subst this;refine j9 i9 ?_;rw [fI f_ _];unfold gZ.«proto.contains_iter»;refine ag (W.done _ _ _ st fun h' tk' k'=>?_);refine ag (eG (aq ?_));have e:((bz k).any fun k=>decide (f k=i))=ae:=by
   rw [List.any_eq_false];intro j hj;have:=hne j (bM.mp hj);simp [this]
  have:=q h' tk' (kp kk k');rw [e] at this;exact this
 |succ m ih=>
  intro k H tk hk st hne kk;refine j9 i9 ?_;rw [fI f_ _];unfold gZ.«proto.contains_iter»;refine ag (W.item k _ _ _ (by omega) st fun v h' tk' hv st' k'=>?_);obtain ⟨u,rfl⟩:=hP k v hv;refine ag (wpAny_eqBool_int ?_)
  by_cases z:f k=i
  ·rw [if_pos (by simpa using z)];refine ag (eG (aq ?_));have e:((bz N).any fun k=>decide (f k=i))=ac:=by
    rw [cZ];exact ⟨k,bM.mpr (by omega),by simpa using z⟩
   have:=q h' tk' (kp kk k');rw [e] at this;exact this
  ·rw [if_neg (by simpa using z)];refine aq ⟨sS f_ _,?_⟩;exact ih (k+1) h' tk' (by omega) st' (fun j hj=>by rcases Nat.lt_succ_iff_lt_or_eq.mp hj with h|h;exact hne j h;exact h▸z) (kp kk k')
theorem NO :∀{r:Bool},Xw i l=aa r→∃f:Nat→Int,(∀k x,l[k]? = aa x→x=AV.int (f k))∧((bz l.length).any fun k=>decide (f k=i))=r:=by
 induction l with
 |nil=>exact fun h=>⟨fun a=>0,fun k x e=>no e,pM h⟩
 |cons x l ih=>
  intro r h;refine ba (x:=jL x) h fun j ej h=>?_;refine ba h fun b hb h=>?_;apply gF h;refine cg (ih hb) fun f h1 h2=>?_;refine ⟨fun k=>Ff k j f,fun k=>Ff k (fun y e=>(pM e).symm.trans (cP ej)) fun k y e=>h1 k y e,?_⟩;rw [lL,List.range_succ_eq_map,kX,List.any_map,← h2];rfl
theorem q8 (O:COk cx) (pb:bJ e=ac) (cE:(d9.endLine==pos2.line)=ac) (ha:JE cx n vn env a fr S x S1) (he:JE cx n vn env e fr S1 v S2) (h:pt om x v S2=aa (u,S3)):
 ∃r,u=.bool r∧∀A g s,Room A n→Here cx vn env fr g S s→aA cx.mo A (dm a env) (fun x s1=>aA cx.mo A (dm (.Call (.Attribute e (sT 3) d9) [] [] pos2) env) (fun y s2=>aA cx.mo A (iO .In x y) (fun z s'=>z=.bool r∧∃g',Aft cx g S s g' S3 s') F0 s2) F0 s1) F0 s:=by
 refine ba h fun p hp h=>?_;obtain ⟨d,l⟩:=p;refine bQ h fun k0 h=>ba h fun i ei h=>bQ h fun hs h=>ba h fun r hr h=>?_;have ha:=cP ei▸ha;apply xg h;refine cg (NO hr) fun f hf hr=>?_;refine ⟨r,rfl,fun A g s R H=>ha.use R H fun g1 s1 y a1 H1 r1=>?_⟩;refine ak (de r1) fun t q1100=>?_;apply dW q1100;refine Qn O pb cE he fZ (sT3▸PO) F.type_dict_values (wn O hp) R H1 fun g2 s2 z a2 H2 r2=>?_;apply b7 (iY O H2.inv hp r2);intro da D;refine U6 (iC D (mV k0 D.ko)) fun kvs hd hl c c rc=>?_;refine call_meetsIn PO hd.typeIs F.entry_dict_values (F.args_dict_values_1 _) (meets_dict_values cx.sK da D.ns) ⟨⟨kvs,hd⟩,?_⟩;have kp:=bC (h:=s2.heap) {cls:=.type "dict_values",data:=.fields #[.ref da]};refine Y4 hd fun o es ep ho hx hdat hk hpr hn=>?_;have hat:(s2.heap.push {cls:=.type "dict_values",data:=.fields #[.ref da]}).DictAt cx.sK da kvs ep:=⟨o,es,kp _ _ ho,hx,hdat,hk,hpr,hn⟩
 have hv:(s2.heap.push {cls:=.type "dict_values",data:=.fields #[.ref da]}).IsValuesView s2.heap.objs.size da:=⟨_,bZ _ rfl,rfl,rfl⟩
 have hT:ol {s2 with heap:=s2.heap.push {cls:=.type "dict_values",data:=.fields #[.ref da]}} (.ref s2.heap.objs.size) "dict_values":=hv.typeIs;have hints :∀k v,(∃key,kvs[k]? = aa (key,v))→∃u,v=lF (f k) u:=by
  refine rc (fun l kvs=>∀f:Nat→Int,(∀k x,(l.map (·.2))[k]? = aa x→x=AV.int (f k))→∀k v,(∃key,kvs[k]? = aa (key,v))→∃u,v=lF (f k) u) ?_ ?_ f (fun k x e=>hf k x (by rw [iL];exact e))
  ·rintro f _ k v ⟨key,e⟩;simp at e
  ·intro i' w l y kvs hi ry ih f hf k v ⟨key,e⟩;cases k with
   |zero=>
    have e:(sT i',y)=(key,v):=ao e;apply Z5 e;have:=hf 0 w rfl;subst this;exact de ry
   |succ k=>exact ih (fun k=>f (k+1)) (fun k x e=>hf (k+1) x (by simpa using e)) k v ⟨key,by simpa using e⟩
 show aA cx.mo A (do return Fe (← nt (.ref s2.heap.objs.size) (lF i t)):Sem Value) _ F0 _;refine ag ?_;unfold nt;refine aQ ?_;refine (?_:aA cx.mo A (do
  let so ← specialOf (cY s2.heap.objs.size) (iE "__contains__")
  if (so==aa gW)=ac then rule "in.none";raiseError "TypeError" s!"'{← typeNameOf (Value.ref s2.heap.objs.size)}' object is not a container"
  match ← callSpecialUnlessNone? (cY s2.heap.objs.size) "__contains__" [lF i t] (do rule "in.none";raiseError "TypeError" s!"'{← typeNameOf (Value.ref s2.heap.objs.size)}' object is not a container") with
  |some r=>yh r
  |none=>
   rule "in.by-iteration"
   match ← runValue (.builtin "proto.contains_iter" ⟨[← (qG (cY s2.heap.objs.size)).tryCatch fun e=>do
    if ← isInstance e (.type "TypeError") then raiseError "TypeError" s!"argument of type '{← typeNameOf (Value.ref s2.heap.objs.size)}' is not iterable" else throw e,lF i t],[]⟩) with
   |.bool b=>cR b
   |_=>Px "internal:contains") _ F0 _)
 refine ag (z6 hT jC ?_);rw [if_neg (by simp)];refine ag (wpAny_callSpecialUnlessNone?_none hT jC ?_);refine ag (eG (ag (wpAny_tryCatch (wpAny_pyIter_values hv hat ?_))));have hlt:da≠(s2.heap.push {cls:=.type "dict_values",data:=.fields #[.ref da]}).objs.size:=bv (dA (kp _ _ ho));have W:=Walks.dictValues (prog:=cx.prog) (w:=cx.w) (A:=A.in1) (knd:=cx.sK) R.handled (s2.heap.push {cls:=.type "dict_values",data:=.fields #[.ref da]}).objs.size da hlt kvs ep;have kp2 :∀b o,s2.heap.get? b=aa o→((s2.heap.push {cls:=.type "dict_values",data:=.fields #[.ref da]}).push {cls:=.type "dict_valueiterator",data:=.fields #[.ref da,.int 0 0,.int kvs.length 0,.int ep 0]}).get? b=aa o:=fun b o e=>bC _ b o (kp b o e);have hIn:s2.heap.get? (s2.heap.push {cls:=.type "dict_values",data:=.fields #[.ref da]}).objs.size=aj:=by
  cases q:s2.heap.get? (s2.heap.push {cls:=.type "dict_values",data:=.fields #[.ref da]}).objs.size with
  |none=>rfl
  |some o=>have:=kp _ _ q;rw [a_] at this;exact no this
 refine ag (wpAny_runValue (Kv (s0:=s2) (R:=fun r s'=>match r with|.ok (.ret v)=>aA cx.mo A (match v with|.bool b=>cR b|_=>Px "internal:contains") _ F0 s'|.ok _=>False|.error e=>F0 e s') W hIn f hints (fun h' tk k=>?_) kvs.length 0 _ s2.toks rfl
  ⟨⟨_,bZ _ rfl,rfl,rfl⟩,o,es,kp2 _ _ ho,hx,hdat,hk,hpr,hn⟩ (fun j hj=>absurd hj (d6 _)) kp2))
 refine aq (aq ⟨?_,g2,(a1.trans H.inv a2).trans H.inv ⟨⟨_,_,rfl⟩,.grow H2.inv k⟩⟩);have e:((bz kvs.length).any fun k=>decide (f k=i))=r:=by rw [← hr,hl,iL,a9]
 rw [e]
theorem EA (O:COk cx) (pb:bJ e=ac) (cE:(d9.endLine==pos2.line)=ac) (ha:JE cx n vn env a fr S x S1) (he:JE cx n vn env e fr S1 v S2) (h:pt om x v S2=aa (u,S3)):
 JE cx n vn env (.Compare a [.In] [.Call (.Attribute e (sT 3) d9) [] [] pos2] pos) fr S u S3:=fun A g s R H=>by
 apply b7 (q8 O pb cE ha he h);intro r k;refine wpAny_Compare1 (aE (k A g s R H) (fun x s1 h1=>aE h1 (fun y s2 h2=>aE h2 (fun z s3 ⟨e,g3,a3⟩ =>⟨g3,a3,e▸.bool r⟩) fun b b z=>z) fun b b z=>z) fun b b z=>z) rfl
theorem Ey (O:COk cx) (pb:bJ e=ac) (cE:(d9.endLine==pos2.line)=ac) (ha:JE cx n vn env a fr S x S1) (he:JE cx n vn env e fr S1 v S2) (h:pt om x v S2=aa (.bool r,S3)):
 JT cx n vn env (.Compare a [.In] [.Call (.Attribute e (sT 3) d9) [] [] pos2] pos) fr S r S3:=fun A g s R H=>by
 refine cg (q8 O pb cE ha he h) fun r' e k=>?_
 first|exact no e|exact ff e|cases e
 exact La (aE (k A g s R H) (fun x s1 h1=>aE h1 (fun y s2 h2=>aE h2 (fun z s3 ⟨e,g3,a3⟩ =>e▸i4 ⟨rfl,g3,a3⟩) fun b b z=>z) fun b b z=>z) fun b b z=>z) rfl
end
section
variable {cx:Cx} {g:Gh} {n:Nat} {S S':St} {v:AV}
theorem uS (h :∀p∈fs,p.1≠k):yc k v fs=fs++[(k,v)]:=by
 induction fs with
 |nil=>rfl
 |cons p fs ih=>
  cases q:ay p.1 k with
  |false=>exact (rS q).trans<|congrArg (p::·) (ih fun q hq=>h q (.tail _ hq))
  |true=>exact absurd (am q) (h p (.head _))
theorem Bt (h:FRs cx g fs es) (r:FRs cx g gs ds):FRs cx g (fs++gs) (es++ds):=
 FRs.ind (M:=fun fs es=>FRs cx g (fs++gs) (es++ds)) r (fun e e e e e a b c d e ih=>.cons a b c d ih) h
theorem NX (hn:nm<nS) (ry:VR cx g v y) (h:FRs cx g fs es):match es.findIdx? (·.key.isStr (sT nm)) with
 |some i=>FRs cx g (yc nm v fs) (es.modify i fun e=>{e with val:=y})∧(yc nm v fs).map (·.1)=fs.map (·.1)
 |none=>∀p∈fs,p.1≠nm:=by
 apply FRs.ind _ _ h
 ·exact fun p h=>nomatch h
 ·intro p fs e es t hk hh hp hv r ih;rw [eM,Qs hk hp hn];cases z:ay p.1 nm with
  |true=>rw [show yc nm v (p::fs)=(p.1,v)::fs from uN z];exact ⟨.cons hk hh hp ry r,rfl⟩
  |false=>
   rw [show yc nm v (p::fs)=p::yc nm v fs from rS z];cases w:es.findIdx? (·.key.isStr (sT nm)) with
   |none=>
    rw [w] at ih;exact fun q hq=>(aN.mp hq).elim (fun e=>e▸eW z) (ih q)
   |some i=>
    rw [w] at ih;exact ⟨(List.modify_succ_cons ..).symm▸.cons hk hh hp hv ih.1,congrArg (p.1::·) ih.2⟩
theorem Av {c nm:Nat} (h:yf cx c nm):takerIn cx.K (ca c) (sT nm)=aa aj:=by unfold takerIn;rw [h];rfl
theorem T9 (O:COk cx) (hn:nm<nS) (hC :∀c,c<j4→ClsOk cx c∧yf cx c nm) (h:Ay o nm v S=aa S'):Yi cx n o nm v S S':=fun A g s ov vv R I ro rv=>by
 refine ba h fun j ej h=>ba h fun u hj h=>CD h fun c fs eu h=>bQ h fun hc6 h=>bQ h fun hs h=>?_;have hj:=hj.trans (congrArg aa eu);have ro:=g_ ej▸ro;apply gF h;refine aK (fun C NA=>?_) (hC c (aG.mp hc6));apply b7 (jT ro);intro a ra;refine Y3 (Bm (I.obj j _ hj)) fun a' dx es m ra' rd hd ha rf nd II=>?_;rw [ra] at ra';cases ra';have X:=O.kIn I;have hne:a≠dx:=I.two j _ a dx hj ra rd;refine set_plain X II C.sa (osa_open (s:={s with toks:=s.toks+1}) X II C.over (Av NA) fun b=>?_);refine cg (any_some C.hasD) fun cd hc hd'=>?_;refine ag (aq (ag (ag (wpAny_loadPart ha (ag (Looks.here (s:={s with toks:=s.toks+1}) (looks_clsIn X hc) ?_))))));rw [hd'];refine aq (a:=aa dx) (ag (aq (ag ?_)));unfold nsSet;refine ag (ag (wpAny_askSetting (aq (ag (wpAny_mkText (ag (wpAny_loadPart hd ?_)))))));dsimp only;have nr:es.any (·.refKey)=ae:=by rw [← Array.any_toList];exact wQ rf
 have hnr:(!es.any (·.key.isStr (sT nm))&&es.any (·.refKey))=ae:=by rw [nr,Q9]
 rw [aRefKeyMayBeTheName_at,hnr];refine wpAny_updatePart hd ?_;have hsz:=NY rf;have hz:fs.length≤1000:=i7 hs;obtain ⟨es',m',hput,hf',hlen,hnd⟩:∃(es':Array DictEntry) (m':Nat),ot (sT nm) (gk cx.w (sT nm)) (.str (sT nm) (s.toks+1)) vv {cls:=.type "dict",data:=.dict es m} = {cls:=.type "dict",data:=.dict es' m'}∧FRs cx g (yc nm v fs) es'.toList∧es'.size≤fs.length+1∧((yc nm v fs).map (·.1)).Nodup:=by
  rw [Obj.putName_eq];unfold Obj.putNameByArray;dsimp only;have key:=NX hn rv rf;rw [← mq] at key;cases w:es.findIdx? (·.key.isStr (sT nm)) with
  |some i=>
   rw [w] at key;refine ⟨_,_,rfl,?_,?_,?_⟩
   ·rw [Array.toList_modify];exact key.1
   ·rw [Array.size_modify,← aC,hsz];exact ie _
   ·rw [key.2];exact nd
  |none=>
   rw [w] at key;refine ⟨_,_,rfl,?_,?_,?_⟩
   ·rw [uS key,qL];exact Bt rf (.cons rfl rfl hn rv .nil)
   ·rw [Array.size_push,← aC,hsz];exact aY _
   ·rw [uS key,PL];refine List.nodup_append.mpr ⟨nd,by simp,fun a ha b hb=>?_⟩;have hb:b=nm:=by simpa using hb
    apply sY (bp.mp ha);intro p hp;rw [hb];exact key p hp
 have hh:(s.heap.update dx (ot (sT nm) (gk cx.w (sT nm)) (.str (sT nm) (s.toks+1)) vv)).get? dx=aa {cls:=.type "dict",data:=.dict es' m'}:=by
  have:=dN (ot (sT nm) (gk cx.w (sT nm)) (.str (sT nm) (s.toks+1)) vv) hd (by rw [hput];rfl);rw [this,hput]
 have hsb:=bT s.heap dx (ot (sT nm) (gk cx.w (sT nm)) (.str (sT nm) (s.toks+1)) vv);refine ag (wpAny_lookBehind (show ({s with heap:=s.heap.update dx (ot (sT nm) (gk cx.w (sT nm)) (.str (sT nm) (s.toks+1)) vv),toks:=s.toks+1+1}:av).heap.get? dx=_ from hh) (pastItsLine_dict (by rw [bE];omega)) ?_);refine aq ?_;refine ⟨g,⟨⟨_,_,rfl⟩,?_⟩⟩;rw [St.get_put,St.nx_put];refine Evo.set I hj rfl (fun b=>⟨fun w=>w.imp id fun ⟨_,w⟩ =>⟨⟨_,_,rfl⟩,w⟩,fun w=>w.imp id fun ⟨_,w⟩ =>⟨⟨_,_,rfl⟩,w⟩⟩) (fun b o no e=>?_) (uC hsb (fun z=>by have:=hh.symm.trans z;cases this)) (.inst ra rd (hsb.extBut a _ hne ha) hh hf' hnd);refine hsb.extBut b o (fun w=>no (.inr ⟨⟨_,_,rfl⟩,by rw [w];exact rd⟩)) e
theorem JZ (O:COk cx) (hi:ClsOk cx c) (hI:mH cx.K (.ref (ca c)) "__init__" = aa (aa (.ref (fa f)))) (hf:typeIn cx.K (.ref (fa f))=aa (.type "function"))
 (h:JFc cx n (.fn f) (.loc S.nx::args) (S.new (.inst c [])) .none S1):JFc cx (n+1) (.cls c) args S (.loc S.nx) S1:=fun A g s x xs R I rx rxs=>by
 apply rx.vw;have X:=O.kIn I;have cu:(VB "type.__call__" ⟨.ref (ca c)::xs,[]⟩).cUnits=1:=rfl;have Ru:Room (A.under (.builtin "type.__call__" ⟨.ref (ca c)::xs,[]⟩)) n:=⟨by have:=R.depth';show A.depth+1+2*n≤900;omega,by have:=R.units';show A.units+(VB "type.__call__" ⟨.ref (ca c)::xs,[]⟩).cUnits+20*n≤9000;rw [cu];omega,R.handled⟩
 obtain ⟨hp,gg,dd,tt,os⟩:=s;refine make_core (makes_of X hi.make) (looks_findIn X hI) (fun self=>bind_fn X self hf) (.inl rfl) ?_;have k :∀b o,hp.get? b=aa o→((hp.push yk).push (oh (ca c) hp.objs.size)).get? b=aa o:=fun b o e=>bC _ b o (bC _ b o e);have sz:(hp.push yk).objs.size=hp.objs.size+1:=nO ..;have hd:((hp.push yk).push (oh (ca c) hp.objs.size)).get? hp.objs.size=aa {cls:=.type "dict",data:=.dict #[]}:=bC _ _ _ (gG rfl);have hx:((hp.push yk).push (oh (ca c) hp.objs.size)).get? (hp.objs.size+1)=aa (oh (ca c) hp.objs.size):=by rw [← sz];exact gG rfl
 have tn:=jy I;have e1:Aft cx g S ⟨hp,gg,dd,tt,os⟩ ((g.put S.nx (hp.objs.size+1)).putD S.nx hp.objs.size) (S.new (.inst c [])) ⟨(hp.push yk).push (oh (ca c) hp.objs.size),gg,dd,tt,os⟩:=by
  refine ⟨⟨_,_,rfl⟩,?_⟩;rw [St.get_new,St.nx_new];refine Evo.new I k ((Gh.put_le g tn.1).trans (Gh.putD_le _ tn.2)) (fun j z=>if_neg z) (fun j z=>if_neg z) rfl (.inst (fs:=[]) (if_pos rfl) (if_pos rfl) hx hd .nil .nil) (fun a w=>?_) (fun a b w w'=>?_)
  ·rcases w with w|⟨_,w⟩
   ·have w:(if S.nx=S.nx then aa (hp.objs.size+1) else g.ρ S.nx)=aa a:=w;rw [if_pos rfl] at w;apply gF w;exact fY (ie _)
   ·have w:(if S.nx=S.nx then aa hp.objs.size else g.δ S.nx)=aa a:=w;rw [if_pos rfl] at w;apply gF w;exact a_ _
  ·have w:(if S.nx=S.nx then aa (hp.objs.size+1) else g.ρ S.nx)=aa a:=w;have w':(if S.nx=S.nx then aa hp.objs.size else g.δ S.nx)=aa b:=w';rw [if_pos rfl] at w w';apply gF w;apply gF w';exact PG _
 refine dp (h _ _ _ (.ref (fa f)) (.ref (hp.objs.size+1)::xs) Ru e1.evo.inv (.fn f) (.cons (.loc (if_pos rfl)) (rxs.mono e1.evo.le))) fun r s' hr=>?_;cases r with
 |error e=>exact hr.elim
 |ok fl=>
  cases fl with
  |ret w=>
   refine cg hr fun g' a' r'=>?_;apply r'.vw;exact ⟨rfl,g',e1.trans I a',.loc (a'.evo.le.ρ _ _ (if_pos rfl))⟩
  |_=>exact hr.elim
end
end
section
section
abbrev KV:=AV→St→Bool
abbrev KF:=Fr→St→Bool
abbrev KR:=AV→Fr→St→Bool
abbrev Cl:=AV→List AV→St→KV→Bool
structure Rc where
 om:Om
 ms:Nat→List (Nat×Nat)
 cl:Cl
abbrev CE:=Rc→Fr→St→KV→Bool
abbrev CT:=Rc→Fr→St→(Bool→St→Bool)→Bool
abbrev CX:=Rc→Fr→St→KF→KF→KR→Bool
structure CF where
 np:Nat
 nv:Nat
 frz:Bool
 body:CX
def bt (b:Bool) (x y:Bool):Bool:=be y x b
def o1 {α:Type} (x:Option α) (f:α→Bool):Bool:=aM ae f x
def o2 {α β:Type} (x:Option (α×β)) (f:α→β→Bool):Bool:=aM ae (fun p=>Prod.rec f p) x
noncomputable def aO (v:AV):CE:=fun rc fr S k=>k v S
def aD (i:Nat):CE:=fun rc fr S k=>o1 (bc fr i) fun o=>o1 o fun v=>k v S
def gz (e:CE) (nm:Nat):CE:=fun rc fr S k=>e rc fr S fun v S=>o2 (xX v nm S) k
def dU:List CE→Rc→Fr→St→(List AV→St→Bool)→Bool:=
 aP (fun rc fr S k=>k [] S) (fun e a ih rc fr S k=>e rc fr S fun v S=>ih rc fr S fun vs S=>k (v::vs) S)
def YU (rc:Rc) (f:AV) (args:List AV) (S:St) (k:KV):Bool:=match f with
 |.bi j=>o2 (E9 j args S) k
 |f=>rc.cl f args S k
def bw (f:CE) (args:List CE):CE:=fun rc fr S k=>f rc fr S fun fv S=>dU args rc fr S fun vs S=>YU rc fv vs S k
def t_ (nm:Nat) (fs:List (Nat×AV)):Bool:=match im nm fs with|some _=>ae|.none=>ac
def Ql (rc:Rc) (nm:Nat) (args:List CE) (j:Nat) (fr:Fr) (S:St) (k:KV) (o:AO):Bool:=match o with
 |.inst c fs=>bt (aF c j4) (bt (t_ nm fs) (o1 (jS nm (rc.ms c)) fun f=>dU args rc fr S fun vs S=>rc.cl (.fn f) (.loc j::vs) S k) ae) ae
 |.dict _ _ _=>dU args rc fr S fun vs S=>o2 (wC j nm vs S) k
 |.list _ _ _ _=>dU args rc fr S fun vs S=>o2 (ub j nm vs S) k
def wz (rc:Rc) (nm:Nat) (args:List CE) (fr:Fr) (k:KV) (ov:AV) (S:St):Bool:=match ov with
 |.cls c=>bt (aF c j4) (o1 (jS nm (rc.ms c)) fun f=>dU args rc fr S fun vs S=>rc.cl (.fn f) vs S k) ae
 |.loc j=>o1 (S.get j) (Ql rc nm args j fr S k)
 |.fd d l=>dU args rc fr S fun vs S=>o2 (CO d l nm vs S) k
 |_=>ae
def cT (o:CE) (nm:Nat) (args:List CE):CE:=fun rc fr S k=>o rc fr S (wz rc nm args fr k)
def gI (op:Nat) (a b:CE):CE:=fun rc fr S k=>a rc fr S fun x S=>b rc fr S fun y S=>o2 (Kz op x y S) k
def d7 (op:Nat) (a b:CE):CT:=fun rc fr S k=>a rc fr S fun x S=>b rc fr S fun y S=>o1 (qx rc.om op x y S) fun r=>k r S
def zy (op:Nat) (a b:CE):CE:=fun rc fr S k=>d7 op a b rc fr S fun r S=>k (.bool r) S
def zz:List CE→CE:=aP (fun a a a a=>ae) (fun e es ih=>aP (motive:=fun a=>CE→CE) (fun a=>e) (fun a a a ih rc fr S k=>e rc fr S fun v S=>o1 (EH v) fun r=>bt r (ih rc fr S k) (k v S)) es ih)
def XN:List CE→CE:=aP (fun a a a a=>ae) (fun e es ih=>aP (motive:=fun a=>CE→CE) (fun a=>e) (fun a a a ih rc fr S k=>e rc fr S fun v S=>o1 (EH v) fun r=>bt r (k v S) (ih rc fr S k)) es ih)
def XO (e:CE):CE:=fun rc fr S k=>e rc fr S fun v S=>o1 (EH v) fun r=>k (.bool (!r)) S
noncomputable def vL (e:CT):CT:=fun rc fr S k=>e rc fr S fun r S=>k (!r) S
def eO:List CT→CT:=aP (fun a a S k=>k ac S) (fun e a ih rc fr S k=>e rc fr S fun r S=>bt r (ih rc fr S k) (k ae S))
def Go:List CT→CT:=aP (fun a a S k=>k ae S) (fun e a ih rc fr S k=>e rc fr S fun r S=>bt r (k ac S) (ih rc fr S k))
def Wa (c a b:CT):CT:=fun rc fr S k=>c rc fr S fun r S=>bt r (a rc fr S k) (b rc fr S k)
def lP (e:CE):CT:=fun rc fr S k=>e rc fr S fun v S=>o1 (EH v) fun r=>k r S
def By (c:CT) (a b:CE):CE:=fun rc fr S k=>c rc fr S fun r S=>bt r (a rc fr S k) (b rc fr S k)
def vW (es:List CE):CE:=fun rc fr S k=>dU es rc fr S fun vs S=>o2 (qi vs S) k
def n9 (es:List CE):CE:=fun rc fr S k=>dU es rc fr S fun vs S=>o2 (gU vs S) k
def Bw:List (CE×CE)→Rc→Fr→St→(List AV→St→Bool)→Bool:=
 aP (fun rc fr S k=>k [] S) (fun p a ih rc fr S k=>p.1 rc fr S fun kv S=>p.2 rc fr S fun vv S=>ih rc fr S fun l S=>k (.tup [kv,vv]::l) S)
def ER (ps:List (CE×CE)):CE:=fun rc fr S k=>Bw ps rc fr S fun l S=>o1 (iD l 9 []) fun p=>o2 (nh p.1 p.2 S) k
def cX (e i:CE):CE:=fun rc fr S k=>e rc fr S fun o S=>i rc fr S fun i S=>o1 (pF o i S) fun v=>k v S
def Jn (e:CE) (lo:Nat) (hi:Option Nat):CE:=fun rc fr S k=>e rc fr S fun o S=>o2 (qw o lo hi S) k
def Do (e:CE):CE:=fun rc fr S k=>e rc fr S fun v S=>o2 (Dl v S) k
def xZ (a e:CE):CE:=fun rc fr S k=>a rc fr S fun x S=>e rc fr S fun v S=>o2 (pt rc.om x v S) k
def Cn (a e:CE):CT:=fun rc fr S k=>xZ a e rc fr S fun v S=>(match v with|.bool r=>k r S|_=>ae)
noncomputable def XR:CE:=fun a a a a=>ae
def Zc (vs:List AV) (S:St):Option (List AV×Option Nat):=match vs with|[v]=>dX v S|_=>.none
def Ax (vs:List AV) (S:St):Option (List AV×Option Nat):=match vs with
 |[.loc j]=>(match S.get j with|some (.list _ .none l .none)=>aa (rn 0 l,aa j)|_=>.none)
 |_=>.none
def Wm (vs:List AV) (S:St):Option (List AV×Option Nat):=ob (oX vs) fun l=>aa (l,.none)
def xw (src:Nat) (vs:List AV) (S:St):Option (List AV×Option Nat):=match src with
 |0=>Zc vs S
 |1=>Ax vs S
 |_=>Wm vs S
def ik (rc:Rc) (bm:List Nat) (one:Bool) (ifs:CT) (f:Fr→St→(St→Bool)→Bool) (k:St→Bool):List AV→Fr→St→Bool:=
 aP (fun a S=>k S) (fun x a ih fr S=>o1 (eI bm one x fr) fun fr=>ifs rc fr S fun r S=>bt r (f fr S fun S=>ih fr S) (ih fr S))
def o_ (j:Nat) (v:AV) (S:St) (k:St→Bool):Bool:=match S.get j with
 |some (.list ae .none l .none)=>o1 (rK j .none (dL l [v]) .none S) k
 |_=>ae
def za (e:CE) (rc:Rc) (j:Nat) (fr:Fr) (S:St) (k:St→Bool):Bool:=e rc fr S fun v S=>o_ j v S k
def Du (j:Nat) (kv vv:AV) (S:St) (k:St→Bool):Bool:=match S.get j with
 |some (.dict ae d l)=>bt (pe d kv) (bt (sm l) (o1 (putD j (kd kv) (lz kv vv l) S) k) ae) ae
 |_=>ae
def dcK (e1 e2:CE) (rc:Rc) (j:Nat) (fr:Fr) (S:St) (k:St→Bool):Bool:=e1 rc fr S fun kv S=>e2 rc fr S fun vv S=>Du j kv vv S k
def JV (bm:List Nat) (one:Bool) (src:Nat) (it:List CE) (ifs:CT) (own:Nat) (aJ:List Nat) (acc:AO) (f:Rc→Nat→Fr→St→(St→Bool)→Bool):CE:=fun rc fr S k=>
 dU it rc fr S fun vs S=>o2 (xw src vs S) fun l h=>
  ik rc bm one ifs (f rc S.nx) (fun S'=>k (.loc S.nx) (bG h (dy h S) S')) l (dL (d4 own) (eB aJ fr)) ((cL h S).new acc)
def xY (e:CE) (bm:List Nat) (one:Bool) (src:Nat) (it:List CE) (ifs:List CT) (own:Nat) (aJ:List Nat):CE:=JV bm one src it (eO ifs) own aJ (.list ae .none [] .none) (za e)
def XQ (e1 e2:CE) (bm:List Nat) (one:Bool) (src:Nat) (it:List CE) (ifs:List CT) (own:Nat) (aJ:List Nat):CE:=JV bm one src it (eO ifs) own aJ (.dict ae 9 []) (dcK e1 e2)
noncomputable def gv (e:CE):CX:=fun rc fr S kn kb kr=>e rc fr S fun a S=>kn fr S
def iX (i:Nat) (e:CE):CX:=fun rc fr S kn kb kr=>e rc fr S fun v S=>kn (dT fr i (aa v)) S
def qR (l:List Nat) (e:CE):CX:=fun rc fr S kn kb kr=>e rc fr S fun v S=>o1 (eI l ae v fr) fun fr=>kn fr S
def P7 (o:CE) (nm:Nat) (e:CE):CX:=fun rc fr S kn kb kr=>e rc fr S fun v S=>o rc fr S fun ov S=>o1 (Ay ov nm v S) fun S=>kn fr S
def wq (o i e:CE):CX:=fun rc fr S kn kb kr=>e rc fr S fun v S=>o rc fr S fun ov S=>i rc fr S fun iv S=>o1 (w7 ov iv v S) fun S=>kn fr S
noncomputable def jd (e:CE):CX:=fun rc fr S kn kb kr=>e rc fr S fun v S=>kr v fr S
def bK:List CX→CX:=aP (fun rc fr S kn kb kr=>kn fr S) (fun s rest ih=>aP (motive:=fun a=>CX→CX) (fun a=>s) (fun a a a ih rc fr S kn kb kr=>s rc fr S (fun fr S=>ih rc fr S kn kb kr) kb kr) rest ih)
def xA (c:CT) (a b:CX):CX:=fun rc fr S kn kb kr=>c rc fr S fun r S=>bt r (a rc fr S kn kb kr) (b rc fr S kn kb kr)
def pr (rc:Rc) (bm:List Nat) (one:Bool) (body:CX) (kn:KF) (kr:KR):List AV→Fr→St→Bool:=
 aP (fun fr S=>kn fr S) (fun x a ih fr S=>o1 (eI bm one x fr) fun fr=>body rc fr S (fun fr S=>ih fr S) (fun fr S=>kn fr S) kr)
def tZ (bm:List Nat) (one:Bool) (src:Nat) (it:List CE) (body:CX):CX:=fun rc fr S kn kb kr=>
 dU it rc fr S fun vs S=>o2 (xw src vs S) fun l h=>
  pr rc bm one body (fun fr S'=>kn fr (bG h (dy h S) S')) (fun v fr S'=>kr v fr (bG h (dy h S) S')) l fr (cL h S)
def Y6 (rc:Rc) (c:CT) (body:CX) (kn:KF) (kr:KR) (n:Nat):Fr→St→Bool:=
 fF (fun a a=>ae) (fun a ih fr S=>c rc fr S fun r S=>bt r (body rc fr S (fun fr S=>ih fr S) (fun fr S=>kn fr S) kr) (kn fr S)) n
def P6 (c:CT) (body:CX):CX:=fun rc fr S kn kb kr=>Y6 rc c body kn kr 100 fr S
noncomputable def GJ:CX:=fun rc fr S kn kb kr=>kb fr S
def AB (i:Nat):CX:=fun rc fr S kn kb kr=>o1 (bc fr i) fun o=>o1 o fun v=>kn (dT fr i (aa (jh v S).1)) (jh v S).2
noncomputable def Ww:CX:=fun a a a a a a=>ae
def w5 (z:Bool) (v:AV) (S:St) (k:KV):Bool:=bt z (k (jh v S).1 (jh v S).2) (k v S)
def zQ (F:CF) (rc:Rc) (args:List AV) (S:St) (k:KV):Bool:=
 bt (ay (eZ args) F.np) (F.body rc (dL (iz aa args) (d4 (rW F.nv F.np))) S (fun fr S=>k .none S) (fun a a=>ae) (fun v fr S=>w5 F.frz v S k)) ae
abbrev Ov:=Nat→Option (List AV→St→KV→Bool)
def ZQ (om:Om) (ms:Nat→List (Nat×Nat)) (ov:Ov) (tab:TR CF) (ih:Cl) (f:AV) (args:List AV) (S:St) (k:KV):Bool:=match f with
 |.fn j=>(match ov j with
  |some g=>g args S k
  |.none=>o1 (tab.get j) fun F=>zQ F ⟨om,ms,ih⟩ args S k)
 |.cls c=>bt (aF c j4) (o1 (jS 16 (ms c)) fun f=>ih (.fn f) (.loc S.nx::args) (S.new (.inst c [])) fun v S'=>(match v with|.none=>k (.loc S.nx) S'|_=>ae)) ae
 |_=>ae
def nJ (om:Om) (ms:Nat→List (Nat×Nat)) (ov:Ov) (tab:TR CF) (n:Nat):Cl:=fF (fun a a a a=>ae) (fun a ih=>ZQ om ms ov tab ih) n
noncomputable def noOv:Ov:=fun a=>.none
noncomputable def M5 {α β:Type}:List α→List β→List (α×β)
 |[],_=>[]
 |a::l,m=>match m with|[]=>[]|b::m=>(a,b)::M5 l m
mutual
def cB:IE→CE×CT
 |.cst v=>(aO v,lP (aO v))
 |.var i=>(aD i,lP (aD i))
 |.glb _ v=>(aO v,lP (aO v))
 |.attr e nm=>(gz (cB e).1 nm,lP (gz (cB e).1 nm))
 |.call f args=>(bw (cB f).1 (oA args),lP (bw (cB f).1 (oA args)))
 |.meth o nm args=>(cT (cB o).1 nm (oA args),lP (cT (cB o).1 nm (oA args)))
 |.bin op a b=>(gI op (cB a).1 (cB b).1,lP (gI op (cB a).1 (cB b).1))
 |.and es=>(zz (oA es),eO (zR es))
 |.or es=>(XN (oA es),Go (zR es))
 |.not e=>(XO (cB e).1,vL (cB e).2)
 |.cmp op a b=>(zy op (cB a).1 (cB b).1,d7 op (cB a).1 (cB b).1)
 |.ite c a b=>(By (cB c).2 (cB a).1 (cB b).1,Wa (cB c).2 (cB a).2 (cB b).2)
 |.tup es=>(vW (oA es),fun d d d d=>ae)
 |.lst es=>(n9 (oA es),fun d d d d=>ae)
 |.dct ks vs=>(ER (M5 (oA ks) (oA vs)),fun d d d d=>ae)
 |.sub e i=>(cX (cB e).1 (cB i).1,lP (cX (cB e).1 (cB i).1))
 |.slc e lo hi=>(Jn (cB e).1 lo hi,fun d d d d=>ae)
 |.lc elt bm one src it ifs own aJ=>(xY (cB elt).1 bm one src (oA it) (zR ifs) (eZ own) aJ,fun d d d d=>ae)
 |.dc k v bm one src it ifs own aJ=>(XQ (cB k).1 (cB v).1 bm one src (oA it) (zR ifs) (eZ own) aJ,fun d d d d=>ae)
 |.itemsL e=>(Do (cB e).1,fun d d d d=>ae)
 |.inVals a e=>(xZ (cB a).1 (cB e).1,Cn (cB a).1 (cB e).1)
 |.any=>(XR,fun d d d d=>ae)
def oA:List IE→List CE
 |[]=>[]
 |e::es=>(cB e).1::oA es
def zR:List IE→List CT
 |[]=>[]
 |e::es=>(cB e).2::zR es
end
mutual
def cS:IS→CX
 |.expr e=>gv (cB e).1
 |.asg i e=>iX i (cB e).1
 |.asgT l e=>qR l (cB e).1
 |.asgA o nm e=>P7 (cB o).1 nm (cB e).1
 |.asgS o i e=>wq (cB o).1 (cB i).1 (cB e).1
 |.ret e=>jd (cB e).1
 |.iff c a b=>xA (cB c).2 (bK (J_ a)) (bK (J_ b))
 |.forr bm one src it body=>tZ bm one src (oA it) (bK (J_ body))
 |.whil c body=>P6 (cB c).2 (bK (J_ body))
 |.brk=>GJ
 |.frz i=>AB i
 |.any=>Ww
def J_:List IS→List CX
 |[]=>[]
 |s::ss=>cS s::J_ ss
end
def cF (F:IFun):CF:=⟨F.np,F.nv,F.frz,bK (J_ F.body)⟩
end
noncomputable def bI (a b:Nat) (c:Bool) (l:List IS):IFun:=⟨a,b,c,l⟩
section
open Mine.IE renaming var→v,cst→c,glb→g,attr→a,call→f,meth→m,bin→b,cmp→q,ite→i,lst→l,dct→d,sub→s,slc→z,lc→L,dc→D,itemsL→I,inVals→V,not→n,and→A,or→O
open Mine.IS renaming expr→E,asg→N,asgT→T,asgA→P,asgS→S,ret→R,iff→F,forr→W,whil→H,frz→Z
section
def f1:=bI 2 2 ac [F (q 1 (v 1) (c (.str 19))) [R (v 0)] [],R (f (g 24 (.bi 7)) [L (.tup [v 0,s (v 1) (v 0)]) [0] ac 0 [v 0] [q 7 (v 0) (.tup [c (.str 20),c (.str 21),c (.str 22)])] [23] [0]])]
def f2:=bI 2 2 ae [P (v 0) 18 (v 1),P (v 0) 26 (d [] []),P (v 0) 27 (d [] [])]
def f3:=bI 5 8 ae [N 5 (d [] []),W [6] ac 0 [L (v 0) [0] ac 0 [v 1] [q 7 (v 0) (v 1)] [34] [3]] [E (m (a (v 0) 27) 1 [v 6,c .none]),F (q 9 (m (a (v 0) 26) 1 [v 6,c .none]) (c .none)) [S (v 5) (v 6) (c (.bool ac))] []],N 7 (f (g 35 (.fn 1)) [v 2,a (v 0) 18]),W [6] ac 0 [v 3] [E (m (a (v 0) 27) 1 [v 6,c .none]),F (O [q 7 (v 6) (a (v 0) 26),q 1 (s (s (a (v 0) 26) (v 6)) (c (.int 0))) (v 7)]) [S (a (v 0) 26) (v 6) (.tup [v 7,v 4]),S (v 5) (v 6) (c (.bool ac))] []],R (f (g 36 (.bi 3)) [v 5])]
def f4:=bI 2 2 ae [R (m (a (v 0) 26) 0 [v 1])]
def f8:=bI 1 4 ae [N 1 (c (.int 0)),W [2,3] ae 0 [v 0] [F (q 0 (v 2) (g 40 (.int 2))) [N 1 (b 0 (v 1) (f (g 41 (.bi 2)) [v 3]))] [F (q 0 (v 2) (g 42 (.int 1))) [N 1 (b 0 (v 1) (c (.int 1)))] []]],R (v 1)]
def f9:=bI 1 4 ae [N 1 (l []),W [2,3] ae 0 [v 0] [F (q 7 (v 2) (g 43 (.tup [.int 3,.int 4]))) [E (m (v 1) 6 [v 3])] []],R (v 1)]
def f10:=bI 1 4 ae [N 1 (l []),W [2,3] ae 0 [v 0] [F (q 6 (v 2) (g 43 (.tup [.int 3,.int 4]))) [E (m (v 1) 6 [v 3])] []],R (v 1)]
def f11:=bI 1 3 ae [W [1,2] ae 0 [v 0] [F (A [q 0 (v 1) (g 40 (.int 2)),q 4 (f (g 41 (.bi 2)) [v 2]) (c (.int 0))]) [R (s (v 2) (c (.int 0)))] [],F (q 0 (v 1) (g 42 (.int 1))) [R (c (.int 0))] []],R (c (.int 0))]
def f13:=bI 4 4 ae [F (A [q 4 (f (g 41 (.bi 2)) [v 0]) (c (.int 0)),q 0 (s (s (v 0) (c (.int 0))) (c (.int 0))) (v 2),q 2 (f (g 41 (.bi 2)) [s (s (v 0) (c (.int 0))) (c (.int 1))]) (v 3)]) [R (b 0 (.tup [.tup [v 2,b 0 (.tup [v 1]) (s (s (v 0) (c (.int 0))) (c (.int 1)))]]) (z (v 0) 1 aj))] [],R (b 0 (.tup [.tup [v 2,.tup [v 1]]]) (v 0))]
def f14:=bI 3 4 ae [W [3] ac 2 [v 2] [N 0 (f (g 49 (.fn 13)) [v 0,v 1,g 40 (.int 2),g 48 (.int 255)])],R (v 0)]
def f15:=bI 1 1 ae [R (f (g 51 (.bi 8)) [L (v 0) [0] ac 0 [v 0] [q 7 (s (v 0) (c (.int 0))) (g 43 (.tup [.int 3,.int 4]))] [50] []])]
def f16:=bI 3 3 ae [F (q 6 (v 1) (f (g 53 (.fn 9)) [v 0])) [R (c (.bool ac))] [],R (A [q 1 (v 2) (c (.int 0)),q 6 (v 2) (f (g 54 (.fn 10)) [v 0])])]
def f17:=bI 1 1 ae [R (m (s (v 0) (c (.int 1))) 0 [c (.str 20),g 56 (.int 100)])]
def f18:=bI 2 2 ae [R (m (s (v 0) (c (.int 1))) 0 [c (.str 58),i (m (v 1) 0 [c (.str 59),c (.bool ae)]) (g 60 (.int 4294967295)) (c (.int 0))])]
def f19:=bI 2 2 ae [R (A [q 9 (s (v 0) (c (.int 2))) (c .none),q 0 (s (s (v 1) (s (v 0) (c (.int 2)))) (c (.str 18))) (c (.str 19))])]
def f20:=bI 2 2 ae [F (q 8 (s (v 0) (c (.int 2))) (c .none)) [R (c (.int 0))] [],R (m (s (v 0) (c (.int 1))) 0 [c (.str 21),s (s (v 1) (s (v 0) (c (.int 2)))) (c (.str 62))])]
def f21:=bI 2 2 ae [R (i (q 8 (s (v 0) (c (.int 2))) (c .none)) (c (.int 0)) (s (s (v 1) (s (v 0) (c (.int 2)))) (c (.str 63))))]
def f22:=bI 2 3 ae [N 2 (f (g 66 (.bi 4)) [v 1]),R (L (v 1) [0,1] ae 1 [v 0] [q 0 (s (v 3) (v 0)) (v 2)] [67,55] [2,1])]
def f23:=bI 2 5 ae [N 2 (l []),W [3] ac 0 [v 0] [N 4 (v 0),F (n (m (v 1) 0 [c (.str 69),c (.bool ae)])) [N 4 (L (v 0) [0] ac 0 [v 0] [q 0 (f (g 71 (.fn 11)) [s (s (v 0) (c (.int 1))) (c (.str 70))]) (f (g 71 (.fn 11)) [s (s (v 1) (c (.int 1))) (c (.str 70))])] [72] [3])] [],F (q 0 (f (g 66 (.bi 4)) [L (f (g 73 (.fn 18)) [v 0,v 1]) [0] ac 0 [v 4] [] [72] [1]]) (f (g 73 (.fn 18)) [v 3,v 1])) [E (m (v 2) 5 [v 3])] []],R (v 2)]
def f24:=bI 1 1 ae [R (L (v 0) [0] ac 0 [v 0] [q 9 (s (v 0) (c (.int 3))) (c .none)] [55] [])]
def f25:=bI 3 5 ae [N 3 (f (g 76 (.fn 24)) [v 0]),N 4 (l [.tup [c (.str 76),v 3]]),F (q 0 (f (g 41 (.bi 2)) [v 3]) (c (.int 0))) [R (v 4)] [],N 3 (f (g 78 (.fn 22)) [v 3,L (b 1 (c (.int 0)) (f (g 77 (.fn 17)) [v 0])) [0] ac 0 [v 3] [] [55] []]),E (m (v 4) 5 [.tup [c (.str 79),v 3]]),N 3 (f (g 78 (.fn 22)) [v 3,L (i (q 8 (s (v 0) (c (.int 2))) (c .none)) (c (.int 0)) (c (.int 1))) [0] ac 0 [v 3] [] [55] []]),E (m (v 4) 5 [.tup [c (.str 80),v 3]]),N 3 (f (g 78 (.fn 22)) [v 3,L (f (g 81 (.fn 8)) [s (s (v 0) (c (.int 1))) (c (.str 70))]) [0] ac 0 [v 3] [] [55] []]),E (m (v 4) 5 [.tup [c (.str 37),v 3]]),N 3 (f (g 78 (.fn 22)) [v 3,L (s (s (v 0) (c (.int 1))) (c (.str 82))) [0] ac 0 [v 3] [] [55] []]),E (m (v 4) 5 [.tup [c (.str 82),v 3]]),N 3 (f (g 83 (.fn 23)) [v 3,v 2]),E (m (v 4) 5 [.tup [c (.str 58),v 3]]),N 3 (f (g 78 (.fn 22)) [v 3,L (i (f (g 84 (.fn 19)) [v 0,v 1]) (c (.int 0)) (c (.int 1))) [0] ac 0 [v 3] [] [55] [1]]),E (m (v 4) 5 [.tup [c (.str 85),v 3]]),N 3 (f (g 78 (.fn 22)) [v 3,L (s (v 0) (c (.int 3))) [0] ac 0 [v 3] [] [55] []]),E (m (v 4) 5 [.tup [c (.str 86),v 3]]),R (b 0 (v 4) (f (g 87 (.fn 26)) [v 3,v 1]))]
def f26:=bI 2 3 ae [N 0 (f (g 78 (.fn 22)) [v 0,L (f (g 88 (.fn 20)) [v 0,v 1]) [0] ac 0 [v 0] [] [55] [1]]),N 2 (l [.tup [c (.str 62),v 0]]),N 0 (f (g 78 (.fn 22)) [v 0,L (f (g 41 (.bi 2)) [m (s (v 0) (c (.int 1))) 0 [c (.str 22),.tup []]]) [0] ac 0 [v 0] [] [55] []]),E (m (v 2) 5 [.tup [c (.str 22),v 0]]),N 0 (f (g 78 (.fn 22)) [v 0,L (f (g 89 (.fn 21)) [v 0,v 1]) [0] ac 0 [v 0] [] [55] [1]]),E (m (v 2) 5 [.tup [c (.str 90),v 0]]),R (v 2)]
def f27:=bI 3 4 ae [N 3 (s (s (f (g 91 (.fn 25)) [v 0,v 1,v 2]) (c (.int (-1)))) (c (.int 1))),R (i (q 4 (f (g 41 (.bi 2)) [v 3]) (c (.int 0))) (s (v 3) (c (.int 0))) (c .none))]
def f28:=bI 3 3 ae [F (O [q 7 (v 0) (g 95 (.tup [.str 96,.str 97])),q 7 (v 1) (g 95 (.tup [.str 96,.str 97]))]) [R (c (.bool ac))] [],R (A [v 2,O [q 0 (v 0) (c (.str 97)),q 0 (v 1) (c (.str 97))]])]
def f29:=bI 2 2 ae [R (A [q 6 (v 0) (g 95 (.tup [.str 96,.str 97])),q 6 (v 1) (g 95 (.tup [.str 96,.str 97]))])]
def f30:=bI 3 3 ae [F (f (g 99 (.fn 16)) [s (v 0) (c (.str 70)),s (v 1) (c (.str 98)),s (v 1) (c (.str 52))]) [R (c (.bool ac))] [],F (q 7 (v 2) (g 95 (.tup [.str 96,.str 97]))) [R (c (.bool ae))] [],R (O [q 0 (m (v 0) 0 [c (.str 21),c (.int 0)]) (s (v 1) (c (.str 62))),A [q 1 (s (v 1) (c (.str 100))) (c (.int 0)),q 6 (s (v 1) (c (.str 100))) (m (v 0) 0 [c (.str 22),.tup []])]])]
def f32:=bI 2 2 ae [F (q 6 (g 102 (.int 4294967042)) (v 0)) [R (c (.bool ae))] [],F (q 0 (v 1) (c (.str 19))) [R (A [q 7 (g 103 (.int 4294967041)) (v 0),q 7 (g 104 (.int 4294967043)) (v 0)])] [],R (O [q 1 (v 1) (c (.str 105)),q 7 (g 104 (.int 4294967043)) (v 0)])]
def f34:=bI 3 4 ae [N 3 (f (g 24 (.bi 7)) [L (.tup [v 0,s (v 1) (v 0)]) [0] ac 0 [v 0] [q 7 (v 0) (g 107 (.tup [.str 20,.str 21,.str 22]))] [23] [0]]),F (n (v 2)) [E (m (v 3) 1 [c (.str 58),c .none])] [],S (v 3) (c (.str 70)) (f (g 109 (.fn 14)) [f (g 108 (.fn 15)) [s (v 0) (c (.str 70))],s (v 1) (c (.str 98)),c (.int 1)]),S (v 3) (c (.str 110)) (s (v 1) (c (.str 63))),R (v 3)]
def f35:=bI 2 3 ae [N 2 (f (g 24 (.bi 7)) [L (.tup [v 0,s (v 1) (v 0)]) [0] ac 0 [v 0] [q 7 (v 0) (.tup [c (.str 21),c (.str 22)])] [23] [0]]),S (v 2) (c (.str 70)) (f (g 49 (.fn 13)) [s (v 0) (c (.str 70)),s (v 1) (c (.str 52)),g 111 (.int 3),g 48 (.int 255)]),F (q 7 (c (.str 20)) (v 2)) [S (v 2) (c (.str 20)) (g 56 (.int 100))] [],R (v 2)]
def f36:=bI 5 6 ae [N 5 (i (f (g 112 (.fn 29)) [v 2,v 3]) .any (f (g 24 (.bi 7)) [v 0])),F (q 7 (c (.str 20)) (v 5)) [S (v 5) (c (.str 20)) (g 56 (.int 100))] [],R (v 5)]
def f37:=bI 5 6 ac [F (O [n (f (g 113 (.fn 28)) [v 2,v 4,q 1 (s (v 1) (c (.str 100))) (c (.int 0))]),n (f (g 115 (.fn 32)) [m (v 0) 0 [c (.str 114),.tup []],v 4])]) [R (c .none)] [],F (q 0 (v 4) (c (.str 19))) [N 5 (f (g 116 (.fn 34)) [v 0,v 1,q 8 (v 2) (c .none)])] [F (q 0 (v 4) (c (.str 105))) [N 5 (f (g 117 (.fn 35)) [v 0,v 1])] [N 5 (f (g 118 (.fn 36)) [v 0,v 1,v 2,v 4,v 3])]],F (q 6 (c (.str 119)) (v 5)) [.any,.any] [],R (v 5)]
def f38:=bI 2 3 ae [N 2 (m (v 1) 0 [c (.str 105),c (.int 0)]),P (v 0) 80 (d [c (.str 62),c (.str 98),c (.str 63)] [s (v 1) (c (.str 62)),i (q 1 (v 2) (c (.int 0))) (v 2) (s (v 1) (c (.str 98))),s (v 1) (c (.str 63))]),S (a (v 0) 80) (c (.str 52)) (i (q 1 (v 2) (c (.int 0))) (s (v 1) (c (.str 98))) (c (.int 0))),S (a (v 0) 80) (c (.str 100)) (m (v 1) 0 [c (.str 100),c (.int 0)]),P (v 0) 57 (m (v 1) 0 [c (.str 57),d [] []]),P (v 0) 61 (d [] []),P (v 0) 122 (d [] []),P (v 0) 123 (d [] []),P (v 0) 124 (d [] [])]
def f39:=bI 3 3 ae [S (a (v 0) 61) (v 1) (v 2),S (a (v 0) 122) (v 1) (f (g 126 (.cls 0)) [s (v 2) (c (.str 18))])]
def f40:=bI 3 4 ae [N 3 (i (q 0 (s (s (a (v 0) 61) (v 1)) (c (.str 18))) (c (.str 19))) (c (.int 0)) (c .none)),R (m (a (v 0) 124) 0 [v 2,v 3])]
def f41:=bI 4 4 ae [F (O [f (g 128 (.fn 30)) [v 3,a (v 0) 80,s (s (a (v 0) 61) (v 1)) (c (.str 18))],q 0 (s (v 3) (c (.str 110))) (s (a (v 0) 80) (c (.str 63)))]) [R (c .none)] [],R (v 3)]
def f42:=bI 2 6 ae [N 2 (l []),F (q 6 (v 1) (a (v 0) 123)) [E (m (v 2) 5 [.tup [v 1,s (a (v 0) 123) (v 1),c .none,c (.int 0),c (.int 0)]])] [],W [3] ac 0 [f (g 36 (.bi 3)) [a (v 0) 122]] [N 4 (m (s (a (v 0) 122) (v 3)) 130 [v 1]),N 5 (i (q 8 (v 4) (c .none)) (c .none) (m (v 0) 131 [v 3,v 1,s (v 4) (c (.int 0))])),F (q 9 (v 5) (c .none)) [E (m (v 2) 5 [.tup [v 1,v 5,v 3,m (v 0) 132 [v 3,s (v 5) (c (.str 110))],s (v 4) (c (.int 1))]])] []],R (v 2)]
def f43:=bI 1 3 ae [N 1 (f (g 24 (.bi 7)) [L (.tup [v 0,c (.bool ac)]) [0] ac 0 [a (v 0) 123] [] [32] []]),W [2] ac 0 [a (v 0) 122] [E (m (v 1) 4 [L (.tup [v 0,c (.bool ac)]) [0] ac 0 [a (s (a (v 0) 122) (v 2)) 26] [] [32] []])],R (f (g 36 (.bi 3)) [v 1])]
def f44:=bI 2 2 ae [E (m (g 133 (.cls 1)) 16 [v 0,v 1]),P (v 0) 134 (d [] [])]
def f45:=bI 2 4 ae [W [2] ac 0 [v 1] [N 3 (f (g 136 (.fn 27)) [m (v 0) 135 [v 2],a (v 0) 61,a (v 0) 57]),F (q 8 (v 3) (c .none)) [E (m (a (v 0) 134) 1 [v 2,c .none])] [S (a (v 0) 134) (v 2) (v 3)]]]
def f46:=bI 3 3 ae [S (a (v 0) 123) (v 1) (v 2),E (m (v 0) 137 [l [v 1]])]
def f47:=bI 2 2 ae [E (m (a (v 0) 123) 1 [v 1,c .none]),E (m (v 0) 137 [l [v 1]])]
def f48:=bI 3 3 ae [S (a (v 0) 124) (v 1) (v 2),E (m (v 0) 137 [m (v 0) 29 []])]
def f49:=bI 6 6 ae [E (m (v 0) 137 [m (s (a (v 0) 122) (v 1)) 138 [v 2,v 3,v 4,v 5]])]
def f50:=bI 2 2 ae [R (m (a (v 0) 134) 0 [v 1])]
def f52:=bI 2 2 ae [E (m (g 139 (.cls 2)) 16 [v 0,v 1]),P (v 0) 140 (d [] [])]
def f53:=bI 3 3 ae [E (m (g 133 (.cls 1)) 141 [v 0,v 1,v 2]),S (a (v 0) 140) (v 1) (d [] [])]
def f55:=bI 4 4 ae [R (v 3)]
def f56:=bI 3 9 ae [N 3 (m (a (v 0) 134) 0 [v 2]),F (O [q 8 (v 3) (c .none),q 0 (s (v 3) (c (.int 2))) (v 1)]) [R (c .none)] [],N 4 (i (q 8 (s (v 3) (c (.int 2))) (c .none)) (c .none) (s (a (v 0) 61) (s (v 3) (c (.int 2))))),T [5,6] (i (q 8 (v 4) (c .none)) (.tup [c .none,c (.int 0)]) (.tup [s (v 4) (c (.str 18)),s (v 4) (c (.str 62))])),N 7 (f (g 143 (.fn 37)) [s (v 3) (c (.int 1)),a (v 0) 80,v 5,v 6,s (s (a (v 0) 61) (v 1)) (c (.str 18))]),N 7 (i (q 8 (v 7) (c .none)) (c .none) (m (v 0) 144 [v 1,v 2,v 7])),N 8 (A [q 8 (s (v 3) (c (.int 2))) (c .none),q 9 (v 7) (c .none)]),R (i (A [v 8,q 0 (m (v 7) 0 [c (.str 110)]) (s (s (a (v 0) 61) (v 1)) (c (.str 63)))]) (c .none) (v 7))]
def f57:=bI 2 8 ae [T [2,3,4] (.tup [s (a (v 0) 140) (v 1),l [],l []]),W [5] ac 0 [f (g 36 (.bi 3)) [f (g 24 (.bi 7)) [L (.tup [v 0,c (.bool ac)]) [0] ac 0 [b 0 (f (g 15 (.bi 6)) [v 2]) (f (g 15 (.bi 6)) [a (v 0) 134])] [] [34] []]]] [N 6 (m (v 0) 149 [v 1,v 5]),F (q 8 (v 6) (c .none)) [F (q 9 (m (v 2) 1 [v 5,c .none]) (c .none)) [E (m (v 3) 5 [v 5])] []] [F (q 1 (m (v 2) 0 [v 5]) (v 6)) [S (v 2) (v 5) (v 6),E (f (g 150 (.fn 59)) [v 4,v 6,v 5])] []]],N 7 (i (q 4 (f (g 41 (.bi 2)) [v 3]) (c (.int 0))) (l [.tup [f (g 51 (.bi 8)) [v 3],d [] [],.tup []]]) (l [])),R (b 0 (v 7) (L (.tup [.tup [],v 0,f (g 51 (.bi 8)) [v 1]]) [0,1] ae 0 [v 4] [] [17,29] []))]
def f58:=bI 1 3 ae [N 1 (l []),W [2] ac 0 [f (g 36 (.bi 3)) [a (v 0) 140]] [E (m (v 1) 6 [L (.tup [v 3,v 0,v 1,v 2]) [0,1,2] ae 0 [m (v 0) 151 [v 2]] [] [28,17,29] [2]])],R (v 1)]
def f59:=bI 3 4 ae [W [3] ac 0 [v 0] [F (q 0 (s (v 3) (c (.int 0))) (v 1)) [E (m (s (v 3) (c (.int 1))) 5 [v 2]),R (c .none)] []],E (m (v 0) 5 [.tup [v 1,l [v 2]]])]
def f60:=bI 1 1 ae [P (v 0) 152 (d [] []),P (v 0) 153 (d [] []),P (v 0) 39 (d [] []),P (v 0) 154 (d [] [])]
def f61:=bI 4 4 ae [S (a (v 0) 152) (v 1) (v 2),S (a (v 0) 153) (v 1) (v 3),S (a (v 0) 39) (v 1) (d [] [])]
def f62:=bI 4 5 ae [N 4 (b 0 (f (g 41 (.bi 2)) [s (a (v 0) 39) (v 1)]) (c (.int 1))),H (V (v 4) (s (a (v 0) 39) (v 1))) [.any],S (s (a (v 0) 39) (v 1)) (v 2) (v 4),E (m (s (a (v 0) 152) (v 1)) 141 [v 4,f (g 24 (.bi 7)) [b 0 (I (s (a (v 0) 153) (v 2))) (l [.tup [c (.str 18),v 3]])]]),S (a (v 0) 154) (.tup [v 1,v 2]) (l [])]
def f63:=bI 5 5 ae [E (m (v 0) 158 [v 1,v 2,v 3]),E (m (v 0) 158 [v 2,v 1,v 4]),E (m (v 0) 159 [v 1]),E (m (v 0) 159 [v 2])]
def f65:=bI 3 4 ae [W [3] ac 0 [s (a (v 0) 39) (v 1)] [F (q 0 (s (s (a (v 0) 39) (v 1)) (v 3)) (v 2)) [R (v 3)] []],R (c .none)]
def f66:=bI 2 7 ae [N 2 (m (s (a (v 0) 152) (v 1)) 159 []),W [3,4,5,6] ae 0 [v 2] [Z 5,E (m (s (a (v 0) 154) (.tup [v 1,m (v 0) 161 [v 1,v 3]])) 5 [.tup [v 4,v 5,v 6]])],R (f (g 41 (.bi 2)) [v 2])]
def f67:=bI 1 1 ae [R (f (g 36 (.bi 3)) [L (v 0) [0] ac 0 [a (v 0) 154] [q 4 (f (g 41 (.bi 2)) [s (a (v 1) 154) (v 0)]) (c (.int 0))] [162] [0]])]
def f68:=bI 1 1 ae [R (q 0 (f (g 41 (.bi 2)) [m (v 0) 163 []]) (c (.int 0)))]
def f69:=bI 3 8 ae [T [3,4] (v 1),T [5,6,7] (m (s (a (v 0) 154) (v 1)) 1 [c (.int 0)]),E (m (s (a (v 0) 152) (v 4)) 164 [s (s (a (v 0) 39) (v 4)) (v 3),v 5,v 6,v 7,v 2]),E (m (v 0) 159 [v 4])]
def f70:=bI 3 4 ae [N 3 (m (v 0) 163 []),F (q 0 (f (g 41 (.bi 2)) [v 3]) (c (.int 0))) [R (c (.bool ae))] [],E (m (v 0) 167 [s (v 3) (b 4 (v 1) (f (g 41 (.bi 2)) [v 3])),v 2]),R (c (.bool ac))]
def f71:=bI 4 5 ae [W [4] ac 2 [b 0 (v 2) (c (.int 1))] [F (n (m (v 0) 169 [i (q 2 (v 4) (f (g 41 (.bi 2)) [v 1])) (s (v 1) (v 4)) (c (.int 0)),v 3])) [R (v 4)] []],R (c .none)]
def f80:=bI 2 5 ae [N 2 (D (v 0) (s (v 1) (v 0)) [0] ac 0 [v 0] [q 1 (v 0) (c (.str 114))] [23] [0]),N 3 (f (g 36 (.bi 3)) [v 1]),N 3 (L (v 1) [0,1] ae 1 [v 3] [O [q 0 (v 0) (c (.int 0)),q 1 (v 1) (s (v 2) (b 1 (v 0) (c (.int 1))))]] [67,44] [3]),F (q 1 (v 3) (l [])) [S (v 2) (c (.str 114)) (f (g 51 (.bi 8)) [v 3]),R (v 2)] [],N 4 (f (g 51 (.bi 8)) [L (v 0) [0] ac 0 [m (v 2) 1 [c (.str 171),.tup []]] [q 1 (v 0) (c (.str 114))] [23] []]),F (q 1 (v 4) (.tup [])) [.any] [],R (v 2)]
def f81:=bI 3 4 ae [N 3 (D (v 0) (s (v 1) (v 0)) [0] ac 0 [v 0] [] [72] [0]),S (v 3) (v 1) (v 2),R (v 3)]
def f82:=bI 3 6 ae [T [3,4] (.tup [s (v 0) (c (.int 0)),f (g 15 (.bi 6)) [m (v 1) 0 [c (.str 114),.tup []]]]),F (q 0 (v 3) (c (.str 175))) [R (f (g 176 (.fn 80)) [v 1,b 0 (v 4) (l [s (v 0) (c (.int 1))])])] [],F (q 0 (v 3) (c (.str 177))) [R (f (g 176 (.fn 80)) [v 1,L (v 0) [0] ac 0 [v 4] [q 1 (v 0) (s (v 1) (c (.int 1)))] [44] [0]])] [],F (q 0 (v 3) (c (.str 178))) [R (f (g 176 (.fn 80)) [v 1,l []])] [],.any,.any,.any]
def f83:=bI 4 7 ae [W [4] ac 0 [v 0] [N 5 (g 182 (.int 0)),F (q 0 (s (v 4) (c (.int 0))) (c (.str 183))) [.any,.any] [F (q 6 (s (v 4) (c (.int 0))) (g 184 (.fd 0 [((.str 185),(.int 1)),((.str 186),(.int 2)),((.str 187),(.int 3))]))) [N 5 (s (g 184 (.fd 0 [((.str 185),(.int 1)),((.str 186),(.int 2)),((.str 187),(.int 3))])) (s (v 4) (c (.int 0))))] [N 2 (f (g 188 (.fn 82)) [v 4,v 2,v 3])]],F (q 1 (v 5) (g 182 (.int 0))) [R (.tup [v 5,v 2])] []],R (.tup [g 182 (.int 0),v 2])]
def f84:=bI 4 9 ae [T [4,5] (v 0),W [6,7] ae 0 [v 4] [T [8,2] (f (g 192 (.fn 83)) [v 7,v 1,v 2,v 3]),F (q 0 (v 8) (g 193 (.int 1))) [R (v 2)] [],F (q 0 (v 8) (g 194 (.int 2))) [R (c .none)] []],R (i (q 0 (v 5) (.tup [c (.str 185)])) (v 2) (c .none))]
def f85:=bI 1 3 ae [T [1,2] (s (v 0) (c (.int 0))),R (i (q 4 (f (g 41 (.bi 2)) [v 2]) (c (.int 1))) (b 0 (.tup [.tup [v 1,z (v 2) 1 aj]]) (z (v 0) 1 aj)) (z (v 0) 1 aj))]
def f86:=bI 2 3 ae [N 2 (b 0 (.tup [c (.str 196)]) (i (q 0 (v 0) (c (.str 19))) (g 107 (.tup [.str 20,.str 21,.str 22])) (.tup []))),R (f (g 24 (.bi 7)) [L (.tup [v 0,s (v 1) (v 0)]) [0] ac 0 [v 1] [q 7 (v 0) (v 2)] [23] [1,2]])]
def f87:=bI 2 2 ae [E (m (g 197 (.cls 3)) 16 [v 0,v 1]),P (v 0) 198 (d [] []),P (v 0) 199 (d [] [])]
def f88:=bI 4 4 ae [S (a (v 0) 198) (v 1) (v 2),S (a (v 0) 199) (v 1) (v 3),E (m (v 0) 137 [m (v 0) 29 []])]
def f89:=bI 2 2 ae [R (d [c (.str 200),c (.str 201)] [s (a (v 0) 80) (c (.str 63)),s (s (a (v 0) 61) (v 1)) (c (.str 98))])]
def f90:=bI 5 5 ae [F (O [q 8 (v 1) (c .none),q 8 (v 4) (c .none)]) [R (v 4)] [],R (f (g 203 (.fn 84)) [v 1,v 3,v 4,m (v 0) 202 [v 2]])]
def f91:=bI 4 5 ae [N 4 (m (v 0) 204 [m (a (v 0) 198) 0 [v 1],v 1,v 2,m (g 197 (.cls 3)) 131 [v 0,v 1,v 2,v 3]]),R (i (O [q 8 (v 4) (c .none),q 0 (s (v 4) (c (.str 110))) (s (a (v 0) 80) (c (.str 63)))]) (c .none) (v 4))]
def f92:=bI 4 9 ac [T [4,5] (.tup [s (s (a (v 0) 61) (v 1)) (c (.str 18)),s (v 3) (c (.str 70))]),F (q 6 (v 4) (g 207 (.tup [.str 19,.str 105]))) [N 3 (f (g 209 (.fn 81)) [v 3,c (.str 70),f (g 208 (.fn 85)) [v 5]])] [],N 6 (m (v 0) 204 [m (a (v 0) 199) 0 [v 1],v 1,v 2,v 3]),F (q 8 (v 6) (c .none)) [R (c .none)] [],F (q 6 (v 4) (g 207 (.tup [.str 19,.str 105]))) [T [7,8] (.tup [s (s (v 5) (c (.int 0))) (c (.int 0)),s (s (s (v 5) (c (.int 0))) (c (.int 1))) (c (.int 0))]),N 5 (f (g 49 (.fn 13)) [s (v 6) (c (.str 70)),v 8,v 7,g 48 (.int 255)])] [],R (f (g 210 (.fn 86)) [v 4,f (g 209 (.fn 81)) [v 6,c (.str 70),v 5]])]
def f93:=bI 0 0 ae [R (l [c (.int 4294967041),c (.int 4294967042),c (.int 4294967043),c (.int 7)])]
def f94:=bI 0 0 ae [R (l [c (.str 12),c (.str 10),c (.str 8),c (.str 7),c (.str 9),c (.str 11)])]
def f95:=bI 0 0 ae [R (l [.tup [c (.str 12),c (.str 10),c (.str 19)],.tup [c (.str 10),c (.str 12),c (.str 19)],.tup [c (.str 10),c (.str 8),c (.str 19)],.tup [c (.str 8),c (.str 10),c (.str 19)],.tup [c (.str 8),c (.str 7),c (.str 97)],.tup [c (.str 7),c (.str 8),c (.str 96)],.tup [c (.str 8),c (.str 9),c (.str 105)],.tup [c (.str 9),c (.str 8),c (.str 105)],.tup [c (.str 9),c (.str 11),c (.str 19)],.tup [c (.str 11),c (.str 9),c (.str 19)]])]
def f96:=bI 2 2 ae [S (v 0) (c (.int 1)) (b 0 (s (v 0) (c (.int 1))) (c (.int 1))),F (q 3 (s (v 0) (c (.int 1))) (f (g 41 (.bi 2)) [s (v 0) (c (.int 0))])) [R (b 4 (f (g 212 (.bi 5)) [s (s (v 0) (c (.int 0))) (b 1 (s (v 0) (c (.int 1))) (c (.int 1)))]) (v 1))] [],R (b 4 (b 0 (b 2 (c (.int 14)) (s (v 0) (c (.int 1)))) (b 3 (s (v 0) (c (.int 1))) (c (.int 3)))) (v 1))]
def f97:=bI 1 10 ae [T [1,2] (.tup [f (g 216 (.cls 4)) [],d [c (.str 12),c (.str 10),c (.str 8),c (.str 7),c (.str 9),c (.str 11)] [c (.int 300),c (.int 200),c (.int 65001),c (.int 65001),c (.int 65002),c (.int 400)]]),W [3,4] ae 1 [f (g 217 (.fn 94)) []] [N 5 (d [c (.str 62),c (.str 98),c (.str 63)] [b 0 (c (.int 1)) (v 3),s (v 2) (v 4),b 0 (c (.int 11)) (v 3)]),N 6 (f (g 24 (.bi 7)) [b 0 (I (v 5)) (i (q 6 (v 4) (.tup [c (.str 8),c (.str 7),c (.str 9)])) (l [.tup [c (.str 105),c (.int 100)]]) (l []))]),F (q 0 (v 4) (c (.str 8))) [S (v 6) (c (.str 100)) (c (.int 9))] [],N 7 (i (q 0 (v 4) (c (.str 8))) (f (g 218 (.cls 5)) [v 6]) (f (g 197 (.cls 3)) [v 6])),F (q 6 (v 4) (.tup [c (.str 8),c (.str 7),c (.str 9)])) [W [8] ac 2 [c (.int 11),c (.int 17)] [E (m (v 7) 219 [v 8,c (.int 3)])]] [],E (m (v 1) 175 [v 4,v 7,v 5])],W [3] ac 2 [c (.int 0),c (.int 10),c (.int 2)] [E (m (v 1) 221 [s (s (f (g 220 (.fn 95)) []) (v 3)) (c (.int 0)),s (s (f (g 220 (.fn 95)) []) (v 3)) (c (.int 1)),s (s (f (g 220 (.fn 95)) []) (v 3)) (c (.int 2)),s (s (f (g 220 (.fn 95)) []) (b 0 (v 3) (c (.int 1)))) (c (.int 2))])],N 9 (s (l [c .none,.tup [.tup [c (.str 175),s (f (g 222 (.fn 93)) []) (c (.int 0))]],.tup [.tup [c (.str 177),s (f (g 222 (.fn 93)) []) (c (.int 0))]],.tup [.tup [c (.str 178)]],.tup [.tup [c (.str 186)]]]) (v 0)),F (q 9 (v 9) (c .none)) [E (m (s (a (v 1) 152) (c (.str 8))) 224 [s (s (a (v 1) 39) (c (.str 8))) (c (.str 9)),c .none,.tup [.tup [.tup [c (.str 223),v 9]],.tup [c (.str 185)]]])] [],R (v 1)]
def f98:=bI 2 2 ae [F (q 0 (v 0) (c (.int 1))) [R (f (g 36 (.bi 3)) [b 0 (L (v 0) [0] ac 0 [v 1] [q 1 (v 0) (s (f (g 222 (.fn 93)) []) (c (.int 0)))] [225] []) (l [s (f (g 222 (.fn 93)) []) (c (.int 0))])])] [],F (q 0 (v 0) (c (.int 2))) [R (L (v 0) [0] ac 0 [v 1] [q 1 (v 0) (s (f (g 222 (.fn 93)) []) (c (.int 0)))] [225] [])] [],R (s (l [v 1,c .none,c .none,l [],c .none]) (v 0))]
def f99:=bI 3 11 ae [T [3,4] (.tup [d [v 0] [v 1],l [v 0]]),H (q 1 (v 4) (l [])) [N 5 (m (v 4) 1 [c (.int 0)]),W [6,7,8] ae 0 [f (g 220 (.fn 95)) []] [N 9 (l [s (f (g 222 (.fn 93)) []) (c (.int 1))]),F (q 0 (v 8) (c (.str 19))) [N 9 (z (f (g 222 (.fn 93)) []) 0 (aa 3))] [F (q 0 (v 8) (c (.str 105))) [N 9 (z (f (g 222 (.fn 93)) []) 1 (aa 3))] []],F (A [q 0 (v 6) (v 5),q 7 (v 7) (v 3),q 0 (L (v 0) [0] ac 0 [s (v 3) (v 5)] [q 6 (v 0) (v 1)] [225] [9]) (l [])]) [N 10 (i (q 0 (.tup [v 6,v 7]) (.tup [c (.str 8),c (.str 9)])) (f (g 228 (.fn 98)) [v 2,s (v 3) (v 5)]) (s (v 3) (v 5))),F (q 9 (v 10) (c .none)) [S (v 3) (v 7) (v 10),E (m (v 4) 5 [v 7])] []] []]],R (v 3)]
def f100:=bI 2 3 ae [N 2 (m (s (a (v 0) 152) (v 1)) 230 [g 229 (.tup [.int 335544320,.int 8])]),R (i (q 8 (v 2) (c .none)) (c .none) (f (g 15 (.bi 6)) [m (s (v 2) (c (.int 1))) 0 [c (.str 114),.tup []]]))]
def f101:=bI 3 4 ae [N 3 (d [c (.str 82),c (.str 70),c (.str 110)] [c (.int 0),.tup [],s (s (a (v 0) 153) (v 1)) (c (.str 63))]),F (q 1 (v 2) (l [])) [S (v 3) (c (.str 114)) (f (g 51 (.bi 8)) [v 2])] [],Z 3,E (m (s (a (v 0) 152) (v 1)) 231 [g 229 (.tup [.int 335544320,.int 8]),v 3]),E (m (v 0) 159 [v 1])]
def f102:=bI 1 12 ae [N 1 (l [f (g 15 (.bi 6)) [z (v 0) 0 (aa 24)],c (.int 0)]),T [2,3] (.tup [s (f (g 217 (.fn 94)) []) (f (g 236 (.fn 96)) [v 1,c (.int 6)]),f (g 236 (.fn 96)) [v 1,c (.int 5)]]),N 4 (l [f (g 236 (.fn 96)) [v 1,c (.int 16)]]),E (m (v 4) 5 [f (g 236 (.fn 96)) [v 1,c (.int 16)]]),N 5 (L (f (g 36 (.bi 3)) [L (v 1) [0,1] ae 1 [f (g 222 (.fn 93)) []] [q 0 (b 4 (b 3 (v 2) (b 5 (c (.int 2)) (v 0))) (c (.int 2))) (c (.int 1))] [67,225] [0]]) [0] ac 0 [v 4] [] [237] []),N 6 (f (g 238 (.fn 97)) [v 3]),N 7 (l [f (g 239 (.fn 99)) [v 2,s (v 5) (c (.int 0)),v 3],f (g 239 (.fn 99)) [v 2,s (v 5) (c (.int 1)),v 3]]),E (f (g 240 (.fn 101)) [v 6,v 2,s (v 5) (c (.int 0))]),N 8 (f (g 236 (.fn 96)) [v 1,c (.int 6)]),W [9] ac 2 [c (.int 40)] [F (q 0 (v 9) (v 8)) [E (f (g 240 (.fn 101)) [v 6,v 2,s (v 5) (c (.int 1))])] [F (A [n (m (v 6) 169 [f (g 236 (.fn 96)) [v 1,c (.int 9)],v 9]),q 4 (v 9) (v 8)]) [.brk] []],W [10] ac 0 [f (g 217 (.fn 94)) []] [N 11 (f (g 241 (.fn 100)) [v 6,v 10]),F (A [q 9 (v 11) (c .none),q 7 (v 11) (L (s (v 0) (v 1)) [0] ac 0 [v 7] [q 6 (v 1) (v 0)] [101] [10])]) [R (c (.bool ae))] []]],F (O [n (m (v 6) 242 []),q 1 (f (g 24 (.bi 7)) [L (.tup [v 0,f (g 241 (.fn 100)) [v 1,v 0]]) [0] ac 0 [f (g 217 (.fn 94)) []] [q 9 (f (g 241 (.fn 100)) [v 1,v 0]) (c .none)] [23] [6]]) (s (v 7) (c (.int 1)))]) [R (c (.bool ae))] [],E (m (s (a (v 6) 152) (v 2)) 243 [g 229 (.tup [.int 335544320,.int 8])]),E (m (v 6) 159 [v 2]),R (A [q 9 (m (v 6) 244 [l [],c (.int 20),c (.int 50)]) (c .none),q 0 (L (v 0) [0] ac 0 [f (g 217 (.fn 94)) []] [q 9 (f (g 241 (.fn 100)) [v 1,v 0]) (c .none)] [23] [6]) (l [])])]
end
end
def tabI:TR (IFun×List Nat):=(.node aj (.node (aa (f1,[17,18])) (.node (aa (f3,[25,28,17,29,30,31,32,33])) (.node aj (.node (aa (f15,[37])) (.node aj (.node (aa (f63,[25,34,72,156,157])) .nil .nil) (.node (aa (f95,[])) .nil .nil)) (.node (aa (f47,[25,32])) .nil .nil)) (.node (aa (f23,[26,57,38,55,68])) (.node (aa (f39,[25,44,125])) (.node (aa (f71,[25,168,45,30,47])) .nil .nil) .nil) (.node (aa (f55,[25,44,32,17])) (.node (aa (f87,[25,120])) .nil .nil) .nil))) (.node (aa (f11,[37,18,39])) (.node (aa (f19,[55,61])) (.node (aa (f35,[17,80,38])) (.node (aa (f67,[25])) .nil .nil) (.node (aa (f99,[92,170,213,38,226,23,34,72,18,227,101])) .nil .nil)) (.node aj (.node (aa (f83,[179,32,17,153,173,180,181])) .nil .nil) .nil)) (.node (aa (f27,[26,61,57,74])) (.node (aa (f43,[25,38,44])) .nil .nil) (.node (aa (f59,[147,17,32,101])) (.node (aa (f91,[25,44,32,17,38])) .nil .nil) .nil)))) (.node aj (.node (aa (f9,[37,38,18,39])) (.node (aa (f17,[55])) (.node aj (.node (aa (f65,[25,23,44,72])) .nil .nil) (.node (aa (f97,[213,214,39,67,23,153,120,155,90,215])) .nil .nil)) (.node (aa (f49,[25,44,28,17,29,30])) (.node (aa (f81,[17,23,172,38])) .nil .nil) .nil)) (.node (aa (f25,[26,61,57,74,75])) (.node (aa (f41,[25,44,32,17])) .nil .nil) (.node (aa (f57,[25,44,145,146,147,32,148,38])) (.node (aa (f89,[25,44])) .nil .nil) .nil))) (.node (aa (f13,[37,44,18,45])) (.node (aa (f21,[55,61])) (.node (aa (f37,[17,80,92,88,93,38])) (.node (aa (f69,[25,162,30,23,72,28,17,29])) .nil .nil) (.node (aa (f101,[214,92,170,17])) .nil .nil)) (.node (aa (f53,[25,44,125])) (.node (aa (f85,[37,18,39])) .nil .nil) .nil)) (.node (aa (f29,[92,93])) (.node (aa (f45,[25,29,32,38])) .nil .nil) (.node (aa (f61,[25,23,155,153])) (.node (aa (f93,[])) .nil .nil) .nil))))) (.node (aa (f2,[25,18])) (.node (aa (f4,[25,32])) (.node (aa (f8,[37,38,18,39])) (.node (aa (f16,[37,44,52])) (.node (aa (f32,[101,18])) .nil (.node (aa (f96,[211,46])) .nil .nil)) (.node (aa (f48,[25,90,86])) (.node (aa (f80,[17,39,38,33,170])) .nil .nil) .nil)) (.node (aa (f24,[26])) (.node (aa (f40,[25,44,90,127])) .nil .nil) (.node (aa (f56,[25,44,32,55,92,18,142,38,106])) (.node (aa (f88,[25,44,198,199])) .nil .nil) .nil))) (.node aj (.node (aa (f20,[55,61])) (.node (aa (f36,[17,80,92,93,88,38])) (.node (aa (f68,[25])) .nil .nil) (.node (aa (f100,[214,23,55])) .nil .nil)) (.node (aa (f52,[25,120])) (.node (aa (f84,[189,32,17,153,190,191,23,179,180])) .nil .nil) .nil)) (.node (aa (f28,[92,93,94])) (.node (aa (f44,[25,120])) .nil .nil) (.node (aa (f60,[25])) (.node (aa (f92,[25,44,32,17,18,37,38,205,206])) .nil .nil) .nil)))) (.node aj (.node (aa (f10,[37,38,18,39])) (.node (aa (f18,[55,57])) (.node (aa (f34,[17,80,106,38])) (.node (aa (f66,[25,23,160,44,28,17,29])) .nil .nil) (.node (aa (f98,[213,170])) .nil .nil)) (.node (aa (f50,[25,32])) (.node (aa (f82,[173,17,153,18,174,172])) .nil .nil) .nil)) (.node (aa (f26,[74,61,75])) (.node (aa (f42,[25,32,38,44,129,17])) .nil .nil) (.node (aa (f58,[25,38,44])) (.node (aa (f90,[25,189,44,32,17])) .nil .nil) .nil))) (.node (aa (f14,[37,44,46,47])) (.node (aa (f22,[26,64,65])) (.node (aa (f38,[25,120,121])) (.node (aa (f70,[25,165,30,166])) .nil .nil) (.node (aa (f102,[232,211,92,213,233,234,214,235,206,47,23,174])) .nil .nil)) (.node aj (.node (aa (f86,[18,17,195])) .nil .nil) .nil)) (.node (aa (f30,[17,80,18])) (.node (aa (f46,[25,32,17])) .nil .nil) (.node (aa (f62,[25,23,72,18,44])) (.node (aa (f94,[])) .nil .nil) .nil))))))
def tabC:TR CF:=(.node aj (.node (aa (cF f1)) (.node (aa (cF f3)) (.node aj (.node (aa (cF f15)) (.node aj (.node (aa (cF f63)) .nil .nil) (.node (aa (cF f95)) .nil .nil)) (.node (aa (cF f47)) .nil .nil)) (.node (aa (cF f23)) (.node (aa (cF f39)) (.node (aa (cF f71)) .nil .nil) .nil) (.node (aa (cF f55)) (.node (aa (cF f87)) .nil .nil) .nil))) (.node (aa (cF f11)) (.node (aa (cF f19)) (.node (aa (cF f35)) (.node (aa (cF f67)) .nil .nil) (.node (aa (cF f99)) .nil .nil)) (.node aj (.node (aa (cF f83)) .nil .nil) .nil)) (.node (aa (cF f27)) (.node (aa (cF f43)) .nil .nil) (.node (aa (cF f59)) (.node (aa (cF f91)) .nil .nil) .nil)))) (.node aj (.node (aa (cF f9)) (.node (aa (cF f17)) (.node aj (.node (aa (cF f65)) .nil .nil) (.node (aa (cF f97)) .nil .nil)) (.node (aa (cF f49)) (.node (aa (cF f81)) .nil .nil) .nil)) (.node (aa (cF f25)) (.node (aa (cF f41)) .nil .nil) (.node (aa (cF f57)) (.node (aa (cF f89)) .nil .nil) .nil))) (.node (aa (cF f13)) (.node (aa (cF f21)) (.node (aa (cF f37)) (.node (aa (cF f69)) .nil .nil) (.node (aa (cF f101)) .nil .nil)) (.node (aa (cF f53)) (.node (aa (cF f85)) .nil .nil) .nil)) (.node (aa (cF f29)) (.node (aa (cF f45)) .nil .nil) (.node (aa (cF f61)) (.node (aa (cF f93)) .nil .nil) .nil))))) (.node (aa (cF f2)) (.node (aa (cF f4)) (.node (aa (cF f8)) (.node (aa (cF f16)) (.node (aa (cF f32)) .nil (.node (aa (cF f96)) .nil .nil)) (.node (aa (cF f48)) (.node (aa (cF f80)) .nil .nil) .nil)) (.node (aa (cF f24)) (.node (aa (cF f40)) .nil .nil) (.node (aa (cF f56)) (.node (aa (cF f88)) .nil .nil) .nil))) (.node aj (.node (aa (cF f20)) (.node (aa (cF f36)) (.node (aa (cF f68)) .nil .nil) (.node (aa (cF f100)) .nil .nil)) (.node (aa (cF f52)) (.node (aa (cF f84)) .nil .nil) .nil)) (.node (aa (cF f28)) (.node (aa (cF f44)) .nil .nil) (.node (aa (cF f60)) (.node (aa (cF f92)) .nil .nil) .nil)))) (.node aj (.node (aa (cF f10)) (.node (aa (cF f18)) (.node (aa (cF f34)) (.node (aa (cF f66)) .nil .nil) (.node (aa (cF f98)) .nil .nil)) (.node (aa (cF f50)) (.node (aa (cF f82)) .nil .nil) .nil)) (.node (aa (cF f26)) (.node (aa (cF f42)) .nil .nil) (.node (aa (cF f58)) (.node (aa (cF f90)) .nil .nil) .nil))) (.node (aa (cF f14)) (.node (aa (cF f22)) (.node (aa (cF f38)) (.node (aa (cF f70)) .nil .nil) (.node (aa (cF f102)) .nil .nil)) (.node aj (.node (aa (cF f86)) .nil .nil) .nil)) (.node (aa (cF f30)) (.node (aa (cF f46)) .nil .nil) (.node (aa (cF f62)) (.node (aa (cF f94)) .nil .nil) .nil))))))
noncomputable def meths:Nat→List (Nat×Nat)
 |0=>[(16,2),(138,3),(130,4)]
 |1=>[(16,38),(141,39),(132,40),(131,41),(135,42),(29,43)]
 |2=>[(16,44),(137,45),(231,46),(243,47),(219,48),(164,49),(230,50),(141,39),(132,40),(131,41),(135,42),(29,43)]
 |3=>[(16,52),(141,53),(144,55),(149,56),(151,57),(159,58),(137,45),(231,46),(243,47),(219,48),(164,49),(230,50),(132,40),(131,41),(135,42),(29,43)]
 |4=>[(16,60),(175,61),(158,62),(221,63),(161,65),(159,66),(163,67),(242,68),(167,69),(169,70),(244,71)]
 |5=>[(16,87),(224,88),(202,89),(204,90),(131,91),(144,92),(141,53),(149,56),(151,57),(159,58),(137,45),(231,46),(243,47),(219,48),(164,49),(230,50),(132,40),(135,42),(29,43)]
 |_=>[]
noncomputable def fnL:List Nat:=[1,2,3,4,8,9,10,11,13,14,15,16,17,18,19,20,21,22,23,24,25,26,27,28,29,30,32,34,35,36,37,38,39,40,41,42,43,44,45,46,47,48,49,50,52,53,55,56,57,58,59,60,61,62,63,65,66,67,68,69,70,71,80,81,82,83,84,85,86,87,88,89,90,91,92,93,94,95,96,97,98,99,100,101,102]
noncomputable def atL:List Nat:=[18,26,27,39,57,61,80,122,123,124,134,140,152,153,154,198,199]
noncomputable def glL:List (Nat×AV):=[(13,(.bi 0)),(14,(.bi 1)),(15,(.bi 6)),(24,(.bi 7)),(35,(.fn 1)),(36,(.bi 3)),(40,(.int 2)),(41,(.bi 2)),(42,(.int 1)),(43,(.tup [.int 3,.int 4])),(48,(.int 255)),(49,(.fn 13)),(51,(.bi 8)),(53,(.fn 9)),(54,(.fn 10)),(56,(.int 100)),(60,(.int 4294967295)),(66,(.bi 4)),(71,(.fn 11)),(73,(.fn 18)),(76,(.fn 24)),(77,(.fn 17)),(78,(.fn 22)),(81,(.fn 8)),(83,(.fn 23)),(84,(.fn 19)),(87,(.fn 26)),(88,(.fn 20)),(89,(.fn 21)),(91,(.fn 25)),(95,(.tup [.str 96,.str 97])),(99,(.fn 16)),(102,(.int 4294967042)),(103,(.int 4294967041)),(104,(.int 4294967043)),(107,(.tup [.str 20,.str 21,.str 22])),(108,(.fn 15)),(109,(.fn 14)),(111,(.int 3)),(112,(.fn 29)),(113,(.fn 28)),(115,(.fn 32)),(116,(.fn 34)),(117,(.fn 35)),(118,(.fn 36)),(126,(.cls 0)),(128,(.fn 30)),(133,(.cls 1)),(136,(.fn 27)),(139,(.cls 2)),(143,(.fn 37)),(150,(.fn 59)),(176,(.fn 80)),(182,(.int 0)),(184,(.fd 0 [((.str 185),(.int 1)),((.str 186),(.int 2)),((.str 187),(.int 3))])),(188,(.fn 82)),(192,(.fn 83)),(193,(.int 1)),(194,(.int 2)),(197,(.cls 3)),(203,(.fn 84)),(207,(.tup [.str 19,.str 105])),(208,(.fn 85)),(209,(.fn 81)),(210,(.fn 86)),(212,(.bi 5)),(216,(.cls 4)),(217,(.fn 94)),(218,(.cls 5)),(220,(.fn 95)),(222,(.fn 93)),(228,(.fn 98)),(229,(.tup [.int 335544320,.int 8])),(236,(.fn 96)),(238,(.fn 97)),(239,(.fn 99)),(240,(.fn 101)),(241,(.fn 100))]
end
section
open PySem PySem.W PyProof.Rows PySem.Calls
theorem fq {α:Type} {x:Option α} {f:α→Bool} {P:Prop} (h:o1 x f=ac) (k :∀a,x=aa a→f a=ac→P):P:=by
 cases x with
 |none=>exact ff h
 |some a=>exact k a rfl h
theorem gP {α β:Type} {x:Option (α×β)} {f:α→β→Bool} {P:Prop} (h:o2 x f=ac) (k :∀a b,x=aa (a,b)→f a b=ac→P):P:=by
 cases x with
 |none=>exact ff h
 |some p=>exact k p.1 p.2 rfl h
theorem CG {P:Prop} {b:Bool} (h:b=ac) (z:b=ae):P:=ff (z.symm.trans h)
theorem UE {b x y:Bool} (h:bt b x y=ac):(b=ac∧x=ac)∨(b=ae∧y=ac):=by
 cases b with
 |true=>exact .inl ⟨rfl,h⟩
 |false=>exact .inr ⟨rfl,h⟩
theorem n_ {b x:Bool} (h:bt b x ae=ac):b=ac∧x=ac:=by
 rcases UE h with h|⟨_,h⟩
 ·exact h
 ·exact ff h
inductive Got {α:Type} (k:α→St→Bool) (J:α→St→Prop):Prop
 |mk (v:α) (S:St) (j:J v S) (e:k v S=ac)
theorem Got.on {α:Type} {k:α→St→Bool} {J:α→St→Prop} {P:Prop} (h:Got k J) (q :∀v S,J v S→k v S=ac→P):P:=h.rec q
theorem Got.imp {α:Type} {k:α→St→Bool} {J J':α→St→Prop} (h:Got k J) (q :∀v S,J v S→J' v S):Got k J':=h.rec fun v S j e=>⟨v,S,q v S j,e⟩
def SCl (cx:Cx) (n:Nat) (cl:Cl):Prop:=∀f args S k,cl f args S k=ac→(∀g x,VR cx g f x→mF cx x)∧Got k (JFc cx n f args S)
structure mC (cx:Cx) (n:Nat) (rc:Rc):Prop where
 om:nk cx rc.om
 cl:SCl cx n rc.cl
structure Gk (cx:Cx) (ms:Nat→List (Nat×Nat)) (atL:List Nat) (glL:List (Nat×AV)):Prop where
 O:COk cx
 cls :∀c,c<j4→ClsOk cx c
 at_ :∀c,c<j4→∀nm∈atL,yf cx c nm
 meth :∀c,c<j4→∀nm f,jS nm (ms c)=aa f→MethOk cx c nm f
 glb :∀p∈glL,z5 cx p.1 p.2
structure gb (cx:Cx) (vn:List Nat) (ns:List (Str×NameKind)) (E:Env→Prop):Prop where
 fok :∀env,E env→jw cx vn env
 kd :∀env,E env→∀x,env.kindOf x=ns.lookup x
def SG {α:Type} (E:Env→Prop) (J:Env→Fr→St→α→St→Prop) (m:Fr→St→(α→St→Bool)→Bool):Prop:=∀fr S k,m fr S k=ac→Got k fun v S'=>∀env,E env→J env fr S v S'
abbrev SE (cx:Cx) (n:Nat) (vn:List Nat) (E:Env→Prop) (a:Expr) (c:CE) (rc:Rc):Prop:=SG E (fun env=>JE cx n vn env a) (c rc)
abbrev ST (cx:Cx) (n:Nat) (vn:List Nat) (E:Env→Prop) (a:Expr) (c:CT) (rc:Rc):Prop:=SG E (fun env=>JT cx n vn env a) (c rc)
abbrev Pu (cx:Cx) (n:Nat) (vn:List Nat) (E:Env→Prop) (as:List Expr) (cs:List CE) (rc:Rc):Prop:=SG E (fun env=>JL cx n vn env as) (dU cs rc)
theorem SG.on {α:Type} {E:Env→Prop} {J:Env→Fr→St→α→St→Prop} {m:Fr→St→(α→St→Bool)→Bool} {P:Prop} (h:SG E J m) {fr:Fr} {S:St} {k:α→St→Bool} (e:m fr S k=ac) (q :∀v S',(∀env,E env→J env fr S v S')→k v S'=ac→P):P:=(h fr S k e).rec q
section
variable {cx:Cx} {n:Nat} {vn:List Nat} {ns:List (Str×NameKind)} {E:Env→Prop} {rc:Rc} {ms:Nat→List (Nat×Nat)} {atL:List Nat} {glL:List (Nat×AV)}
theorem SCl.on {cl:Cl} {P:Prop} (h:SCl cx n cl) {f:AV} {args:List AV} {S:St} {k:KV} (e:cl f args S k=ac) (q:(∀g x,VR cx g f x→mF cx x)→∀v S',JFc cx n f args S v S'→k v S'=ac→P):P:=(h f args S k e).2.rec (q (h f args S k e).1)
theorem qe (h :∀env fr S,E env→JE cx n vn env a fr S v S):SE cx n vn E a (aO v) rc:=fun fr S k e=>⟨v,S,fun env he=>h env fr S he,e⟩
theorem R2 {i x:Nat} {pos} (N:gb cx vn ns E) (hx:bc vn i=aa x):SE cx n vn E (.Name (sT x) pos) (aD i) rc:=fun fr S k e=>
 fq e fun o ho e=>by
  cases o with
  |none=>exact ff e
  |some v=>exact ⟨v,S,fun env he=>Tw (N.fok env he) hx ho,e⟩
theorem So {x:AV} (h:uo x=ae):∀k,x≠.opq k∧x≠.opa k:=fun k=>⟨fun e=>(by replace h:=e▸h;exact U3 h),fun e=>(by replace h:=e▸h;cases h)⟩
theorem EJ {v u:AV} {nm:Nat} {S S':St} {P:Prop} (h:xX v nm S=aa (u,S')) (q :∀j c fs,S.get j=aa (.inst c fs)→aF c j4=ac→im nm fs=aa u→uo u=ae→v=.loc j→S'=S→P):P:=
 ba h fun j ej h=>ba h fun o hj h=>CD h fun c fs eo h=>bQ h fun hc h=>ba h fun x hx h=>bQ h fun hr h=>Fk h fun h1 h2=>q j c fs (hj.trans (congrArg aa eo)) hc (h1▸hx) (h1▸nB hr) (g_ ej) h2.symm
theorem Mi {a:Expr} {c:CE} {nm:Nat} {pos} (G:Gk cx ms atL glL) (pb:bJ a=ac) (hn:nm<nS) (hm:nm∈atL) (h:SE cx n vn E a c rc):SE cx n vn E (.Attribute a (sT nm) pos) (gz c nm) rc:=fun fr S k e=>
 h.on e fun v S1 j1 e=>gP e fun u S2 h2 e=>⟨u,S2,fun env he=>EJ h2 fun j cc fs hj hc hx hr hv hS=>by
  subst hv hS;exact Nu G.O pb hn (j1 env he) hj hx (G.cls _ (aG.mp hc)) (G.at_ _ (aG.mp hc) nm hm) (So hr),e⟩
theorem RW:Pu cx n vn E [] [] rc:=fun fr S k e=>⟨[],S,fun env he=>Bh,e⟩
theorem Mc {a:Expr} {as:List Expr} {c:CE} {cs:List CE} (na:ix a=ac) (h:SE cx n vn E a c rc) (hs:Pu cx n vn E as cs rc):Pu cx n vn E (a::as) (c::cs) rc:=fun fr S k e=>
 h.on (k:=fun v S=>dU cs rc fr S fun vs S=>k (v::vs) S) e fun v S1 j1 e=>hs.on e fun vs S2 j2 e=>⟨v::vs,S2,fun env he=>C9 na (j1 env he) (j2 env he),e⟩
theorem UK (h:UM v S=aa (u,S')):JF cx n (.bi 5) [v] S u S':=fun A g s f xs R I rf rxs=>by
 unfold UM at h
 split at h
 ·rename_i i;apply xg h;apply b7 (eY rxs);intro y ry;refine ak (de ry) fun t q200=>?_;apply dW q200;erw[iZ rf];refine PyProof.Rows.call_abs_int fun u tk=>⟨g,.tok I tk,?_⟩
  have e:(if i<0 then -i else i)=aw i.natAbs:=by
   show _=((i.natAbs:Nat):Int)
   split<;>omega
  erw[e];exact .int _ _
 ·exact no h
theorem UL {j:Nat} {args:List AV} {S S':St} {v:AV} (O:COk cx) (h:E9 j args S=aa (v,S')):JF cx n (.bi j) args S v S':=by
 refine wP h fun x ex h=>?_;apply dW ex;apply qN h;exact ⟨fun h=>no h,fun h=>no h,fun h=>ba h fun r hr h=>by apply xg h;exact Ta O hr,fun h=>ba h fun p hp h=>ba h fun l hl h=>DZ (aZ:=p.2) O hp hl h,fun h=>SW O h,fun h=>UK h,
  fun h=>ba h fun p hp h=>M9 (aZ:=p.2) O hp h,fun h=>by
   unfold DG at h
   split at h
   ·rename_i p hp;exact bQ h fun k0 h=>Js O hp k0 h
   ·exact ba h fun l hl h=>ba h fun p hp h=>Jr O hl hp h,fun h=>ba h fun l hl h=>F_ O hl h,trivial⟩
noncomputable def Zi (v:Value):Bool:=match v with|.ref _=>ae|_=>ac
theorem Kj (k:Nat) (a:Addr):bV k≠.ref a:=fun z=>ff ((show (ae=Zi (bV k)) from z▸rfl).trans (Kk (by decide +kernel) k))
theorem Uw {f:AV} {args:List AV} {S:St} {k:KV} {P:Prop} (O:COk cx) (R:mC cx n rc) (e:YU rc f args S k=ac) (q:(∀g x,VR cx g f x→mF cx x)→∀v S',JF cx n f args S v S'→k v S'=ac→P):P:=by
 have other:rc.cl f args S k=ac→P:=fun e=>R.cl.on e fun h0 v S' h2 e=>q h0 v S' h2.jf e;cases f with
 |bi j=>exact gP (show o2 (E9 j args S) k=ac from e) fun v S' h1 e=>q (fun g x r=>by erw[iZ r];exact .inr fun a=>Kj j a) v S' (UL O h1) e
 |_=>exact other e
theorem Mh {as:List Expr} {c:CE} {cs:List CE} {pos} (G:Gk cx ms atL glL) (R:mC cx n rc) (na:dS g=ac) (nst:cO as=ac) (h:SE cx n vn E g c rc) (hs:Pu cx n vn E as cs rc):SE cx n vn E (.Call g as [] pos) (bw c cs) rc:=fun fr S k e=>
 h.on e fun f S1 j1 e=>hs.on e fun vs S2 j2 e=>Uw G.O R e fun kf v S3 jf e=>⟨v,S3,fun env he=>Nr G.O na nst (j1 env he) kf (j2 env he) jf,e⟩
theorem Ha {nm:Nat} {fs:List (Nat×AV)} (h:t_ nm fs=ac):im nm fs=aj:=by
 unfold t_ at h;cases q:im nm fs with
 |none=>rfl
 |some x=>replace h:=q▸h;exact ff h
theorem Mf {o:Expr} {as:List Expr} {c:CE} {cs:List CE} {nm:Nat} {d9 pos:Pos} (G:Gk cx rc.ms atL glL) (R:mC cx n rc) (pb:bJ o=ac) (nst:cO as=ac) (few:as.length<30) (cE:(d9.endLine==pos.line)=ac) (hn:nm<nS)
 (h:SE cx n vn E o c rc) (hs:Pu cx n vn E as cs rc):SE cx n vn E (.Call (.Attribute o (sT nm) d9) as [] pos) (cT c nm cs) rc:=fun fr S k e=>by
 refine h.on e fun ov S1 j1 e=>?_;cases ov with
 |cls cc=>
  obtain ⟨hc,e⟩:=n_ (show bt (aF cc j4) (o1 (jS nm (rc.ms cc)) fun f=>dU cs rc fr S1 fun vs S=>rc.cl (.fn f) vs S k) ae=ac from e);exact fq e fun f hf e=>hs.on e fun vs S2 j2 e=>R.cl.on e fun g v S3 jf e=>⟨v,S3,fun env he=>HZ G.O pb nst few cE (j1 env he) (G.cls _ (aG.mp hc)) (G.meth _ (aG.mp hc) nm f hf) (j2 env he) jf.jf,e⟩
 |loc j=>
  refine fq (show o1 (S1.get j) (Ql rc nm cs j fr S1 k)=ac from e) fun o' hj e=>?_;cases o' with
  |inst cc fs=>
   obtain ⟨hc,e⟩:=n_ (show bt (aF cc j4) (bt (t_ nm fs) (o1 (jS nm (rc.ms cc)) fun f=>dU cs rc fr S1 fun vs S=>rc.cl (.fn f) (.loc j::vs) S k) ae) ae=ac from e);obtain ⟨hq,e⟩:=n_ e;exact fq e fun f hf e=>hs.on e fun vs S2 j2 e=>R.cl.on e fun g v S3 jf e=>⟨v,S3,fun env he=>HW G.O pb nst few cE hn (j1 env he) hj (Ha hq) (G.cls _ (aG.mp hc)) (G.meth _ (aG.mp hc) nm f hf) (j2 env he) jf.jf,e⟩
  |dict r d l=>exact hs.on (k:=fun vs S=>o2 (wC j nm vs S) k) e fun vs S2 j2 e=>gP e fun v S3 h3 e=>⟨v,S3,fun env he=>HY G.O pb nst few cE (j1 env he) hj (j2 env he) h3,e⟩
  |list r a l b=>exact hs.on (k:=fun vs S=>o2 (ub j nm vs S) k) e fun vs S2 j2 e=>gP e fun v S3 h3 e=>⟨v,S3,fun env he=>HV G.O pb nst few cE (j1 env he) hj (j2 env he) h3,e⟩
 |fd d l=>exact hs.on (k:=fun vs S=>o2 (CO d l nm vs S) k) e fun vs S2 j2 e=>gP e fun v S3 h3 e=>⟨v,S3,fun env he=>HX G.O pb nst few cE (j1 env he) (j2 env he) h3,e⟩
 |_=>exact ff e
theorem Sd {a b:Expr} {ca cb:CE} {op:Nat} {o:qJ} {pos} (ho:MJ op=o) (ha:SE cx n vn E a ca rc) (hb:SE cx n vn E b cb rc):SE cx n vn E (.BinOp a o b pos) (gI op ca cb) rc:=fun fr S k e=>by
 subst ho;exact ha.on e fun x S1 j1 e=>hb.on e fun y S2 j2 e=>gP e fun v S3 h3 e=>⟨v,S3,fun env he=>TJ (j1 env he) (j2 env he) (Ps h3),e⟩
theorem JW {a b:Expr} {ca cb:CE} {op:Nat} {fr:Fr} {S:St} {k:Bool→St→Bool} {P:Prop} (O:COk cx) (R:mC cx n rc) (h10:op<10) (ha:SE cx n vn E a ca rc) (hb:SE cx n vn E b cb rc) (e:d7 op ca cb rc fr S k=ac)
 (q :∀r x y S1 S2,(∀env,E env→JE cx n vn env a fr S x S1)→(∀env,E env→JE cx n vn env b fr S1 y S2)→JC cx n (uH op) x y S2 r→k r S2=ac→P):P:=
 ha.on e fun x S1 j1 e=>hb.on e fun y S2 j2 e=>fq e fun r h3 e=>q r x y S1 S2 j1 j2 (Pq O R.om h10 h3) e
theorem RH {a b:Expr} {ca cb:CE} {op:Nat} {o:B4} {pos} (O:COk cx) (R:mC cx n rc) (h10:op<10) (ho:uH op=o) (hm:mJ o b=ae) (ha:SE cx n vn E a ca rc) (hb:SE cx n vn E b cb rc):ST cx n vn E (.Compare a [o] [b] pos) (d7 op ca cb) rc:=fun fr S k e=>by
 subst ho;exact JW O R h10 ha hb e fun r x y S1 S2 j1 j2 h3 e=>⟨r,S2,fun env he=>Tt (j1 env he) (j2 env he) h3 hm,e⟩
theorem Sc {a b:Expr} {ca cb:CE} {op:Nat} {o:B4} {pos} (O:COk cx) (R:mC cx n rc) (h10:op<10) (ho:uH op=o) (hm:mJ o b=ae) (ha:SE cx n vn E a ca rc) (hb:SE cx n vn E b cb rc):SE cx n vn E (.Compare a [o] [b] pos) (zy op ca cb) rc:=fun fr S k e=>by
 subst ho;exact JW O R h10 ha hb e fun r x y S1 S2 j1 j2 h3 e=>⟨.bool r,S2,fun env he=>TH (j1 env he) (j2 env he) h3 hm,e⟩
theorem R6 {a:Expr} {c:CE} {pos} (h:SE cx n vn E a c rc):SE cx n vn E (.UnaryOp .Not a pos) (XO c) rc:=fun fr S k e=>
 h.on e fun v S1 j1 e=>fq e fun r h2 e=>⟨.bool (!r),S1,fun env he=>TC (j1 env he) h2,e⟩
theorem RF {a:Expr} {c:CT} {pos} (h:ST cx n vn E a c rc):ST cx n vn E (.UnaryOp .Not a pos) (vL c) rc:=fun fr S k e=>
 h.on e fun r S1 j1 e=>⟨!r,S1,fun env he=>Ts (j1 env he),e⟩
theorem RB {a:Expr} {c:CE} (he :∀env,isTrue a env (dm a env)=(do let v ← dm a env;l3 a.pos;fu [v] (yh v))) (h:SE cx n vn E a c rc):ST cx n vn E a (lP c) rc:=fun fr S k e=>
 h.on e fun v S1 j1 e=>fq e fun r h2 e=>⟨r,S1,fun env hE=>Tr (j1 env hE) h2 (he env),e⟩
theorem nL {P:Prop} (h:bt b x y=ac) (q1:b=ac→x=ac→P) (q2:b=ae→y=ac→P):P:=by
 cases b with
 |true=>exact q1 rfl h
 |false=>exact q2 rfl h
theorem R9 {c a b:Expr} {cc:CT} {ca cb:CE} {pos} (hc:ST cx n vn E c cc rc) (ha:SE cx n vn E a ca rc) (hb:SE cx n vn E b cb rc):SE cx n vn E (.IfExp c a b pos) (By cc ca cb) rc:=fun fr S k e=>
 hc.on e fun r S1 j1 e=>nL e
  (fun hr e=>ha.on e fun v S2 j2 e=>⟨v,S2,fun env he=>H5 (j1 env he) (fun d=>j2 env he) (fun z=>CG hr z),e⟩)
  (fun hr e=>hb.on e fun v S2 j2 e=>⟨v,S2,fun env he=>H5 (j1 env he) (fun z=>CG z hr) (fun d=>j2 env he),e⟩)
theorem RG {c a b:Expr} {cc ca cb:CT} {pos} (hc:ST cx n vn E c cc rc) (ha:ST cx n vn E a ca rc) (hb:ST cx n vn E b cb rc):ST cx n vn E (.IfExp c a b pos) (Wa cc ca cb) rc:=fun fr S k e=>
 hc.on e fun r S1 j1 e=>nL e
  (fun hr e=>ha.on e fun v S2 j2 e=>⟨v,S2,fun env he=>HT (j1 env he) (fun d=>j2 env he) (fun z=>CG hr z),e⟩)
  (fun hr e=>hb.on e fun v S2 j2 e=>⟨v,S2,fun env he=>HT (j1 env he) (fun z=>CG z hr) (fun d=>j2 env he),e⟩)
theorem R3 {as:List Expr} {cs:List CE} {k0 pos} (hs:Pu cx n vn E as cs rc):SE cx n vn E (.Tuple as k0 pos) (vW cs) rc:=fun fr S k e=>
 hs.on e fun vs S1 j1 e=>gP e fun v S2 h2 e=>⟨v,S2,fun env he=>Tx (j1 env he) h2,e⟩
theorem R8 {as:List Expr} {cs:List CE} {pos} (hs:Pu cx n vn E as cs rc):SE cx n vn E (.List as pos) (n9 cs) rc:=fun fr S k e=>
 hs.on e fun vs S1 j1 e=>gP e fun v S2 h2 e=>⟨v,S2,fun env he=>TD (j1 env he) h2,e⟩
theorem R4 {a i:Expr} {ca ci:CE} {pos} (O:COk cx) (ha:SE cx n vn E a ca rc) (hi:SE cx n vn E i ci rc):SE cx n vn E (.Subscript a i pos) (cX ca ci) rc:=fun fr S k e=>
 ha.on e fun x S1 j1 e=>hi.on e fun y S2 j2 e=>fq e fun v h3 e=>⟨v,S2,fun env he=>Tz O (j1 env he) (j2 env he) h3,e⟩
theorem R5 {a:Expr} {l u:Option Expr} {ca:CE} {lo:Nat} {hi:Option Nat} {pos pos'} (O:COk cx) (hl:UP lo l) (hu:UO hi u) (ha:SE cx n vn E a ca rc):SE cx n vn E (.Subscript a (.Slice l u aj pos') pos) (Jn ca lo hi) rc:=fun fr S k e=>
 ha.on e fun x S1 j1 e=>gP e fun v S2 h2 e=>⟨v,S2,fun env he=>TB O (j1 env he) hl hu h2,e⟩
theorem D3 {fe a:Expr} {c:CE} {d9 pos pos2} (G:Gk cx ms atL glL) (na:dS fe=ac) (pb:bJ a=ac) (cE:(d9.endLine==pos2.line)=ac) (hf :∀env fr S,E env→JE cx n vn env fe fr S (.bi 6) S) (h:SE cx n vn E a c rc):SE cx n vn E (.Call fe [.Call (.Attribute a (sT 2) d9) [] [] pos2] [] pos) (Do c) rc:=fun fr S k e=>
 h.on e fun v S1 j1 e=>gP e fun u S2 h2 e=>⟨u,S2,fun env he=>Ez G.O na pb cE (hf env fr S he) (j1 env he) h2,e⟩
theorem D4 {a b:Expr} {ca cb:CE} {d9 pos pos2} (O:COk cx) (pb:bJ b=ac) (cE:(d9.endLine==pos2.line)=ac) (ha:SE cx n vn E a ca rc) (hb:SE cx n vn E b cb rc):SE cx n vn E (.Compare a [.In] [.Call (.Attribute b (sT 3) d9) [] [] pos2] pos) (xZ ca cb) rc:=fun fr S k e=>
 ha.on e fun x S1 j1 e=>hb.on e fun v S2 j2 e=>gP e fun u S3 h3 e=>⟨u,S3,fun env he=>EA O pb cE (j1 env he) (j2 env he) h3,e⟩
theorem DW {a b:Expr} {ca cb:CE} {d9 pos pos2} (O:COk cx) (pb:bJ b=ac) (cE:(d9.endLine==pos2.line)=ac) (ha:SE cx n vn E a ca rc) (hb:SE cx n vn E b cb rc):ST cx n vn E (.Compare a [.In] [.Call (.Attribute b (sT 3) d9) [] [] pos2] pos) (Cn ca cb) rc:=fun fr S k e=>
 ha.on e fun x S1 j1 e=>hb.on e fun v S2 j2 e=>gP e fun u S3 h3 e=>by
  cases u with
  |bool r=>exact ⟨r,S3,fun env he=>Ey O pb cE (j1 env he) (j2 env he) h3,e⟩
  |_=>exact ff e
end
section
variable {cx:Cx} {n:Nat} {vn:List Nat} {ns:List (Str×NameKind)} {E:Env→Prop} {rc:Rc} {ms:Nat→List (Nat×Nat)} {atL:List Nat} {glL:List (Nat×AV)}
abbrev SO (cx:Cx) (n:Nat) (vn:List Nat) (E:Env→Prop) (op:B5) (es:List Expr) (c:CE) (rc:Rc):Prop:=SG E (fun env=>JO cx n vn env op es) (c rc)
abbrev SA (cx:Cx) (n:Nat) (vn:List Nat) (E:Env→Prop) (op:B5) (es:List Expr) (c:CT) (rc:Rc):Prop:=SG E (fun env=>JA cx n vn env op es) (c rc)
theorem GA (h:SE cx n vn E a c rc):SO cx n vn E op [a] c rc:=fun fr S k e=>
 h.on e fun v S1 j1 e=>⟨v,S1,fun env he=>Tv (j1 env he),e⟩
theorem RP (h:SE cx n vn E a c rc) (hs:SO cx n vn E .And (a'::as) (zz (c'::cs)) rc):SO cx n vn E .And (a::a'::as) (zz (c::c'::cs)) rc:=fun fr S k e=>
 h.on (k:=fun v S=>o1 (EH v) fun r=>bt r (zz (c'::cs) rc fr S k) (k v S)) e fun u S1 j1 e=>fq e fun r hr e=>nL e
  (fun q e=>hs.on e fun v S2 j2 e=>⟨v,S2,fun env he=>HU (j1 env he) hr (fun b=>j2 env he) (fun z=>CG q z),e⟩)
  (fun q e=>⟨u,S1,fun env he=>HU (j1 env he) hr (fun z=>CG z q) (fun b=>⟨rfl,rfl⟩),e⟩)
theorem Wo (h:SE cx n vn E a c rc) (hs:SO cx n vn E .Or (a'::as) (XN (c'::cs)) rc):SO cx n vn E .Or (a::a'::as) (XN (c::c'::cs)) rc:=fun fr S k e=>
 h.on (k:=fun v S=>o1 (EH v) fun r=>bt r (k v S) (XN (c'::cs) rc fr S k)) e fun u S1 j1 e=>fq e fun r hr e=>nL e
  (fun q e=>⟨u,S1,fun env he=>Qw (j1 env he) hr (fun z=>CG q z) (fun b=>⟨rfl,rfl⟩),e⟩)
  (fun q e=>hs.on e fun v S2 j2 e=>⟨v,S2,fun env he=>Qw (j1 env he) hr (fun b=>j2 env he) (fun z=>CG z q),e⟩)
theorem GG {pos} (h:SO cx n vn E op es c rc):SE cx n vn E (.BoolOp op es pos) c rc:=fun fr S k e=>
 h.on e fun v S1 j1 e=>⟨v,S1,fun env he=>TI (j1 env he),e⟩
theorem Az:SA cx n vn E .And [] (eO []) rc:=fun fr S k e=>⟨ac,S,fun env he=>Bg,e⟩
theorem D6:SA cx n vn E .Or [] (Go []) rc:=fun fr S k e=>⟨ae,S,fun env he=>Ex,e⟩
theorem Se (h:ST cx n vn E a c rc) (hs:SA cx n vn E .And as (eO cs) rc):SA cx n vn E .And (a::as) (eO (c::cs)) rc:=fun fr S k e=>
 h.on (k:=fun r S=>bt r (eO cs rc fr S k) (k ae S)) e fun r S1 j1 e=>nL e
  (fun q e=>hs.on e fun v S2 j2 e=>⟨v,S2,fun env he=>H6 (j1 env he) (fun b=>j2 env he) (fun z=>CG q z),e⟩)
  (fun q e=>⟨ae,S1,fun env he=>H6 (j1 env he) (fun z=>CG z q) (fun b=>⟨rfl,rfl⟩),e⟩)
theorem Ws (h:ST cx n vn E a c rc) (hs:SA cx n vn E .Or as (Go cs) rc):SA cx n vn E .Or (a::as) (Go (c::cs)) rc:=fun fr S k e=>
 h.on (k:=fun r S=>bt r (k ac S) (Go cs rc fr S k)) e fun r S1 j1 e=>nL e
  (fun q e=>⟨ac,S1,fun env he=>Qz (j1 env he) (fun z=>CG q z) (fun b=>⟨rfl,rfl⟩),e⟩)
  (fun q e=>hs.on e fun v S2 j2 e=>⟨v,S2,fun env he=>Qz (j1 env he) (fun b=>j2 env he) (fun z=>CG z q),e⟩)
theorem Gs {pos} (h:SA cx n vn E op es c rc):ST cx n vn E (.BoolOp op es pos) c rc:=fun fr S k e=>
 h.on e fun v S1 j1 e=>⟨v,S1,fun env he=>Nn (j1 env he),e⟩
theorem R7 {k0 pos pos'}:SE cx n vn E (.UnaryOp .USub (.Constant (.int i) k0 pos) pos') (aO (.int (-i))) rc:=
 qe fun env fr S he A g s R H=>UnaryOp_ (lC (PyProof.Rows.neg_int ⟨g,.tok H.inv _,.int _ _⟩))
noncomputable def Y_ (l:List (AV×AV)):List AV:=l.map fun p=>.tup [p.1,p.2]
def SP (cx:Cx) (n:Nat) (vn:List Nat) (E:Env→Prop) (ks vs:List Expr) (cs:List (CE×CE)) (rc:Rc):Prop:=
 ∀fr S k,Bw cs rc fr S k=ac→Got (fun l S=>k (Y_ l) S) fun l S'=>∀env,E env→JP cx n vn env ks vs fr S l S'
theorem RO:SP cx n vn E [] [] [] rc:=fun fr S k e=>⟨[],S,fun env he=>Tu,e⟩
theorem Ma {a b:Expr} {ks vs:List Expr} {ca cb:CE} {cs:List (CE×CE)} (ha:SE cx n vn E a ca rc) (hb:SE cx n vn E b cb rc) (hs:SP cx n vn E ks vs cs rc):SP cx n vn E (a::ks) (b::vs) ((ca,cb)::cs) rc:=fun fr S k e=>
 ha.on (k:=fun kv S=>cb rc fr S fun vv S=>Bw cs rc fr S fun l S=>k (.tup [kv,vv]::l) S) e fun kv S1 j1 e=>hb.on e fun vv S2 j2 e=>(hs fr S2 _ e).rec fun l S3 j3 e=>⟨(kv,vv)::l,S3,fun env he=>No (j1 env he) (j2 env he) (j3 env he),e⟩
theorem Mg {pos} (O:COk cx):SE cx n vn E (.Dict [] [] pos) (ER []) rc:=fun fr S k e=>
 gP (show o2 (nh 9 [] S) k=ac from e) fun v S2 h2 e=>⟨v,S2,fun env he=>Nq O h2,e⟩
theorem R_ {pos} (O:COk cx) (hl:ks.length=vs.length) (h15:ks.length<15) (h:SP cx n vn E (a::ks) (b::vs) cs rc):SE cx n vn E (.Dict ((a::ks).map aa) (b::vs) pos) (ER cs) rc:=fun fr S k e=>
 (h fr S (fun l S=>o1 (iD l 9 []) fun p=>o2 (nh p.1 p.2 S) k) e).rec fun l S1 j1 e=>fq e fun p hp e=>gP e fun v S2 h2 e=>⟨v,S2,fun env he=>TG O hl h15 (j1 env he) hp h2,e⟩
end
section
variable {cx:Cx} {n:Nat} {vn:List Nat} {ns:List (Str×NameKind)} {E:Env→Prop} {rc:Rc} {ms:Nat→List (Nat×Nat)} {atL:List Nat} {glL:List (Nat×AV)}
theorem yQ {E:Value→av→Prop} {Q:Unit→av→Prop} (ho:s.heap.get? l=aa {cls:=.type "list",data:=.seq items m})
 (h0:0≤k) (hfit:k<2 ^ 63) (hn:k<items.size)
 (hQ:Q () {s with heap:=s.heap.update l (kc (·.setIfInBounds k.toNat v))}):
 aA cx.mo A (Ae (.ref l) (.int k t) v) Q E s:=by
 have hl:s.heap.IsList l items:=⟨_,ho,rfl,m,rfl⟩
 unfold Ae
 try with_reducible refine aQ ?_
 first|refine ag (aq ?_)|skip
 refine ag (v6 hl.typeIs (by decide) ?_);refine ag (eV (name:=iE "__setitem__") hl.typeIs Vn
  (bR Vn hl.typeIs entry_list_setitem ?_ (args_list_setitem _ _ _)))
 show aA _ _ (Builtin.List.listSubscript? (.int k t) >>= _) _ _ s;refine ag (wpAny_listSubscript_int (fitsIndex_of h0 hfit) ?_)
 clear hfit
 obtain ⟨j,rfl⟩:=Ao h0;have hj:j<items.size:=by omega
 have hx':items[j]? = aa items[j]:=Array.getElem?_eq_getElem hj;show aA _ _ ((seqItemAt l j >>= fun r=>cR (r.map (j,·))) >>= _) _ _ s;refine ag (ag (wpAny_seqItemAt ho rfl (aq ?_)));erw[hx'];show aA _ _ (setSeqItemAt l j v >>= _) _ _ s;refine ag (wpAny_setSeqItemAt ho rfl ?_)
 first
  |exact ag (aq (aq ⟨.none,rfl,aq hQ⟩))
  |exact aq ⟨.none,rfl,aq hQ⟩
theorem LD (ry:VR cx g v y) (k:Nat) (h:VRs cx g l xs):VRs cx g (dT l k v) (xs.set k y):=
 VRs.ind (M:=fun l xs=>∀k,VRs cx g (dT l k v) (xs.set k y)) (fun a=>.nil) (fun a a a a r rs ih k=>k.casesOn (.cons ry rs) fun k=>.cons r (ih k)) l h k
theorem Ks (O:COk cx) (h:w7 o i v S=aa S'):JI cx n o i v S S':=fun A g s ov iv vv R I ro ri rv=>by
 refine ba h fun j ej h=>ba h fun ob hj h=>?_;have ro:=g_ ej▸ro;cases ob with
 |inst c fs=>exact no h
 |list rw_ ii l post=>
  refine bQ h fun k0 h=>ut h fun k1 h=>ut h fun k2 h=>ba h fun z ez h=>?_;have hj:S.get j=aa (.list ae aj l aj):=by exact au hj▸au (nB k0)▸au k1▸au k2▸rfl
  cases z with
  |negSucc _=>exact no h
  |ofNat k=>
   refine bQ h fun hk h=>?_;refine aK (fun hz q101=>?_) (qf h);apply dW q101;refine lG (mU I hj ro) fun a q200 ra h20=>?_;refine pT h20 fun vs m ho rs=>?_;apply dW q200;have hkl:k<l.length:=by have:=aG.mp hk;rwa [cC] at this
   have hsz:vs.size=l.length:=by refine aC▸?_;exact rs.length
   have hzl:l.length≤1000:=by rwa [ug] at hz
   refine VR.vw (cP ez▸ri:VR cx g (.int (.ofNat k)) iv) (Q:=fun z=>aA _ _ (Ae _ z _) _ _ _) fun t=>?_;refine yQ ho (eX k) (by show ((k:Nat):Int)<2 ^ 63;omega) (by show ((k:Nat):Int)<_;omega) ?_;refine ak (mM ho (·.setIfInBounds k vv)) fun m' e1=>?_;exact ⟨g,⟨⟨_,_,rfl⟩,oY (mid:=vs.toList.set k vv) I hj ra (bT ..) e1 (by simp [fo]) (LD rv k rs)⟩⟩
 |dict rw_ d l=>
  refine bQ h fun k0 h=>bQ h fun hk h=>?_;refine aK (fun hz q401=>?_) (wv h);apply dW q401;apply wi (iM O I hj ro);intro a ra D;refine xy I.fz R hk ri rv D (aB mW hz) fun h' tk hs D'=>?_;exact ⟨g,⟨⟨_,_,rfl⟩,t8 I (nB k0▸hj) ra hs D'⟩⟩
end
section
variable {cx:Cx} {n:Nat} {vn:List Nat} {ns:List (Str×NameKind)} {E:Env→Prop} {rc:Rc} {ms:Nat→List (Nat×Nat)} {atL:List Nat} {glL:List (Nat×AV)}
noncomputable def GM (ns names:List (Str×NameKind)):List (Str×NameKind):=names.map fun p=>if p.2==bL&&ns.lookup p.1==aa .cell then (p.1,cU) else p
def DK (cx:Cx) (E:Env→Prop) (vn':List Nat) (scope:Scope):Env→Prop:=fun env'=>∃env C,E env∧env'=bh scope (dG env scope C) C env∧jw cx vn' env'
theorem n8 (N:gb cx vn ns E):gb cx vn' (GM ns scope.names) (DK cx E vn' scope):=by
 refine ⟨fun env' ⟨env,C,he,e,F⟩ =>F,fun env' ⟨env,C,he,e,F⟩ x=>?_⟩;apply dW e;show (scope.names.map fun (n,k)=>if (k==bL&&env.scope.kind==.function&&env.kindOf n==aa .cell) then (n,cU) else (n,k)).lookup x=_;have fe:(fun (p:Str×NameKind)=>match p with|(n,k)=>if (k==bL&&env.scope.kind==.function&&env.kindOf n==aa .cell) then (n,cU) else (n,k))=fun p=>if p.2==bL&&ns.lookup p.1==aa .cell then (p.1,cU) else p:=funext fun p=>by
  obtain ⟨a,k⟩:=p;dsimp only;erw[N.kd env he a,(N.fok env he).kind];simp
 erw[fe];rfl
abbrev KE (cx:Cx) (n:Nat) (vn:List Nat) (E:Env→Prop) (ifs:List Expr) (c:CT) (rc:Rc):Prop:=SG E (fun env=>Q0 cx n vn env ifs) (c rc)
theorem L4:KE cx n vn E [] (eO []) rc:=fun fr S k e=>⟨ac,S,fun env he=>Nl,e⟩
theorem Gq (h:ST cx n vn E a c rc) (hs:KE cx n vn E as (eO cs) rc):KE cx n vn E (a::as) (eO (c::cs)) rc:=fun fr S k e=>
 h.on (k:=fun r S=>bt r (eO cs rc fr S k) (k ae S)) e fun r S1 j1 e=>nL e
  (fun q e=>hs.on e fun v S2 j2 e=>⟨v,S2,fun env he=>Nm (q▸j1 env he) (j2 env he),e⟩)
  (fun q e=>⟨ae,S1,fun env he=>HS (q▸j1 env he),e⟩)
inductive GotS (k:St→Bool) (J:St→Prop):Prop
 |mk (S:St) (j:J S) (e:k S=ac)
theorem GotS.on {J:St→Prop} {P:Prop} (h:GotS k J) (q :∀S,J S→k S=ac→P):P:=h.rec q
def SM (cx:Cx) (n:Nat) (vn:List Nat) (E:Env→Prop) (j:Nat) (emit:Env→Addr→Sem Unit) (f:Fr→St→(St→Bool)→Bool):Prop:=
 ∀fr S k,f fr S k=ac→GotS k fun S'=>∀env,E env→JM cx n vn env j (emit env) fr S S'
theorem HB {P:Prop} (e:o_ j v S k=ac) (q :∀l S',S.get j=aa (.list ae .none l .none)→rK j .none (dL l [v]) .none S=aa S'→k S'=ac→P):P:=by
 unfold o_ at e
 split at e
 ·rename_i l hj;exact fq e fun S2 h2 e=>q l S2 hj h2 e
 ·exact ff e
theorem JG {P:Prop} (e:Du j kv vv S k=ac) (q :∀d l S',S.get j=aa (.dict ae d l)→pe d kv=ac→sm l=ac→putD j (kd kv) (lz kv vv l) S=aa S'→k S'=ac→P):P:=by
 unfold Du at e
 split at e
 ·rename_i d l hj;refine aK (fun hk e=>?_) (n_ e);refine aK (fun hz e=>?_) (n_ e);exact fq e fun S2 h2 e=>q d l S2 hj hk hz h2 e
 ·exact ff e
theorem P3 (O:COk cx) (h:SE cx n vn E elt c rc):SM cx n vn E j (fun env=>wT elt env) (za c rc j):=fun fr S k e=>
 h.on (k:=fun v S=>o_ j v S k) e fun v S1 j1 e=>HB e fun l S2 hj h2 e=>⟨S2,fun env he=>Xn O (j1 env he) hj (show (ob (rK j .none (dL l [v]) .none S1) fun S=>aa (AV.none,S))=_ by erw[h2];rfl),e⟩
theorem P4 (O:COk cx) (h1:SE cx n vn E kx c1 rc) (h2:SE cx n vn E vx c2 rc):SM cx n vn E j (fun env=>wU kx vx env) (dcK c1 c2 rc j):=fun fr S k e=>
 h1.on (k:=fun kv S=>c2 rc fr S fun vv S=>Du j kv vv S k) e fun kv S1 j1 e=>h2.on e fun vv S2 j2 e=>JG e fun d l S3 hj hk hz h3 e=>⟨S3,fun env he=>Xo O (j1 env he) (j2 env he) hj hk (i7 hz) (wv h3).2,e⟩
theorem JS (hc:KE cx n vn E ifs c rc) (hf:SM cx n vn E j emit f) (l:List AV):
 ∀fr S,ik rc bm one c f k l fr S=ac→GotS k fun S'=>∀env,E env→Lc cx n vn env bm one ifs j (emit env) l fr S S':=by
 induction l with
 |nil=>exact fun fr S e=>⟨S,fun env he=>⟨rfl⟩,e⟩
 |cons x l ih=>exact fun fr S e=>fq (show o1 (eI bm one x fr) (fun fr=>c rc fr S fun r S=>bt r (f fr S fun S=>ik rc bm one c f k l fr S) (ik rc bm one c f k l fr S))=ac from e) fun dC hb e=>hc.on e fun r S1 j1 e=>nL e (fun q e=>(hf dC S1 _ e).on fun S2 j2 e=>(ih dC S2 e).on fun S3 j3 e=>⟨S3,fun env he=>Vi.hit hb (q▸j1 env he) (j2 env he) (j3 env he),e⟩) (fun q e=>(ih dC S1 e).on fun S3 j3 e=>⟨S3,fun env he=>Vi.miss hb (q▸j1 env he) (j3 env he),e⟩)
def ye (cx:Cx) (n:Nat) (vn:List Nat) (E:Env→Prop) (iter target:Expr) (bm:List Nat) (one:Bool) (src:Nat) (it:List CE) (rc:Rc):Prop:=
 ∀fr S (k:List AV→Option Nat→St→Bool),(dU it rc fr S fun vs S=>o2 (xw src vs S) fun l h=>k l h S)=ac→
  Got (α:=List AV×Option Nat) (fun p S=>k p.1 p.2 S) fun p S1=>∀env,E env→uU cx n vn env iter target bm one fr S p.1 p.2 S1
theorem Gu (O:COk cx) (h:SE cx n vn E iter c rc):ye cx n vn E iter target bm one 0 [c] rc:=fun fr S k e=>
 h.on (k:=fun v S=>o2 (dX v S) fun l h=>k l h S) e fun v S1 j1 e=>gP e fun items aZ h2 e=>⟨(items,aZ),S1,fun env he=>JR O (j1 env he) h2,e⟩
theorem Co {P:Prop} (h:Ax [v] S=aa (items,aZ)) (q :∀j ro l,S.get j=aa (.list ro .none l .none)→v=.loc j→items=rn 0 l→aZ=aa j→P):P:=by
 unfold Ax at h
 split at h
 ·rename_i j e
  split at h
  ·rename_i ro l hj;refine Fk h fun qc130 qc131=>?_;subst qc130;subst qc131;exact q j _ l hj (jO e).1 rfl rfl
  ·exact no h
 ·exact no h
theorem DX (O:COk cx) (na:dS e=ac) (nst:ix arg=ac) (hn :∀env fr S,E env→JE cx n vn env e fr S (.bi 0) S) (h:SE cx n vn E arg c rc):ye cx n vn E (.Call e [arg] [] pos) target bm ae 1 [c] rc:=fun fr S k e1=>
 h.on (k:=fun v S=>o2 (Ax [v] S) fun l h=>k l h S) e1 fun v S1 j1 e1=>gP e1 fun items aZ h2 e1=>⟨(items,aZ),S1,fun env he=>Co h2 fun j ro l hj hv hi hh=>by
  subst hv hi hh;exact EY O na nst (hn env fr S he) (j1 env he) hj,e1⟩
def qz (cx:Cx) (vn:List Nat) (E:Env→Prop) (scope:Scope) (own aJ:List Nat):Prop:=∀env,E env→iU vn env scope own aJ
theorem mZ {P:Prop}
 (hs:ye cx n vn E iter target bm one src it rc) (hc:KE cx n (own++bY vn aJ) (DK cx E (own++bY vn aJ) scope) ifsE ifs rc)
 (hf :∀j,SM cx n (own++bY vn aJ) (DK cx E (own++bY vn aJ) scope) j emit (f rc j)) (e:JV bm one src it ifs own.length aJ acc f rc fr S k=ac)
 (q :∀items aZ S1 SL,(∀env,E env→uU cx n vn env iter target bm one fr S items aZ S1)→
  (∀env,E env→∀C,jw cx (own++bY vn aJ) (bh scope (dG env scope C) C env)→Lc cx n (own++bY vn aJ) (bh scope (dG env scope C) C env) bm one ifsE S1.nx (emit (bh scope (dG env scope C) C env)) items (dL (d4 own.length) (eB aJ fr)) ((cL aZ S1).new acc) SL)→
  k (.loc S1.nx) (bG aZ (dy aZ S1) SL)=ac→P):P:=
 (hs fr S (fun l h S=>ik rc bm one ifs (f rc S.nx) (fun S'=>k (.loc S.nx) (bG h (dy h S) S')) l (dL (d4 own.length) (eB aJ fr)) ((cL h S).new acc)) e).on fun p S1 j1 e=>
  (JS hc (hf S1.nx) p.1 _ _ e).on fun SL j2 e=>q p.1 p.2 S1 SL j1 (fun env he C F=>j2 _ ⟨env,C,he,rfl,F⟩) e
theorem Wq {pos} (G:COk cx) (N:gb cx vn ns E) (K:qz cx vn E scope own aJ) (T:zY (own++bY vn aJ) own.length bm one target) (nset:ft iter=ac)
 (hs:ye cx n vn E iter target bm one src it rc) (hc:KE cx n (own++bY vn aJ) (DK cx E (own++bY vn aJ) scope) ifsE (eO ifs) rc) (h:SE cx n (own++bY vn aJ) (DK cx E (own++bY vn aJ) scope) elt c rc):
 SE cx n vn E (.ListComp elt [⟨target,iter,ifsE,0⟩] scope pos) (xY c bm one src it ifs own.length aJ) rc:=fun fr S k e=>
 mZ hs hc (fun j=>P3 G h) e fun items aZ S1 SL j1 j2 e=>⟨_,_,fun env he=>Qx G (N.fok env he) (K env he) T nset (j1 env he) (j2 env he),e⟩
theorem Wr {pos} (G:COk cx) (N:gb cx vn ns E) (K:qz cx vn E scope own aJ) (T:zY (own++bY vn aJ) own.length bm one target) (nset:ft iter=ac)
 (hs:ye cx n vn E iter target bm one src it rc) (hc:KE cx n (own++bY vn aJ) (DK cx E (own++bY vn aJ) scope) ifsE (eO ifs) rc) (h1:SE cx n (own++bY vn aJ) (DK cx E (own++bY vn aJ) scope) kx c1 rc) (h2:SE cx n (own++bY vn aJ) (DK cx E (own++bY vn aJ) scope) vx c2 rc):
 SE cx n vn E (.DictComp kx vx [⟨target,iter,ifsE,0⟩] scope pos) (XQ c1 c2 bm one src it ifs own.length aJ) rc:=fun fr S k e=>
 mZ hs hc (fun j=>P4 G h1 h2) e fun items aZ S1 SL j1 j2 e=>⟨_,_,fun env he=>Qy G (N.fok env he) (K env he) T nset (j1 env he) (j2 env he),e⟩
inductive GotX (kn kb:KF) (kr:KR) (J:jk→Fr→St→Prop):Prop
 |next (fr:Fr) (S:St) (j:J .next fr S) (e:kn fr S=ac)
 |brk (fr:Fr) (S:St) (j:J .brk fr S) (e:kb fr S=ac)
 |ret (v:AV) (fr:Fr) (S:St) (j:J (.ret v) fr S) (e:kr v fr S=ac)
def SQ (E:Env→Prop) (J:Env→Fr→St→jk→Fr→St→Prop) (m:Fr→St→KF→KF→KR→Bool):Prop:=
 ∀fr S kn kb kr,m fr S kn kb kr=ac→GotX kn kb kr fun fl fr' S'=>∀env,E env→J env fr S fl fr' S'
abbrev uT (cx:Cx) (n:Nat) (vn:List Nat) (E:Env→Prop) (st:b8) (c:CX) (rc:Rc):Prop:=SQ E (fun env=>J1 cx n vn env st) (c rc)
abbrev SX (cx:Cx) (n:Nat) (vn:List Nat) (E:Env→Prop) (ss:List b8) (c:CX) (rc:Rc):Prop:=SQ E (fun env=>JX cx n vn env ss) (c rc)
theorem GotX.on {J:jk→Fr→St→Prop} {P:Prop} (h:GotX kn kb kr J) (q1 :∀fr S,J .next fr S→kn fr S=ac→P) (q2 :∀fr S,J .brk fr S→kb fr S=ac→P) (q3 :∀v fr S,J (.ret v) fr S→kr v fr S=ac→P):P:=h.rec q1 q2 q3
theorem GotX.imp {J J':jk→Fr→St→Prop} (h:GotX kn kb kr J) (q :∀fl fr S,J fl fr S→J' fl fr S):GotX kn kb kr J':=
 h.on (fun fr S j e=>.next fr S (q _ _ _ j) e) (fun fr S j e=>.brk fr S (q _ _ _ j) e) (fun v fr S j e=>.ret v fr S (q _ _ _ j) e)
theorem Mr {pos} (N:gb cx vn ns E) (nc:cz a=ac) (h:SE cx n vn E a c rc):uT cx n vn E (.Expr a pos) (gv c) rc:=fun fr S kn kb kr e=>
 h.on (k:=fun b S=>kn fr S) e fun v S1 j1 e=>.next fr S1 (fun env he=>Ny (N.fok env he) nc (j1 env he)) e
theorem Sj {pos' pos} (N:gb cx vn ns E) (hx:bc vn i=aa x) (nf:ns.lookup (sT x)≠aa .free) (nc:cz a=ac) (h:SE cx n vn E a c rc):uT cx n vn E (.Assign [.Name (sT x) pos'] a pos) (iX i c) rc:=fun fr S kn kb kr e=>
 h.on (k:=fun v S=>kn (dT fr i (aa v)) S) e fun v S1 j1 e=>.next _ S1 (fun env he=>TN (N.fok env he) hx (by erw[(N.kd env he ..)];exact nf) nc (j1 env he)) e
theorem D8 {pos' pos pos2} (G:COk cx) (N:gb cx vn ns E) (hx:bc vn i=aa x) (nf:ns.lookup (sT x)≠aa .free) (K:qz cx vn E scope own aJ) (T:zY (own++bY vn aJ) own.length bm one target) (nset:ft iter=ac)
 (hs:ye cx n vn E iter target bm one src it rc) (hc:KE cx n (own++bY vn aJ) (DK cx E (own++bY vn aJ) scope) ifsE (eO ifs) rc) (h:SE cx n (own++bY vn aJ) (DK cx E (own++bY vn aJ) scope) elt c rc):
 uT cx n vn E (.Assign [.Name (sT x) pos'] (.ListComp elt [⟨target,iter,ifsE,0⟩] scope pos) pos2) (iX i (xY c bm one src it ifs own.length aJ)) rc:=fun fr S kn kb kr e=>
 mZ (k:=fun v S=>kn (dT fr i (aa v)) S) hs hc (fun j=>P3 G h) e fun items aZ S1 SL j1 j2 e=>.next _ _ (fun env he=>EB G (N.fok env he) hx (by erw[(N.kd env he ..)];exact nf) (K env he) T nset (j1 env he) (j2 env he)) e
theorem D9 {pos' pos pos2} (G:COk cx) (N:gb cx vn ns E) (hx:bc vn i=aa x) (nf:ns.lookup (sT x)≠aa .free) (K:qz cx vn E scope own aJ) (T:zY (own++bY vn aJ) own.length bm one target) (nset:ft iter=ac)
 (hs:ye cx n vn E iter target bm one src it rc) (hc:KE cx n (own++bY vn aJ) (DK cx E (own++bY vn aJ) scope) ifsE (eO ifs) rc) (h1:SE cx n (own++bY vn aJ) (DK cx E (own++bY vn aJ) scope) kx c1 rc) (h2:SE cx n (own++bY vn aJ) (DK cx E (own++bY vn aJ) scope) vx c2 rc):
 uT cx n vn E (.Assign [.Name (sT x) pos'] (.DictComp kx vx [⟨target,iter,ifsE,0⟩] scope pos) pos2) (iX i (XQ c1 c2 bm one src it ifs own.length aJ)) rc:=fun fr S kn kb kr e=>
 mZ (k:=fun v S=>kn (dT fr i (aa v)) S) hs hc (fun j=>P4 G h1 h2) e fun items aZ S1 SL j1 j2 e=>.next _ _ (fun env he=>EC G (N.fok env he) hx (by erw[(N.kd env he ..)];exact nf) (K env he) T nset (j1 env he) (j2 env he)) e
theorem Mv {pos' pos} (G:Gk cx ms atL glL) (hn:nm<nS) (hm:nm∈atL) (nc:cz a=ac) (h:SE cx n vn E a c rc) (ho:SE cx n vn E o co rc):uT cx n vn E (.Assign [.Attribute o (sT nm) pos'] a pos) (P7 co nm c) rc:=fun fr S kn kb kr e=>
 h.on (k:=fun v S=>co rc fr S fun ov S=>o1 (Ay ov nm v S) fun S=>kn fr S) e fun v S1 j1 e=>ho.on e fun u S2 j2 e=>fq e fun S3 h3 e=>.next fr S3 (fun env he=>ND nc (j1 env he) (j2 env he) (T9 G.O hn (fun c hc=>⟨G.cls c hc,G.at_ c hc nm hm⟩) h3)) e
theorem Mu {pos' pos} (O:COk cx) (nc:cz a=ac) (h:SE cx n vn E a c rc) (ho:SE cx n vn E o co rc) (hi:SE cx n vn E i ci rc):uT cx n vn E (.Assign [.Subscript o i pos'] a pos) (wq co ci c) rc:=fun fr S kn kb kr e=>
 h.on (k:=fun v S=>co rc fr S fun ov S=>ci rc fr S fun iv S=>o1 (w7 ov iv v S) fun S=>kn fr S) e fun v S1 j1 e=>ho.on e fun u S2 j2 e=>hi.on e fun w S3 j3 e=>fq e fun S4 h4 e=>.next fr S4 (fun env he=>NC nc (j1 env he) (j2 env he) (j3 env he) (Ks O h4)) e
theorem Sh {pos} (h:SE cx n vn E a c rc):uT cx n vn E (.Return (aa a) pos) (jd c) rc:=fun fr S kn kb kr e=>
 h.on (k:=fun v S=>kr v fr S) e fun v S1 j1 e=>.ret v fr S1 (fun env he=>TK (j1 env he)) e
theorem Mn {pos}:uT cx n vn E (.Return aj pos) (jd (aO .none)) rc:=fun fr S kn kb kr e=>.ret .none fr S (fun env he=>Nv) e
theorem Si {pos}:uT cx n vn E (.Break pos) GJ rc:=fun fr S kn kb kr e=>.brk fr S (fun env he=>TM) e
theorem Wx {a:Expr} {c:CT} {as bs:List b8} {ca cb:CX} {pos} (h:ST cx n vn E a c rc) (ha:SX cx n vn E as ca rc) (hb:SX cx n vn E bs cb rc):uT cx n vn E (.If a as bs pos) (xA c ca cb) rc:=fun fr S kn kb kr e=>
 h.on (k:=fun r S=>bt r (ca rc fr S kn kb kr) (cb rc fr S kn kb kr)) e fun r S1 j1 e=>nL e
  (fun q e=>(ha fr S1 _ _ _ e).imp fun fl fr2 S2 j2 env he=>QA (j1 env he) (fun b=>j2 env he) (fun z=>CG q z))
  (fun q e=>(hb fr S1 _ _ _ e).imp fun fl fr2 S2 j2 env he=>QA (j1 env he) (fun z=>CG z q) (fun b=>j2 env he))
theorem N3 (hb:SX cx n vn E body c rc) (l:List AV):∀fr S,pr rc bm one c kn kr l fr S=ac→
 GotX kn (fun a a=>ae) kr fun fl fr' S'=>∀env,E env→Lp cx n vn env bm one body l fr S fl fr' S':=by
 induction l with
 |nil=>exact fun fr S e=>.next fr S (fun env he=>⟨rfl,rfl,rfl⟩) e
 |cons x l ih=>exact fun fr S e=>fq (show o1 (eI bm one x fr) (fun fr=>c rc fr S (fun fr S=>pr rc bm one c kn kr l fr S) (fun fr S=>kn fr S) kr)=ac from e) fun dC hbd e=>(hb dC S _ _ _ e).on (fun fr2 S2 j2 e=>(ih fr2 S2 e).imp fun fl fr3 S3 j3 env he=>QZ.next hbd (j2 env he) (j3 env he)) (fun fr2 S2 j2 e=>.next fr2 S2 (fun env he=>QZ.brk hbd (j2 env he) rfl) e) (fun v fr2 S2 j2 e=>.ret v fr2 S2 (fun env he=>QZ.ret hbd (j2 env he) rfl) e)
theorem uB {J:jk→Fr→St→Prop} (hb:SX cx n vn E body c rc)
 (e:pr rc bm one c (fun fr S'=>kn fr (bG aZ (dy aZ S1) S')) (fun v fr S'=>kr v fr (bG aZ (dy aZ S1) S')) items fr (cL aZ S1)=ac)
 (q :∀fl fr' S2,(∀env,E env→Lp cx n vn env bm one body items fr (cL aZ S1) fl fr' S2)→J fl fr' (bG aZ (dy aZ S1) S2)):GotX kn kb kr J:=
 (N3 hb items fr _ e).on (fun fr2 S2 j e=>.next fr2 _ (q _ _ _ j) e) (fun a a a e=>ff e) (fun v fr2 S2 j e=>.ret v fr2 _ (q _ _ _ j) e)
def zZ (cx:Cx) (vn:List Nat) (E:Env→Prop) (bm:List Nat) (one:Bool) (t:Expr):Prop:=∀env,E env→Ad vn env (fb env) bm one t
def T7 (bm:List Nat) (one:Bool) (cb:CX) (rc:Rc) (fr:Fr) (kn:KF) (kr:KR) (l:List AV) (h:Option Nat) (S:St):Bool:=
 pr rc bm one cb (fun fr S'=>kn fr (bG h (dy h S) S')) (fun v fr S'=>kr v fr (bG h (dy h S) S')) l fr (cL h S)
theorem Mo {pos} (O:COk cx) (N:gb cx vn ns E) (T:zZ cx vn E bm one t) (nset:ft it=ac) (h:SE cx n vn E it c rc) (hb:SX cx n vn E body cb rc):
 uT cx n vn E (.For t it body [] pos) (tZ bm one 0 [c] cb) rc:=fun fr S kn kb kr e=>
 h.on (k:=fun v S=>o2 (dX v S) fun l h=>T7 bm one cb rc fr kn kr l h S) e fun v S1 j1 e=>gP e fun items aZ h2 e=>uB hb e fun fl fr2 S2 j3 env he=>TL O (N.fok env he) (T env he) nset (j1 env he) h2 (j3 env he)
theorem Mq {pos pos'} (O:COk cx) (N:gb cx vn ns E) (T:zZ cx vn E bm ae t) (na:dS ef=ac) (nst:ix arg=ac) (hn :∀env fr S,E env→JE cx n vn env ef fr S (.bi 0) S) (h:SE cx n vn E arg c rc) (hb:SX cx n vn E body cb rc):
 uT cx n vn E (.For t (.Call ef [arg] [] pos') body [] pos) (tZ bm ae 1 [c] cb) rc:=fun fr S kn kb kr e=>
 h.on (k:=fun v S=>o2 (Ax [v] S) fun l h=>T7 bm ae cb rc fr kn kr l h S) e fun v S1 j1 e=>gP e fun items aZ h2 e=>Co h2 fun j ro l hj hv hi hh=>by
  subst hv hi hh;exact uB hb e fun fl fr2 S2 j3 env he=>Nx O (N.fok env he) (T env he) na nst (hn env fr S he) (j1 env he) hj (j3 env he)
theorem Mp {pos pos'} (O:COk cx) (N:gb cx vn ns E) (T:zZ cx vn E bm one t) (na:dS ef=ac) (nst:cO args=ac) (hn :∀env fr S,E env→JE cx n vn env ef fr S (.bi 1) S) (h:Pu cx n vn E args cs rc) (hb:SX cx n vn E body cb rc):
 uT cx n vn E (.For t (.Call ef args [] pos') body [] pos) (tZ bm one 2 cs cb) rc:=fun fr S kn kb kr e=>
 h.on (k:=fun vs S=>o2 (Wm vs S) fun l h=>T7 bm one cb rc fr kn kr l h S) e fun vs S1 j1 e=>gP e fun items aZ h2 e=>ba (show ob (oX vs) (fun l=>aa (l,aj))=aa (items,aZ) from h2) fun l hr h2=>by
  refine Fk h2 fun qc190 qc191=>?_;subst qc190;subst qc191;exact uB hb e fun fl fr2 S2 j3 env he=>Nw O (N.fok env he) (T env he) na nst (hn env fr S he) (j1 env he) hr (j3 env he)
theorem Rd (h:ST cx n vn E a c rc) (hb:SX cx n vn E body cb rc) (m:Nat):∀fr S,Y6 rc c cb kn kr m fr S=ac→
 GotX kn (fun b b=>ae) kr fun fl fr' S'=>∀env,E env→Wh cx n vn env a body m fr S fl fr' S':=by
 induction m with
 |zero=>exact fun fr S e=>ff e
 |succ m ih=>exact fun fr S e=>h.on (k:=fun r S=>bt r (cb rc fr S (fun fr S=>Y6 rc c cb kn kr m fr S) (fun fr S=>kn fr S) kr) (kn fr S)) e fun r S1 j1 e=>nL e (fun q e=>(hb fr S1 _ _ _ e).rec (fun fr2 S2 j2 e=>(ih fr2 S2 e).imp fun fl fr3 S3 j3 env he=>K_.next (q▸j1 env he) (j2 env he) (j3 env he)) (fun fr2 S2 j2 e=>.next fr2 S2 (fun env he=>K_.brk (q▸j1 env he) (j2 env he) rfl) e) (fun v fr2 S2 j2 e=>.ret v fr2 S2 (fun env he=>K_.ret (q▸j1 env he) (j2 env he) rfl) e)) (fun q e=>.next fr S1 (fun env he=>K_.stop (q▸j1 env he) rfl rfl) e)
theorem Mm {pos} (h:ST cx n vn E a c rc) (hb:SX cx n vn E body cb rc):uT cx n vn E (.While a body [] pos) (P6 c cb) rc:=fun fr S kn kb kr e=>
 (Rd h hb 100 fr S e).on (fun fr2 S2 j e=>.next fr2 S2 (fun env he=>C_ (j env he)) e) (fun b b b e=>ff e) (fun v fr2 S2 j e=>.ret v fr2 S2 (fun env he=>C_ (j env he)) e)
theorem Rx:SX cx n vn E [] (bK []) rc:=fun fr S kn kb kr e=>.next fr S (fun env he=>To) e
theorem pZ (c:CX) (cs:List CX) (rc:Rc) (fr:Fr) (S:St) (kn kb:KF) (kr:KR):bK (c::cs) rc fr S kn kb kr=c rc fr S (fun fr S=>bK cs rc fr S kn kb kr) kb kr:=by
 cases cs with
 |nil=>rfl
 |cons d ds=>rfl
theorem LX {st:b8} {ss:List b8} {c:CX} {cs:List CX} (h:uT cx n vn E st c rc) (hs:SX cx n vn E ss (bK cs) rc):SX cx n vn E (st::ss) (bK (c::cs)) rc:=fun fr S kn kb kr e=>
 (h fr S _ _ _ ((pZ c cs rc fr S kn kb kr).symm.trans e)).on (fun dC S1 j1 e=>(hs dC S1 _ _ _ e).imp fun fl fr2 S2 j2 env he=>Nk (j1 env he) (j2 env he))
  (fun dC S1 j1 e=>.brk dC S1 (fun env he=>C8 (j1 env he) (fun z=>nomatch z)) e) (fun v dC S1 j1 e=>.ret v dC S1 (fun env he=>C8 (j1 env he) (fun z=>nomatch z)) e)
theorem Ry (O:COk cx) (hs:SX cx n vn E ss (bK cs) rc):SX cx n vn E ss (bK (AB i::cs)) rc:=fun fr S kn kb kr e=>
 fq (show o1 (bc fr i) (fun o=>o1 o fun v=>bK cs rc (dT fr i (aa (jh v S).1)) (jh v S).2 kn kb kr)=ac from (pZ (AB i) cs rc fr S kn kb kr).symm.trans e) fun o ho e=>fq e fun v hv e=>by
  subst hv;exact (hs _ _ _ _ _ e).imp fun fl fr2 S2 j2 env he=>Tq O ho (j2 env he)
end
section
variable {cx:Cx} {n:Nat} {vn:List Nat} {ns:List (Str×NameKind)} {E:Env→Prop} {rc:Rc} {ms:Nat→List (Nat×Nat)} {atL:List Nat} {glL:List (Nat×AV)}
theorem El {α:Type} {l:List α} {i j:Nat} {x y:α} (h:i≠j):dT (dT l i x) j y=dT (dT l j y) i x:=by
 induction l generalizing i j with
 |nil=>rfl
 |cons a l ih=>cases i with
  |zero=>cases j with
   |zero=>exact absurd rfl h
   |succ j=>rfl
  |succ i=>cases j with
   |zero=>rfl
   |succ j=>exact congrArg (a::·) (ih fun e=>h (congrArg bW e))
theorem BN {i:Nat} {v:Option AV} (is:List Nat):∀{xs:List AV} {fr:Fr},i∉is→kO is xs (dT fr i v)=(kO is xs fr).map fun f=>dT f i v:=by
 induction is with
 |nil=>intro xs fr _;cases xs<;>rfl
 |cons j is ih=>
  intro xs fr h;cases xs with
  |nil=>rfl
  |cons x xs=>
   show kO is xs (dT (dT fr i v) j (aa x))=(kO is xs (dT fr j (aa x))).map _;rw [El (fun e=>h (by rw [e];exact Fw)),ih fun z=>h (ja _ z)]
theorem BM (is:List Nat):∀{xs:List AV} {fr:Fr},is.length=xs.length→kO (is++[i]) (xs++[x]) fr=(kO is xs fr).map fun f=>dT f i (aa x):=by
 induction is with
 |nil=>
  intro xs fr h;cases xs with
  |nil=>rfl
  |cons=>exact nomatch h
 |cons j is ih=>
  intro xs fr h;cases xs with
  |nil=>exact nomatch h
  |cons y xs=>exact ih (cq h)
theorem E2 (is:List Nat):∀{xs:List AV} {fr:Fr},is.length=xs.length→is.Nodup→kO is.reverse xs.reverse fr=kO is xs fr:=by
 induction is with
 |nil=>
  intro xs fr h _;cases xs with
  |nil=>rfl
  |cons=>exact nomatch h
 |cons i is ih=>
  intro xs fr h nd;cases xs with
  |nil=>exact nomatch h
  |cons x xs=>
   have nd:=ce.mp nd;rw [fx,fx,BM _ (by simp [cq h]),ih (cq h) nd.2];exact (BN is nd.1).symm
inductive NmL (vn:List Nat) (ns:List (Str×NameKind)):List Nat→List Str→Prop
 |nil:NmL vn ns [] []
 |cons {i x is xs}:bc vn i=aa x→ns.lookup (sT x)≠aa .free→NmL vn ns is xs→NmL vn ns (i::is) (sT x::xs)
theorem NmL.len (h:NmL vn ns is xs):is.length=xs.length:=by
 induction h with
 |nil=>rfl
 |cons _ _ _ ih=>exact congrArg bW ih
theorem NmL.snoc (h:bc vn i=aa x) (nf:ns.lookup (sT x)≠aa .free) (t:NmL vn ns is xs):NmL vn ns (is++[i]) (xs++[sT x]):=by
 induction t with
 |nil=>exact .cons h nf .nil
 |cons a b _ ih=>exact .cons a b ih
theorem NmL.rev (t:NmL vn ns is xs):NmL vn ns is.reverse xs.reverse:=by
 induction t with
 |nil=>exact .nil
 |cons a b _ ih=>rw [fx,fx];exact ih.snoc a b
theorem Ke (F:jw cx vn env) (kd :∀x,env.kindOf x=ns.lookup x) (T:NmL vn ns is nm):∀{xs:List AV} {ys:List Value} {fr:Fr} {s:av} {Q:Unit→av→Prop},kO is xs fr=aa dC→VRs cx g xs ys→Here cx vn env fr g S s→
 (∀s',AftX cx (fb env) g S s g S s'→Here cx vn env dC g S s'→Q () s')→aA cx.mo A (Fd (nm.map fun n=>bindName env n) ys) Q F0 s:=by
 induction T with
 |nil=>
  intro xs ys fr s Q hb r H q;cases xs with
  |nil=>exact r.nil_inv▸aq (q s (Aft.refl H.inv).x (ao hb▸H))
  |cons=>exact no hb
 |@cons i x is nm hx nf t ih=>
  intro xs ys fr s Q hb r H q;cases xs with
  |nil=>exact no hb
  |cons v xs=>
   refine r.uncons fun y ys e r rs=>e▸?_;exact ag (aQ (bindName_ (mN F hx (by erw[(kd ..)];exact nf) uz H r fun s1 a1 H1=>ih hb rs H1 fun s2 a2 H2=>q s2 (a1.trans a2) H2)))
theorem xk (h:VRs cx g l xs) (k:VRs cx g m ys):VRs cx g (l++m) (xs++ys):=
 VRs.ind (M:=fun l xs=>VRs cx g (l++m) (xs++ys)) k (fun v l x xs r a ih=>.cons r ih) l h
theorem LF (h:VRs cx g l xs):VRs cx g l.reverse xs.reverse:=
 VRs.ind (M:=fun l xs=>VRs cx g l.reverse xs.reverse) .nil (fun v l x xs r a ih=>by rw [fx,fx];exact xk ih (.cons r .nil)) l h
theorem NB {k0 tpos pos} (F:jw cx vn env) (T:Ad vn env (fb env) is ae (.Tuple es k0 tpos)) (nc:cz a=ac) (hw:jI [.Tuple es k0 tpos] a env=cR aj) (h:JE cx n vn env a fr S v S1) (hb:eI is ae v fr=aa dC):
 J1 cx n vn env (.Assign [.Tuple es k0 tpos] a pos) fr S .next dC S1:=fun A g s R H=>by
 refine Assign_Tuple (h.use R H fun g1 s1 y a1 H1 r1=>qv R.handled F T hb r1 H1 fun s2 a2 H2=>⟨g1,a1.x.trans a2,H2,.next⟩) ?_ hw;show sR [.Tuple es k0 tpos] a pos.line env=cR ae;simp only [sR,iu nc]
theorem Nz {k0 tpos pos} (F:jw cx vn env) (kd :∀x,env.kindOf x=ns.lookup x) (T:NmL vn ns is nm) (nd:is.Nodup) (nc:cz a=ac) (hw:jI [.Tuple es k0 tpos] a env=cR (aa nm)) (h:JE cx n vn env a fr S v S1) (hb:eI is ae v fr=aa dC):
 J1 cx n vn env (.Assign [.Tuple es k0 tpos] a pos) fr S .next dC S1:=fun A g s R H=>by
 refine ba (x:=nQ v) hb fun l hl hb=>?_
 ·refine Assign_Tuple_swapped (names:=nm) (h.use R H fun g1 s1 y a1 H1 r1=>?_) (by simp only [sR,iu nc]) hw;replace r1:=fj hl▸r1;apply yH (nT H1.inv r1);intro ad vs m Tp rs;have hl:=wZ hb;have e1:nm.length=vs.size:=by refine T.len▸hl▸aC▸?_;exact rs.length.symm
  erw[e1];refine unpackItems_tuple R.handled ⟨_,Tp,rfl,_,rfl⟩ fun h' he=>?_;have a2:Aft cx g1 S1 s1 g1 S1 {s1 with heap:=h'}:=.of' (.grow H1.inv (zv he));refine Ke F kd T.rev ((E2 _ hl.symm nd).trans hb) (LF rs) (H1.after a2) fun s3 a3 H3=>?_;exact ⟨g1,(a1.trans H.inv a2).x.trans a3,H3,.next⟩
noncomputable def Wb (ns:List (Str×NameKind)) (ts:List Expr) (a:Expr):Option (Option (List Str)):=match a with
 |.Tuple vs _ _=>
  if !(ts.length==2||ts.length==3)||vs.length != ts.length then aa aj
  else if vs.any fun|.Starred ..=>ac|_=>ae then aa aj
  else
   let line:=(ts.head?.map (·.pos.line)).getD 0
   let names:=ts.filterMap fun
    |.Name id pos=>if ns.lookup id==aa NameKind.local&&pos.line==line then aa id else aj
    |_=>aj
   if names.length != ts.length||names.eraseDups.length != names.length then aa aj
   else if vs.all (foldedForSure 8) then aa aj
   else if vs.all (constantsAlone 8) then aj
   else aa (aa names)
 |_=>aa aj
theorem ze {α β:Type} {c:Prop} [Decidable c] {x y:Option α} {v:α} {X Y Z:β} (h:(if c then x else y)=aa v) (kt:x=aa v→X=Z) (ke:y=aa v→Y=Z):(if c then X else Y)=Z:=by
 by_cases q:c
 ·rw [if_pos q] at h ⊢;exact kt h
 ·rw [if_neg q] at h ⊢;exact ke h
theorem Gp {ts:List Expr} {a:Expr} {k0 tpos} {env:Env} {r:Option (List Str)} (F:jw cx vn env) (kd :∀x,env.kindOf x=ns.lookup x) (h:Wb ns ts a=aa r):jI [.Tuple ts k0 tpos] a env=cR r:=by
 have hk:env.blockKind=.function:=by simp only [VA,F.kind,rD,b_,if_false]
 cases a with
 |Tuple vs k1 p1=>
  unfold jI;rw [hk,show env.kindOf=fun x=>u8 x ns from funext kd];dsimp only;rw [show (Aa != Aa)=ae from rfl,pL];exact ze h (fun h=>pM h▸rfl) fun h=>ze h (fun h=>pM h▸rfl) fun h=>ze h (fun h=>pM h▸rfl) fun h=>ze h (fun h=>pM h▸rfl) fun h=>ze h (fun h=>no h) fun h=>pM h▸rfl
 |_=>exact pM h▸rfl
theorem Mt {k0 tpos pos} (N:gb cx vn ns E) (T:zZ cx vn E is ae (.Tuple es k0 tpos)) (hw:Wb ns es a=aa aj) (nc:cz a=ac) (h:SE cx n vn E a c rc):uT cx n vn E (.Assign [.Tuple es k0 tpos] a pos) (qR is c) rc:=fun fr S kn kb kr e=>
 h.on (k:=fun v S=>o1 (eI is ae v fr) fun fr=>kn fr S) e fun v S1 j1 e=>fq e fun dC h2 e=>.next dC S1 (fun env he=>NB (N.fok env he) (T env he) nc (Gp (N.fok env he) (N.kd env he) hw) (j1 env he) h2) e
theorem Ms {k0 tpos pos} (N:gb cx vn ns E) (T:NmL vn ns is nm) (nd:is.Nodup) (hw:Wb ns es a=aa (aa nm)) (nc:cz a=ac) (h:SE cx n vn E a c rc):uT cx n vn E (.Assign [.Tuple es k0 tpos] a pos) (qR is c) rc:=fun fr S kn kb kr e=>
 h.on (k:=fun v S=>o1 (eI is ae v fr) fun fr=>kn fr S) e fun v S1 j1 e=>fq e fun dC h2 e=>.next dC S1 (fun env he=>Nz (N.fok env he) (N.kd env he) T nd nc (Gp (N.fok env he) (N.kd env he) hw) (j1 env he) h2) e
def Z1 (cx:Cx) (vn:List Nat) (fd:FuncData) (k:Nat):Env→Prop:=fun env=>∃L,env=lE fd L (fa k)∧jw cx vn env
theorem Un:gb cx vn fd.scope.names (Z1 cx vn fd k):=⟨fun env h=>h.elim fun L h=>h.2,fun env h x=>h.elim fun L h=>h.1▸rfl⟩
theorem Pa (O:COk cx) (K:KJ cx k F vn fd body) (h:SX cx n vn (Z1 cx vn fd k) body (bK (J_ F.body)) rc) (e:zQ (cF F) rc args S kk=ac):
 Got kk (JFc cx (n+1) (.fn k) args S):=by
 refine aK (fun ha e=>?_) (n_ (show bt (ay (eZ args) F.np) (bK (J_ F.body) rc (dL (iz aa args) (d4 (rW F.nv F.np))) S (fun fr S=>kk .none S) (fun a a=>ae) (fun v fr S=>w5 F.frz v S kk)) ae=ac from e));have ha':args.length=F.np:=by refine (cC ..)▸?_;exact am ha
 have fin :∀fl fr' S1 v S2,(∀env,Z1 cx vn fd k env→JX cx n vn env body (dL (iz aa args) (d4 (rW F.nv F.np))) S fl fr' S1)→Ki F.frz (aa (fl,fr',S1))=aa (v,S2)→JFc cx (n+1) (.fn k) args S v S2:=fun fl fr' S1 v S2 j1 hv=>Xp O K ha' (fun L FF=>j1 _ ⟨L,rfl,FF⟩) hv;refine (h _ _ _ _ _ e).on (fun fr' S1 j1 e=>⟨.none,S1,fin _ _ _ _ _ j1 rfl,e⟩) (fun a a a e=>ff e) fun v fr' S1 j1 e=>?_;cases hz:F.frz with
 |true=>exact ⟨(jh v S1).1,(jh v S1).2,fin _ _ _ _ _ j1 (by erw[hz];rfl),by replace e:=hz▸e;exact e⟩
 |false=>exact ⟨v,S1,fin _ _ _ _ _ j1 (by erw[hz];rfl),by replace e:=hz▸e;exact e⟩
structure PK (cx:Cx) (ms:Nat→List (Nat×Nat)) (atL:List Nat) (glL:List (Nat×AV)) (tab:TR CF):Prop where
 G:Gk cx ms atL glL
 fn :∀j F,tab.get j=aa F→∀n rc,rc.ms=ms→mC cx n rc→∀args S k,zQ F rc args S k=ac→Got k (JFc cx (n+1) (.fn j) args S)
 keepF :∀j F,tab.get j=aa F→j8 cx.K (.ref (fa j))=ac
 init :∀c,c<j4→∀f,jS 16 (ms c)=aa f→mH cx.K (.ref (ca c)) "__init__" = aa (aa (.ref (fa f)))∧typeIn cx.K (.ref (fa f))=aa (.type "function")
def Fa (cx:Cx) (N0:Nat) (ov:Ov):Prop:=∀j g,ov j=aa g→j8 cx.K (.ref (fa j))=ac∧∀args S k,g args S k=ac→Got k (JFc cx N0 (.fn j) args S)
theorem Room.mono (h:a≤b) (R:Room A b):Room A a:=⟨by have:=R.depth';omega,by have:=R.units';omega,R.handled⟩
theorem JFc.mono (h:a≤b) (J:JFc cx a f args S v S'):JFc cx b f args S v S':=fun A g s x xs R=>J A g s x xs (R.mono h)
theorem CZ (h:j8 cx.K (.ref (fa j))=ac) (g:Gh) (x:Value) (r:VR cx g (.fn j) x):mF cx x:=by
 apply r.vw;exact .inl h
theorem HI (h:j8 cx.K (.ref (ca c))=ac) (g:Gh) (x:Value) (r:VR cx g (.cls c) x):mF cx x:=by
 apply r.vw;exact .inl h
theorem xz (P:PK cx ms atL glL tab) (hom:nk cx om) (hov:Fa cx N0 ov) (m:Nat):SCl cx (N0+m) (nJ om ms ov tab m):=by
 induction m with
 |zero=>exact fun f args S k e=>ff e
 |succ m ih=>
  intro f args S k e;have e:ZQ om ms ov tab (nJ om ms ov tab m) f args S k=ac:=e;cases f with
  |fn j=>
   unfold ZQ at e;dsimp only at e;cases ho:ov j with
   |some g=>
    replace e:=ho▸e;have q:=hov j g ho;exact ⟨CZ q.1,(q.2 args S k e).imp fun v S' J=>J.mono (gD ..)⟩
   |none=>
    replace e:=ho▸e;exact fq e fun F hF e=>⟨CZ (P.keepF j F hF),P.fn j F hF (N0+m) ⟨om,ms,nJ om ms ov tab m⟩ rfl ⟨hom,ih⟩ args S k e⟩
  |cls c=>
   refine aK (fun hc e=>?_) (n_ (show bt (aF c j4) (o1 (jS 16 (ms c)) fun f=>nJ om ms ov tab m (.fn f) (.loc S.nx::args) (S.new (.inst c [])) fun v S'=>(match v with|.none=>k (.loc S.nx) S'|_=>ae)) ae=ac from e))
   have hc':=aG.mp hc;refine fq e fun f hf e=>⟨HI (P.G.cls c hc').keep,ih.on e fun a v S' j2 e=>?_⟩
   cases v with
   |none=>exact ⟨.loc S.nx,S',JZ P.G.O (P.G.cls c hc') (P.init c hc' f hf).1 (P.init c hc' f hf).2 j2,e⟩
   |_=>exact ff e
  |_=>exact ff e
end
theorem mB {α β:Type} {f:α→β→Bool} {M:List α→List β→Prop} (h0:M [] []) (h1 :∀a b l m,f a b=ac→M l m→M (a::l) (b::m)) (l:List α):∀{m:List β},jF f l m=ac→M l m:=by
 induction l with
 |nil=>
  intro m h;cases m with
  |nil=>exact h0
  |cons=>exact ff h
 |cons a l ih=>
  intro m h;cases m with
  |nil=>exact ff h
  |cons b m=>exact have h:=ax.mp (show (f a b&&jF f l m)=ac from h);h1 a b l m h.1 (ih h.2)
def Qq (a b:Str):Bool:=jF ay a.cps.toList b.cps.toList
theorem HE (h:Qq a b=ac):a=b:=by
 have:=pH (fun c c=>am) a.cps.toList h;cases a with
 |mk u=>cases b with
  |mk v=>exact congrArg Str.mk (K1.mp this)
theorem HD:Qq a a=ac:=by
 unfold Qq
 induction a.cps.toList with
 |nil=>rfl
 |cons x l ih=>exact ax.mpr ⟨cp x,ih⟩
theorem Nb:Qq a b=(b==a):=by
 cases h:Qq a b with
 |true=>erw[HE h];exact (beq_self_eq_true b).symm
 |false=>exact (beq_eq_false_iff_ne.mpr fun e=>by replace h:=HD▸e▸h;exact ff h.symm).symm
def sq (a:Str) (x:Nat):Bool:=Qq a (sT x)
theorem qM {a:Str} {x:Nat} (h:sq a x=ac):a=sT x:=HE h
def Xe (l:List (Str×NameKind)) (x:Str):Option NameKind:=aP aj (fun p a ih=>be ih (aa p.2) (Qq p.1 x)) l
theorem A_ {x:Str} {l:List (Str×NameKind)}:Xe l x=l.lookup x:=by
 induction l with
 |nil=>rfl
 |cons p l ih=>
  show (be (Xe l x) (aa p.2) (Qq p.1 x):Option NameKind)=u8 x ((p.1,p.2)::l);rw [eF,Nb,ih];cases x==p.1<;>rfl
def M8 (l:List (Str×NameKind)) (x:Nat):Option NameKind:=Xe l (sT x)
theorem nX {x:Nat} {l:List (Str×NameKind)}:M8 l x=l.lookup (sT x):=A_
def K9:AV→AV→Bool:=Kp 20
def Ph (l m:List AV):Bool:=jF K9 l m
def X5 (l m:List (AV×AV)):Bool:=jF (fun p q=>K9 p.1 q.1&&K9 p.2 q.2) l m
theorem mA (h:K9 a b=ac):a=b:=DA 20 h
theorem yb (h:Ph l m=ac):l=m:=pH (fun a a=>mA) l h
theorem Pf (h:X5 l m=ac):l=m:=pH (fun a a z=>io (mA (ax.mp z).1) (mA (ax.mp z).2)) l h
def Xb (nm:Nat) (v:AV) (l:List (Nat×AV)):Bool:=l.any fun p=>ay p.1 nm&&K9 p.2 v
theorem Hn (h:Xb nm v l=ac):(nm,v)∈l:=by
 refine cg (cZ.mp h) fun p m e=>?_;have e:=ax.mp e;refine (am e.1)▸(mA e.2)▸?_;exact m
noncomputable def cJ (x:Nat) (l:List Nat):Bool:=l.any fun y=>ay y x
theorem gx (h:cJ x l=ac):x∈l:=by
 refine cg (cZ.mp h) fun y m e=>?_;refine (am e)▸?_;exact m
theorem M2 (h:x∈l):cJ x l=ac:=cZ.mpr ⟨x,h,cp x⟩
def SR (l:List Nat):Bool:=aP ac (fun x l ih=>!cJ x l&&ih) l
theorem qk {l:List Nat} (h:SR l=ac):l.Nodup:=by
 induction l with
 |nil=>exact Q5
 |cons x l ih=>
  have h:=ax.mp (show (!cJ x l&&SR l)=ac from h);exact ce.mpr ⟨fun z=>(by rw [M2 z] at h;exact ff h.1),ih h.2⟩
def TS (k:NameKind) (x:Option NameKind):Bool:=aM ae (fun y=>decide (y=k)) x
theorem xP (h:TS k x=ac):x=aa k:=by
 cases x with
 |none=>exact ff h
 |some y=>exact congrArg aa (of_decide_eq_true h)
theorem H_ (h:(!TS k x)=ac):x≠aa k:=fun e=>by replace h:=(show TS k (aa k)=ac from decide_eq_true rfl)▸e▸h;exact ff h
abbrev isGI:=TS .globalImplicit
abbrev isLo:=TS .local
abbrev isFr:=TS .free
abbrev isCe:=TS .cell
theorem NF (h:isGI x=ac):x=aa .globalImplicit:=xP h
theorem xN {x:Option NameKind} (h:isLo x=ac):x=aa .local:=xP h
theorem NG {x:Option NameKind} (h:isFr x=ac):x=aa .free:=xP h
theorem xQ {x:Option NameKind} (h:isCe x=ac):x=aa .cell:=xP h
theorem NE {x:Option NameKind} (h:(!isLo x)=ac):x≠aa .local:=H_ h
theorem Dc {x:Option NameKind} (h:(!isFr x)=ac):x≠aa .free:=H_ h
structure KC where
 atL:List Nat
 glL:List (Nat×AV)
def kN (a:Str) (x:Nat):Bool:=aF x nS&&sq a x
theorem wJ (h:kN a x=ac):x<nS∧a=sT x:=let h:=ax.mp h;⟨aG.mp h.1,qM h.2⟩
noncomputable def yB {α:Type} (k:Nat) (a:Expr) (f:a.ctorIdx=k→Option α):Option α:=dite (a.ctorIdx=k) f fun b=>aj
theorem ec {α:Type} {k:Nat} {a:Expr} {f:a.ctorIdx=k→Option α} {p:α} {P:Prop} (h:yB k a f=aa p) (c :∀e,f e=aa p→P):P:=by
 unfold yB at h
 by_cases e:a.ctorIdx=k
 ·rw [dif_pos e] at h;exact c e h
 ·rw [dif_neg e] at h;exact no h
def xn (a:Expr):Option Const:=yB 19 a fun h=>lZ (motive_1:=fun b=>Option Const) a h fun c b b=>aa c
theorem kz {a:Expr} {c} (h:xn a=aa c):∃k q,a=.Constant c k q:=ec h fun e h=>lZ (motive_1:=fun a=>∀e:a.ctorIdx=19,lZ (motive_1:=fun b=>Option Const) a e (fun c b b=>aa c)=aa c→∃k q,a=.Constant c k q) a e (fun c k q e h=>ao h▸⟨_,_,rfl⟩) e h
def Rj (a:Expr):Option Str:=yB 23 a fun h=>r8 (motive_1:=fun b=>Option Str) a h fun c b=>aa c
theorem yK {a:Expr} {c} (h:Rj a=aa c):∃q,a=.Name c q:=ec h fun e h=>r8 (motive_1:=fun a=>∀e:a.ctorIdx=23,r8 (motive_1:=fun b=>Option Str) a e (fun c b=>aa c)=aa c→∃q,a=.Name c q) a e (fun c q e h=>ao h▸⟨_,rfl⟩) e h
def Yp (a:Expr):Option (UnaryOp×Expr):=yB 3 a fun h=>m_ (motive_1:=fun b=>Option (UnaryOp×Expr)) a h fun o x b=>aa (o,x)
theorem xm {a:Expr} {p} (h:Yp a=aa p):∃q,a=.UnaryOp p.1 p.2 q:=ec h fun e h=>m_ (motive_1:=fun a=>∀e:a.ctorIdx=3,m_ (motive_1:=fun b=>Option (UnaryOp×Expr)) a e (fun o x b=>aa (o,x))=aa p→∃q,a=.UnaryOp p.1 p.2 q) a e (fun o x q e h=>ao h▸⟨_,rfl⟩) e h
def FE (a:Expr):Option (List Expr):=yB 25 a fun h=>pP (motive_1:=fun b=>Option (List Expr)) a h fun as b b=>aa as
theorem oJ {a:Expr} {p} (h:FE a=aa p):∃k q,a=.Tuple p k q:=ec h fun e h=>pP (motive_1:=fun a=>∀e:a.ctorIdx=25,pP (motive_1:=fun b=>Option (List Expr)) a e (fun as b b=>aa as)=aa p→∃k q,a=.Tuple p k q) a e (fun as k q e h=>ao h▸⟨_,_,rfl⟩) e h
def oB {α:Type} (x:Option α) (f:α→Bool):Bool:=aM ae f x
theorem aI {α:Type} {x:Option α} {f:α→Bool} {P:Prop} (h:oB x f=ac) (k :∀a,x=aa a→f a=ac→P):P:=by
 cases x with
 |none=>exact ff h
 |some a=>exact k a rfl h
def cN (c:Const):Bool:=yG ac (fun a=>ae) (fun a=>ae) (fun a=>ae) (fun a a=>ae) (fun a=>ae) (fun a=>ae) ae c
def cBo (c:Const):Option Bool:=yG aj aa (fun a=>aj) (fun a=>aj) (fun a a=>aj) (fun a=>aj) (fun a=>aj) aj c
def cI (c:Const):Option Int:=yG aj (fun a=>aj) aa (fun a=>aj) (fun a a=>aj) (fun a=>aj) (fun a=>aj) aj c
def cSt (c:Const):Option Str:=yG aj (fun a=>aj) (fun a=>aj) (fun a=>aj) (fun a a=>aj) aa (fun a=>aj) aj c
theorem UA (h:cN c=ac):c=.none:=by cases c<;>first|rfl|exact ff h
theorem Pc (h:cBo c=aa b):c=.bool b:=by cases c<;>first|exact congrArg Const.bool (ao h)|exact no h
theorem BJ {c:Const} {b:Int} (h:cI c=aa b):c=.int b:=by cases c<;>first|exact congrArg Const.int (ao h)|exact no h
theorem Pb (h:cSt c=aa b):c=.str b:=by cases c<;>first|exact congrArg Const.str (ao h)|exact no h
def Xm (v:AV) (a:Expr):Bool:=match v with
 |.none=>oB (xn a) cN
 |.bool b=>oB (xn a) fun c=>oB (cBo c) fun d=>b==d
 |.int i=>oB (xn a) (fun c=>oB (cI c) fun j=>decide (i=j))||oB (Yp a) fun p=>decide (p.1=.USub)&&oB (xn p.2) fun c=>oB (cI c) fun j=>decide (i = -j)
 |.str x=>oB (xn a) fun c=>oB (cSt c) fun s=>kN s x
 |_=>ae
def zc (vn:List Nat) (i:Nat) (a:Expr):Bool:=oB (Rj a) fun s=>oB (bc vn i) fun x=>sq s x
def Tm (C:KC) (ns:List (Str×NameKind)) (nm:Nat) (v:AV) (a:Expr):Bool:=oB (Rj a) fun s=>kN s nm&&isGI (M8 ns nm)&&Xb nm v C.glL
def YO (C:KC) (ns:List (Str×NameKind)) (v:AV) (a:Expr):Bool:=C.glL.any fun p=>K9 p.2 v&&Tm C ns p.1 v a
noncomputable def AI (a:Expr):Bool:=nE 3 a&&(nE 0 a&&(nE 5 a&&nE 15 a))
theorem Ed (h:AI a=ac):isTrue a env (dm a env)=(do let v ← dm a env;l3 a.pos;fu [v] (yh v)):=by
 cases a<;>first|rfl|exact ff h
def slB (lo:Nat) (l:Option Expr):Bool:=aM (ay lo 0) (fun a=>oB (xn a) fun c=>oB (cI c) fun i=>decide (i=(lo:Int))) l
def slQ (hi:Option Nat) (u:Option Expr):Bool:=aM (aM ac (fun b=>ae) u) (fun k=>oB u fun a=>oB (xn a) fun c=>oB (cI c) fun i=>decide (i=(k:Int))) hi
theorem Ic {a:Expr} {k:Nat} (h:oB (xn a) (fun c=>oB (cI c) fun i=>decide (i=(k:Int)))=ac):∃q r,a=.Constant (.int (k:Int)) q r:=
 aI h fun c h1 h=>aI h fun i h2 h=>by
  refine wh (kz h1) fun q r e=>?_;replace e:=(of_decide_eq_true h)▸(BJ h2)▸e;exact ⟨q,r,e⟩
theorem RY {lo:Nat} {l:Option Expr} (h:slB lo l=ac):UP lo l:=by
 cases l with
 |none=>erw[am h];exact .no
 |some a=>refine wh (Ic h) fun q r e=>?_;erw[e];exact .at
theorem RX {hi:Option Nat} {u:Option Expr} (h:slQ hi u=ac):UO hi u:=by
 cases hi with
 |none=>cases u with
  |none=>exact .no
  |some=>exact ff h
 |some k=>exact aI h fun a e h=>by refine wh (Ic h) fun q r e1=>?_;erw[e,e1];exact .at
def tgB (f:Nat→Expr→Bool) (bm:List Nat) (one:Bool) (t:Expr):Bool:=be (oB (FE t) fun es=>jF f bm es) (jF f bm [t]) one
def V6 (vn:List Nat) (m:Nat) (bm:List Nat) (one:Bool) (t:Expr):Bool:=tgB (fun i e=>zc vn i e&&aF i m) bm one t
theorem sC {vn:List Nat} {i:Nat} {a:Expr} (h:zc vn i a=ac):∃x pos,a=.Name (sT x) pos∧bc vn i=aa x:=
 aI h fun s hs h=>aI h fun x hx h=>by
  refine ak (yK hs) fun q e=>?_;exact ⟨x,q,by exact au e▸au (qM h)▸rfl,hx⟩
theorem Ga {vn:List Nat} {m:Nat} (is:List Nat) {es:List Expr}:jF (fun i e=>zc vn i e&&aF i m) is es=ac→Vh vn m is es:=
 mB .nil (fun i e is es h t=>by
  have h:=ax.mp h;refine pT (sC h.1) fun x pos e hx=>?_;erw[e];exact .cons hx (aG.mp h.2) t) is
theorem LP {vn:List Nat} {m:Nat} {bm:List Nat} {one:Bool} {t:Expr} (h:V6 vn m bm one t=ac):zY vn m bm one t:=by
 cases one with
 |true=>cases Ga bm h with|cons a b c=>cases c;exact .one a b
 |false=>exact aI h fun es e h=>by refine wh (oJ e) fun k q e=>?_;erw[e];exact .tup (Ga bm h)
def WZ (vn:List Nat) (ns:List (Str×NameKind)) (i:Nat):Bool:=oB (bc vn i) fun x=>!isFr (M8 ns x)
def Gd (vn:List Nat) (ns:List (Str×NameKind)) (bm:List Nat) (one:Bool) (t:Expr):Bool:=tgB (fun i e=>zc vn i e&&WZ vn ns i) bm one t
theorem Hd {vn:List Nat} {ns:List (Str×NameKind)} {i x:Nat} (hx:bc vn i=aa x) (h:WZ vn ns i=ac):ns.lookup (sT x)≠aa .free:=
 aI h fun y e h=>by replace e:=hx▸e;refine nX▸au (ao e)▸?_;exact Dc h
theorem Ge {vn:List Nat} {ns:List (Str×NameKind)} {env:Env} (kd :∀x,env.kindOf x=ns.lookup x) (is:List Nat) {es:List Expr}:jF (fun i e=>zc vn i e&&WZ vn ns i) is es=ac→QW vn env (fb env) is es:=
 mB .nil (fun i e is es h t=>by
  have h:=ax.mp h;refine pT (sC h.1) fun x pos e hx=>?_;erw[e];exact .cons hx (by erw[(kd ..)];exact Hd hx h.2) uz t) is
theorem Ck {vn:List Nat} {ns:List (Str×NameKind)} {env:Env} (kd :∀x,env.kindOf x=ns.lookup x) {bm:List Nat} {one:Bool} {t:Expr} (h:Gd vn ns bm one t=ac):Ad vn env (fb env) bm one t:=by
 cases one with
 |true=>cases Ge kd bm h with|cons a b c d=>cases d;exact .one a b c
 |false=>exact aI h fun es e h=>by refine wh (oJ e) fun k q e=>?_;erw[e];exact .tup (Ge kd bm h)
def SK (vn:List Nat) (ns:List (Str×NameKind)):List Nat→List Str→Bool:=jF fun i s=>oB (bc vn i) fun x=>sq s x&&!isFr (M8 ns x)
theorem MT {vn:List Nat} {ns:List (Str×NameKind)} {is:List Nat} {ss:List Str}:SK vn ns is ss=ac→NmL vn ns is ss:=
 mB .nil (fun i s is ss h t=>aI h fun x hx h=>by
  have h:=ax.mp h;erw[qM h.1];exact .cons hx (by refine nX▸?_;exact Dc h.2) t) is
noncomputable def Xs (k:ScopeKind):Bool:=decide (k=.function)
def ZS (vn aJ:List Nat) (s:Str):Bool:=aJ.any fun i=>oB (bc vn i) fun x=>sq s x
def W5 (vn aJ:List Nat) (names:List (Str×NameKind)) (p:Str×NameKind):Bool:=
 (!decide (p.2=.cell)||isCe (Xe names p.1))&&(!decide (p.2=.local)||isLo (Xe names p.1))&&(!decide (p.2=.free)||ZS vn aJ p.1)
theorem xE {k:NameKind} {x:NameKind} {b:Bool} (h:(!decide (x=k)||b)=ac) (e:x=k):b=ac:=by rw [decide_eq_true e] at h;exact h
def XY (vn:List Nat) (ns:List (Str×NameKind)) (scope:Scope) (own aJ:List Nat):Bool:=
 Xs scope.kind&&scope.names.all (W5 vn aJ scope.names)&&own.all (fun x=>(isLo (M8 scope.names x)||isCe (M8 scope.names x))&&aF x nS)
  && aJ.all (fun i=>oB (bc vn i) fun x=>isFr (M8 scope.names x)&&!isLo (M8 ns x))&&SR (own++bY vn aJ)
theorem O4 {cx:Cx} {vn:List Nat} {ns:List (Str×NameKind)} {scope:Scope} {own aJ:List Nat} {E:Env→Prop} (N:gb cx vn ns E) (h:XY vn ns scope own aJ=ac):qz cx vn E scope own aJ:=fun env he=>by
 have h:=ax.mp h;have h5:=h.2;have h:=ax.mp h.1;have h4:=h.2;have h:=ax.mp h.1;have h3:=h.2;have h:=ax.mp h.1;have h1:=h.1;have h2:=h.2;have h2:=ai.mp h2;have h3:=ai.mp h3;have h4:=ai.mp h4;have cap :∀i∈aJ,∃x,bc vn i=aa x∧scope.names.lookup (sT x)=aa .free∧env.kindOf (sT x)≠aa .local:=fun i hi=>
  aI (h4 i hi) fun x hx h=>have h:=ax.mp h;⟨x,hx,by refine nX▸?_;exact NG h.1,by refine au (N.kd env he ..)▸(nX ..)▸?_;exact NE h.2⟩
 have nm:=fun p hp=>ax.mp (h2 p hp);refine ⟨of_decide_eq_true h1,fun p hp e=>?_,fun p hp e=>?_,fun x hx=>?_,cap,fun p hp e=>?_,qk h5⟩
 ·refine A_▸?_;exact xQ (xE (ax.mp (nm p hp).1).1 e)
 ·refine A_▸?_;exact xN (xE (ax.mp (nm p hp).1).2 e)
 ·have h:=ax.mp (h3 x hx);refine nX▸?_;exact ⟨(cM.mp h.1).imp xN xQ,aG.mp h.2⟩
 ·refine cg (cZ.mp (xE (nm p hp).2 e)) fun i hi q=>?_;refine lG (cap i hi) fun x hx a nl=>?_;refine aI q fun y hy q=>?_;replace hy:=hx▸hy;refine au (qM q)▸(ao hy)▸?_;exact (N.fok env he).cells x (er hx) nl
theorem eS (h:(a&&b)=ac):a=ac∧b=ac:=ax.mp h
theorem aL (h:(a&&b)=ac):a=ac:=(eS h).1
theorem aR (h:(a&&b)=ac):b=ac:=(eS h).2
inductive F2 {α β:Type} (R:α→β→Prop):List α→List β→Prop
 |nil:F2 R [] []
 |cons {a b l m}:R a b→F2 R l m→F2 R (a::l) (b::m)
theorem DF {α β:Type} {f:α→β→Bool} {R:α→β→Prop} (k :∀a b,f a b=ac→R a b) (l:List α):∀{m:List β},jF f l m=ac→F2 R l m:=by
 induction l with
 |nil=>
  intro m h;cases m with
  |nil=>exact .nil
  |cons b m=>exact ff h
 |cons a l ih=>
  intro m h;cases m with
  |nil=>exact ff h
  |cons b m=>exact .cons (k a b (aL h)) (ih (aR h))
noncomputable def QQ {α:Type} (k:Nat) (a:b8) (f:a.ctorIdx=k→Option α):Option α:=dite (a.ctorIdx=k) f fun b=>aj
theorem mY {α:Type} {k:Nat} {a:b8} {f:a.ctorIdx=k→Option α} {p:α} {P:Prop} (h:QQ k a f=aa p) (c :∀e,f e=aa p→P):P:=by
 unfold QQ at h
 by_cases e:a.ctorIdx=k
 ·rw [dif_pos e] at h;exact c e h
 ·rw [dif_neg e] at h;exact no h
def yN (a:Expr):Option (Expr×Str×Pos):=yB 20 a fun h=>kZ (motive_1:=fun b=>Option (Expr×Str×Pos)) a h fun e s q=>aa (e,s,q)
theorem pV {p} (h:yN a=aa p):a=.Attribute p.1 p.2.1 p.2.2:=ec h fun e h=>kZ (motive_1:=fun a=>∀e:a.ctorIdx=20,kZ (motive_1:=fun b=>Option (Expr×Str×Pos)) a e (fun e s q=>aa (e,s,q))=aa p→a=.Attribute p.1 p.2.1 p.2.2) a e (fun e s q e h=>ao h▸rfl) e h
def wm (a:Expr):Option (Expr×List Expr×List ox×Pos):=yB 16 a fun h=>sd (motive_1:=fun b=>Option (Expr×List Expr×List ox×Pos)) a h fun g as k q=>aa (g,as,k,q)
theorem jo {p} (h:wm a=aa p):a=.Call p.1 p.2.1 p.2.2.1 p.2.2.2:=ec h fun e h=>sd (motive_1:=fun a=>∀e:a.ctorIdx=16,sd (motive_1:=fun b=>Option (Expr×List Expr×List ox×Pos)) a e (fun g as k q=>aa (g,as,k,q))=aa p→a=.Call p.1 p.2.1 p.2.2.1 p.2.2.2) a e (fun g as k q e h=>ao h▸rfl) e h
def V0 (a:Expr):Option (Expr×qJ×Expr):=yB 2 a fun h=>pS (motive_1:=fun b=>Option (Expr×qJ×Expr)) a h fun l o r b=>aa (l,o,r)
theorem F3 {p} (h:V0 a=aa p):∃q,a=.BinOp p.1 p.2.1 p.2.2 q:=ec h fun e h=>pS (motive_1:=fun a=>∀e:a.ctorIdx=2,pS (motive_1:=fun b=>Option (Expr×qJ×Expr)) a e (fun l o r b=>aa (l,o,r))=aa p→∃q,a=.BinOp p.1 p.2.1 p.2.2 q) a e (fun l o r q e h=>ao h▸⟨_,rfl⟩) e h
def yM (a:Expr):Option (B5×List Expr):=yB 0 a fun h=>oy (motive_1:=fun b=>Option (B5×List Expr)) a h fun o as b=>aa (o,as)
theorem mL {p} (h:yM a=aa p):∃q,a=.BoolOp p.1 p.2 q:=ec h fun e h=>oy (motive_1:=fun a=>∀e:a.ctorIdx=0,oy (motive_1:=fun b=>Option (B5×List Expr)) a e (fun o as b=>aa (o,as))=aa p→∃q,a=.BoolOp p.1 p.2 q) a e (fun o as q e h=>ao h▸⟨_,rfl⟩) e h
def VZ (a:Expr):Option (Expr×List B4×List Expr):=yB 15 a fun h=>ng (motive_1:=fun b=>Option (Expr×List B4×List Expr)) a h fun l os rs b=>aa (l,os,rs)
theorem F1 {p} (h:VZ a=aa p):∃q,a=.Compare p.1 p.2.1 p.2.2 q:=ec h fun e h=>ng (motive_1:=fun a=>∀e:a.ctorIdx=15,ng (motive_1:=fun b=>Option (Expr×List B4×List Expr)) a e (fun l os rs b=>aa (l,os,rs))=aa p→∃q,a=.Compare p.1 p.2.1 p.2.2 q) a e (fun l os rs q e h=>ao h▸⟨_,rfl⟩) e h
def Rk (a:Expr):Option (Expr×Expr×Expr):=yB 5 a fun h=>pR (motive_1:=fun b=>Option (Expr×Expr×Expr)) a h fun x l r b=>aa (x,l,r)
theorem yL {p} (h:Rk a=aa p):∃q,a=.IfExp p.1 p.2.1 p.2.2 q:=ec h fun e h=>pR (motive_1:=fun a=>∀e:a.ctorIdx=5,pR (motive_1:=fun b=>Option (Expr×Expr×Expr)) a e (fun x l r b=>aa (x,l,r))=aa p→∃q,a=.IfExp p.1 p.2.1 p.2.2 q) a e (fun x l r q e h=>ao h▸⟨_,rfl⟩) e h
def VX (a:Expr):Option (List Expr):=yB 24 a fun h=>r9 (motive_1:=fun b=>Option (List Expr)) a h fun as b=>aa as
theorem FY {p} (h:VX a=aa p):∃q,a=.List p q:=ec h fun e h=>r9 (motive_1:=fun a=>∀e:a.ctorIdx=24,r9 (motive_1:=fun b=>Option (List Expr)) a e (fun as b=>aa as)=aa p→∃q,a=.List p q) a e (fun as q e h=>ao h▸⟨_,rfl⟩) e h
def VY (a:Expr):Option (List (Option Expr)×List Expr):=yB 6 a fun h=>r_ (motive_1:=fun b=>Option (List (Option Expr)×List Expr)) a h fun as bs b=>aa (as,bs)
theorem FZ {p} (h:VY a=aa p):∃q,a=.Dict p.1 p.2 q:=ec h fun e h=>r_ (motive_1:=fun a=>∀e:a.ctorIdx=6,r_ (motive_1:=fun b=>Option (List (Option Expr)×List Expr)) a e (fun as bs b=>aa (as,bs))=aa p→∃q,a=.Dict p.1 p.2 q) a e (fun as bs q e h=>ao h▸⟨_,rfl⟩) e h
def FV (a:Expr):Option (Expr×Expr):=yB 21 a fun h=>kY (motive_1:=fun b=>Option (Expr×Expr)) a h fun e i b=>aa (e,i)
theorem s8 {p} (h:FV a=aa p):∃q,a=.Subscript p.1 p.2 q:=ec h fun e h=>kY (motive_1:=fun a=>∀e:a.ctorIdx=21,kY (motive_1:=fun b=>Option (Expr×Expr)) a e (fun e i b=>aa (e,i))=aa p→∃q,a=.Subscript p.1 p.2 q) a e (fun e i q e h=>ao h▸⟨_,rfl⟩) e h
def VW (a:Expr):Option (Option Expr×Option Expr×Option Expr):=yB 26 a fun h=>pQ (motive_1:=fun b=>Option (Option Expr×Option Expr×Option Expr)) a h fun l u s b=>aa (l,u,s)
theorem FX {p} (h:VW a=aa p):∃q,a=.Slice p.1 p.2.1 p.2.2 q:=ec h fun e h=>pQ (motive_1:=fun a=>∀e:a.ctorIdx=26,pQ (motive_1:=fun b=>Option (Option Expr×Option Expr×Option Expr)) a e (fun l u s b=>aa (l,u,s))=aa p→∃q,a=.Slice p.1 p.2.1 p.2.2 q) a e (fun l u s q e h=>ao h▸⟨_,rfl⟩) e h
def vLc (a:Expr):Option (Expr×List eH×Scope):=yB 8 a fun h=>lX (motive_1:=fun b=>Option (Expr×List eH×Scope)) a h fun x l sc b=>aa (x,l,sc)
theorem Cd {p} (h:vLc a=aa p):∃q,a=.ListComp p.1 p.2.1 p.2.2 q:=ec h fun e h=>lX (motive_1:=fun a=>∀e:a.ctorIdx=8,lX (motive_1:=fun b=>Option (Expr×List eH×Scope)) a e (fun x l sc b=>aa (x,l,sc))=aa p→∃q,a=.ListComp p.1 p.2.1 p.2.2 q) a e (fun x l sc q e h=>ao h▸⟨_,rfl⟩) e h
def vDc (a:Expr):Option (Expr×Expr×List eH×Scope):=yB 10 a fun h=>lY (motive_1:=fun b=>Option (Expr×Expr×List eH×Scope)) a h fun x y l sc b=>aa (x,y,l,sc)
theorem Cf {p} (h:vDc a=aa p):∃q,a=.DictComp p.1 p.2.1 p.2.2.1 p.2.2.2 q:=ec h fun e h=>lY (motive_1:=fun a=>∀e:a.ctorIdx=10,lY (motive_1:=fun b=>Option (Expr×Expr×List eH×Scope)) a e (fun x y l sc b=>aa (x,y,l,sc))=aa p→∃q,a=.DictComp p.1 p.2.1 p.2.2.1 p.2.2.2 q) a e (fun x y l sc q e h=>ao h▸⟨_,rfl⟩) e h
def PY (a:b8):Option (Expr):=QQ 24 a fun h=>rU (motive_2:=fun b=>Option (Expr)) a h fun e b=>aa e
theorem DR {a:b8} {p} (h:PY a=aa p):∃q,a=.Expr p q:=mY h fun e h=>rU (motive_2:=fun a=>∀e:a.ctorIdx=24,rU (motive_2:=fun b=>Option (Expr)) a e (fun e b=>aa e)=aa p→∃q,a=.Expr p q) a e (fun e q e h=>ao h▸⟨_,rfl⟩) e h
def VQ (a:b8):Option (List Expr×Expr):=QQ 5 a fun h=>oj (motive_2:=fun b=>Option (List Expr×Expr)) a h fun ts e b=>aa (ts,e)
theorem FS {a:b8} {p} (h:VQ a=aa p):∃q,a=.Assign p.1 p.2 q:=mY h fun e h=>oj (motive_2:=fun a=>∀e:a.ctorIdx=5,oj (motive_2:=fun b=>Option (List Expr×Expr)) a e (fun ts e b=>aa (ts,e))=aa p→∃q,a=.Assign p.1 p.2 q) a e (fun ts e q e h=>ao h▸⟨_,rfl⟩) e h
def VM (a:b8):Option (Option Expr):=QQ 3 a fun h=>oi (motive_2:=fun b=>Option (Option Expr)) a h fun e b=>aa e
theorem FN {a:b8} {p} (h:VM a=aa p):∃q,a=.Return p q:=mY h fun e h=>oi (motive_2:=fun a=>∀e:a.ctorIdx=3,oi (motive_2:=fun b=>Option (Option Expr)) a e (fun e b=>aa e)=aa p→∃q,a=.Return p q) a e (fun e q e h=>ao h▸⟨_,rfl⟩) e h
def Z9 (a:b8):Option (Expr×List b8×List b8):=QQ 12 a fun h=>yn (motive_2:=fun b=>Option (Expr×List b8×List b8)) a h fun c x y b=>aa (c,x,y)
theorem LC {a:b8} {p} (h:Z9 a=aa p):∃q,a=.If p.1 p.2.1 p.2.2 q:=mY h fun e h=>yn (motive_2:=fun a=>∀e:a.ctorIdx=12,yn (motive_2:=fun b=>Option (Expr×List b8×List b8)) a e (fun c x y b=>aa (c,x,y))=aa p→∃q,a=.If p.1 p.2.1 p.2.2 q) a e (fun c x y q e h=>ao h▸⟨_,rfl⟩) e h
def VP (a:b8):Option (Expr×Expr×List b8×List b8):=QQ 9 a fun h=>vj (motive_2:=fun c=>Option (Expr×Expr×List b8×List b8)) a h fun x i b o c=>aa (x,i,b,o)
theorem FQ {a:b8} {p} (h:VP a=aa p):∃q,a=.For p.1 p.2.1 p.2.2.1 p.2.2.2 q:=mY h fun e h=>vj (motive_2:=fun a=>∀e:a.ctorIdx=9,vj (motive_2:=fun c=>Option (Expr×Expr×List b8×List b8)) a e (fun x i b o c=>aa (x,i,b,o))=aa p→∃q,a=.For p.1 p.2.1 p.2.2.1 p.2.2.2 q) a e (fun x i b o q e h=>ao h▸⟨_,rfl⟩) e h
def PX (a:b8):Option (Expr×List b8×List b8):=QQ 11 a fun h=>pO (motive_2:=fun c=>Option (Expr×List b8×List b8)) a h fun x b o c=>aa (x,b,o)
theorem DQ {a:b8} {p} (h:PX a=aa p):∃q,a=.While p.1 p.2.1 p.2.2 q:=mY h fun e h=>pO (motive_2:=fun a=>∀e:a.ctorIdx=11,pO (motive_2:=fun c=>Option (Expr×List b8×List b8)) a e (fun x b o c=>aa (x,b,o))=aa p→∃q,a=.While p.1 p.2.1 p.2.2 q) a e (fun x b o q e h=>ao h▸⟨_,rfl⟩) e h
def qS {α:Type} (l:List α):Option α:=aP aj (fun a l b=>aP (aa a) (fun b b b=>aj) l) l
theorem gw {α:Type} {l:List α} {a:α} (h:qS l=aa a):l=[a]:=by
 cases l with
 |nil=>exact no h
 |cons b l=>cases l with
  |nil=>exact congrArg (fun x=>[x]) (ao h)
  |cons=>exact no h
noncomputable def K5 {α:Type} (l:List α):Bool:=List.isEmpty l
theorem jB {α:Type} {l:List α} (h:K5 l=ac):l=[]:=lM.mp h
noncomputable def vP {α:Type} (l:List α):Bool:=ay l.length 1
theorem sv {α:Type} {l:List α} (h:vP l=ac):∃a,l=[a]:=List.length_eq_one_iff.mp (am h)
noncomputable def YB {α:Type} (l:List α):Bool:=!l.isEmpty
def opB (op:Nat) (o:qJ):Bool:=decide (MJ op=o)
def cmB (op:Nat) (o:B4):Bool:=aF op 10&&decide (uH op=o)
def Yx (C:KC) (ns:List (Str×NameKind)) (src:Nat) (one:Bool) (iter:Expr) (k:List Expr→Bool):Bool:=match src with
 |0=>k [iter]
 |1=>oB (wm iter) fun p=>oB (qS p.2.1) fun arg=>K5 p.2.2.1&&dS p.1&&ix arg&&YO C ns (.bi 0) p.1&&!one&&k [arg]
 |_=>oB (wm iter) fun p=>K5 p.2.2.1&&dS p.1&&cO p.2.1&&YO C ns (.bi 1) p.1&&k p.2.1
noncomputable def Ib (e:IE):Bool:=match e with|.lc ..=>ac|.dc ..=>ac|_=>ae
abbrev KF2:=List Nat→List (Str×NameKind)→IE→Expr→Bool
def Bf (r:KF2) (vn:List Nat) (ns:List (Str×NameKind)):List IE→List Expr→Bool:=jF fun e a=>ix a&&r vn ns e a
def YH (r:KF2) (vn:List Nat) (ns:List (Str×NameKind)):List IE→List Expr→Bool:=jF (r vn ns)
def kKs (r:KF2) (vn:List Nat) (ns:List (Str×NameKind)):List IE→List (Option Expr)→Bool:=jF fun e o=>oB o (r vn ns e)
def Zq (C:KC) (rE rT:KF2) (vn:List Nat) (ns:List (Str×NameKind)) (bm:List Nat) (one:Bool) (src:Nat) (it ifs:List IE) (own aJ:List Nat) (sc:Scope) (c:eH):Bool:=
 decide (c.is_async=0)&&Yx C ns src one c.iter (fun as=>Bf rE vn ns it as&&vP it)&&XY vn ns sc own aJ&&V6 (own++bY vn aJ) own.length bm one c.target&&ft c.iter&&aF src 2
  && YH rT (own++bY vn aJ) (GM ns sc.names) ifs c.ifs
def Qv (rE:KF2) (vn:List Nat) (ns:List (Str×NameKind)) (f:IE) (args:List IE) (a:Expr):Bool:=oB (wm a) fun p=>K5 p.2.2.1&&dS p.1&&cO p.2.1&&rE vn ns f p.1&&Bf rE vn ns args p.2.1
def YJ (a:Expr) (k:Expr→Str→List Expr→Bool):Bool:=oB (wm a) fun p=>oB (yN p.1) fun q=>K5 p.2.2.1&&bJ q.1&&(q.2.2.endLine==p.2.2.2.line)&&k q.1 q.2.1 p.2.1
def Qt (rE:KF2) (vn:List Nat) (ns:List (Str×NameKind)) (o:IE) (nm:Nat) (args:List IE) (a:Expr):Bool:=YJ a fun b s as=>cO as&&aF as.length 30&&kN s nm&&rE vn ns o b&&Bf rE vn ns args as
def Zr (a:Expr) (k:B4→Expr→Expr→Bool):Bool:=oB (VZ a) fun p=>oB (qS p.2.1) fun o=>oB (qS p.2.2) fun r=>k o p.1 r
def Ew (rE:KF2) (vn:List Nat) (ns:List (Str×NameKind)) (op:Nat) (x y:IE) (a:Expr):Bool:=Zr a fun o l r=>cmB op o&&!mJ o r&&rE vn ns x l&&rE vn ns y r
def kIn (rE:KF2) (vn:List Nat) (ns:List (Str×NameKind)) (x e:IE) (a:Expr):Bool:=Zr a fun o l r=>YJ r fun b s as=>decide (o=.In)&&K5 as&&sq s 3&&rE vn ns x l&&rE vn ns e b
def kEb (C:KC) (rE rT:KF2):KF2:=fun vn ns e a=>match e with
 |.any=>ac
 |.cst v=>Xm v a
 |.var i=>zc vn i a
 |.glb nm v=>Tm C ns nm v a
 |.attr e nm=>oB (yN a) fun p=>bJ p.1&&kN p.2.1 nm&&cJ nm C.atL&&rE vn ns e p.1
 |.call f args=>Qv rE vn ns f args a
 |.meth o nm args=>Qt rE vn ns o nm args a
 |.bin op x y=>oB (V0 a) fun p=>opB op p.2.1&&rE vn ns x p.1&&rE vn ns y p.2.2
 |.and es=>oB (yM a) fun p=>decide (p.1=.And)&&YB es&&Bf rE vn ns es p.2
 |.or es=>oB (yM a) fun p=>decide (p.1=.Or)&&YB es&&Bf rE vn ns es p.2
 |.not e=>oB (Yp a) fun p=>decide (p.1=.Not)&&rE vn ns e p.2
 |.cmp op x y=>Ew rE vn ns op x y a
 |.ite c x y=>oB (Rk a) fun p=>rT vn ns c p.1&&rE vn ns x p.2.1&&rE vn ns y p.2.2
 |.tup es=>oB (FE a) (Bf rE vn ns es)
 |.lst es=>oB (VX a) (Bf rE vn ns es)
 |.dct ks vs=>oB (VY a) fun p=>ay p.1.length p.2.length&&bX p.1.length 15&&kKs rE vn ns ks p.1&&Bf rE vn ns vs p.2
 |.sub e i=>oB (FV a) fun p=>rE vn ns e p.1&&rE vn ns i p.2
 |.slc e lo hi=>oB (FV a) fun p=>oB (VW p.2) fun q=>slB lo q.1&&slQ hi q.2.1&&q.2.2.isNone&&rE vn ns e p.1
 |.lc elt bm one src it ifs own aJ=>oB (vLc a) fun p=>oB (qS p.2.1) fun c=>Zq C rE rT vn ns bm one src it ifs own aJ p.2.2 c&&rE (own++bY vn aJ) (GM ns p.2.2.names) elt p.1
 |.dc k v bm one src it ifs own aJ=>oB (vDc a) fun p=>oB (qS p.2.2.1) fun c=>Zq C rE rT vn ns bm one src it ifs own aJ p.2.2.2 c&&rE (own++bY vn aJ) (GM ns p.2.2.2.names) k p.1&&rE (own++bY vn aJ) (GM ns p.2.2.2.names) v p.2.1
 |.itemsL e=>oB (wm a) fun p=>oB (qS p.2.1) fun m=>K5 p.2.2.1&&dS p.1&&YO C ns (.bi 6) p.1&&YJ m fun b s as=>K5 as&&sq s 2&&rE vn ns e b
 |.inVals x e=>kIn rE vn ns x e a
def kTb (rE rT:KF2):KF2:=fun vn ns e a=>match e with
 |.and es=>oB (yM a) fun p=>decide (p.1=.And)&&YH rT vn ns es p.2
 |.or es=>oB (yM a) fun p=>decide (p.1=.Or)&&YH rT vn ns es p.2
 |.not e=>oB (Yp a) fun p=>decide (p.1=.Not)&&rT vn ns e p.2
 |.cmp op x y=>Ew rE vn ns op x y a
 |.ite c x y=>oB (Rk a) fun p=>rT vn ns c p.1&&rT vn ns x p.2.1&&rT vn ns y p.2.2
 |.inVals x e=>kIn rE vn ns x e a
 |e=>AI a&&rE vn ns e a
def YK (C:KC) (n:Nat):KF2×KF2:=fF (fun a a a a=>ae,fun a a a a=>ae) (fun a ih=>(kEb C ih.1 ih.2,kTb ih.1 ih.2)) n
def kE (C:KC):KF2:=(YK C 30).1
def kT (C:KC):KF2:=(YK C 30).2
abbrev KS:=List Nat→List (Str×NameKind)→List IS→List b8→Bool
def Db (e:IE):Bool:=IE.rec (motive_1:=fun a=>Bool) (motive_2:=fun a=>Unit) (fun v=>ay v.ctorIdx 0) (fun a=>ae) (fun a a=>ae) (fun a a a=>ae) (fun a a a a=>ae) (fun a a a a a=>ae) (fun a a a a a=>ae) (fun a a=>ae) (fun a a=>ae) (fun a a=>ae)
 (fun a a a a a=>ae) (fun a a a a a a=>ae) (fun a a=>ae) (fun a a=>ae) (fun a a a a=>ae) (fun a a a a=>ae) (fun a a a a=>ae) (fun a a a a a a a a a a a=>ae) (fun a a a a a a a a a a a a a=>ae) (fun a a=>ae) (fun a a a a=>ae) ae () (fun a a a a=>()) e
def Nj (a:b8) (k:Expr→Expr→Bool):Bool:=oB (VQ a) fun p=>oB (qS p.1) fun t=>k t p.2
def kSb (C:KC) (r:KS) (vn:List Nat) (ns:List (Str×NameKind)) (s:IS) (a:b8):Bool:=match s with
 |.expr e=>oB (PY a) fun p=>cz p&&kE C vn ns e p
 |.asg i e=>Nj a fun t x=>zc vn i t&&WZ vn ns i&&kE C vn ns e x&&(cz x||Ib e)
 |.asgT l e=>Nj a fun t x=>oB (FE t) fun es=>cz x&&kE C vn ns e x&&oB (Wb ns es x) fun o=>aM (Gd vn ns l ae t) (fun nm=>SK vn ns l nm&&SR l) o
 |.asgA o nm e=>Nj a fun t x=>oB (yN t) fun q=>cz x&&kN q.2.1 nm&&cJ nm C.atL&&kE C vn ns e x&&kE C vn ns o q.1
 |.asgS o i e=>Nj a fun t x=>oB (FV t) fun q=>cz x&&kE C vn ns e x&&kE C vn ns o q.1&&kE C vn ns i q.2
 |.ret e=>oB (VM a) fun p=>aM (Db e) (kE C vn ns e) p
 |.iff c x y=>oB (Z9 a) fun p=>kT C vn ns c p.1&&r vn ns x p.2.1&&r vn ns y p.2.2
 |.forr bm one src it body=>oB (VP a) fun p=>K5 p.2.2.2&&Yx C ns src one p.2.1 (fun as=>Bf (kE C) vn ns it as&&(ay src 2||vP it))&&Gd vn ns bm one p.1&&ft p.2.1&&aF src 3&&r vn ns body p.2.2.1
 |.whil c body=>oB (PX a) fun p=>K5 p.2.2&&kT C vn ns c p.1&&r vn ns body p.2.1
 |.brk=>ay a.ctorIdx 26
 |_=>ae
def Zp (f:IS→b8→Bool) (l:List IS):List b8→Bool:=
 aP (motive:=fun b=>List b8→Bool) (aP ac fun b b b=>ae) (fun s b ih as=>match s with
  |.any=>ac
  |.frz _=>ih as
  |s=>aP ae (fun a as b=>f s a&&ih as) as) l
def kSn (C:KC) (m:Nat):KS:=fF (motive:=fun a=>KS) (fun a a a a=>ae) (fun a ih vn ns=>Zp (kSb C ih vn ns)) m
def YI (C:KC):KS:=kSn C 30
section
variable {cx:Cx} {n:Nat} {rc:Rc} {C:KC}
theorem C7 {E:Env→Prop} (G:Gk cx ms C.atL C.glL) (N:gb cx vn ns E) (h:Tm C ns nm v a=ac):∀env fr S,E env→JE cx n vn env a fr S v S:=
 aI h fun s hs h=>by
  refine ak (yK hs) fun q e=>?_;refine aK (fun hn hs=>?_) (wJ (aL (aL h)));erw[e,hs];exact fun env fr S he=>TF G.O (N.fok env he) hn ((N.kd env he _).trans (nX▸NF (aR (aL h)))) (G.glb _ (Hn (aR h)))
theorem xU {E:Env→Prop} (G:Gk cx ms C.atL C.glL) (N:gb cx vn ns E) (h:YO C ns v a=ac):∀env fr S,E env→JE cx n vn env a fr S v S:=by
 refine cg (cZ.mp h) fun p hp h=>?_;have h1:=aL h;have h2:=aR h;exact C7 G N h2
theorem Ni {E:Env→Prop} (h:Xm v a=ac):SE cx n vn E a (aO v) rc:=by
 cases v with
 |none=>
  refine aI h fun c hc h=>?_;refine wh (kz hc) fun k q e=>?_;erw[e,UA h];exact qe fun env fr S he=>Np
 |bool b=>
  refine aI h fun c hc h=>aI h fun d hd h=>?_;refine wh (kz hc) fun k q e=>?_;erw[e,Pc hd,gV h];exact qe fun env fr S he=>Nt
 |int i=>
  rcases cM.mp h with h|h
  ·refine aI h fun c hc h=>aI h fun d hd h=>?_;refine wh (kz hc) fun k q e=>?_;erw[e,BJ hd,of_decide_eq_true h];exact qe fun env fr S he=>TE
  ·refine aI h fun p hp h=>aI (aR h) fun c hc h'=>aI h' fun d hd h'=>?_;refine ak (xm hp) fun q e=>?_;refine wh (kz hc) fun k q' e'=>?_;rw [e,e',BJ hd,of_decide_eq_true (aL h),of_decide_eq_true h'];exact R7
 |str x=>
  refine aI h fun c hc h=>aI h fun d hd h=>?_;refine wh (kz hc) fun k q e=>?_;refine aK (fun hn hs=>?_) (wJ h);erw[e,Pb hd,hs];exact qe fun env fr S he=>TA hn
 |_=>exact ff h
theorem x7 (h:cmB op o=ac):op<10∧uH op=o:=let ⟨a,b⟩:=eS h;⟨aG.mp a,of_decide_eq_true b⟩
theorem kB (h:(!b)=ac):b=ae:=by cases b<;>first|rfl|exact ff h
theorem Pn {E:Env→Prop}:SE cx n vn E a XR rc:=fun fr S k e=>by exact ff e
theorem iT {E:Env→Prop} (h :∀fr S k,c rc fr S k=ae):ST cx n vn E a c rc:=fun fr S k e=>by rw [h] at e;exact ff e
abbrev UR (cx:Cx) (n:Nat) (vn:List Nat) (E:Env→Prop) (rc:Rc):List IE→List Expr→Prop:=F2 (fun e a=>ix a=ac∧SE cx n vn E a (cB e).1 rc)
abbrev YZ (cx:Cx) (n:Nat) (vn:List Nat) (E:Env→Prop) (rc:Rc):List IE→List Expr→Prop:=F2 (fun e a=>ST cx n vn E a (cB e).2 rc)
theorem tX {E:Env→Prop} (h:UR cx n vn E rc es as):Pu cx n vn E as (oA es) rc:=by
 induction h with
 |nil=>exact RW
 |cons h _ ih=>exact Mc h.1 h.2 ih
theorem RS {E:Env→Prop} (z:YB es=ac) (h:UR cx n vn E rc es as):SO cx n vn E .And as (zz (oA es)) rc:=by
 induction h with
 |nil=>exact ff z
 |cons h t ih=>cases t with
  |nil=>exact GA h.2
  |cons=>exact RP h.2 (ih rfl)
theorem RQ {E:Env→Prop} (z:YB es=ac) (h:UR cx n vn E rc es as):SO cx n vn E .Or as (XN (oA es)) rc:=by
 induction h with
 |nil=>exact ff z
 |cons h t ih=>cases t with
  |nil=>exact GA h.2
  |cons=>exact Wo h.2 (ih rfl)
theorem Sg {E:Env→Prop} (h:YZ cx n vn E rc es as):SA cx n vn E .And as (eO (zR es)) rc:=by
 induction h with
 |nil=>exact Az
 |cons h _ ih=>exact Se h ih
theorem Sf {E:Env→Prop} (h:YZ cx n vn E rc es as):SA cx n vn E .Or as (Go (zR es)) rc:=by
 induction h with
 |nil=>exact D6
 |cons h _ ih=>exact Ws h ih
theorem RA {E:Env→Prop} (h:YZ cx n vn E rc es as):KE cx n vn E as (eO (zR es)) rc:=by
 induction h with
 |nil=>exact L4
 |cons h _ ih=>exact Gq h ih
theorem Wn {E:Env→Prop} (h:F2 (fun e a=>SE cx n vn E a (cB e).1 rc) ks as):∀{vs:List IE} {bs:List Expr},as.length=bs.length→UR cx n vn E rc vs bs→SP cx n vn E as bs (M5 (oA ks) (oA vs)) rc:=by
 induction h with
 |nil=>
  intro vs bs z h;erw[eK z.symm];exact RO
 |cons a _ ih=>
  intro vs bs z h
  induction h with
  |nil=>exact absurd z (PF _)
  |cons b u _=>exact Ma a b.2 (ih (cq z) u)
theorem Us {E:Env→Prop} {pos} (O:COk cx) (hl:keys.length=bs.length) (h15:keys.length≤15) (hk:F2 (fun e a=>SE cx n vn E a (cB e).1 rc) ks keys) (hv:UR cx n vn E rc vs bs):
 SE cx n vn E (.Dict (keys.map aa) bs pos) (ER (M5 (oA ks) (oA vs))) rc:=by
 have hp:=Wn hk hl hv;cases keys with
 |nil=>
  first|exact no hk|exact ff hk|cases hk
  cases bs with
  |nil=>cases hv;exact Mg O
  |cons b bs=>first|exact no hl|exact ff hl|cases hl
 |cons k keys=>
  cases bs with
  |nil=>first|exact no hl|exact ff hl|cases hl
  |cons b bs=>exact R_ O (cq hl) (by rw [lL] at h15;omega) hp
theorem RN {E:Env→Prop} (G:Gk cx rc.ms C.atL C.glL) (N:gb cx vn ns E)
 (X :∀{e a},rE vn ns e a=ac→SE cx n vn E a (cB e).1 rc) (h:Yx C ns src one iter (fun as=>Bf rE vn ns es as&&vP es)=ac) (h2:src<2):ye cx n vn E iter target bm one src (oA es) rc:=by
 have key :∀{a:Expr},(Bf rE vn ns es [a]&&vP es)=ac→∃e,es=[e]∧SE cx n vn E a (cB e).1 rc:=fun {a} q=>by
  refine ak (sv (aR q)) fun e q1000=>?_;subst q1000;exact ⟨e,rfl,X (aR (aL (aL q)))⟩
 cases src with
 |zero=>
  apply b7 (key h);intro e q;exact Gu G.O q
 |succ k=>cases k with
  |succ k=>exact absurd h2 (i5.mpr (we 2 k))
  |zero=>
   refine aI h fun p hp h=>aI h fun arg ha h=>?_;apply b7 (key (aR h));intro e q;refine au (jo hp)▸au (gw ha)▸au (jB (aL (aL (aL (aL (aL h))))))▸au (kB (aR (aL h)))▸?_;exact DX G.O (aR (aL (aL (aL (aL h))))) (aR (aL (aL (aL h)))) (xU G N (aR (aL (aL h)))) q
structure RE (cx:Cx) (n:Nat) (rc:Rc) (rE rT:KF2):Prop where
 e :∀{vn ns E e a},gb cx vn ns E→rE vn ns e a=ac→SE cx n vn E a (cB e).1 rc
 t :∀{vn ns E e a},gb cx vn ns E→rT vn ns e a=ac→ST cx n vn E a (cB e).2 rc
section
variable {rE rT:KF2} {vn:List Nat} {ns:List (Str×NameKind)} {E:Env→Prop} {a:Expr}
theorem mn (X:RE cx n rc rE rT) (N:gb cx vn ns E) (h:Bf rE vn ns es as=ac):UR cx n vn E rc es as:=DF (fun e a q=>⟨aL q,X.e N (aR q)⟩) es h
theorem Be (X:RE cx n rc rE rT) (N:gb cx vn ns E) (h:YH rT vn ns es as=ac):YZ cx n vn E rc es as:=DF (fun e a q=>X.t N q) es h
theorem Tl (X:RE cx n rc rE rT) (N:gb cx vn ns E) (es:List IE):∀{as:List (Option Expr)},kKs rE vn ns es as=ac→∃keys:List Expr,as=keys.map aa∧F2 (fun e a=>SE cx n vn E a (cB e).1 rc) es keys:=by
 induction es with
 |nil=>
  intro as h;cases as with
  |nil=>exact ⟨[],rfl,.nil⟩
  |cons=>exact ff h
 |cons e es ih=>
  intro as h;cases as with
  |nil=>exact ff h
  |cons o as=>
   refine aI (aL h) fun a ha q=>?_;refine cg (ih (aR h)) fun keys hk t=>?_;exact ⟨a::keys,ha▸hk▸rfl,.cons (X.e N q) t⟩
theorem sD {P:Prop} (h:YJ a k=ac) (c :∀b s as u q,a=.Call (.Attribute b s u) as [] q→bJ b=ac→(u.endLine==q.line)=ac→k b s as=ac→P):P:=
 aI h fun p hp h=>aI h fun q hq h=>c q.1 q.2.1 p.2.1 q.2.2 p.2.2.2 (by rw [jo hp,pV hq,jB (aL (aL (aL h)))]) (aR (aL (aL h))) (aR (aL h)) (aR h)
theorem sF {P:Prop} (h:Zr a k=ac) (c :∀o l r q,a=.Compare l [o] [r] q→k o l r=ac→P):P:=
 aI h fun p hp h=>aI h fun o ho h=>aI h fun r hr h=>by
  refine ak (F1 hp) fun q e=>?_;exact c o p.1 r q (by rw [e,gw ho,gw hr]) h
theorem HQ (G:Gk cx rc.ms C.atL C.glL) (R:mC cx n rc) (X:RE cx n rc rE rT) (N:gb cx vn ns E) (h:Qv rE vn ns f args a=ac):SE cx n vn E a (bw (cB f).1 (oA args)) rc:=
 aI h fun p hp h=>by
  erw[jo hp,jB (aL (aL (aL (aL h))))];exact Mh G R (aR (aL (aL (aL h)))) (aR (aL (aL h))) (X.e N (aR (aL h))) (tX (mn X N (aR h)))
theorem HO (G:Gk cx rc.ms C.atL C.glL) (R:mC cx n rc) (X:RE cx n rc rE rT) (N:gb cx vn ns E) (h:Qt rE vn ns o nm args a=ac):SE cx n vn E a (cT (cB o).1 nm (oA args)) rc:=
 sD h fun b s as u q e h1 h2 h=>by
  refine aK (fun hn hs=>?_) (wJ (aR (aL (aL h))));erw[e,hs];exact Mf G R h1 (aL (aL (aL (aL h)))) (aG.mp (aR (aL (aL (aL h))))) h2 hn (X.e N (aR (aL h))) (tX (mn X N (aR h)))
theorem sE (G:Gk cx rc.ms C.atL C.glL) (X:RE cx n rc rE rT) (N:gb cx vn ns E) {P:Prop} (h:Zq C rE rT vn ns bm one src it ifs own aJ sc c=ac)
 (k:c=⟨c.target,c.iter,c.ifs,0⟩ →qz cx vn E sc own aJ→zY (own++bY vn aJ) own.length bm one c.target→ft c.iter=ac→ye cx n vn E c.iter c.target bm one src (oA it) rc→KE cx n (own++bY vn aJ) (DK cx E (own++bY vn aJ) sc) c.ifs (eO (zR ifs)) rc→P):P:=
 k (by obtain ⟨t,i,f,s⟩:=c;exact congrArg (Comprehension.mk t i f) (of_decide_eq_true (aL (aL (aL (aL (aL (aL h))))))))
  (O4 N (aR (aL (aL (aL (aL h)))))) (LP (aR (aL (aL (aL h))))) (aR (aL (aL h))) (RN G N (fun q=>X.e N q) (aR (aL (aL (aL (aL (aL h)))))) (aG.mp (aR (aL h)))) (RA (Be X (n8 N) (aR h)))
theorem Tn (G:Gk cx rc.ms C.atL C.glL) (R:mC cx n rc) (X:RE cx n rc rE rT) (N:gb cx vn ns E) (e:IE) (h:kEb C rE rT vn ns e a=ac):SE cx n vn E a (cB e).1 rc:=by
 cases e with
 |any=>exact Pn
 |cst v=>exact Ni h
 |var i=>apply PS (sC h);intro x pos hx;exact R2 N hx
 |glb nm v=>exact qe (C7 G N h)
 |attr e nm=>
  refine aI h fun p hp h=>?_;refine aK (fun hn hs=>?_) (wJ (aR (aL (aL h))));erw[pV hp,hs];exact Mi G (aL (aL (aL h))) hn (gx (aR (aL h))) (X.e N (aR h))
 |call f args=>exact HQ G R X N h
 |meth o nm args=>exact HO G R X N h
 |bin op x y=>
  refine aI h fun p hp h=>?_;refine ak (F3 hp) fun q hq=>?_;erw[hq];exact Sd (of_decide_eq_true (aL (aL h))) (X.e N (aR (aL h))) (X.e N (aR h))
 |and es=>
  refine aI h fun p hp h=>?_;refine ak (mL hp) fun q hq=>?_;erw[hq,of_decide_eq_true (aL (aL h))];exact GG (RS (aR (aL h)) (mn X N (aR h)))
 |or es=>
  refine aI h fun p hp h=>?_;refine ak (mL hp) fun q hq=>?_;erw[hq,of_decide_eq_true (aL (aL h))];exact GG (RQ (aR (aL h)) (mn X N (aR h)))
 |not e=>
  refine aI h fun p hp h=>?_;refine ak (xm hp) fun q hq=>?_;erw[hq,of_decide_eq_true (aL h)];exact R6 (X.e N (aR h))
 |cmp op x y=>
  have h:Ew rE vn ns op x y a=ac:=h;unfold Ew at h;refine sF h fun o l r q e h=>?_;erw[e];exact Sc G.O R (x7 (aL (aL (aL h)))).1 (x7 (aL (aL (aL h)))).2 (kB (aR (aL (aL h)))) (X.e N (aR (aL h))) (X.e N (aR h))
 |ite c x y=>
  refine aI h fun p hp h=>?_;refine ak (yL hp) fun q hq=>?_;erw[hq];exact R9 (X.t N (aL (aL h))) (X.e N (aR (aL h))) (X.e N (aR h))
 |tup es=>
  refine aI h fun p hp h=>?_;refine wh (oJ hp) fun k q hq=>?_;erw[hq];exact R3 (tX (mn X N h))
 |lst es=>
  refine aI h fun p hp h=>?_;refine ak (FY hp) fun q hq=>?_;erw[hq];exact R8 (tX (mn X N h))
 |dct ks vs=>
  refine aI h fun p hp h=>?_;refine ak (FZ hp) fun q hq=>?_;refine cg (Tl X N ks (aR (aL h))) fun keys hk t=>?_;have hl:=am (aL (aL (aL h)));have h15:=Nat.ble_eq.mp (aR (aL (aL h)));rw [hk,a9] at hl h15;erw[hq,hk];exact Us G.O hl h15 t (mn X N (aR h))
 |sub e i=>
  refine aI h fun p hp h=>?_;refine ak (s8 hp) fun q hq=>?_;erw[hq];exact R4 G.O (X.e N (aL h)) (X.e N (aR h))
 |slc e lo hi=>
  refine aI h fun p hp h=>aI h fun r hr h=>?_;refine ak (s8 hp) fun q hq=>?_;refine ak (FX hr) fun u hu=>?_;erw[hq,hu,dQ.mp (aR (aL h))];exact R5 G.O (RY (aL (aL (aL h)))) (RX (aR (aL (aL h)))) (X.e N (aR h))
 |lc elt bm one src it ifs own aJ=>
  refine aI h fun p hp h=>aI h fun c hc h=>sE G X N (aL h) fun e h1 h2 h3 h4 h5=>?_;refine ak (Cd hp) fun q hq=>?_;erw[hq,gw hc,e];show SE cx n vn E _ (xY (cB elt).1 bm one src (oA it) (zR ifs) (eZ own) aJ) rc;erw[(cC ..)];exact Wq (c:=(cB elt).1) (ifs:=zR ifs) G.O N h1 h2 h3 h4 h5 (X.e (n8 N) (aR h))
 |dc k v bm one src it ifs own aJ=>
  refine aI h fun p hp h=>aI h fun c hc h=>sE G X N (aL (aL h)) fun e h1 h2 h3 h4 h5=>?_;refine ak (Cf hp) fun q hq=>?_;erw[hq,gw hc,e];show SE cx n vn E _ (XQ (cB k).1 (cB v).1 bm one src (oA it) (zR ifs) (eZ own) aJ) rc;erw[(cC ..)];exact Wr (c1:=(cB k).1) (c2:=(cB v).1) (ifs:=zR ifs) G.O N h1 h2 h3 h4 h5 (X.e (n8 N) (aR (aL h))) (X.e (n8 N) (aR h))
 |itemsL e=>
  refine aI h fun p hp h=>aI h fun m hm h=>sD (aR h) fun b s as u q em h1 h2 k=>?_;rw [jo hp,gw hm,jB (aL (aL (aL h))),em,jB (aL (aL k)),qM (aR (aL k))];exact D3 G (aR (aL (aL h))) h1 h2 (xU G N (aR (aL h))) (X.e N (aR k))
 |inVals x e=>
  have h:kIn rE vn ns x e a=ac:=h;unfold kIn at h;refine sF h fun o l r q e h=>sD h fun b s as u w em h1 h2 k=>?_;rw [e,em,of_decide_eq_true (aL (aL (aL (aL k)))),jB (aR (aL (aL (aL k)))),qM (aR (aL (aL k)))];exact D4 (rc:=rc) G.O h1 h2 (X.e N (aR (aL k))) (X.e N (aR k))
theorem Tg (G:Gk cx rc.ms C.atL C.glL) (R:mC cx n rc) (X:RE cx n rc rE rT) (N:gb cx vn ns E) (e:IE) (h:kTb rE rT vn ns e a=ac):ST cx n vn E a (cB e).2 rc:=by
 have V :∀(c:(cB e).2=lP (cB e).1),(AI a&&rE vn ns e a)=ac→ST cx n vn E a (cB e).2 rc:=fun c h=>by erw[c];exact RB (fun env=>Ed (aL h)) (X.e N (aR h))
 cases e with
 |and es=>
  refine aI h fun p hp h=>?_;refine ak (mL hp) fun q hq=>?_;erw[hq,of_decide_eq_true (aL h)];exact Gs (Sg (Be X N (aR h)))
 |or es=>
  refine aI h fun p hp h=>?_;refine ak (mL hp) fun q hq=>?_;erw[hq,of_decide_eq_true (aL h)];exact Gs (Sf (Be X N (aR h)))
 |not e=>
  refine aI h fun p hp h=>?_;refine ak (xm hp) fun q hq=>?_;erw[hq,of_decide_eq_true (aL h)];exact RF (X.t N (aR h))
 |cmp op x y=>
  have h:Ew rE vn ns op x y a=ac:=h;unfold Ew at h;refine sF h fun o l r q e h=>?_;erw[e];exact RH G.O R (x7 (aL (aL (aL h)))).1 (x7 (aL (aL (aL h)))).2 (kB (aR (aL (aL h)))) (X.e N (aR (aL h))) (X.e N (aR h))
 |ite c x y=>
  refine aI h fun p hp h=>?_;refine ak (yL hp) fun q hq=>?_;erw[hq];exact RG (X.t N (aL (aL h))) (X.t N (aR (aL h))) (X.t N (aR h))
 |inVals x e=>
  have h:kIn rE vn ns x e a=ac:=h;unfold kIn at h;refine sF h fun o l r q e h=>sD h fun b s as u w em h1 h2 k=>?_;rw [e,em,of_decide_eq_true (aL (aL (aL (aL k)))),jB (aR (aL (aL (aL k)))),qM (aR (aL (aL k)))];exact DW (rc:=rc) G.O h1 h2 (X.e N (aR (aL k))) (X.e N (aR k))
 |any=>exact iT fun fr S k=>rfl
 |tup es=>exact iT fun fr S k=>rfl
 |lst es=>exact iT fun fr S k=>rfl
 |dct ks vs=>exact iT fun fr S k=>rfl
 |slc e lo hi=>exact iT fun fr S k=>rfl
 |lc elt bm one src it ifs own aJ=>exact iT fun fr S k=>rfl
 |dc k v bm one src it ifs own aJ=>exact iT fun fr S k=>rfl
 |itemsL e=>exact iT fun fr S k=>rfl
 |cst v=>exact V rfl h
 |var i=>exact V rfl h
 |glb nm v=>exact V rfl h
 |attr e nm=>exact V rfl h
 |call f args=>exact V rfl h
 |meth o nm args=>exact V rfl h
 |bin op x y=>exact V rfl h
 |sub e i=>exact V rfl h
theorem HP (G:Gk cx rc.ms C.atL C.glL) (R:mC cx n rc) (m:Nat):RE cx n rc (YK C m).1 (YK C m).2:=by
 induction m with
 |zero=>exact ⟨fun a h=>ff h,fun a h=>ff h⟩
 |succ m ih=>exact ⟨fun N h=>Tn G R ih N _ h,fun N h=>Tg G R ih N _ h⟩
end
theorem Qu (G:Gk cx rc.ms C.atL C.glL) (R:mC cx n rc):RE cx n rc (kE C) (kT C):=HP G R 30
end
section
variable {cx:Cx} {n:Nat} {rc:Rc} {C:KC}
theorem Rw {vn:List Nat} {E:Env→Prop} {ss:List b8} {cs:List CX}:SX cx n vn E ss (bK (Ww::cs)) rc:=fun fr S kn kb kr e=>by rw [pZ] at e;exact ff e
variable {vn:List Nat} {ns:List (Str×NameKind)} {E:Env→Prop}
theorem Pj (G:Gk cx rc.ms C.atL C.glL) (R:mC cx n rc) {pos' pos} (N:gb cx vn ns E) (hx:bc vn i=aa x) (nf:ns.lookup (sT x)≠aa .free) (h:kE C vn ns e a=ac)
 (hc:(cz a||Ib e)=ac):uT cx n vn E (.Assign [.Name (sT x) pos'] a pos) (iX i (cB e).1) rc:=by
 have X:=HP G R 29;rcases cM.mp hc with hc|hc
 ·exact Sj N hx nf hc ((Qu G R).e N h)
 ·cases e with
  |lc elt bm one src it ifs own aJ=>
   refine aI h fun p hp h=>aI h fun c hc h=>sE G X N (aL h) fun e h1 h2 h3 h4 h5=>?_;obtain ⟨q,hq⟩:=Cd hp;erw[hq,gw hc,e];show uT cx n vn E _ (iX i (xY (cB elt).1 bm one src (oA it) (zR ifs) (eZ own) aJ)) rc;erw[(cC ..)];exact D8 (c:=(cB elt).1) (ifs:=zR ifs) G.O N hx nf h1 h2 h3 h4 h5 (X.e (n8 N) (aR h))
  |dc k v bm one src it ifs own aJ=>
   refine aI h fun p hp h=>aI h fun c hc h=>sE G X N (aL (aL h)) fun e h1 h2 h3 h4 h5=>?_;obtain ⟨q,hq⟩:=Cf hp;erw[hq,gw hc,e];show uT cx n vn E _ (iX i (XQ (cB k).1 (cB v).1 bm one src (oA it) (zR ifs) (eZ own) aJ)) rc;erw[(cC ..)];exact D9 (c1:=(cB k).1) (c2:=(cB v).1) (ifs:=zR ifs) G.O N hx nf h1 h2 h3 h4 h5 (X.e (n8 N) (aR (aL h))) (X.e (n8 N) (aR h))
  |_=>exact ff hc
theorem T6 (G:Gk cx rc.ms C.atL C.glL) {pos} (N:gb cx vn ns E) (X :∀{es as},Bf rE vn ns es as=ac→UR cx n vn E rc es as)
 (h:Yx C ns src one iter (fun as=>Bf rE vn ns es as&&(ay src 2||vP es))=ac) (h2:src<3) (ht:Gd vn ns bm one t=ac) (nset:ft iter=ac) (hb:SX cx n vn E bs cb rc):uT cx n vn E (.For t iter bs [] pos) (tZ bm one src (oA es) cb) rc:=by
 have T:zZ cx vn E bm one t:=fun env he=>Ck (N.kd env he) ht;have key :∀{a:Expr},vP es=ac→Bf rE vn ns es [a]=ac→∃e,es=[e]∧SE cx n vn E a (cB e).1 rc:=fun {a} z q=>by
  refine ak (sv z) fun e q200=>?_;subst q200;cases X q with|cons q _=>exact ⟨e,rfl,q.2⟩
 cases src with
 |zero=>
  apply b7 (key (aR h) (aL h));intro e q;exact Mo G.O N T nset q hb
 |succ k=>cases k with
  |zero=>
   refine aI h fun p hp h=>aI h fun arg ha h=>?_;apply b7 (key (aR (aR h)) (aL (aR h)));intro e q;have z:=kB (aR (aL h));subst z;erw[jo hp,gw ha,jB (aL (aL (aL (aL (aL h)))))];exact Mq G.O N T (aR (aL (aL (aL (aL h))))) (aR (aL (aL (aL h)))) (xU G N (aR (aL (aL h)))) q hb
  |succ k=>cases k with
   |zero=>
    refine aI h fun p hp h=>?_;erw[jo hp,jB (aL (aL (aL (aL h))))];exact Mp G.O N T (aR (aL (aL (aL h)))) (aR (aL (aL h))) (xU G N (aR (aL h))) (tX (X (aL (aR h)))) hb
   |succ k=>exact absurd h2 (i5.mpr (we 3 k))
theorem sG {P:Prop} (h:Nj a k=ac) (c :∀t x q,a=.Assign [t] x q→k t x=ac→P):P:=
 aI h fun p hp h=>aI h fun t ht h=>by
  refine ak (FS hp) fun q e=>?_;exact c t p.2 q (by exact au e▸au (gw ht)▸rfl) h
theorem zg (h:Db e=ac):e=.cst .none:=by
 cases e with
 |cst v=>cases v with
  |none=>rfl
  |_=>exact ff h
 |_=>exact ff h
theorem Pd {a:b8} (h:ay a.ctorIdx 26=ac):∃q,a=.Break q:=Stmt.Break.elim (motive_2:=fun a=>∃q,a=.Break q) a (am h) fun q=>⟨q,rfl⟩
structure UQ (cx:Cx) (n:Nat) (rc:Rc) (r:KS):Prop where
 ok :∀{vn ns E ss as},gb cx vn ns E→r vn ns ss as=ac→SX cx n vn E as (bK (J_ ss)) rc
theorem Tj (G:Gk cx rc.ms C.atL C.glL) (R:mC cx n rc) {r:KS} (Y:UQ cx n rc r) (N:gb cx vn ns E) (s:IS) {st:b8} (h:kSb C r vn ns s st=ac):uT cx n vn E st (cS s) rc:=by
 have X:=Qu G R;cases s with
 |expr e=>
  refine aI h fun p hp h=>?_;refine ak (DR hp) fun q hq=>?_;erw[hq];exact Mr N (aL h) (X.e N (aR h))
 |asg i e=>
  have h:(Nj st fun t x=>zc vn i t&&WZ vn ns i&&kE C vn ns e x&&(cz x||Ib e))=ac:=h
  refine sG h fun t x q hq h=>?_;refine pT (sC (aL (aL (aL h)))) fun y pos e1 hx=>?_;erw[hq,e1];exact Pj G R N hx (Hd hx (aR (aL (aL h)))) (aR (aL h)) (aR h)
 |asgT l e=>
  have h:(Nj st fun t x=>oB (FE t) fun es=>cz x&&kE C vn ns e x&&oB (Wb ns es x) fun o=>aM (Gd vn ns l ae t) (fun nm=>SK vn ns l nm&&SR l) o)=ac:=h;refine sG h fun t x q hq h=>aI h fun es hes h=>aI (aR h) fun o ho k=>?_;refine wh (oJ hes) fun k0 p0 et=>?_;cases o with
  |none=>erw[hq];rw [et] at k ⊢;exact Mt N (fun env he=>Ck (N.kd env he) k) ho (aL (aL h)) (X.e N (aR (aL h)))
  |some nm=>erw[hq,et];exact Ms N (MT (aL k)) (qk (aR k)) ho (aL (aL h)) (X.e N (aR (aL h)))
 |asgA o nm e=>
  have h:(Nj st fun t x=>oB (yN t) fun q=>cz x&&kN q.2.1 nm&&cJ nm C.atL&&kE C vn ns e x&&kE C vn ns o q.1)=ac:=h;refine sG h fun t x q hq h=>aI h fun p hp h=>?_;refine aK (fun hn hs=>?_) (wJ (aR (aL (aL (aL h)))));erw[hq,pV hp,hs];exact Mv G hn (gx (aR (aL (aL h)))) (aL (aL (aL (aL h)))) (X.e N (aR (aL h))) (X.e N (aR h))
 |asgS o i e=>
  have h:(Nj st fun t x=>oB (FV t) fun q=>cz x&&kE C vn ns e x&&kE C vn ns o q.1&&kE C vn ns i q.2)=ac:=h;refine sG h fun t x q hq h=>aI h fun p hp h=>?_;refine ak (s8 hp) fun w hw=>?_;erw[hq,hw];exact Mu G.O (aL (aL (aL h))) (X.e N (aR (aL (aL h)))) (X.e N (aR (aL h))) (X.e N (aR h))
 |ret e=>
  refine aI h fun p hp h=>?_;refine ak (FN hp) fun q hq=>?_;erw[hq];cases p with
  |none=>erw[zg h];exact Mn
  |some a=>exact Sh (X.e N h)
 |iff c x y=>
  refine aI h fun p hp h=>?_;refine ak (LC hp) fun q hq=>?_;erw[hq];exact Wx (X.t N (aL (aL h))) (Y.ok N (aR (aL h))) (Y.ok N (aR h))
 |forr bm one src it body=>
  refine aI h fun p hp h=>?_;refine ak (FQ hp) fun q hq=>?_;erw[hq,jB (aL (aL (aL (aL (aL h)))))];exact T6 G N (fun q=>mn X N q) (aR (aL (aL (aL (aL h))))) (aG.mp (aR (aL h))) (aR (aL (aL (aL h)))) (aR (aL (aL h))) (Y.ok N (aR h))
 |whil c body=>
  refine aI h fun p hp h=>?_;refine ak (DQ hp) fun q hq=>?_;erw[hq,jB (aL (aL h))];exact Mm (X.t N (aR (aL h))) (Y.ok N (aR h))
 |brk=>
  refine ak (Pd h) fun q hq=>?_;erw[hq];exact Si
 |_=>exact ff h
theorem Ti (G:Gk cx rc.ms C.atL C.glL) (R:mC cx n rc) (Z :∀s a,f s a=ac→uT cx n vn E a (cS s) rc) (ss:List IS):∀{as:List b8},Zp f ss as=ac→SX cx n vn E as (bK (J_ ss)) rc:=by
 induction ss with
 |nil=>
  intro as h;cases as with
  |nil=>exact Rx
  |cons=>exact ff h
 |cons s ss ih=>
  intro as h;have key :∀{s:IS},aP (motive:=fun b=>Bool) ae (fun a as b=>f s a&&Zp f ss as) as=ac→SX cx n vn E as (bK (cS s::J_ ss)) rc:=fun {s} h=>by
   cases as with
   |nil=>exact ff h
   |cons a as=>exact LX (Z s a (aL h)) (ih (aR h))
  cases s with
  |any=>exact Rw
  |frz i=>exact Ry G.O (ih h)
  |_=>exact key h
theorem Th (G:Gk cx rc.ms C.atL C.glL) (R:mC cx n rc):UQ cx n rc (YI C):=by
 have :∀m:Nat,UQ cx n rc (kSn C m):=fun m=>by
  induction m with
  |zero=>exact ⟨fun b h=>ff h⟩
  |succ m ih=>exact ⟨fun N h=>Ti G R (fun s a q=>Tj G R ih N s q) _ h⟩
 exact this 30
end
section
noncomputable def Rh (x:Value):Option Addr:=iV x aj aj aj (fun a=>aj) (fun a a=>aj) (fun a a=>aj) (fun a a=>aj) (fun a a=>aj) (fun a=>aj) (fun a=>aj) aa
noncomputable def Yq (x:Value):Option String:=iV x aj aj aj (fun a=>aj) (fun a a=>aj) (fun a a=>aj) (fun a a=>aj) (fun a a=>aj) aa (fun a=>aj) (fun a=>aj)
noncomputable def Yu (x:Value):Option String:=iV x aj aj aj (fun a=>aj) (fun a a=>aj) (fun a a=>aj) (fun a a=>aj) (fun a a=>aj) (fun a=>aj) aa (fun a=>aj)
noncomputable def VN (x:Value):Option Int:=iV x aj aj aj (fun a=>aj) (fun i a=>aa i) (fun a a=>aj) (fun a a=>aj) (fun a a=>aj) (fun a=>aj) (fun a=>aj) (fun a=>aj)
noncomputable def VV (x:Value):Option Str:=iV x aj aj aj (fun a=>aj) (fun a a=>aj) (fun a a=>aj) (fun s a=>aa s) (fun a a=>aj) (fun a=>aj) (fun a=>aj) (fun a=>aj)
noncomputable def Cc (x:Value):Bool:=iV x ac ae ae (fun a=>ae) (fun a a=>ae) (fun a a=>ae) (fun a a=>ae) (fun a a=>ae) (fun a=>ae) (fun a=>ae) (fun a=>ae)
theorem yI (h:Rh x=aa a):x=.ref a:=by cases x<;>first|exact no h|exact congrArg cY (ao h)
theorem Cb (h:Yq x=aa a):x=.type a:=by cases x<;>first|exact no h|exact congrArg Value.type (ao h)
theorem xo (h:Yu x=aa a):x=.builtin a:=by cases x<;>first|exact no h|exact congrArg ym (ao h)
theorem FP (h:VN x=aa i):∃t,x=.int i t:=by cases x<;>first|exact no h|exact ⟨_,congrArg (lF · _) (ao h)⟩
theorem FW (h:VV x=aa s):∃t,x=.str s t:=by cases x<;>first|exact no h|exact ⟨_,congrArg (Value.str · _) (ao h)⟩
theorem s9 {x:Value} (h:Cc x=ac):x=.none:=by cases x<;>first|exact ff h|rfl
noncomputable def XV (d:Data):Option (Array Value×Nat):=Aq d aj (fun a=>aj) (fun xs n=>aa (xs,n)) (fun a a=>aj) (fun a a a=>aj) (fun a a=>aj) (fun a=>aj) (fun a=>aj) (fun a=>aj) (fun a=>aj) aj
noncomputable def Ut (d:Data):Option FuncData:=Aq d aj (fun a=>aj) (fun a a=>aj) (fun a a=>aj) (fun a a a=>aj) (fun a a=>aj) (fun a=>aj) aa (fun a=>aj) (fun a=>aj) aj
theorem JK {p} (h:XV d=aa p):d=.seq p.1 p.2:=by cases d<;>first|exact no h|(exact (ao h)▸rfl)
theorem zI {d:Data} {p} (h:Ut d=aa p):d=.func p:=by cases d<;>first|exact no h|exact congrArg Data.func (ao h)
def GN (x:Value) (a:Addr):Bool:=oB (Rh x) fun b=>ay b a
theorem sj (h:GN x a=ac):x=.ref a:=aI h fun b e h=>by exact au (yI e)▸au (am h)▸rfl
def V4 (x:Value) (t:String):Bool:=oB (Yq x) fun s=>s==t
theorem xr (h:V4 x t=ac):x=.type t:=aI h fun b e h=>by exact au (Cb e)▸au (gV h)▸rfl
def Sn (x:Option (Option Value)) (a:Addr):Bool:=oB x fun y=>oB y fun v=>GN v a
theorem Cv (h:Sn x a=ac):x=aa (aa (.ref a)):=aI h fun y e h=>aI h fun v e2 h=>by exact au e▸au e2▸au (sj h)▸rfl
def tyB (x:Option Value) (t:String):Bool:=oB x fun v=>V4 v t
theorem Rp (h:tyB x t=ac):x=aa (.type t):=aI h fun v e h=>by exact au e▸au (xr h)▸rfl
def cfB (x:Option CFound) (a:Addr):Bool:=oB x fun c=>CFound.casesOn c (fun v=>GN v a) fun b b b b=>ae
theorem Uz (h:cfB x a=ac):x=aa (.val (.ref a)):=aI h fun c e h=>by
 erw[e];cases c with
 |val v=>exact au (sj h)▸rfl
 |get=>exact ff h
def Zf (x:Option (Option Value)):Bool:=oB x xc
theorem Hb (h:Zf x=ac):x=aa aj:=aI h fun y e h=>by exact au e▸au (dQ.mp h)▸rfl
def Qm (K:Frag) (c nm f:Nat):Bool:=Sn (mH K (.ref (ca c)) (sT nm)) (fa f)&&tyB (typeIn K (.ref (fa f))) "function"&&cfB (findCls K (.ref (ca c)) (.type "type") (sT nm)) (fa f)&&j8 K (.ref (fa f))
theorem Hk (h:Qm cx.K c nm f=ac):MethOk cx c nm f:=by
 have h4:=aR h;have h:=aL h;have h3:=aR h;have h:=aL h;have h1:=aL h;have h2:=aR h;exact ⟨Cv h1,Rp h2,Uz h3,h4⟩
def biV (x y:Value):Bool:=oB (Yq x) (V4 y)||oB (Yu x) fun s=>oB (Yu y) fun t=>s==t
theorem UH (h:biV x y=ac):x=y:=by
 rcases cM.mp h with h|h
 ·exact aI h fun s e h=>by exact au (Cb e)▸au (xr h)▸rfl
 ·exact aI h fun s e h=>aI h fun t e2 h=>by exact au (xo e)▸au (xo e2)▸au (gV h)▸rfl
noncomputable def f0 (_:Value):Bool:=ae
def VS (v:AV):Value→Bool:=AV.casesOn v f0 (fun a=>f0) (fun i x=>oB (VN x) fun j=>decide (i=j)) (fun k x=>oB (VV x) fun s=>kN s k) (fun a=>f0) (fun a a=>f0) (fun a=>f0) (fun k x=>GN x (fa k)) (fun k x=>GN x (ca k)) (fun k x=>biV x (bV k)) (fun a=>f0) (fun a=>f0) (fun a=>f0) (fun a=>f0) (fun a=>f0)
theorem mf (h:VS v x=ac):VR cx g v x:=by
 cases v with
 |int i=>exact aI h fun j e h=>by refine ak (FP e) fun t e=>?_;refine au e▸(of_decide_eq_true h)▸?_;exact .int _ _
 |str k=>exact aI h fun s e h=>by refine ak (FW e) fun t e=>?_;have q:=wJ h;erw[e,q.2];exact .str _ _ q.1
 |fn k=>erw[sj h];exact .fn _
 |cls k=>erw[sj h];exact .cls _
 |bi k=>erw[UH h];exact .bi k
 |_=>exact ff h
noncomputable def Ye (v:AV):Option (List AV):=AV.casesOn v aj (fun a=>aj) (fun a=>aj) (fun a=>aj) aa (fun a a=>aj) (fun a=>aj) (fun a=>aj) (fun a=>aj) (fun a=>aj) (fun a=>aj) (fun a=>aj) (fun a=>aj) (fun a=>aj) (fun a=>aj)
theorem KA {l} (h:Ye v=aa l):v=.tup l:=by cases v<;>first|exact no h|exact congrArg AV.tup (ao h)
def Za (o:Obj) (l:List AV):Bool:=V4 o.cls "tuple"&&o.dict.isNone&&o.slots.toList.isEmpty&&oB (XV o.data) fun p=>jF VS l p.1.toList
def Y8 (K:Frag) (v:AV) (x:Value):Bool:=VS v x||oB (Ye v) fun l=>oB (Rh x) fun a=>oB (K.lookup a) fun o=>Za o l
theorem FU (h:Y8 cx.K v x=ac):VR cx cx.g0 v x:=by
 rcases cM.mp h with h|h
 ·exact mf h
 ·refine aI h fun l e1 h=>aI h fun a e2 h=>aI h fun o e3 h=>?_;have h4:=aR h;have h:=aL h;refine aI h4 fun p e4 h4=>?_;rw [KA e1,yI e2];refine .tup (vs:=p.1) (n:=p.2) ?_ (mB (M:=VRs cx cx.g0) .nil (fun v x l xs q r=>.cons (mf q) r) l h4);show cx.K.lookup a=_;rw [e3];obtain ⟨c,d,da,⟨sl⟩⟩:=o;exact au (show c=_ from xr (aL (aL h)))▸au (show d=_ from dQ.mp (aR (aL h)))▸au (show da=_ from JK e4)▸au (show sl=_ from lM.mp (aR h))▸rfl
def Xy (K:Frag) (nm:Nat) (v:AV):Bool:=oB (nsIn K cn (sT nm)) fun y=>aM (oB (nsIn K dZ (sT nm)) fun z=>oB z (Y8 K v)) (Y8 K v) y
theorem NT (h:Xy cx.K nm v=ac):z5 cx nm v:=aI h fun y e h=>by
 cases y with
 |none=>exact aI h fun z e2 h=>aI h fun x e3 h=>⟨x,FU h,.inr ⟨e,e2.trans (congrArg aa e3)⟩⟩
 |some x=>exact ⟨x,FU h,.inl e⟩
noncomputable abbrev ni {α:Type} (l:List α):Bool:=l.isEmpty
theorem wx {α:Type} {l:List α} (h:ni l=ac):l=[]:=lM.mp h
noncomputable abbrev Zg {α:Type} (l:Option α):Bool:=l.isNone
theorem Qf {α:Type} {l:Option α} (h:Zg l=ac):l=aj:=dQ.mp h
def X8 (l:List Arg) (m:List Nat):Bool:=jF (fun a x=>sq a.arg x) l m
theorem Pm {l:List Arg} {m:List Nat} (h:X8 l m=ac):l.map (·.arg)=m.map sT:=
 mB (M:=fun l m=>l.map (·.arg)=m.map sT) rfl (fun a x l m q r=>by exact au e_▸au e_▸au (qM q)▸au r▸rfl) l h
def Zd (fd:FuncData) (m:List Nat):Bool:=ni fd.params.posonlyargs&&X8 fd.params.args m&&Zg fd.params.vararg&&ni fd.params.kwonlyargs&&Zg fd.params.kwarg&&Cc fd.defaults
def Zs (x:Option NameKind):Bool:=isLo x||isCe x
noncomputable def X3 (b:PN) (f:List b8→Bool):Bool:=FuncBody.casesOn b f fun a=>ae
def fdB (C:KC) (K:Frag) (F:IFun) (vn:List Nat) (fd:FuncData):Bool:=X3 fd.body fun body=>codeIn K fd.code fd.qualname&&ni fd.closure&&ay fd.globals cn&&ay fd.builtins dZ&&Xs fd.scope.kind&&!fd.scope.isCoroutine&&!fd.scope.isGenerator
 && Zd fd (vn.take F.np)&&ay vn.length F.nv&&bX F.np F.nv&&vn.all (fun x=>Zs (M8 fd.scope.names x)&&aF x nS)&&SR vn&&YI C vn fd.scope.names F.body body
def ZA (C:KC) (K:Frag) (k:Nat) (F:IFun) (vn:List Nat):Bool:=oB (K.lookup (fa k)) fun o=>oB (Ut o.data) (fdB C K F vn)
theorem Eg {l:List Nat} (h :∀x∈l,x<nS) (nd:l.Nodup):(l.map sT).Nodup:=by
 induction l with
 |nil=>exact Q5
 |cons x l ih=>
  have nd:=ce.mp nd;refine ce.mpr ⟨fun z=>?_,ih (fun y hy=>h y (ja _ hy)) nd.2⟩;refine cg (bp.mp z) fun y hy e=>?_;have:=mj y (h y (ja _ hy)) x (h x Fw) e;exact nd.1 (this▸hy)
theorem Kh {b:PN} {f:List b8→Bool} {P:Prop} (h:X3 b f=ac) (k :∀l,b=.stmts l→f l=ac→P):P:=by
 cases b with
 |stmts l=>exact k l rfl h
 |expr=>exact ff h
theorem Nf {K:Frag} {a:Addr} {o:Obj} {fd:FuncData} (ho:K.lookup a=aa o) (hd:o.data=.func fd):j8 K (.ref a)=ac:=by
 unfold j8;obtain ⟨oc,od,odt,os⟩:=o;dsimp only at hd;rw [hd] at ho;simp only [ho]
theorem T8 {C:KC} {cx:Cx} {k:Nat} {F:IFun} {vn:List Nat} (h:ZA C cx.K k F vn=ac):∃fd body,KJ cx k F vn fd body∧YI C vn fd.scope.names F.body body=ac∧j8 cx.K (.ref (fa k))=ac:=
 aI h fun o ho h=>aI h fun fd hd h=>Kh h fun body hb h=>by
  have hd:=zI hd;have h13:=aR h;have h:=aL h;have h12:=aR h;have h:=aL h;have h11:=aR h;have h:=aL h;have h10:=aR h;have h:=aL h;have h9:=aR h;have h:=aL h;have h8:=aR h;have h:=aL h;have h7:=aR h;have h:=aL h;have h6:=aR h;have h:=aL h;have h5:=aR h;have h:=aL h;have h4:=aR h;have h:=aL h;have h3:=aR h;have h:=aL h;have h11:=ai.mp h11;have hS :∀x∈vn,x<nS:=fun x hx=>aG.mp (aR (h11 x hx));have nd:=qk h12;have p6:=aR h8;have h8:=aL h8;have p5:=aR h8;have h8:=aL h8;have p4:=aR h8;have h8:=aL h8;have p3:=aR h8;have h8:=aL h8;exact ⟨fd,body,⟨⟨o,ho,hd⟩,hb,aL h,wx (aR h),am h3,am h4,of_decide_eq_true h5,kB h6,kB h7,⟨wx (aL h8),Pm (aR h8),Qf p3,wx p4,Qf p5,s9 p6,Eg (fun x hx=>hS x (i_ hx)) (List.Sublist.nodup (List.take_sublist _ _) nd)⟩,am h9,Nat.ble_eq.mp h10,
   fun x hx=>nX▸(cM.mp (aL (h11 x hx))).imp xN xQ,hS,nd⟩,h13,Nf ho hd⟩
noncomputable def clsL:List Nat:=[0,1,2,3,4,5]
def Hj (K:Frag):Bool:=clsL.all fun c=>(meths c).all fun p=>Qm K c p.1 p.2
def atB (K:Frag):Bool:=clsL.all fun c=>atL.all fun nm=>Zf (mH K (.ref (ca c)) (sT nm))
def TT (v:AV):Bool:=ay (K8 v).1 5
def QH (K:Frag):Bool:=glL.all fun p=>TT p.2||Xy K p.1 p.2
theorem Ej (h:jS nm l=aa f):(nm,f)∈l:=by
 induction l with
 |nil=>exact no h
 |cons p l ih=>
  have h:(match ay p.1 nm with|true=>aa p.2|false=>jS nm l)=aa f:=h
  cases e:ay p.1 nm with
  |true=>replace h:=e▸h;refine (am e)▸(ao h)▸?_;exact .head _
  |false=>replace h:=e▸h;exact .tail _ (ih h)
theorem x8 {c:Nat} (h:c<j4):c∈clsL:=bM.mpr h
end
def wo {α β:Type} (f:α→β) (t:TR α):TR β:=TR.rec .nil (fun v a a l r=>.node (v.map f) l r) t
def Yw {α:Type} (t:TR α):Nat:=TR.rec 0 (fun c c c a b=>bW (Nat.max a b)) t
theorem uu {α:Type} (v:Option α) (l r:TR α) (j:Nat):(TR.node v l r).get (j+1)=if j % 2=1 then r.get (j / 2) else l.get (j / 2):=by
 show (be (motive:=fun a=>Option α) (l.get (j / 2)) (r.get (j / 2)) (ay (j % 2) 1))=_
 by_cases h:j % 2=1
 ·erw[if_pos h,h];rfl
 ·erw[if_neg h,(yr j).resolve_right h];rfl
theorem pX {α β:Type} {f:α→β} {t:TR α}:∀{i:Nat},(wo f t).get i=(t.get i).map f:=by
 induction t with
 |nil=>intro i;rfl
 |node v l r hl hr=>
  intro i;cases i with
  |zero=>rfl
  |succ j=>
   show (TR.node (v.map f) (wo f l) (wo f r)).get (j+1)=_;rw [uu,uu,hl,hr]
   by_cases h:j % 2=1
   ·rw [if_pos h,if_pos h]
   ·rw [if_neg h,if_neg h]
theorem I9 {α:Type} {t:TR α}:∀{n i:Nat},Yw t≤n→2 ^ n≤i+1→t.get i=aj:=by
 induction t with
 |nil=>exact fun a a=>rfl
 |node v l r hl hr=>
  intro n i hd hi;cases n with
  |zero=>exact absurd hd (Nat.not_succ_le_zero _)
  |succ n=>
   have hd:=Nat.le_of_succ_le_succ (show bW (Nat.max (Yw l) (Yw r))≤n+1 from hd);replace hi:=(Nat.pow_succ ..)▸hi;have p:=Nat.two_pow_pos n;cases i with
   |zero=>exact absurd hi (by omega)
   |succ j=>
    have hj:2 ^ n≤j / 2+1:=by omega
    erw[(uu ..),(hl (aB (Nat.le_max_left ..) hd) hj ..),(hr (aB (Nat.le_max_right ..) hd) hj ..)];exact ite_self _
def C0:KC:=⟨atL,glL⟩
def opP {α:Type} (P:α→Bool) (x:Option α):Bool:=aM ac P x
def Rt (K:Frag):Bool:=bX (Yw tabI) 7&&(bz 127).all fun k=>opP (fun p=>ZA C0 K k p.1 p.2) (tabI.get k)
theorem LR {K:Frag} (h:Rt K=ac) {k:Nat} {p} (e:tabI.get k=aa p):ZA C0 K k p.1 p.2=ac:=by
 have h:=eS h;have hk:k<127:=u6 fun z=>by replace e:=(I9 (az h.1) (gC z))▸e;exact no e
 have q:=ai.mp h.2 k (bM.mpr hk);replace q:=e▸q;exact q
theorem Gl:tabC=wo (fun p=>cF p.1) tabI:=rfl
theorem Ia {v:AV} (h:TT v=ac):∃d l,v=.fd d l:=by cases v<;>first|exact ff h|exact ⟨_,_,rfl⟩
theorem Ml:sT 16 = "__init__":=by decide +kernel
structure Known (cx:Cx):Prop where
 O:COk cx
 fns:Rt cx.K=ac
 meths:Hj cx.K=ac
 ats:atB cx.K=ac
 glbs:QH cx.K=ac
 cls :∀c∈clsL,ClsOk cx c
 ends :∀nm d l,(nm,AV.fd d l)∈glL→z5 cx nm (.fd d l)
theorem Known.pk {cx:Cx} (X:Known cx):PK cx Mine.meths atL glL tabC:=by
 have G:Gk cx Mine.meths atL glL:=by
  refine ⟨X.O,fun c hc=>X.cls c (x8 hc),fun c hc nm hm=>?_,fun c hc nm f hf=>?_,fun p hp=>?_⟩
  ·exact Hb (ai.mp (ai.mp X.ats c (x8 hc)) nm hm)
  ·exact Hk (ai.mp (ai.mp X.meths c (x8 hc)) _ (Ej hf))
  ·obtain ⟨nm,v⟩:=p;rcases cM.mp (ai.mp X.glbs _ hp) with h|h
   ·refine wh (Ia h) fun d l e=>?_;have e:v=.fd d l:=e;subst e;exact X.ends _ _ _ hp
   ·exact NT h
 have get :∀j F,tabC.get j=aa F→∃F0 vn fd body,F=cF F0∧KJ cx j F0 vn fd body∧YI C0 vn fd.scope.names F0.body body=ac∧j8 cx.K (.ref (fa j))=ac:=fun j F h=>by
  replace h:=Gl▸h;replace h:=pX▸h;cases hp:tabI.get j with
  |none=>replace h:=hp▸h;exact no h
  |some p=>
   replace h:=hp▸h;refine rJ (T8 (LR X.fns hp)) fun fd body h1 h2 h3=>?_;exact ⟨p.1,p.2,fd,body,(ao h).symm,h1,h2,h3⟩
 refine ⟨G,fun j F h n rc hm R args S k e=>?_,fun j F h=>?_,fun c hc f hf=>?_⟩
 ·refine z43 (get j F h) fun F0 vn fd body q300 K hk a=>?_;subst q300;have G':Gk cx rc.ms C0.atL C0.glL:=by erw[hm];exact G
  exact Pa X.O K ((Th G' R).ok Un hk) e
 ·apply VD (get j F h);intro F0 vn fd body K hk q;exact q
 ·have:=G.meth c hc 16 f hf;exact ⟨Ml▸this.find,this.fn⟩
section
def kP (p:AV→Bool) (v:AV):Bool:=
 AV.rec (motive_1:=fun c=>Bool) (motive_2:=fun c=>Bool) (motive_3:=fun c=>Bool) (motive_4:=fun c=>Bool) (p .none) (fun b=>p (.bool b)) (fun i=>p (.int i)) (fun k=>p (.str k)) (fun c ih=>ih) (fun c c ih=>ih)
  (fun j=>p (.loc j)) (fun k=>p (.fn k)) (fun k=>p (.cls k)) (fun k=>p (.bi k)) (fun k=>p (.opq k)) (fun k=>p (.mk k)) (fun k=>p (.ge k)) (fun k=>p (.opa k)) (fun k=>p (.opd k))
  ac (fun c c a b=>a&&b) ac (fun c c a b=>a&&b) (fun c c a b=>a&&b) v
theorem v4 (h:a=ac) (k:b=ac):(a&&b)=ac:=ax.mpr ⟨h,k⟩
theorem Kw (h :∀v,p v=ac→q v=ac) (v:AV):kP p v=ac→kP q v=ac:=
 AV.rec (motive_1:=fun v=>kP p v=ac→kP q v=ac) (motive_2:=fun l=>kP p (.tup l)=ac→kP q (.tup l)=ac) (motive_3:=fun l=>kP p (.fd 0 l)=ac→kP q (.fd 0 l)=ac)
  (motive_4:=fun a=>(kP p a.1&&kP p a.2)=ac→(kP q a.1&&kP q a.2)=ac) (h _) (fun c=>h _) (fun c=>h _) (fun c=>h _) (fun c ih=>ih) (fun c c ih=>ih)
  (fun c=>h _) (fun c=>h _) (fun c=>h _) (fun c=>h _) (fun c=>h _) (fun c=>h _) (fun c=>h _) (fun c=>h _) (fun c=>h _)
  (fun c=>rfl) (fun c c a b e=>v4 (a (aL e)) (b (aR e))) (fun c=>rfl) (fun c c a b e=>v4 (a (aL e)) (b (aR e))) (fun c c a b e=>v4 (a (aL e)) (b (aR e))) v
theorem zU (h:kP p (.tup l)=ac):∀v∈l,kP p v=ac:=by
 induction l with
 |nil=>exact fun b hv=>nomatch hv
 |cons a l ih=>exact fun v hv=>(aN.mp hv).elim (fun e=>e▸aL h) (ih (aR h) v)
theorem zV (h:kP p (.fd 0 l)=ac):∀q∈l,kP p q.1=ac∧kP p q.2=ac:=by
 induction l with
 |nil=>exact fun b hv=>nomatch hv
 |cons a l ih=>exact fun v hv=>(aN.mp hv).elim (fun e=>e▸⟨aL (aL h),aR (aL h)⟩) (ih (aR h) v)
theorem w8 (h :∀i,p (.int i)=ac) (l:List Int):kP p (.tup (l.map AV.int))=ac:=by
 induction l with
 |nil=>rfl
 |cons x l ih=>exact v4 (h x) ih
noncomputable def Zl (n0:Nat) (v:AV):Bool:=match v with|.loc j=>aF j n0|_=>ac
def uV (n0:Nat):AV→Bool:=kP (Zl n0)
def uL (n0:Nat) (l:List AV):Bool:=uV n0 (.tup l)
def uD (n0:Nat) (l:List (AV×AV)):Bool:=uV n0 (.fd 0 l)
def uF (n0:Nat) (l:List (Nat×AV)):Bool:=aP ac (fun a b ih=>uV n0 a.2&&ih) l
def uO (n0:Nat) (o:AO):Bool:=match o with
 |.list _ _ l _=>uL n0 l
 |.dict _ _ l=>uD n0 l
 |.inst _ fs=>uF n0 fs
structure pJ (cx:Cx):Prop where
 N :∀k,uV 0 (cx.N k)=ac
 D :∀k,uD 0 (cx.D k)=ac
theorem Cg (h:uV 0 v=ac):uV n0 v=ac:=Kw (fun v h=>by
 cases v with
 |loc j=>exact ff h
 |_=>rfl) v h
theorem V2 {n0:Nat} {l:List AV} (h:uL 0 l=ac):uL n0 l=ac:=Cg h
theorem PZ {n0:Nat} {l:List (AV×AV)} (h:uD 0 l=ac):uD n0 l=ac:=Cg h
theorem Rl {n0:Nat} {l:List AV} (h:uV n0 (.tup l)=ac):uL n0 l=ac:=h
theorem V1 {n0 d:Nat} {l:List (AV×AV)} (h:uV n0 (.fd d l)=ac):uD n0 l=ac:=h
theorem Rn {n0 j:Nat} (h:uV n0 (.loc j)=ac):j<n0:=aG.mp h
theorem Ro {n0 d:Nat} {l:List (AV×AV)} (h:uD n0 l=ac):uV n0 (.fd d l)=ac:=h
theorem LM {n0:Nat} (l:List Int):uL n0 (l.map AV.int)=ac:=w8 (fun a=>rfl) l
structure Like (n0:Nat) (g g':Gh):Prop where
 ρ :∀j,j<n0→g'.ρ j=g.ρ j
 fz :∀a o,g.fz a=aa o→g'.fz a=aa o
theorem F5 (h:uL n0 l=ac):∀v∈l,uV n0 v=ac:=zU h
theorem F7 (h:uD n0 l=ac):∀p∈l,uV n0 p.1=ac∧uV n0 p.2=ac:=zV h
section
variable {cx:Cx} {n0:Nat} {g g':Gh}
theorem Like.imp (F:pJ cx) (L:Like n0 g g'):Vj cx cx g g' fun v=>uV n0 v=ac:=
 ⟨fun b c=>F5 (Rl c),fun b b c=>F7 (V1 c),fun b b c a=>(L.ρ _ (Rn c)).trans a,L.fz,rfl,rfl,fun b=>rfl,fun b=>rfl,fun b b=>⟨Cg (F.N _),rfl⟩,fun b b=>⟨Ro (PZ (F.D _)),rfl⟩⟩
theorem VR.like (F:pJ cx) (L:Like n0 g g') (h:VR cx g v x) (c:uV n0 v=ac):VR cx g' v x:=h.imp (L.imp F) c
theorem VRs.like (F:pJ cx) (L:Like n0 g g') (h:VRs cx g l xs) (c:uL n0 l=ac):VRs cx g' l xs:=h.imp (L.imp F) (F5 c)
theorem DRs.like (F:pJ cx) (L:Like n0 g g') (h:DRs cx g l es) (c:uD n0 l=ac):DRs cx g' l es:=h.imp (L.imp F) (F7 c)
end
theorem FRs.like (F:pJ cx) (L:Like n0 g g') (h:FRs cx g l es):uF n0 l=ac→FRs cx g' l es:=
 FRs.ind (M:=fun l es=>uF n0 l=ac→FRs cx g' l es) (fun e=>.nil) (fun e e e e e a b c d e ih q=>.cons a b c (VR.like F L d (aL q)) (ih (aR q))) h
theorem OR.like {n0:Nat} {j:Nat} {ob:AO} (F:pJ cx) (L:Like n0 g g') (hj:j<n0) (hd:g'.δ j=g.δ j) (x:OR cx g h j ob) (c:uO n0 ob=ac):OR cx g' h j ob:=by
 cases x with
 |list r e v rs=>exact .list ((L.ρ _ hj).trans r) e v (VRs.like F L rs c)
 |dict r e xd hd' ko dr=>exact .dict ((L.ρ _ hj).trans r) e xd hd' ko (DRs.like F L dr c)
 |inst r d e f fr nd=>exact .inst ((L.ρ _ hj).trans r) (hd.trans d) e f (FRs.like F L fr c) nd
noncomputable def Gh.part (g:Gh) (n0:Nat):Gh:=⟨fun j=>if j<n0 then g.ρ j else aj,fun j=>if j<n0 then g.δ j else aj,g.fz⟩
noncomputable def Gh.back (g g':Gh) (P:Sto) (n0:Nat):Gh:=⟨fun j=>if j<n0 then g'.ρ j else g.ρ j,fun j=>match P j with|some _=>g'.δ j|none=>g.δ j,g'.fz⟩
theorem qg (g:Gh) (n0:Nat):Like n0 g (g.part n0):=⟨fun j h=>if_pos h,fun a a e=>e⟩
theorem w4 (g g':Gh) (P:Sto) (n0:Nat):Like n0 g' (g.back g' P n0):=⟨fun j h=>if_pos h,fun a a e=>e⟩
theorem sQ {g g':Gh} (e:P j=aa o):(g.back g' P n0).δ j=g'.δ j:=by
 show (match P j with|some _=>g'.δ j|none=>g.δ j)=_
 exact au e▸rfl
theorem uP {g g':Gh} (e:P j=aj):(g.back g' P n0).δ j=g.δ j:=by
 show (match P j with|some _=>g'.δ j|none=>g.δ j)=_
 exact au e▸rfl
theorem Cz (g:Gh) (n0:Nat):(g.part n0).le g:=by
 refine ⟨fun j a e=>?_,fun j a e=>?_,fun b b e=>e⟩
 ·have e:(if j<n0 then g.ρ j else aj)=aa a:=e
  split at e
  ·exact e
  ·exact no e
 ·have e:(if j<n0 then g.δ j else aj)=aa a:=e
  split at e
  ·exact e
  ·exact no e
structure Yh (P:Sto) (n0:Nat) (σ:Sto) (nx:Nat):Prop where
 le:n0≤nx
 at_ :∀j ob,P j=aa ob→σ j=aa ob∧j<n0∧uO n0 ob=ac
theorem yY {n0 j:Nat} {ob:AO} {a:Addr} (hj:j<n0):cH (g.part n0) j ob a↔cH g j ob a:=by
 unfold cH;show ((if j<n0 then g.ρ j else aj)=aa a∨_∧(if j<n0 then g.δ j else aj)=aa a)↔_;rw [if_pos hj,if_pos hj]
theorem kA {g g':Gh} {P:Sto} {n0 j:Nat} {ob o0:AO} {a:Addr} (hj:j<n0) (e:P j=aa o0):cH (g.back g' P n0) j ob a↔cH g' j ob a:=by
 unfold cH;rw [sQ e];show ((if j<n0 then g'.ρ j else g.ρ j)=aa a∨_)↔_;rw [if_pos hj]
variable {cx:Cx} {g g':Gh} {σ P P':Sto} {n0 nx nx':Nat} {h h':Heap}
theorem Inv.part (F:pJ cx) (I:Inv cx g σ nx h) (X:Yh P n0 σ nx):Inv cx (g.part n0) P n0 h:=by
 have own :∀j ob a,P j=aa ob→(cH (g.part n0) j ob a↔cH g j ob a):=fun j ob a e=>yY (X.at_ j ob e).2.1;refine ⟨⟨fun j a e=>(nomatch e),fun j a e=>(nomatch e),fun a o e=>I.g0.fz a o e⟩,I.base,I.fz,fun j ob e=>?_,fun j ob k ob' a e e' o o'=>?_,fun j ob a b e r d=>?_,fun a w=>?_,fun j hj=>?_⟩
 ·refine B6 (X.at_ j ob e) fun h1 h2 h3=>?_;exact (I.obj j ob h1).like F (qg g n0) h2 (if_pos h2) h3
 ·exact I.sep j ob k ob' a (X.at_ j ob e).1 (X.at_ k ob' e').1 ((own j ob a e).mp o) ((own k ob' a e').mp o')
 ·exact I.two j ob a b (X.at_ j ob e).1 ((Cz g n0).ρ _ _ r) ((Cz g n0).δ _ _ d)
 ·refine pT w fun j ob e o=>?_;exact I.off a ⟨j,ob,(X.at_ j ob e).1,(own j ob a e).mp o⟩
 ·exact ⟨if_neg (i5.mpr hj),if_neg (i5.mpr hj)⟩
noncomputable def pj (P P' σ:Sto):Sto:=fun j=>match P j with|some _=>P' j|none=>σ j
theorem ul {j:Nat} {ob:AO} (e:P j=aa ob):pj P P' σ j=P' j:=by unfold pj;exact au e▸rfl
theorem qo (e:P j=aj):pj P P' σ j=σ j:=by unfold pj;exact au e▸rfl
theorem Evo.join (F:pJ cx) (I:Inv cx g σ nx h) (X:Yh P n0 σ nx) (x:Evo cx (g.part n0) P n0 h g' P' nx' h') (cl :∀j ob,P j≠aj→P' j=aa ob→uO n0 ob=ac):
 Evo cx g σ nx h (g.back g' P n0) (pj P P' σ) nx h':=by
 have ow :∀j ob a,P j=aa ob→(cH (g.part n0) j ob a↔cH g j ob a):=fun j ob a e=>yY (X.at_ j ob e).2.1;have ownO :∀a,Own (g.part n0) P a→Own g σ a:=fun a ⟨j,ob,e,w,o⟩ =>⟨j,ob,(X.at_ j ob e).1,w,(ow j ob a e).mp o⟩
 have ocO :∀a,Oc (g.part n0) P a→∃j ob,P j=aa ob∧σ j=aa ob∧cH g j ob a:=fun a ⟨j,ob,e,o⟩ =>⟨j,ob,e,(X.at_ j ob e).1,(ow j ob a e).mp o⟩
 have L:g.le (g.back g' P n0):=by
  refine ⟨fun j a e=>?_,fun j a e=>?_,fun a o e=>x.le.fz a o e⟩
  ·show (if j<n0 then g'.ρ j else g.ρ j)=aa a
   split
   ·rename_i hj;exact x.le.ρ j a ((if_pos hj).trans e)
   ·exact e
  ·cases hp:P j with
   |none=>erw[uP hp];exact e
   |some o0=>erw[sQ hp];exact x.le.δ j a ((if_pos (X.at_ j o0 hp).2.1).trans e)
 have kind :∀j ob,pj P P' σ j=aa ob→(∃o0,P j=aa o0∧P' j=aa ob∧j<n0∧σ j=aa o0)∨(P j=aj∧σ j=aa ob):=fun j ob e=>by
  cases hp:P j with
  |some o0=>replace e:=(ul hp)▸e;exact .inl ⟨o0,rfl,e,(X.at_ j o0 hp).2.1,(X.at_ j o0 hp).1⟩
  |none=>replace e:=(qo hp)▸e;exact .inr ⟨rfl,e⟩
 have ownB :∀j ob a,σ j=aa ob→cH (g.back g' P n0) j ob a→cH g j ob a:=fun j ob a e o=>(I.obj j ob e).own L o;have notOwn :∀j ob a,P j=aj→σ j=aa ob→cH g j ob a→¬ Oc (g.part n0) P a:=fun j ob a hp e o w=>by
  refine rJ (ocO a w) fun k ob' e1 e2 o2=>?_;have:=I.sep j ob k ob' a e e2 o o2;subst this;replace e1:=hp▸e1;cases e1
 have there :∀j ob a,σ j=aa ob→cH g j ob a→h.get? a≠aj:=fun j ob a e o z=>by
  refine ak ((I.obj j ob e).there o) fun oo q=>?_;replace z:=q▸z;exact yx z
 have keepB :∀j ob,P j=aj→σ j=aa ob→∀a,cH g j ob a→∀o,h.get? a=aa o→h'.get? a=aa o:=fun j ob hp e a o oo q=>x.keep a oo q fun w=>notOwn j ob a hp e o w.oc;refine ⟨L,⟨I.g0.trans L,x.inv.base,x.inv.fz,fun j ob e=>?_,fun j ob k ob' a e e' o o'=>?_,fun j ob a b e r d=>?_,fun a w=>?_,fun j hj=>?_⟩,fun a o e w=>x.keep a o e fun w'=>w (ownO a w'),fun a w=>?_,fun a w=>?_,fun a w=>?_,fun j e=>?_,x.ext,aY _⟩
 ·rcases kind j ob e with ⟨o0,e0,e1,hj,_⟩|⟨e0,e1⟩
  ·exact (x.inv.obj j ob e1).like F (w4 g g' P n0) hj (sQ e0) (cl j ob (by erw[e0];exact fun z=>nomatch z) e1)
  ·exact ((I.obj j ob e1).keep (keepB j ob e0 e1)).mono L
 ·have cross :∀j ob k ob' a,(∃o0,P j=aa o0∧P' j=aa ob∧j<n0∧σ j=aa o0)→(P k=aj∧σ k=aa ob')→cH (g.back g' P n0) j ob a→cH (g.back g' P n0) k ob' a→False:=fun j ob k ob' a ⟨o0,e0,e1,hj,e2⟩ ⟨f0,f1⟩ o o'=>by
   have o':=ownB k ob' a f1 o';rcases x.fresh a ⟨j,ob,e1,(kA hj e0).mp o⟩ with z|z
   ·exact notOwn k ob' a f0 f1 o' z
   ·exact there k ob' a f1 o' z
  rcases kind j ob e with A|B<;>rcases kind k ob' e' with A'|B'
  ·refine Ar A fun o0 e0 e1 hj e2=>?_;refine Ar A' fun o0' e0' e1' hj' e2'=>?_;exact x.inv.sep j ob k ob' a e1 e1' ((kA hj e0).mp o) ((kA hj' e0').mp o')
  ·exact (cross j ob k ob' a A B' o o').elim
  ·exact (cross k ob' j ob a A' B o' o).elim
  ·exact I.sep j ob k ob' a B.2 B'.2 (ownB j ob a B.2 o) (ownB k ob' a B'.2 o')
 ·rcases kind j ob e with ⟨o0,e0,e1,hj,e2⟩|⟨e0,e1⟩
  ·replace d:=(sQ e0)▸d;exact x.inv.two j ob a b e1 ((if_pos hj).symm.trans r) d
  ·refine ak ((I.obj j ob e1).place) fun a0 r0=>?_;have r1:=L.ρ _ _ r0;replace r1:=r▸r1;have r1:=ao r1;subst r1;replace d:=(uP e0)▸d;exact I.two j ob a b e1 r0 d
 ·refine pT w fun j ob e o=>?_;rcases kind j ob e with ⟨o0,e0,e1,hj,e2⟩|⟨e0,e1⟩
  ·exact x.inv.off a ⟨j,ob,e1,(kA hj e0).mp o⟩
  ·have o:=ownB j ob a e1 o;have q:=I.off a ⟨j,ob,e1,o⟩;refine ⟨q.1,?_⟩;refine bj fun z=>?_;rcases x.fzf a z with z|z|z
   ·exact z q.2
   ·exact there j ob a e1 o z
   ·exact notOwn j ob a e0 e1 o z.oc
 ·have hn:¬ j<n0:=by have:=X.le;omega
  refine ⟨(if_neg hn).trans (I.top j hj).1,?_⟩;have hp:P j=aj:=by
   cases q:P j with
   |none=>rfl
   |some o=>exact absurd (X.at_ j o q).2.1 hn
  erw[uP hp];exact (I.top j hj).2
 ·refine pT w fun j ob e o=>?_;rcases kind j ob e with ⟨o0,e0,e1,hj,e2⟩|⟨e0,e1⟩
  ·rcases x.fresh a ⟨j,ob,e1,(kA hj e0).mp o⟩ with z|z
   ·refine rJ (ocO a z) fun k ob' _ q r=>?_;exact .inl ⟨k,ob',q,r⟩
   ·exact .inr z
  ·exact .inl ⟨j,ob,e1,ownB j ob a e1 o⟩
 ·refine rJ w fun j ob e w o=>?_;rcases kind j ob e with ⟨o0,e0,e1,hj,e2⟩|⟨e0,e1⟩
  ·rcases x.wr a ⟨j,ob,e1,w,(kA hj e0).mp o⟩ with z|z
   ·exact .inl (ownO a z)
   ·exact .inr z
  ·exact .inl ⟨j,ob,e1,w,ownB j ob a e1 o⟩
 ·rcases x.fzf a w with z|z|z
  ·exact .inl z
  ·exact .inr (.inl z)
  ·exact .inr (.inr (ownO a z))
 ·cases q:pj P P' σ j with
  |none=>exact absurd q e
  |some ob=>
   rcases kind j ob q with ⟨o0,e0,e1,hj,e2⟩|⟨e0,e1⟩
   ·exact .inl (by erw[e2];exact fun z=>nomatch z)
   ·exact .inl (by erw[e1];exact fun z=>nomatch z)
theorem JFc.frame1 {P P' S S':St} {g:Gh} {s:av} (F:pJ cx) (X:Yh P.get P.nx S.get S.nx) (I:Inv cx g S.get S.nx s.heap) (rx:VR cx g f x) (rxs:VRs cx g args xs) (uf:uV P.nx f=ac) (ua:uL P.nx args=ac) (uv:uV P.nx v=ac)
 (J:Inv cx (g.part P.nx) P.get P.nx s.heap→VR cx (g.part P.nx) f x→VRs cx (g.part P.nx) args xs→gm cx.mo A (.call x ⟨xs,[]⟩) (PostF cx (g.part P.nx) P s v P') s)
 (cl :∀j ob,P.get j≠aj→P'.get j=aa ob→uO P.nx ob=ac) (e:S'.get=pj P.get P'.get S.get) (hn:S'.nx=S.nx):gm cx.mo A (.call x ⟨xs,[]⟩) (PostF cx g S s v S') s:=
 dp (J (I.part F X) (VR.like F (qg g P.nx) rx uf) (VRs.like F (qg g P.nx) rxs ua)) fun r s' hr=>hr.imp fun g' w a r=>
  ⟨g.back g' P.get P.nx,⟨a.same,by erw[e,hn];exact Evo.join F I X a.evo cl⟩,VR.like F (w4 g g' P.get P.nx) r uv⟩
theorem JFc.frame {P P' S S':St} (F:pJ cx) (X:Yh P.get P.nx S.get S.nx) (J:JFc cx n f args P v P') (uf:uV P.nx f=ac) (ua:uL P.nx args=ac) (uv:uV P.nx v=ac)
 (cl :∀j ob,P.get j≠aj→P'.get j=aa ob→uO P.nx ob=ac) (e:S'.get=pj P.get P'.get S.get) (hn:S'.nx=S.nx):JFc cx n f args S v S':=fun A g s x xs R I rx rxs=>
 JFc.frame1 F X I rx rxs uf ua uv (fun I rx rxs=>J A (g.part P.nx) s x xs R I rx rxs) cl e hn
theorem Inv.fewer (I:Inv cx g σ nx h) (sub :∀j ob,σ2 j=aa ob→σ j=aa ob) (hn:nx≤nx2):Inv cx g σ2 nx2 h:=
 ⟨I.g0,I.base,I.fz,fun j ob e=>I.obj j ob (sub j ob e),fun j ob k ob' a e e' o o'=>I.sep j ob k ob' a (sub j ob e) (sub k ob' e') o o',fun j ob a b e=>I.two j ob a b (sub j ob e),
  fun a ⟨j,ob,e,o⟩ =>I.off a ⟨j,ob,sub j ob e,o⟩,fun j hj=>I.top j (aB hn hj)⟩
theorem Evo.fewer (x:Evo cx g σ nx h g' P' nx' h') (sub :∀j ob,σ2 j=aa ob→P' j=aa ob) (hn:nx'≤nx2):Evo cx g σ nx h g' σ2 nx2 h':=by
 refine ⟨x.le,x.inv.fewer sub hn,x.keep,fun a ⟨j,ob,e,o⟩ =>x.fresh a ⟨j,ob,sub j ob e,o⟩,fun a ⟨j,ob,e,w,o⟩ =>x.wr a ⟨j,ob,sub j ob e,w,o⟩,x.fzf,fun j e=>x.ids j fun z=>?_,x.ext,aB x.nx hn⟩;cases q:σ2 j with
 |none=>exact e q
 |some ob=>replace z:=(sub j ob q)▸z;exact yx z
theorem JFc.fewer (J:JFc cx n f args S v S') (sub :∀j ob,S2.get j=aa ob→S'.get j=aa ob) (hn:S'.nx≤S2.nx):JFc cx n f args S v S2:=fun A g s x xs R I rx rxs=>
 dp (J A g s x xs R I rx rxs) fun r s' hr=>hr.imp fun g' w a r=>⟨g',⟨a.same,a.evo.fewer sub hn⟩,r⟩
end
noncomputable def SJ (v:AV):Bool:=match v with|.opa _=>ae|.opd _=>ae|_=>ac
def nZ:AV→Bool:=kP SJ
def TV (l:List AV):Bool:=nZ (.tup l)
def QB (l:List (AV×AV)):Bool:=nZ (.fd 0 l)
theorem Ig (l:List Int):TV (l.map AV.int)=ac:=w8 (fun a=>rfl) l
structure Kin (c d:Cx):Prop where
 prog:d.prog=c.prog
 w:d.w=c.w
 h₀:d.h₀=c.h₀
 K:d.K=c.K
 ν:d.ν=c.ν
 M:d.M=c.M
theorem Kin.symm (k:Kin c d):Kin d c:=⟨k.prog.symm,k.w.symm,k.h₀.symm,k.K.symm,k.ν.symm,k.M.symm⟩
theorem Kin.khash (k:Kin c d) (v:AV):khash d v=khash c v:=by
 obtain ⟨p1,w1,_,_,_,N1,D1,_,μ1⟩:=c;obtain ⟨p2,w2,_,_,_,N2,D2,_,μ2⟩:=d;cases k.prog;cases k.w;rfl
theorem Kin.imp (k:Kin c d) (g:Gh):Vj c d g g fun v=>nZ v=ac:=
 ⟨fun b c=>zU c,fun b b c=>zV c,fun b b b a=>a,fun b b a=>a,k.ν.symm,k.M.symm,fun v=>(k.khash v).symm,fun b=>rfl,fun b c=>ff c,fun b c=>ff c⟩
theorem VR.kin (k:Kin c d) (h:VR c g v x) (q:nZ v=ac):VR d g v x:=h.imp (k.imp g) q
def rh (N:Nat→AV) (D:Nat→List (AV×AV)) (l:List (Nat×AV)):List (Nat×AV):=l.map fun p=>(p.1,bS N D p.2)
theorem Tf (h:Fn l<8):TV l=ac:=by
 induction l with
 |nil=>rfl
 |cons v l ih=>cases v with
  |int i=>exact ih h
  |_=>exact absurd h (dK 8)
theorem Te (h:Fm l<8):TV l=ac:=by
 induction l with
 |nil=>rfl
 |cons v l ih=>cases v with
  |str i=>exact ih h
  |_=>exact absurd h (dK 8)
theorem Xl (h:kd v<8):nZ v=ac:=by
 cases v with
 |str|int=>rfl
 |tup l=>cases l with
  |nil=>exact absurd h (dK 8)
  |cons v l=>cases v with
   |int i=>exact Tf (l:=l) h
   |str i=>exact Te (l:=l) h
   |_=>exact absurd h (dK 8)
 |_=>exact absurd h (dK 8)
structure eJ (N:Nat→AV) (D:Nat→List (AV×AV)):Prop where
 N :∀k,nZ (N k)=ac
 D :∀k,QB (D k)=ac
theorem Df (h:QB l=ac):nZ (.fd d l)=ac:=h
def KHf (l:List (AV×AV)):Prop:=∀p∈l,nZ p.1=ac
theorem KHf.of (h:yg d l):KHf l:=fun p hp=>Xl (by erw[(h.1 p hp).1];exact (h.1 p hp).2)
theorem fQ (k:Kin c d) (q:nZ v=ac) (x:Value):VR c g v x↔VR d g v x:=⟨fun h=>h.kin k q,fun h=>h.kin k.symm q⟩
theorem B_ (h :∀x,VR c g v x↔VR d g u x) (hs :∀xs,VRs c g l xs↔VRs d g m xs) (xs:List Value):VRs c g (v::l) xs↔VRs d g (u::m) xs:=
 ⟨fun r=>r.uncons fun x ys e a b=>e▸.cons ((h x).mp a) ((hs ys).mp b),fun r=>r.uncons fun x ys e a b=>e▸.cons ((h x).mpr a) ((hs ys).mpr b)⟩
theorem Dq (h1 :∀x,VR c g v.1 x↔VR d g u.1 x) (hk:khash c v.1=khash d u.1) (h2 :∀x,VR c g v.2 x↔VR d g u.2 x) (hs :∀es,DRs c g l es↔DRs d g m es) (es:List DictEntry):DRs c g (v::l) es↔DRs d g (u::m) es:=
 ⟨fun r=>r.uncons fun e ys q a b f t=>q▸.cons ((h1 _).mp a) (b.trans hk) ((h2 _).mp f) ((hs ys).mp t),fun r=>r.uncons fun e ys q a b f t=>q▸.cons ((h1 _).mpr a) (b.trans hk.symm) ((h2 _).mpr f) ((hs ys).mpr t)⟩
theorem LG (hs :∀xs,VRs c g l xs↔VRs d g m xs) (x:Value):VR c g (.tup l) x↔VR d g (.tup m) x:=
 ⟨fun r=>me r fun a vs n e f t=>e▸.tup f ((hs _).mp t),fun r=>me r fun a vs n e f t=>e▸.tup f ((hs _).mpr t)⟩
theorem LI (hk:l.map (·.1)=m.map (·.1)) (hs:yg e m→∀xs,DRs c g l xs↔DRs d g m xs) (x:Value):VR c g (.fd e l) x↔VR d g (.fd e m) x:=
 ⟨fun r=>s7 r fun a o es n q z f b p ko t=>q▸.fd z f b p (iS hk ko) ((hs (iS hk ko) _).mp t),fun r=>s7 r fun a o es n q z f b p ko t=>q▸.fd z f b p (iS hk.symm ko) ((hs ko _).mpr t)⟩
theorem KHf.tail (h:KHf (p::l)):KHf l:=fun q hq=>h q (ja _ hq)
theorem VR.fill_iff (k:Kin c d) (H:eJ d.N d.D) (v:AV):∀x,VR c g (bS d.N d.D v) x↔VR d g v x:=
 AV.rec (motive_1:=fun v=>∀x,VR c g (bS d.N d.D v) x↔VR d g v x) (motive_2:=fun l=>∀xs,VRs c g (dE d.N d.D l) xs↔VRs d g l xs) (motive_3:=fun l=>KHf l→∀es,DRs c g (kG d.N d.D l) es↔DRs d g l es)
  (motive_4:=fun p=>∀x,VR c g (bS d.N d.D p.2) x↔VR d g p.2 x) (fQ k rfl) (fun f=>fQ k rfl) (fun f=>fQ k rfl) (fun f=>fQ k rfl)
  (fun l ih x=>jv l▸LG ih x) (fun e l ih x=>kF l▸LI iB (fun ko=>ih (KHf.of ko)) x)
  (fun f=>fQ k rfl) (fun f=>fQ k rfl) (fun f=>fQ k rfl) (fun f=>fQ k rfl) (fun f=>fQ k rfl) (fun f=>fQ k rfl) (fun f=>fQ k rfl)
  (fun j x=>⟨fun h=>.opa (h.kin k (H.N j)),fun h=>(LJ h).kin k.symm (H.N j)⟩) (fun j x=>⟨fun h=>.opd (h.kin k (Df (H.D j))),fun h=>(LH h).kin k.symm (Df (H.D j))⟩)
  (fun xs=>⟨fun h=>h.nil_inv▸.nil,fun h=>h.nil_inv▸.nil⟩) (fun v l a b=>B_ a b)
  (fun f xs=>⟨fun h=>h.nil_inv▸.nil,fun h=>h.nil_inv▸.nil⟩) (fun p l a b q=>Dq (v:=(p.1,bS d.N d.D p.2)) (fQ k (q p (.head _))) (k.khash _).symm a (b q.tail)) (fun f f f b=>b) v
theorem VR.fill (k:Kin c d) (H:eJ d.N d.D) (v:AV) (h:VR c g (bS d.N d.D v) x):VR d g v x:=(VR.fill_iff k H v x).mp h
theorem VR.unfill (k:Kin c d) (H:eJ d.N d.D) (v:AV) (h:VR d g v x):VR c g (bS d.N d.D v) x:=(VR.fill_iff k H v x).mpr h
theorem VRs.fill_iff (k:Kin c d) (H:eJ d.N d.D) (l:List AV):∀xs,VRs c g (dE d.N d.D l) xs↔VRs d g l xs:=by
 induction l with
 |nil=>exact fun xs=>⟨fun h=>h.nil_inv▸.nil,fun h=>h.nil_inv▸.nil⟩
 |cons v l ih=>exact B_ (VR.fill_iff k H v) ih
theorem VRs.fill (k:Kin c d) (H:eJ d.N d.D) (l:List AV) (h:VRs c g (dE d.N d.D l) xs):VRs d g l xs:=(VRs.fill_iff k H l xs).mp h
theorem VRs.unfill (k:Kin c d) (H:eJ d.N d.D) (l:List AV) (h:VRs d g l xs):VRs c g (dE d.N d.D l) xs:=(VRs.fill_iff k H l xs).mpr h
theorem DRs.fill_iff (k:Kin c d) (H:eJ d.N d.D) (l:List (AV×AV)):KHf l→∀es,DRs c g (kG d.N d.D l) es↔DRs d g l es:=by
 induction l with
 |nil=>exact fun a xs=>⟨fun h=>h.nil_inv▸.nil,fun h=>h.nil_inv▸.nil⟩
 |cons p l ih=>exact fun q=>Dq (v:=(p.1,bS d.N d.D p.2)) (fQ k (q p (.head _))) (k.khash _).symm (VR.fill_iff k H p.2) (ih q.tail)
theorem DRs.fill (k:Kin c d) (H:eJ d.N d.D) (l:List (AV×AV)) (q:KHf l) (h:DRs c g (kG d.N d.D l) es):DRs d g l es:=(DRs.fill_iff k H l q es).mp h
theorem DRs.unfill (k:Kin c d) (H:eJ d.N d.D) (l:List (AV×AV)) (q:KHf l) (h:DRs d g l es):DRs c g (kG d.N d.D l) es:=(DRs.fill_iff k H l q es).mpr h
theorem q_ (k:Kin c d) (x:Str):gk d.w x=gk c.w x:=by exact au k.w▸rfl
theorem FRs.uncons {P:Prop} (h:FRs cx g (p::l) es) (q :∀e ys t,es=e::ys→e.key=.str (sT p.1) t→e.hash=gk cx.w (sT p.1)→p.1<nS→VR cx g p.2 e.val→FRs cx g l ys→P):P:=by
 cases h with|cons a b c d r=>exact q _ _ _ rfl a b c d r
theorem FRs.nil_inv (h:FRs cx g [] es):es=[]:=by cases h;rfl
theorem FRs.fill_iff (k:Kin c d) (H:eJ d.N d.D) (l:List (Nat×AV)):∀es,FRs c g (rh d.N d.D l) es↔FRs d g l es:=by
 induction l with
 |nil=>exact fun xs=>⟨fun h=>h.nil_inv▸.nil,fun h=>h.nil_inv▸.nil⟩
 |cons p l ih=>exact fun es=>⟨fun h=>h.uncons fun e ys t q a b n r rs=>q▸.cons a (b.trans (q_ k _).symm) n (VR.fill k H p.2 r) ((ih ys).mp rs),fun h=>h.uncons fun e ys t q a b n r rs=>q▸.cons a (b.trans (q_ k _)) n (VR.unfill k H p.2 r) ((ih ys).mpr rs)⟩
theorem FRs.fill (k:Kin c d) (H:eJ d.N d.D) (h:FRs c g (rh d.N d.D l) es):FRs d g l es:=(FRs.fill_iff k H l es).mp h
theorem FRs.unfill (k:Kin c d) (H:eJ d.N d.D) (h:FRs d g l es):FRs c g (rh d.N d.D l) es:=(FRs.fill_iff k H l es).mpr h
theorem ly:(rh N D l).map (·.1)=l.map (·.1):=l4
noncomputable def gu (B:Nat→List AV) (p:Option Nat):List AV:=match p with|.none=>[]|some k=>B k
def dw (N:Nat→AV) (D:Nat→List (AV×AV)) (B:Nat→List AV):AO→AO
 |.list ro ii l post=>.list ro .none (gu B ii++dE N D l++gu B post) .none
 |.dict ro d l=>.dict ro d (kG N D l)
 |.inst c fs=>.inst c (rh N D fs)
def eA (S:St) (k:Nat):List AV:=match S.get k with|some (.list _ .none l .none)=>if l.length≤1000 then l else []|_=>[]
def gT (S:St) (k:Nat):List AV:=if k<1000 then eA S k else (eA S (k-1000)).drop 1
noncomputable def yT (g:Gh) (h:Heap) (k:Nat):List Value:=match g.ρ k with
 |some a=>(match h.get? a with|some ⟨_,_,.seq vs _,_⟩ =>vs.toList|_=>[])
 |none=>[]
def jY (g:Gh) (h:Heap) (S:St) (k:Nat):List Value:=match S.get k with|some (.list _ .none l .none)=>if l.length≤1000 then yT g h k else []|_=>[]
def qd (g:Gh) (h:Heap) (S:St) (k:Nat):List Value:=if k<1000 then jY g h S k else (jY g h S (k-1000)).drop 1
def pY (j:Nat) (ob:AO):Bool:=match ob with
 |.list _ .none _ .none=>ac
 |.list _ (aa k) l .none=>ay k j&&aF j 1000&&ni l
 |.list _ .none l (aa k)=>ay k (1000+j)&&aF j 1000&&vP l
 |.list _ (aa _) _ (aa _)=>ae
 |_=>ac
theorem VRs.drop1 (h:VRs cx g l xs):VRs cx g (l.drop 1) (xs.drop 1):=h.drop 1
section
variable {c d:Cx} {g:Gh} {h:Heap} {j:Nat} {B:Nat→List AV}
theorem Ca (I:Inv c g S.get nx h) (k:Nat):VRs c g (eA S k) (jY g h S k):=by
 unfold eA jY;cases e:S.get k with
 |none=>exact .nil
 |some ob=>
  cases ob with
  |dict _ _ _=>exact .nil
  |inst _ _=>exact .nil
  |list ro ii l post=>
   cases ii with
   |some _=>exact .nil
   |none=>
    cases post with
    |some _=>exact .nil
    |none=>
     dsimp only
     split
     ·refine (I.obj k _ e).vw fun a vs m mid r ho hv rs=>?_;have:yT g h k=vs.toList:=by unfold yT;erw[r];dsimp only;exact au ho▸rfl
      erw[this,hv];simp only [fo,PJ,cf];exact rs
     ·exact .nil
theorem GE (I:Inv c g S.get nx h) (k:Nat):VRs c g (gT S k) (qd g h S k):=by
 unfold gT qd
 split
 ·exact Ca I k
 ·exact (Ca I _).drop1
theorem ji (S:St) (k:Nat):(eA S k).length≤1000:=by
 unfold eA
 split
 ·split
  ·assumption
  ·exact a7 _
 ·exact a7 _
theorem GF (I:Inv c g S.get nx h) (k:Nat):(qd g h S k).length≤1000:=by
 have:=(GE I k).length;erw[this];unfold gT
 split
 ·exact ji S k
 ·erw[Lg];have:=ji S (k-1000);omega
theorem OR.unfill (k:Kin c d) (H:eJ d.N d.D) (SB :∀q,VRs c g (B q) (d.μ q)) {ob:AO} (x:OR d g h j ob):OR c g h j (dw d.N d.D B ob):=by
 cases x with
 |list r e v rs=>
  rename_i p l q vs m mid;have sg :∀p:Option Nat,VRs c g (gu B p) (fo d p):=fun p=>by
   cases p with
   |none=>exact .nil
   |some q=>exact SB q
  exact .list (mid:=fo d p++mid++fo d q) r e (by rw [v];simp [fo]) (xk (xk (sg _) (VRs.unfill k H _ rs)) (sg _))
 |dict r e xd hd ko dr=>exact .dict r e xd hd (iS iB.symm ko) (DRs.unfill k H _ (KHf.of ko) dr)
 |inst r d' e f fr nd=>exact .inst r d' e f (FRs.unfill k H fr) (by rw [ly];exact nd)
theorem OR.fill {S:St} {nx:Nat} (k:Kin c d) (H:eJ d.N d.D) (I:Inv c g S.get nx h) (hμ:d.μ=qd g h S) {ob:AO} (e:S.get j=aa (dw d.N d.D (gT S) ob)) (st:pY j ob=ac):OR d g h j ob:=by
 have x:=I.obj j _ e;cases ob with
 |dict ro d' l=>
  cases x with
  |dict r e xd hd ko dr=>
   have ko':=iS iB ko;exact .dict r e xd hd ko' (DRs.fill k H l (KHf.of ko') dr)
 |inst cc fs=>
  cases x with
  |inst r d' e f fr nd=>exact .inst r d' e f (FRs.fill k H fr) (by rw [ly] at nd;exact nd)
 |list ro ii l post=>
  have x':OR c g h j (.list ro .none (gu (gT S) ii++dE d.N d.D l++gu (gT S) post) .none):=x;refine x'.vw fun a vs m mid r ho hv rs=>?_;have hv:vs.toList=mid:=by rw [hv];simp [fo]
  have raw:yT g h j=vs.toList:=by unfold yT;rw [r];dsimp only;rw [ho]
  have e':S.get j=aa (.list ro .none (gu (gT S) ii++dE d.N d.D l++gu (gT S) post) .none):=e;cases ii with
  |none=>
   cases post with
   |none=>
    exact .list (mid:=mid) r ho (by rw [hv];simp [fo]) (VRs.fill k H l (by simpa [gu] using rs))
   |some q=>
    refine aK (fun st s3=>?_) (eS (show (ay q (1000+j)&&aF j 1000&&vP l)=ac from st));have s1:=aL st;have s2:=aR st;have s1:=am s1;have s2:=aG.mp s2;refine ak (sv s3) fun v q100=>?_;subst q100;subst s1;have hB:gT S (1000+j)=(eA S j).drop 1:=by unfold gT;rw [if_neg (by omega)];simp
    have hM:qd g h S (1000+j)=(jY g h S j).drop 1:=by unfold qd;rw [if_neg (by omega)];simp
    have hl:(gu (gT S) aj++dE d.N d.D [v]++gu (gT S) (aa (1000+j))).length≤1000:=by
     have hc:=ji S j;have:(gu (gT S) aj++dE d.N d.D [v]++gu (gT S) (aa (1000+j)))=bS d.N d.D v::(eA S j).drop 1:=by simp [gu,hB,dE]
     rw [this,lL,Lg]
     by_cases z:(eA S j).length=0
     ·omega
     ·omega
    have hval:jY g h S j=vs.toList:=by unfold jY;rw [e'];dsimp only;rw [if_pos hl,raw]
    have rs:VRs c g (bS d.N d.D v::gT S (1000+j)) mid:=by simpa [gu,dE] using rs
    cases rs with
    |@cons _ _ y ys r1 rs=>
     refine .list (mid:=[y]) r ho ?_ (.cons (VR.fill k H v r1) .nil);rw [hv];show _=[]++[y]++d.μ (1000+j);rw [hμ,hM,hval,hv];simp
  |some q=>
   cases post with
   |some _=>exact ff st
   |none=>
    refine aK (fun st s3=>?_) (eS (show (ay q j&&aF j 1000&&ni l)=ac from st));have s1:=aL st;have s2:=aR st;have s1:=am s1;have s2:=aG.mp s2;have s3:=wx s3;subst s1 s3;have hB:gT S q=eA S q:=by unfold gT;rw [if_pos s2]
    have hM:qd g h S q=jY g h S q:=by unfold qd;rw [if_pos s2]
    have hl:(gu (gT S) (aa q)++dE d.N d.D []++gu (gT S) aj).length≤1000:=by
     have:(gu (gT S) (aa q)++dE d.N d.D []++gu (gT S) aj)=eA S q:=by simp [gu,hB,dE]
     rw [this];exact ji S q
    have hval:jY g h S q=vs.toList:=by unfold jY;rw [e'];dsimp only;rw [if_pos hl,raw]
    refine .list (mid:=[]) r ho ?_ .nil;show _=d.μ q++[]++[];rw [hμ,hM,hval];simp
structure SameS (N:Nat→AV) (D:Nat→List (AV×AV)) (B:Nat→List AV) (P S:St):Prop where
 get :∀j,S.get j=(P.get j).map (dw N D B)
 nx:S.nx=P.nx
theorem SameS.to {N:Nat→AV} {D:Nat→List (AV×AV)} {P S:St} (X:SameS N D B P S) {j:Nat} {ob:AO} (e:P.get j=aa ob):S.get j=aa (dw N D B ob):=by rw [X.get,e];rfl
theorem SameS.of (X:SameS N D B P S) (e:S.get j=aa o):∃ob,P.get j=aa ob∧o=dw N D B ob:=by
 replace e:=(X.get ..)▸e;cases q:P.get j with
 |none=>replace e:=q▸e;exact no e
 |some ob=>replace e:=q▸e;apply gF e;exact ⟨ob,rfl,rfl⟩
theorem dO {N:Nat→AV} {D:Nat→List (AV×AV)} {ob:AO} {a:Addr}:cH g j (dw N D B ob) a↔cH g j ob a:=by
 unfold cH;cases ob with
 |list ro ii l post=>exact ⟨fun z=>z.imp id fun ⟨⟨_,_,q⟩,_⟩ =>(nomatch q),fun z=>z.imp id fun ⟨⟨_,_,q⟩,_⟩ =>(nomatch q)⟩
 |dict ro d l=>exact ⟨fun z=>z.imp id fun ⟨⟨_,_,q⟩,_⟩ =>(nomatch q),fun z=>z.imp id fun ⟨⟨_,_,q⟩,_⟩ =>(nomatch q)⟩
 |inst c fs=>exact ⟨fun z=>z.imp id fun ⟨_,q⟩ =>⟨⟨_,_,rfl⟩,q⟩,fun z=>z.imp id fun ⟨_,q⟩ =>⟨⟨_,_,rfl⟩,q⟩⟩
theorem wN {N:Nat→AV} {D:Nat→List (AV×AV)} {ob:AO}:EF (dw N D B ob)=EF ob:=by cases ob<;>rfl
theorem SameS.oc (X:SameS N D B P S):Oc g S.get a↔Oc g P.get a:=by
 refine ⟨fun ⟨j,o,e,w⟩ =>?_,fun ⟨j,ob,e,w⟩ =>⟨j,_,X.to e,dO.mpr w⟩⟩;refine cg (X.of e) fun ob e' q301=>?_;subst q301;exact ⟨j,ob,e',dO.mp w⟩
theorem SameS.own (X:SameS N D B P S):Own g S.get a↔Own g P.get a:=by
 refine ⟨fun ⟨j,o,e,q,w⟩ =>?_,fun ⟨j,ob,e,q,w⟩ =>⟨j,_,X.to e,wN.trans q,dO.mpr w⟩⟩;refine cg (X.of e) fun ob e' q401=>?_;subst q401;exact ⟨j,ob,e',wN.symm.trans q,dO.mp w⟩
theorem uw (k:Kin c d):d.g0=c.g0:=by unfold Cx.g0;exact au k.K▸rfl
theorem Inv.holes (k:Kin c d) (H:eJ d.N d.D) (I:Inv c g S.get S.nx h) (hμ:d.μ=qd g h S) (X:SameS d.N d.D (gT S) P S) (st :∀j ob,P.get j=aa ob→pY j ob=ac):Inv d g P.get P.nx h:=by
 refine ⟨(uw k)▸I.g0,fun b o e=>I.base b o (k.h₀▸e),I.fz,fun j ob e=>OR.fill k H I hμ (X.to e) (st j ob e),fun j ob i ob' a e e' o o'=>I.sep j _ i _ a (X.to e) (X.to e') (dO.mpr o) (dO.mpr o'),fun j ob a b e=>I.two j _ a b (X.to e),fun a w=>?_,fun j hj=>I.top j (by erw[X.nx];exact hj)⟩;have:=I.off a (X.oc.mpr w);exact ⟨k.h₀▸this.1,this.2⟩
theorem Inv.unholes (k:Kin c d) (H:eJ d.N d.D) (I:Inv d g P.get P.nx h) (SB :∀q,VRs c g (B q) (d.μ q)) (X:SameS d.N d.D B P S):Inv c g S.get S.nx h:=by
 refine ⟨(uw k)▸I.g0,fun b o e=>I.base b o (k.h₀.symm▸e),I.fz,fun j o e=>?_,fun j ob i ob' a e e' o o'=>?_,fun j ob a b e=>?_,fun a w=>?_,fun j hj=>I.top j (by refine X.nx▸?_;exact hj)⟩
 ·refine sZ (X.of e) fun ob e'=>?_;exact OR.unfill k H SB (I.obj j ob e')
 ·refine cg (X.of e) fun b1 e1 q601=>?_;subst q601;refine cg (X.of e') fun b2 e2 q701=>?_;subst q701;exact I.sep j b1 i b2 a e1 e2 (dO.mp o) (dO.mp o')
 ·apply sZ (X.of e);intro b1 e1;exact I.two j b1 a b e1
 ·have:=I.off a (X.oc.mp w);exact ⟨k.h₀▸this.1,this.2⟩
theorem Evo.unholes (k:Kin c d) (H:eJ d.N d.D) (SB :∀q,VRs c g (B q) (d.μ q)) (X:SameS d.N d.D B P S) (X':SameS d.N d.D B P' S') (x:Evo d g P.get P.nx h g' P'.get P'.nx h'):Evo c g S.get S.nx h g' S'.get S'.nx h':=by
 refine ⟨x.le,x.inv.unholes k H (fun q=>(SB q).mono x.le) X',fun a o e w=>x.keep a o e fun z=>w (X.own.mpr z),fun a w=>(x.fresh a (X'.oc.mp w)).imp X.oc.mpr id,fun a w=>(x.wr a (X'.own.mp w)).imp X.own.mpr id,fun a w=>(x.fzf a w).imp id fun z=>z.imp id X.own.mpr,fun j e=>?_,x.ext,by erw[X.nx,X'.nx];exact x.nx⟩;have e':P'.get j≠aj:=fun z=>e (by erw[(X'.get ..),(z ..)];rfl);rcases x.ids j e' with q|q
 ·refine .inl fun z=>q ?_;replace z:=(X.get ..)▸z;cases p:P.get j with
  |none=>rfl
  |some ob=>replace z:=p▸z;cases z
 ·exact .inr (by erw[X.nx];exact q)
end
theorem JFc.holes (H:eJ N D) (X:SameS N D (gT S) P S) (X':SameS N D (gT S) P' S') (st :∀j ob,P.get j=aa ob→pY j ob=ac)
 (J:JFc {c with N:=N,D:=D,μ:=qd g s.heap S} n f args P v P') (R:Room A n) (I:Inv c g S.get S.nx s.heap) (rx:VR c g (bS N D f) x) (rxs:VRs c g (dE N D args) xs):
 gm c.mo A (.call x ⟨xs,[]⟩) (PostF c g S s (bS N D v) S') s:=
 have k:Kin c {c with N:=N,D:=D,μ:=qd g s.heap S}:=⟨rfl,rfl,rfl,rfl,rfl,rfl⟩
 dp (J A g s x xs R (I.holes k H rfl X st) (VR.fill k H f rx) (VRs.fill k H args rxs)) fun r s' hr=>hr.imp fun g' w a r=>
  ⟨g',⟨a.same,a.evo.unholes k H (fun q=>GE I q) X X'⟩,VR.unfill k H v r⟩
theorem T1:glL.all (fun p=>nZ p.2)=ac:=by decide +kernel
theorem MethOk.kin (k:Kin c d) (X:MethOk c a b f):MethOk d a b f:=⟨by erw[k.K];exact X.find,by erw[k.K];exact X.fn,by erw[k.K];exact X.own,by erw[k.K];exact X.keep⟩
theorem ClsOk.kin (k:Kin c d) (X:ClsOk c a):ClsOk d a:=
 ⟨by erw[k.K];exact X.ga,by erw[k.K];exact X.gh,by erw[k.K];exact X.keep,by erw[k.K];exact X.hasD,by erw[k.K];exact X.over,by erw[k.K];exact X.make,by erw[k.K];exact X.sa,by erw[k.K];exact X.reads,by erw[k.K];exact X.tga⟩
theorem Known.kin (k:Kin c d) (X:Known c) (hμ :∀q,(d.μ q).length≤1000):Known d:=by
 refine ⟨⟨by erw[k.K,k.h₀];exact X.O.kin,hμ,by erw[k.h₀];exact X.O.lim,by erw[k.h₀];exact X.O.sys⟩,by erw[k.K];exact X.fns,by erw[k.K];exact X.meths,by erw[k.K];exact X.ats,by erw[k.K];exact X.glbs,fun a ha=>(X.cls a ha).kin k,fun nm e l hm=>?_⟩;refine cg (X.ends nm e l hm) fun val r q=>?_;have hf:=ai.mp T1 _ hm;exact ⟨val,by erw[uw k];exact r.kin k hf,by erw[k.K];exact q⟩
def gp (nx:Nat) (l:List (Nat×AO)):St:=aP (motive:=fun a=>St) ⟨.nil,nx⟩ (fun p a ih=>ih.put p.1 p.2) l
def j5 (j:Nat) (l:List (Nat×AO)):Option AO:=aP (motive:=fun a=>Option AO) .none (fun p a ih=>be (motive:=fun a=>Option AO) ih (aa p.2) (ay p.1 j)) l
theorem ea:(gp nx l).nx=nx:=by
 induction l with
 |nil=>rfl
 |cons p l ih=>exact (St.nx_put ..).trans ih
theorem fk {nx:Nat} {l:List (Nat×AO)} {j:Nat}:(gp nx l).get j=j5 j l:=by
 induction l with
 |nil=>rfl
 |cons p l ih=>
  refine (congrFun (St.get_put ..) j).trans ?_;cases h:ay p.1 j with
  |true=>refine (am h ..)▸au (bo ..)▸?_;exact (uN (cp _)).symm
  |false=>exact (bA _ _ fun e=>nomatch ((congrArg (ay p.1) e).trans (cp _)).symm.trans h).trans (ih.trans (rS h).symm)
def X7 (l m:List (Nat×AV)):Bool:=jF (fun p q=>ay p.1 q.1&&K9 p.2 q.2) l m
theorem Pg (h:X7 l m=ac):l=m:=pH (fun a a z=>io (am (eS z).1) (mA (eS z).2)) l h
def Ze (a b:Option Nat):Bool:=aM (aM ac (fun c=>ae) b) (fun x=>aM ae (fun y=>ay x y) b) a
theorem G5 (h:Ze a b=ac):a=b:=by
 cases a<;>cases b
 ·rfl
 ·exact ff h
 ·exact ff h
 ·exact congrArg aa (am h)
def YW (a b:AO):Bool:=
 a.casesOn (fun r p l q=>b.casesOn (fun r' p' l' q'=>(r==r')&&Ze p p'&&Ph l l'&&Ze q q') (fun e e e=>ae) (fun e e=>ae))
  (fun r d l=>b.casesOn (fun e e e e=>ae) (fun r' d' l'=>(r==r')&&ay d d'&&X5 l l') (fun e e=>ae))
  (fun c l=>b.casesOn (fun e e e e=>ae) (fun e e e=>ae) (fun c' l'=>ay c c'&&X7 l l'))
theorem Ku (h:YW a b=ac):a=b:=by
 cases a with
 |list r p l q=>
  cases b with
  |list r' p' l' q'=>
   have h4:=eS h;have h3:=eS h4.1;have h2:=eS h3.1;rw [gV h2.1,G5 h2.2,yb h3.2,G5 h4.2]
  |_=>exact ff h
 |dict r d l=>
  cases b with
  |dict r' d' l'=>
   have h3:=eS h;have h2:=eS h3.1;exact au (gV h2.1)▸au (am h2.2)▸au (Pf h3.2)▸rfl
  |_=>exact ff h
 |inst c l=>
  cases b with
  |inst c' l'=>exact au (am (eS h).1)▸au (Pg (eS h).2)▸rfl
  |_=>exact ff h
def Qd (a:Option AO) (b:AO):Bool:=aM ae (YW · b) a
theorem nW (h:Qd a b=ac):a=aa b:=by
 cases a with
 |none=>exact ff h
 |some x=>exact congrArg aa (Ku h)
structure Ctr where
 f:AV
 args:List AV
 nx:Nat
 P:List (Nat×AO)
 v:AV
 U:List (Nat×AO)
def Ctr.end_ (C:Ctr) (p:Nat×AO):AO:=match j5 p.1 C.U with|some o=>o|none=>p.2
noncomputable def qP (o:AO):List Nat:=match o with|.list _ p _ q=>(match p with|some k=>[k]|none=>[])++(match q with|some k=>[k]|none=>[])|_=>[]
def Ctr.segs (C:Ctr):List Nat:=C.P.flatMap fun p=>qP p.2
def Ctr.form (C:Ctr):Bool:=uV C.nx C.f&&uL C.nx C.args&&uV C.nx C.v&&SR (C.P.map (·.1))
 && C.P.all (fun p=>aF p.1 C.nx&&uO C.nx p.2&&pY p.1 p.2&&uO C.nx (C.end_ p)&&(qP (C.end_ p)).all (fun k=>cJ k C.segs))
 && C.U.all (fun u=>cJ u.1 (C.P.map (·.1)))
def Ctr.runs (C:Ctr) (om:Om) (ov:Ov) (m:Nat):Bool:=nJ om meths ov tabC m C.f C.args (gp C.nx C.P) fun v S=>K9 v C.v&&C.P.all fun p=>Qd (S.get p.1) (C.end_ p)
theorem mu {N:Nat→AV} {D:Nat→List (AV×AV)} {B B':Nat→List AV} {ob:AO} (h :∀k∈qP ob,B k=B' k):dw N D B ob=dw N D B' ob:=by
 cases ob with
 |list ro p l q=>
  have e1:gu B p=gu B' p:=by
   cases p with
   |none=>rfl
   |some k=>exact h k (by unfold qP;simp)
  have e2:gu B q=gu B' q:=by
   cases q with
   |none=>rfl
   |some k=>exact h k (by unfold qP;simp)
  show AO.list ro .none (gu B p++dE N D l++gu B q) .none=AO.list ro .none (gu B' p++dE N D l++gu B' q) .none;exact au e1▸au e2▸rfl
 |dict _ _ _=>rfl
 |inst _ _=>rfl
theorem hY:j5 j l=aa o→(j,o)∈l:=by
 induction l with
 |nil=>exact fun h=>nomatch h
 |cons p l ih=>
  intro h;cases q:ay p.1 j with
  |true=>refine (am q)▸(ao ((uN q).symm.trans h))▸?_;exact .head _
  |false=>exact .tail _ (ih ((rS q).symm.trans h))
theorem Hx:(l.map (·.1)).Nodup→(j,o)∈l→j5 j l=aa o:=by
 induction l with
 |nil=>exact fun a h=>nomatch h
 |cons p l ih=>
  intro nd h;have nd:=ce.mp nd;refine (aN.mp h).elim (fun e=>e▸uN (cp _)) fun h=>?_;refine (rS ?_).trans (ih nd.2 h);cases q:ay p.1 j with
  |true=>
   have n1:¬ p.1∈l.map (·.1):=nd.1;rw [am q] at n1;exact absurd (jH (f:=(·.1)) h) n1
  |false=>rfl
theorem oM (hN :∀k,uV 0 (N k)=ac) (hD :∀k,uD 0 (D k)=ac) (v:AV):uV n0 v=ac→uV n0 (bS N D v)=ac:=
 AV.rec (motive_1:=fun v=>uV n0 v=ac→uV n0 (bS N D v)=ac) (motive_2:=fun l=>uL n0 l=ac→uL n0 (dE N D l)=ac) (motive_3:=fun l=>uD n0 l=ac→uD n0 (kG N D l)=ac)
  (motive_4:=fun p=>uV n0 p.2=ac→uV n0 (bS N D p.2)=ac) (fun h=>h) (fun c h=>h) (fun c h=>h) (fun c h=>h) (fun l ih h=>jv (N:=N) (D:=D) l▸ih h) (fun d l ih h=>kF (N:=N) (D:=D) (d:=d) l▸ih h)
  (fun c h=>h) (fun c h=>h) (fun c h=>h) (fun c h=>h) (fun c h=>h) (fun c h=>h) (fun c h=>h) (fun k c=>Cg (hN k)) (fun k c=>PZ (hD k))
  (fun h=>h) (fun v l a b h=>v4 (a (aL h)) (b (aR h))) (fun h=>h) (fun p l a b h=>v4 (v4 (aL (aL h)) (a (aR (aL h)))) (b (aR h))) (fun c c c b=>b) v
theorem Ci (hN :∀k,uV 0 (N k)=ac) (hD :∀k,uD 0 (D k)=ac) (l:List AV) (h:uL n0 l=ac):uL n0 (dE N D l)=ac:=by
 have:=oM hN hD (.tup l) h
 rwa [jv] at this
theorem LO (hN :∀k,uV 0 (N k)=ac) (hD :∀k,uD 0 (D k)=ac) (l:List (AV×AV)) (h:uD n0 l=ac):uD n0 (kG N D l)=ac:=by
 have:=oM hN hD (.fd 0 l) h
 rwa [kF] at this
theorem LN (hN :∀k,uV 0 (N k)=ac) (hD :∀k,uD 0 (D k)=ac) (l:List (Nat×AV)) (h:uF n0 l=ac):uF n0 (rh N D l)=ac:=by
 induction l with
 |nil=>rfl
 |cons p l ih=>exact v4 (oM hN hD p.2 (aL h)) (ih (aR h))
theorem F6 (h:uL n0 l=ac) (k:uL n0 m=ac):uL n0 (l++m)=ac:=by
 induction l with
 |nil=>exact k
 |cons v l ih=>exact v4 (aL h) (ih (aR h))
theorem Ch (hN :∀k,uV 0 (N k)=ac) (hD :∀k,uD 0 (D k)=ac) (hB :∀k,uL 0 (B k)=ac) (ob:AO) (h:uO n0 ob=ac):uO n0 (dw N D B ob)=ac:=by
 have sg :∀p,uL n0 (gu B p)=ac:=fun p=>by
  cases p with
  |none=>rfl
  |some k=>exact V2 (hB k)
 cases ob with
 |list ro p l q=>exact F6 (F6 (sg p) (Ci hN hD l h)) (sg q)
 |dict ro d l=>exact LO hN hD l h
 |inst c fs=>exact LN hN hD fs h
theorem rt (h:S.get j=aa (.list ro .none l .none)) (hl:l.length≤1000):eA S j=l:=by
 unfold eA;erw[h];exact if_pos hl
theorem R1 {N:Nat→AV} {D:Nat→List (AV×AV)} {B:Nat→List AV} {S0:St} {j k:Nat} {ob:AO} (g0:S0.get j=aa (dw N D B ob)) (st:pY j ob=ac) (hk:k∈qP ob) (hBl :∀k,(B k).length≤999):gT S0 k=B k:=by
 cases ob with
 |dict _ _ _=>exact nomatch hk
 |inst _ _=>exact nomatch hk
 |list ro ii l post=>
  cases ii with
  |none=>
   cases post with
   |none=>exact nomatch hk
   |some q=>
    have st:(ay q (1000+j)&&aF j 1000&&vP l)=ac:=st;erw[aS.mp hk,am (aL (aL st))];refine ak (sv (aR st)) fun v e=>?_;replace g0:=(am (aL (aL st)))▸e▸g0;exact (if_neg (i5.mpr (gD 1000 j))).trans (by erw[(Ai ..),(rt (l:=bS N D v::B (1000+j)) g0 (gC (hBl _)) ..)];rfl)
  |some q=>
   cases post with
   |some _=>exact ff st
   |none=>
    have st:(ay q j&&aF j 1000&&ni l)=ac:=st;erw[aS.mp hk,am (aL (aL st))];replace g0:=(am (aL (aL st)))▸(wx (aR st))▸g0;exact (if_pos (aG.mp (aR (aL st)))).trans (rt (g0.trans (congrArg (fun l=>aa (AO.list ro .none l .none)) ((cf _).trans (cf _)))) (aB (hBl j) (by decide)))
theorem Ctr.ok {c:Cx} (X:Known c) (F:pJ c) {N:Nat→AV} {D:Nat→List (AV×AV)} (H:eJ N D) (hN :∀k,uV 0 (N k)=ac) (hD :∀k,uD 0 (D k)=ac) {om:Om} {ov:Ov} {m N0:Nat}
 (hom :∀μ:Nat→List Value,nk {c with N:=N,D:=D,μ:=μ} om) (hov :∀μ:Nat→List Value,(∀q,(μ q).length≤1000)→Fa {c with N:=N,D:=D,μ:=μ} N0 ov)
 {C:Ctr} (hf:C.form=ac) (hr:C.runs om ov m=ac) {B:Nat→List AV} (hB :∀k,uL 0 (B k)=ac) (hBl :∀k,(B k).length≤999) {S S':St}
 (at_ :∀p∈C.P,S.get p.1=aa (dw N D B p.2)) (hnx:C.nx≤S.nx) (e :∀j,S'.get j=match j5 j C.U with|some o=>aa (dw N D B o)|none=>S.get j) (hn:S'.nx=S.nx):
 JFc c (N0+m) (bS N D C.f) (dE N D C.args) S (bS N D C.v) S':=by
 unfold Ctr.form at hf;have f6:=aR hf;have hf:=aL hf;have f5:=aR hf;have hf:=aL hf;have f4:=aR hf;have hf:=aL hf;have f3:=aR hf;have hf:=aL hf;have f1:=aL hf;have f2:=aR hf;have nd:=qk f4;have f5:=ai.mp f5;have f6:=ai.mp f6;have q5 :∀p∈C.P,p.1<C.nx∧uO C.nx p.2=ac∧pY p.1 p.2=ac∧uO C.nx (C.end_ p)=ac∧∀k∈qP (C.end_ p),k∈C.segs:=fun p hp=>by
  refine aK (fun h h5=>?_) (eS (f5 p hp));have h4:=aR h;have h:=aL h;have h3:=aR h;have h:=aL h;have h1:=aL h;have h2:=aR h;exact ⟨aG.mp h1,h2,h3,h4,fun k hk=>gx (ai.mp h5 k hk)⟩
 have Pget :∀j ob,(gp C.nx C.P).get j=aa ob↔(j,ob)∈C.P:=fun j ob=>by
  rw [fk];exact ⟨hY,Hx nd⟩
 let S0:St:=⟨wo (dw N D B) (gp C.nx C.P).t,C.nx⟩
 have S0get :∀j,S0.get j=((gp C.nx C.P).get j).map (dw N D B):=fun j=>pX;have seg :∀k∈C.segs,gT S0 k=B k:=fun k hk=>
  cg (br.mp hk) fun p hp hk=>R1 ((S0get p.1).trans (congrArg (oE (dw N D B)) ((Pget p.1 p.2).mpr hp))) (q5 p hp).2.2.1 hk hBl
 have inSeg :∀p∈C.P,∀k∈qP p.2,k∈C.segs:=fun p hp k hk=>br.mpr ⟨p,hp,hk⟩;have X0:SameS N D (gT S0) (gp C.nx C.P) S0:=by
  refine ⟨fun j=>?_,ea.symm⟩;rw [S0get];cases q:(gp C.nx C.P).get j with
  |none=>rfl
  |some ob=>
   have:=(Pget j ob).mp q;show aa _=aa _;rw [mu fun k hk=>(seg k (inSeg _ this k hk)).symm]
 have Pin :∀j ob,S0.get j=aa ob→∃o,(j,o)∈C.P∧ob=dw N D B o:=fun j ob q=>by
  rw [S0get] at q;cases z:(gp C.nx C.P).get j with
  |none=>rw [z] at q;exact no q
  |some o=>rw [z] at q;exact ⟨o,(Pget j o).mp z,(ao q).symm⟩
 have SU:Yh S0.get S0.nx S.get S.nx:=⟨hnx,fun j ob q=>by
  apply sZ (Pin j ob q);intro o ho;exact ⟨at_ _ ho,(q5 _ ho).1,Ch hN hD hB o (q5 _ ho).2.1⟩⟩
 intro A g s x xs R I rx rxs;have I2:=I.part F SU;have hμ :∀q,(qd (g.part S0.nx) s.heap S0 q).length≤1000:=fun q=>GF I2 q;have Xd:Known {c with N:=N,D:=D,μ:=qd (g.part S0.nx) s.heap S0}:=Known.kin (c:=c) ⟨rfl,rfl,rfl,rfl,rfl,rfl⟩ X hμ;refine (xz Xd.pk (hom _) (hov _ hμ) m C.f C.args (gp C.nx C.P) _ hr).2.on fun v P' J hr'=>?_;have hv:=mA (aL hr');have hu:=ai.mp (aR hr')
 let S1:St:=⟨wo (dw N D (gT S0)) P'.t,P'.nx⟩
 have S1get :∀j,S1.get j=(P'.get j).map (dw N D (gT S0)):=fun j=>pX;rw [hv] at J;refine JFc.frame1 (P:=S0) (P':=S1) F SU I rx rxs (oM hN hD _ f1) (Ci hN hD _ f2) (oM hN hD _ f3) (fun I2 rx2 rxs2=>JFc.holes H X0 ⟨S1get,rfl⟩ (fun j ob q=>(q5 _ ((Pget j ob).mp q)).2.2.1) J R I2 rx2 rxs2) (fun j ob q1 q2=>?_) ?_ hn
 ·cases z:S0.get j with
  |none=>exact absurd z q1
  |some ob0=>
   refine cg (Pin j ob0 z) fun o ho a=>?_;rw [S1get,nW (hu _ ho)] at q2;have q2:=ao q2;rw [← q2,mu fun k hk=>seg k ((q5 _ ho).2.2.2.2 k hk)];exact Ch hN hD hB _ (q5 _ ho).2.2.2.1
 ·funext j
  rw [e];cases z:S0.get j with
  |none=>
   rw [qo z];cases y:j5 j C.U with
   |none=>rfl
   |some o=>
    have:=gx (f6 _ (hY y));refine cg (bp.mp this) fun p hp e1=>?_;have:S0.get p.1=aa (dw N D B p.2):=by rw [S0get,(Pget p.1 p.2).mpr hp];rfl
    rw [e1,z] at this;cases this
  |some ob0=>
   refine cg (Pin j ob0 z) fun o ho a=>?_;rw [ul z,S1get,nW (hu _ ho)];show _=aa (dw N D (gT S0) (C.end_ (j,o)));rw [mu fun k hk=>seg k ((q5 _ ho).2.2.2.2 k hk)];unfold Ctr.end_;dsimp only;cases y:j5 j C.U with
   |some o'=>rfl
   |none=>exact at_ _ ho
section
theorem FRs.sees (L:Sees g g') (h:FRs cx g l es):FRs cx g' l es:=by
 induction h with
 |nil=>exact .nil
 |cons a b c d _ ih=>exact .cons a b c (d.sees L) ih
theorem OR.sees {j:Nat} {ob:AO} (L:Sees g g') (hd:g'.δ j=g.δ j) (x:OR cx g h j ob):OR cx g' h j ob:=by
 cases x with
 |list r e v rs=>exact .list (L.ρ _ _ r) e v (VRs.sees L rs)
 |dict r e xd hd' ko dr=>exact .dict (L.ρ _ _ r) e xd hd' ko (DRs.sees L dr)
 |inst r d e f fr nd=>exact .inst (L.ρ _ _ r) (hd.trans d) e f (FRs.sees L fr) nd
noncomputable def Gh.wide (g g':Gh) (P:Sto) (nx:Nat):Gh:=⟨g'.ρ,fun j=>match P j with|some _=>g'.δ j|none=>if j<nx then g.δ j else g'.δ j,g'.fz⟩
noncomputable def qX (P P' σ:Sto) (nx:Nat):Sto:=fun j=>match P j with|some _=>P' j|none=>if j<nx then σ j else P' j
variable {cx:Cx} {g g':Gh} {σ P P':Sto} {nx nx':Nat} {h h':Heap}
theorem Evo.wide (I:Inv cx g σ nx h) (X :∀j ob,P j=aa ob→σ j=aa ob) (x:Evo cx g P nx h g' P' nx' h'):Evo cx g σ nx h (g.wide g' P nx) (qX P P' σ nx) nx' h':=by
 have ownO :∀a,Own g P a→Own g σ a:=fun a ⟨j,ob,e,w,o⟩ =>⟨j,ob,X j ob e,w,o⟩
 have L:g.le (g.wide g' P nx):=by
  refine ⟨x.le.ρ,fun j a e=>?_,x.le.fz⟩;show (match P j with|some _=>g'.δ j|none=>if j<nx then g.δ j else g'.δ j)=aa a
  cases P j with
  |some _=>exact x.le.δ j a e
  |none=>
   dsimp only
   split
   ·exact e
   ·exact x.le.δ j a e
 have kind :∀j ob,qX P P' σ nx j=aa ob→(P' j=aa ob∧(g.wide g' P nx).δ j=g'.δ j)∨(P j=aj∧j<nx∧σ j=aa ob∧(g.wide g' P nx).δ j=g.δ j):=fun j ob e=>by
  unfold qX at e;cases hp:P j with
  |some o0=>
   rw [hp] at e;refine .inl ⟨e,?_⟩;show (match P j with|some _=>g'.δ j|none=>if j<nx then g.δ j else g'.δ j)=_
   exact au hp▸rfl
  |none=>
   replace e:=hp▸e;dsimp only at e
   split at e
   ·rename_i hj;refine .inr ⟨rfl,hj,e,?_⟩;show (match P j with|some _=>g'.δ j|none=>if j<nx then g.δ j else g'.δ j)=_
    erw[hp];exact if_pos hj
   ·rename_i hj;refine .inl ⟨e,?_⟩;show (match P j with|some _=>g'.δ j|none=>if j<nx then g.δ j else g'.δ j)=_
    erw[hp];exact if_neg hj
 have ownA :∀j ob a,(g.wide g' P nx).δ j=g'.δ j→(cH (g.wide g' P nx) j ob a↔cH g' j ob a):=fun j ob a e=>by
  unfold cH;erw[e];exact Iff.rfl
 have ownB :∀j ob a,σ j=aa ob→cH (g.wide g' P nx) j ob a→cH g j ob a:=fun j ob a e o=>(I.obj j ob e).own L o;have notOc :∀j ob a,P j=aj→σ j=aa ob→cH g j ob a→¬ Oc g P a:=fun j ob a hp e o ⟨k,ob',e',o'⟩ =>by
  have:=I.sep j ob k ob' a e (X k ob' e') o o';subst this;replace e':=hp▸e';cases e'
 have there :∀j ob a,σ j=aa ob→cH g j ob a→h.get? a≠aj:=fun j ob a e o z=>by
  refine ak ((I.obj j ob e).there o) fun oo q=>?_;replace z:=q▸z;exact yx z
 have Sw:Sees g' (g.wide g' P nx):=⟨fun _ _ e=>e,fun _ _ e=>e⟩
 have keepB :∀j ob,P j=aj→σ j=aa ob→∀a,cH g j ob a→∀o,h.get? a=aa o→h'.get? a=aa o:=fun j ob hp e a o oo q=>x.keep a oo q fun w=>notOc j ob a hp e o w.oc;refine ⟨L,⟨I.g0.trans L,x.inv.base,x.inv.fz,fun j ob e=>?_,fun j ob k ob' a e e' o o'=>?_,fun j ob a b e r d=>?_,fun a w=>?_,fun j hj=>?_⟩,fun a o e w=>x.keep a o e fun w'=>w (ownO a w'),fun a w=>?_,fun a w=>?_,fun a w=>?_,fun j e=>?_,x.ext,x.nx⟩
 ·rcases kind j ob e with ⟨e1,d1⟩|⟨e0,hj,e1,d1⟩
  ·exact (x.inv.obj j ob e1).sees Sw d1
  ·exact ((I.obj j ob e1).keep (keepB j ob e0 e1)).mono L
 ·have cross :∀j ob k ob' a,(P' j=aa ob∧(g.wide g' P nx).δ j=g'.δ j)→(P k=aj∧k<nx∧σ k=aa ob'∧(g.wide g' P nx).δ k=g.δ k)→cH (g.wide g' P nx) j ob a→cH (g.wide g' P nx) k ob' a→False:=fun j ob k ob' a ⟨e1,d1⟩ ⟨f0,_,f1,_⟩ o o'=>by
   have o':=ownB k ob' a f1 o';rcases x.fresh a ⟨j,ob,e1,(ownA j ob a d1).mp o⟩ with z|z
   ·exact notOc k ob' a f0 f1 o' z
   ·exact there k ob' a f1 o' z
  rcases kind j ob e with A|B<;>rcases kind k ob' e' with A'|B'
  ·exact x.inv.sep j ob k ob' a A.1 A'.1 ((ownA j ob a A.2).mp o) ((ownA k ob' a A'.2).mp o')
  ·exact (cross j ob k ob' a A B' o o').elim
  ·exact (cross k ob' j ob a A' B o' o).elim
  ·exact I.sep j ob k ob' a B.2.2.1 B'.2.2.1 (ownB j ob a B.2.2.1 o) (ownB k ob' a B'.2.2.1 o')
 ·rcases kind j ob e with ⟨e1,d1⟩|⟨e0,hj,e1,d1⟩
  ·exact x.inv.two j ob a b e1 r (d1▸d)
  ·refine ak ((I.obj j ob e1).place) fun a0 r0=>?_;have r1:=L.ρ _ _ r0;replace r1:=r▸r1;have r1:=ao r1;subst r1;exact I.two j ob a b e1 r0 (d1▸d)
 ·refine pT w fun j ob e o=>?_;rcases kind j ob e with ⟨e1,d1⟩|⟨e0,hj,e1,d1⟩
  ·exact x.inv.off a ⟨j,ob,e1,(ownA j ob a d1).mp o⟩
  ·have o:=ownB j ob a e1 o;have q:=I.off a ⟨j,ob,e1,o⟩;refine ⟨q.1,bj fun z=>?_⟩;rcases x.fzf a z with z|z|z
   ·exact z q.2
   ·exact there j ob a e1 o z
   ·exact notOc j ob a e0 e1 o z.oc
 ·have t:=x.inv.top j hj;have hn:¬ j<nx:=by have:=x.nx;omega
  refine ⟨t.1,?_⟩;show (match P j with|some _=>g'.δ j|none=>if j<nx then g.δ j else g'.δ j)=aj
  cases P j with
  |some _=>exact t.2
  |none=>dsimp only;erw[if_neg hn];exact t.2
 ·refine pT w fun j ob e o=>?_;rcases kind j ob e with ⟨e1,d1⟩|⟨e0,hj,e1,d1⟩
  ·rcases x.fresh a ⟨j,ob,e1,(ownA j ob a d1).mp o⟩ with ⟨k,ob',q,r⟩|z
   ·exact .inl ⟨k,ob',X k ob' q,r⟩
   ·exact .inr z
  ·exact .inl ⟨j,ob,e1,ownB j ob a e1 o⟩
 ·refine rJ w fun j ob e w o=>?_;rcases kind j ob e with ⟨e1,d1⟩|⟨e0,hj,e1,d1⟩
  ·exact (x.wr a ⟨j,ob,e1,w,(ownA j ob a d1).mp o⟩).imp (ownO a) id
  ·exact .inl ⟨j,ob,e1,w,ownB j ob a e1 o⟩
 ·exact (x.fzf a w).imp id fun z=>z.imp id (ownO a)
 ·cases q:qX P P' σ nx j with
  |none=>exact absurd q e
  |some ob=>
   rcases kind j ob q with ⟨e1,d1⟩|⟨e0,hj,e1,d1⟩
   ·rcases x.ids j (by erw[e1];exact fun z=>nomatch z) with z|z
    ·cases y:P j with
     |none=>exact absurd y z
     |some o=>exact .inl (by erw[X j o y];exact fun z=>nomatch z)
    ·exact .inr z
   ·exact .inl (by erw[e1];exact fun z=>nomatch z)
theorem JFc.wide {P P' S S':St} (hn:P.nx=S.nx) (X :∀j ob,P.get j=aa ob→S.get j=aa ob) (J:JFc cx n f args P v P') (e:S'.get=qX P.get P'.get S.get S.nx) (hn':S'.nx=P'.nx):JFc cx n f args S v S':=fun A g s x xs R I rx rxs=>by
 have I':Inv cx g P.get P.nx s.heap:=by erw[hn];exact I.fewer X (aY _)
 refine dp (J A g s x xs R I' rx rxs) fun r s' hr=>hr.imp fun g' w a r=>?_;refine ⟨g.wide g' P.get S.nx,⟨a.same,?_⟩,VR.sees (show Sees g' (g.wide g' P.get S.nx) from ⟨fun b b e=>e,fun b b e=>e⟩) r⟩;erw[e,hn'];have ev:=a.evo;replace ev:=hn▸ev;exact Evo.wide I X ev
end
noncomputable def lf (ob:AO):Bool:=match ob with|.list _ .none _ .none=>ac|.list ..=>ae|_=>ac
noncomputable def B0:Nat→List AV:=fun a=>[]
section
variable {c d:Cx} {g:Gh} {h:Heap} {j:Nat}
theorem OR.fillP (k:Kin c d) (H:eJ d.N d.D) {ob:AO} (p:lf ob=ac) (x:OR c g h j (dw d.N d.D B0 ob)):OR d g h j ob:=by
 cases ob with
 |dict ro d' l=>
  cases x with
  |dict r e xd hd ko dr=>
   have ko':=iS iB ko;exact .dict r e xd hd ko' (DRs.fill k H l (KHf.of ko') dr)
 |inst cc fs=>
  cases x with
  |inst r d' e f fr nd=>exact .inst r d' e f (FRs.fill k H fr) (by rw [ly] at nd;exact nd)
 |list ro ii l post=>
  cases ii with
  |some _=>exact ff p
  |none=>
   cases post with
   |some _=>exact ff p
   |none=>
    have x':OR c g h j (.list ro .none (gu B0 aj++dE d.N d.D l++gu B0 aj) .none):=x;refine x'.vw fun a vs m mid r ho hv rs=>?_;exact .list (mid:=mid) r ho (by rw [hv];simp [fo]) (VRs.fill k H l (by simpa [gu] using rs))
theorem OR.unfillP (k:Kin c d) (H:eJ d.N d.D) {ob:AO} (p:lf ob=ac) (x:OR d g h j ob):OR c g h j (dw d.N d.D B0 ob):=by
 cases x with
 |list r e v rs=>
  rename_i p' l q vs m mid;cases p' with
  |some _=>exact ff p
  |none=>
   cases q with
   |some _=>exact ff p
   |none=>exact .list (mid:=mid) r e (by rw [v];simp [fo]) (by simpa [gu] using VRs.unfill k H _ rs)
 |dict r e xd hd ko dr=>exact .dict r e xd hd (iS iB.symm ko) (DRs.unfill k H _ (KHf.of ko) dr)
 |inst r d' e f fr nd=>exact .inst r d' e f (FRs.unfill k H fr) (by rw [ly];exact nd)
theorem Inv.digU (k:Kin c d) (H:eJ d.N d.D) (I:Inv d g P.get P.nx h) (X:SameS d.N d.D B0 P S) (pl :∀j ob,P.get j=aa ob→lf ob=ac):Inv c g S.get S.nx h:=by
 refine ⟨(uw k)▸I.g0,fun b o e=>I.base b o (k.h₀.symm▸e),I.fz,fun j o e=>?_,fun j ob i ob' a e e' o o'=>?_,fun j ob a b e=>?_,fun a w=>?_,fun j hj=>I.top j (by refine X.nx▸?_;exact hj)⟩
 ·refine sZ (X.of e) fun ob e'=>?_;exact OR.unfillP k H (pl j ob e') (I.obj j ob e')
 ·refine cg (X.of e) fun b1 e1 q101=>?_;subst q101;refine cg (X.of e') fun b2 e2 q201=>?_;subst q201;exact I.sep j b1 i b2 a e1 e2 (dO.mp o) (dO.mp o')
 ·apply sZ (X.of e);intro b1 e1;exact I.two j b1 a b e1
 ·have:=I.off a (X.oc.mp w);exact ⟨k.h₀▸this.1,this.2⟩
theorem Inv.digF (k:Kin c d) (H:eJ d.N d.D) (I:Inv c g S.get S.nx h) (X:SameS d.N d.D B0 P S) (pl :∀j ob,P.get j=aa ob→lf ob=ac):Inv d g P.get P.nx h:=by
 refine ⟨(uw k)▸I.g0,fun b o e=>I.base b o (k.h₀▸e),I.fz,fun j ob e=>OR.fillP k H (pl j ob e) (I.obj j _ (X.to e)),fun j ob i ob' a e e' o o'=>I.sep j _ i _ a (X.to e) (X.to e') (dO.mpr o) (dO.mpr o'),fun j ob a b e=>I.two j _ a b (X.to e),fun a w=>?_,fun j hj=>I.top j (by erw[X.nx];exact hj)⟩;have:=I.off a (X.oc.mpr w);exact ⟨k.h₀▸this.1,this.2⟩
theorem JFc.dig (k:Kin c d) (H:eJ d.N d.D) (X:SameS d.N d.D B0 P S) (X':SameS d.N d.D B0 P' S') (pl :∀j ob,P.get j=aa ob→lf ob=ac) (pl' :∀j ob,P'.get j=aa ob→lf ob=ac)
 (J:JFc c n (bS d.N d.D f) (dE d.N d.D args) S (bS d.N d.D v) S'):JFc d n f args P v P':=fun A g s x xs R I rx rxs=>by
 have hm:d.mo=c.mo:=by unfold Cx.mo;rw [k.prog,k.w]
 rw [hm];refine dp (J A g s x xs R (I.digU k H X pl) (VR.unfill k H f rx) (VRs.unfill k H args rxs)) fun r s' hr=>hr.imp fun g' w a r=>?_;refine ⟨g',⟨a.same,?_⟩,VR.fill k H v r⟩;have x:=a.evo;refine ⟨x.le,x.inv.digF k H X' pl',fun a o e w=>x.keep a o e fun z=>w (X.own.mp z),fun a w=>(x.fresh a (X'.oc.mpr w)).imp X.oc.mp id,fun a w=>(x.wr a (X'.own.mpr w)).imp X.own.mp id,fun a w=>(x.fzf a w).imp id fun z=>z.imp id X.own.mp,fun j e=>?_,x.ext,by rw [← X.nx,← X'.nx];exact x.nx⟩;have e':S'.get j≠aj:=fun z=>e (by
  rw [X'.get] at z;cases p:P'.get j with
  |none=>rfl
  |some ob=>rw [p] at z;exact nomatch z)
 rcases x.ids j e' with q|q
 ·refine .inl fun z=>q ?_;rw [X.get,z];rfl
 ·exact .inr (by rw [← X.nx];exact q)
end
noncomputable def XA (f:AV) (j:Nat):Bool:=match f with|.fn k=>ay k j|_=>ae
def Dh (C:Ctr) (j:Nat) (args:List AV) (S:St):Bool:=XA C.f j&&Ph C.args args&&bX C.nx S.nx&&C.P.all fun p=>Qd (S.get p.1) p.2
def zp (j:Nat) (args:List AV) (S:St) (l:List Ctr):Option (AV×St):=aP aj (fun C a ih=>be ih (aa (C.v,S)) (Dh C j args S)) l
def WQ (js:List Nat) (Cs:List Ctr):Ov:=fun j=>match cJ j js with|true=>aa fun args S k=>o2 (zp j args S Cs) k|false=>aj
theorem zo (h:zp j args S l=aa (v,S')):∃C∈l,Dh C j args S=ac∧v=C.v∧S'=S:=by
 induction l with
 |nil=>exact no h
 |cons C l ih=>
  exact zS (c:=Dh C j args S) h (fun d h=>(ih h).elim fun D q=>⟨D,.tail _ q.1,q.2⟩) fun q h=>Fk h fun a b=>⟨C,.head _,q,a.symm,b.symm⟩
theorem Sy (F:pJ cx) (hk :∀j∈js,j8 cx.K (.ref (fa j))=ac)
 (hC :∀C∈Cs,C.form=ac∧C.U=[]∧JFc cx N0 C.f C.args (gp C.nx C.P) C.v (gp C.nx C.P)):Fa cx N0 (WQ js Cs):=fun j g hg=>by
 unfold WQ at hg
 split at hg
 ·rename_i hj;apply gF hg;refine ⟨hk j (gx hj),fun args S k e=>gP e fun v S' h e=>⟨v,S',?_,e⟩⟩;apply VE (zo h);intro C hCm hf q103;subst q103;refine B6 (hC C hCm) fun fm hU J=>?_;unfold Dh at hf;have f4:=aR hf;have hf:=aL hf;have f3:=aR hf;have hf:=aL hf;have f1:=aL hf;have f2:=aR hf;have f2:=yb f2;have f3:=az f3;have f4:=ai.mp f4;have f1':C.f=.fn j:=by
   unfold XA at f1
   split at f1
   ·rename_i k e;replace e:=(am f1)▸e;exact e
   ·first|exact no f1|exact ff f1|cases f1
  unfold Ctr.form at fm;have m6:=aR fm;have fm:=aL fm;have m5:=aR fm;have fm:=aL fm;have m4:=aR fm;have fm:=aL fm;have m3:=aR fm;have fm:=aL fm;have m1:=aL fm;have m2:=aR fm;have m5:=ai.mp m5;have nd:=qk m4;have at_ :∀i ob,(gp C.nx C.P).get i=aa ob→S'.get i=aa ob∧i<C.nx∧uO C.nx ob=ac:=fun i ob e=>by
   replace e:=fk▸e;have hm:=hY e;refine aK (fun q _=>?_) (eS (m5 _ hm));have q:=aL q;have q:=aL q;have q1:=aL q;have q2:=aR q;exact ⟨nW (f4 _ hm),aG.mp q1,q2⟩
  have:=JFc.frame (S:=S') (S':=S') F (P:=gp C.nx C.P) (P':=gp C.nx C.P) ⟨by erw[ea];exact f3,fun i ob e=>by erw[ea];exact at_ i ob e⟩ J (by erw[ea];exact m1) (by erw[ea];exact m2) (by erw[ea];exact m3)
   (fun i ob _ e=>by erw[ea];exact (at_ i ob e).2.2) (by
    funext i
    cases q:(gp C.nx C.P).get i with
    |none=>exact au (qo q)▸rfl
    |some ob=>erw[ul q,q];exact (at_ i ob q).1) rfl
  replace this:=f2▸f1'▸this;exact this
 ·exact no hg
end
section
noncomputable def w0:List (Nat×AO):=[(13,.inst 4 [(152,.loc 14),(153,.loc 15),(39,.loc 16),(154,.loc 17)]),
 (14,.dict ae 0 [(.str 12,.loc 25),(.str 10,.loc 40),(.str 8,.loc 55),(.str 7,.loc 90),(.str 9,.loc 123),(.str 11,.loc 156)]),
 (15,.dict ae 0 [(.str 12,.loc 20),(.str 10,.loc 35),(.str 8,.loc 50),(.str 7,.loc 85),(.str 9,.loc 118),(.str 11,.loc 151)]),
 (16,.dict ae 0 [(.str 12,.loc 34),(.str 10,.loc 49),(.str 8,.loc 84),(.str 7,.loc 117),(.str 9,.loc 150),(.str 11,.loc 165)]),
 (17,.dict ae 3 [(.tup [.str 12,.str 10],.loc 178),(.tup [.str 10,.str 12],.loc 187),(.tup [.str 10,.str 8],.loc 228),(.tup [.str 8,.str 10],.loc 237),(.tup [.str 8,.str 7],.loc 290),(.tup [.str 7,.str 8],.loc 299),(.tup [.str 8,.str 9],.loc 352),(.tup [.str 9,.str 8],.loc 361),(.tup [.str 9,.str 11],.loc 426),(.tup [.str 11,.str 9],.loc 435)]),
 (20,.dict ae 0 [(.str 62,.int 1),(.str 98,.int 300),(.str 63,.int 11)]),
 (25,.inst 3 [(80,.loc 26),(57,.loc 27),(61,.loc 28),(122,.loc 29),(123,.loc 30),(124,.loc 31),(134,.loc 32),(140,.loc 33)]),
 (26,.dict ae 0 [(.str 62,.int 1),(.str 98,.int 300),(.str 63,.int 11),(.str 52,.int 0),(.str 100,.int 0)]),
 (27,.dict ae 9 []),
 (28,.dict ae 1 [(.int 1,.loc 173)]),
 (29,.dict ae 1 [(.int 1,.loc 174)]),
 (30,.dict ae 9 []),
 (31,.dict ae 9 []),
 (32,.dict ae 9 []),
 (33,.dict ae 1 [(.int 1,.loc 177)]),
 (34,.dict ae 0 [(.str 10,.int 1)]),
 (35,.dict ae 0 [(.str 62,.int 2),(.str 98,.int 200),(.str 63,.int 12)]),
 (40,.inst 3 [(80,.loc 41),(57,.loc 42),(61,.loc 43),(122,.loc 44),(123,.loc 45),(124,.loc 46),(134,.loc 47),(140,.loc 48)]),
 (41,.dict ae 0 [(.str 62,.int 2),(.str 98,.int 200),(.str 63,.int 12),(.str 52,.int 0),(.str 100,.int 0)]),
 (42,.dict ae 9 []),
 (43,.dict ae 1 [(.int 1,.loc 182),(.int 2,.loc 223)]),
 (44,.dict ae 1 [(.int 1,.loc 183),(.int 2,.loc 224)]),
 (45,.dict ae 9 []),
 (46,.dict ae 9 []),
 (47,.dict ae 9 []),
 (48,.dict ae 1 [(.int 1,.loc 186),(.int 2,.loc 227)]),
 (49,.dict ae 0 [(.str 12,.int 1),(.str 8,.int 2)]),
 (50,.dict ae 0 [(.str 62,.int 3),(.str 98,.int 65001),(.str 63,.int 13)]),
 (55,.inst 5 [(80,.loc 56),(57,.loc 57),(61,.loc 58),(122,.loc 59),(123,.loc 60),(124,.loc 61),(134,.loc 62),(140,.loc 63),(198,.loc 64),(199,.loc 65)]),
 (56,.dict ae 0 [(.str 62,.int 3),(.str 98,.int 100),(.str 63,.int 13),(.str 52,.int 65001),(.str 100,.int 9)]),
 (57,.dict ae 9 []),
 (58,.dict ae 1 [(.int 1,.loc 232),(.int 2,.loc 285),(.int 3,.loc 347)]),
 (59,.dict ae 1 [(.int 1,.loc 233),(.int 2,.loc 286),(.int 3,.loc 348)]),
 (60,.dict ae 9 []),
 (61,.dict ae 1 [(.int 11,.int 3),(.int 12,.int 3),(.int 13,.int 3),(.int 14,.int 3),(.int 15,.int 3),(.int 16,.int 3)]),
 (62,.dict ae 9 []),
 (63,.dict ae 1 [(.int 1,.loc 236),(.int 2,.loc 289),(.int 3,.loc 351)]),
 (64,.dict ae 9 []),
 (65,.dict ae 9 []),
 (84,.dict ae 0 [(.str 10,.int 1),(.str 7,.int 2),(.str 9,.int 3)]),
 (85,.dict ae 0 [(.str 62,.int 4),(.str 98,.int 65001),(.str 63,.int 14)]),
 (90,.inst 3 [(80,.loc 91),(57,.loc 92),(61,.loc 93),(122,.loc 94),(123,.loc 95),(124,.loc 96),(134,.loc 97),(140,.loc 98)]),
 (91,.dict ae 0 [(.str 62,.int 4),(.str 98,.int 100),(.str 63,.int 14),(.str 52,.int 65001),(.str 100,.int 0)]),
 (92,.dict ae 9 []),
 (93,.dict ae 1 [(.int 1,.loc 294)]),
 (94,.dict ae 1 [(.int 1,.loc 295)]),
 (95,.dict ae 9 []),
 (96,.dict ae 1 [(.int 11,.int 3),(.int 12,.int 3),(.int 13,.int 3),(.int 14,.int 3),(.int 15,.int 3),(.int 16,.int 3)]),
 (97,.dict ae 9 []),
 (98,.dict ae 1 [(.int 1,.loc 298)]),
 (117,.dict ae 0 [(.str 8,.int 1)]),
 (118,.dict ae 0 [(.str 62,.int 5),(.str 98,.int 65002),(.str 63,.int 15)]),
 (123,.inst 3 [(80,.loc 124),(57,.loc 125),(61,.loc 126),(122,.loc 127),(123,.loc 128),(124,.loc 129),(134,.loc 130),(140,.loc 131)]),
 (124,.dict ae 0 [(.str 62,.int 5),(.str 98,.int 100),(.str 63,.int 15),(.str 52,.int 65002),(.str 100,.int 0)]),
 (125,.dict ae 9 []),
 (126,.dict ae 1 [(.int 1,.loc 356),(.int 2,.loc 421)]),
 (127,.dict ae 1 [(.int 1,.loc 357),(.int 2,.loc 422)]),
 (128,.dict ae 9 []),
 (129,.dict ae 1 [(.int 11,.int 3),(.int 12,.int 3),(.int 13,.int 3),(.int 14,.int 3),(.int 15,.int 3),(.int 16,.int 3)]),
 (130,.dict ae 9 []),
 (131,.dict ae 1 [(.int 1,.loc 360),(.int 2,.loc 425)]),
 (150,.dict ae 0 [(.str 8,.int 1),(.str 11,.int 2)]),
 (151,.dict ae 0 [(.str 62,.int 6),(.str 98,.int 400),(.str 63,.int 16)]),
 (156,.inst 3 [(80,.loc 157),(57,.loc 158),(61,.loc 159),(122,.loc 160),(123,.loc 161),(124,.loc 162),(134,.loc 163),(140,.loc 164)]),
 (157,.dict ae 0 [(.str 62,.int 6),(.str 98,.int 400),(.str 63,.int 16),(.str 52,.int 0),(.str 100,.int 0)]),
 (158,.dict ae 9 []),
 (159,.dict ae 1 [(.int 1,.loc 430)]),
 (160,.dict ae 1 [(.int 1,.loc 431)]),
 (161,.dict ae 9 []),
 (162,.dict ae 9 []),
 (163,.dict ae 9 []),
 (164,.dict ae 1 [(.int 1,.loc 434)]),
 (165,.dict ae 0 [(.str 9,.int 1)]),
 (173,.dict ae 0 [(.str 62,.int 2),(.str 98,.int 200),(.str 63,.int 12),(.str 18,.str 19)]),
 (174,.inst 0 [(18,.str 19),(26,.loc 175),(27,.loc 176)]),
 (175,.dict ae 9 []),
 (176,.dict ae 9 []),
 (177,.dict ae 9 []),
 (178,.list ae aj [] aj),
 (182,.dict ae 0 [(.str 62,.int 1),(.str 98,.int 300),(.str 63,.int 11),(.str 18,.str 19)]),
 (183,.inst 0 [(18,.str 19),(26,.loc 184),(27,.loc 185)]),
 (184,.dict ae 9 []),
 (185,.dict ae 9 []),
 (186,.dict ae 9 []),
 (187,.list ae aj [] aj),
 (223,.dict ae 0 [(.str 62,.int 3),(.str 98,.int 65001),(.str 63,.int 13),(.str 18,.str 19)]),
 (224,.inst 0 [(18,.str 19),(26,.loc 225),(27,.loc 226)]),
 (225,.dict ae 9 []),
 (226,.dict ae 9 []),
 (227,.dict ae 9 []),
 (228,.list ae aj [] aj),
 (232,.dict ae 0 [(.str 62,.int 2),(.str 98,.int 200),(.str 63,.int 12),(.str 18,.str 19)]),
 (233,.inst 0 [(18,.str 19),(26,.loc 234),(27,.loc 235)]),
 (234,.dict ae 9 []),
 (235,.dict ae 9 []),
 (236,.dict ae 9 []),
 (237,.list ae aj [] aj),
 (285,.dict ae 0 [(.str 62,.int 4),(.str 98,.int 65001),(.str 63,.int 14),(.str 18,.str 97)]),
 (286,.inst 0 [(18,.str 97),(26,.loc 287),(27,.loc 288)]),
 (287,.dict ae 9 []),
 (288,.dict ae 9 []),
 (289,.dict ae 9 []),
 (290,.list ae aj [] aj),
 (294,.dict ae 0 [(.str 62,.int 3),(.str 98,.int 65001),(.str 63,.int 13),(.str 18,.str 96)]),
 (295,.inst 0 [(18,.str 96),(26,.loc 296),(27,.loc 297)]),
 (296,.dict ae 9 []),
 (297,.dict ae 9 []),
 (298,.dict ae 9 []),
 (299,.list ae aj [] aj),
 (347,.dict ae 0 [(.str 62,.int 5),(.str 98,.int 65002),(.str 63,.int 15),(.str 18,.str 105)]),
 (348,.inst 0 [(18,.str 105),(26,.loc 349),(27,.loc 350)]),
 (349,.dict ae 9 []),
 (350,.dict ae 9 []),
 (351,.dict ae 9 []),
 (352,.list ae aj [] aj),
 (356,.dict ae 0 [(.str 62,.int 3),(.str 98,.int 65001),(.str 63,.int 13),(.str 18,.str 105)]),
 (357,.inst 0 [(18,.str 105),(26,.loc 358),(27,.loc 359)]),
 (358,.dict ae 9 []),
 (359,.dict ae 9 []),
 (360,.dict ae 9 []),
 (361,.list ae aj [] aj),
 (421,.dict ae 0 [(.str 62,.int 6),(.str 98,.int 400),(.str 63,.int 16),(.str 18,.str 19)]),
 (422,.inst 0 [(18,.str 19),(26,.loc 423),(27,.loc 424)]),
 (423,.dict ae 9 []),
 (424,.dict ae 9 []),
 (425,.dict ae 9 []),
 (426,.list ae aj [] aj),
 (430,.dict ae 0 [(.str 62,.int 5),(.str 98,.int 65002),(.str 63,.int 15),(.str 18,.str 19)]),
 (431,.inst 0 [(18,.str 19),(26,.loc 432),(27,.loc 433)]),
 (432,.dict ae 9 []),
 (433,.dict ae 9 []),
 (434,.dict ae 9 []),
 (435,.list ae aj [] aj)]
noncomputable def Z_ (af:Nat):AO:=match af with|0=>.dict ae 9 []|_=>.dict ae 1 [(.int 3,.none)]
noncomputable def OZ (af:Nat):AV:=match af with|1=>.tup [.str 175,.int 4294967041]|2=>.tup [.str 177,.int 4294967041]|3=>.tup [.str 178]|_=>.tup [.str 186]
def w65 (af:Nat):AO:=match af with|0=>.dict ae 9 []|d=>.dict ae 1 [(.int 3,.tup [.tup [.tup [.str 223,.tup [OZ d]]],.tup [.str 185]])]
noncomputable def kU:AV:=.tup [.int 335544320,.int 8]
noncomputable def gS (n:Nat):Nat:=match n with|0=>25|1=>40|2=>55|3=>90|4=>123|_=>156
noncomputable def nam (n:Nat):AV:=match n with|0=>.str 12|1=>.str 10|2=>.str 8|3=>.str 7|4=>.str 9|_=>.str 11
noncomputable def K3 (n:Nat):List Nat:=match n with|0=>[173]|1=>[182,223]|2=>[232,285,347]|3=>[294]|4=>[356,421]|_=>[430]
def ids (n:Nat):List Nat:=(match n with|2=>[0,1,2,3,4,5,6,7,8,9,10]|_=>[0,1,2,3,4,5,6,7,8]).map (gS n+·)++(K3 n).flatMap fun p=>[p,p+1,p+2,p+3,p+4]
def base (af:Nat) (j:Nat):AO:=match j with
 |64=>Z_ af
 |65=>w65 af
 |_=>(match j5 j w0 with|some o=>o|none=>.dict ae 9 [])
def part (af:Nat) (l:List Nat) (ch:List (Nat×AO)):List (Nat×AO):=l.map fun j=>(j,match j5 j ch with|some o=>o|none=>base af j)
def eC (v:AV):AO:=.dict ae 2 [(kU,v)]
noncomputable def je:AO:=.dict ae 9 []
noncomputable def U9 (n:Nat):Nat:=match n with|0=>34|1=>49|2=>84|3=>117|4=>150|_=>165
noncomputable def que (n:Nat):List Nat:=match n with|0=>[178]|1=>[187,228]|2=>[237,290,352]|3=>[299]|4=>[361,426]|_=>[435]
def Cj (k o:Nat):AO:=match o with|0=>je|1=>eC (.opd k)|2=>je|3=>eC (.opd k)|_=>eC (.opd (10+k))
noncomputable def OV (k o:Nat):AV:=match o with|0=>.none|1=>.none|_=>.opd (10+k)
def Oe (k o:Nat):AO:=match o with|0=>je|1=>je|_=>eC (.opd (10+k))
def Hh (k o:Nat):List AV:=match o with|1=>[.tup [.tup [kU],.fd 9 [],.tup []]]|2=>[.tup [.tup [],.opd (10+k),.tup [kU]]]|3=>[.tup [.tup [],.opd (10+k),.tup [kU]]]|_=>[]
noncomputable def Ll {α β:Type} (f:Nat→α→β→Nat×AO):Nat→List α→List β→List (Nat×AO)
 |k,a::l,b::m=>f k a b::Ll f (k+1) l m
 |_,_,_=>[]
def LW (n:Nat):List Nat:=[13,14,16,17,U9 n]++que n++[gS n,gS n+1,gS n+3,gS n+7,gS n+8]++(match n with|2=>[65]|_=>[])++K3 n++(K3 n).map (·+4)
def Uy (ch:Bool):AO:=match ch with|true=>eC (.opa 0)|false=>je
def dzO (n:Nat) (dz:Bool):List (Nat×AO):=match n with
 |2=>(match dz with|true=>[(64,Z_ 1),(65,.dict ae 1 [(.int 3,.opa 5)])]|false=>[])
 |_=>[]
def yP (n:Nat) (dz ch:Bool) (os:List Nat):Ctr:=
 let outs:=Ll (fun k p o=>(p+4,Cj k o)) 1 (K3 n) os
 let qs:=(que n).map fun q=>(q,AO.list ae (aa q) [] .none)
 let U:=Ll (fun k p o=>(p+4,Oe k o)) 1 (K3 n) os++Ll (fun k q o=>(q,AO.list ae (aa q) (Hh k o) .none)) 1 (que n) os
 ⟨.fn 66,[.loc 13,nam n],492,part 0 (LW n) ((gS n+7,Uy ch)::outs++qs++dzO n dz),.int (aw ((os.filter fun o=>o==1||o==2||o==3).length)),U⟩
def x1 (n:Nat):List Nat:=[gS n,gS n+1,gS n+3,gS n+7]++K3 n++(match n with|2=>[65]|_=>[])
def pu (n:Nat) (dz ch:Bool) (k o:Nat):Ctr:=⟨.fn 56,[.loc (gS n),.int (aw k),kU],492,part 0 (x1 n) ((gS n+7,Uy ch)::dzO n dz),OV k o,[]⟩
def wV (n:Nat) (dz ch:Bool):Nat→List Nat→List Ctr
 |k,o::os=>pu n dz ch k o::wV n dz ch (k+1) os
 |_,[]=>[]
noncomputable def omT:Om:=⟨fun k i=>decide (i=aw k),ay,fun i=>match aF i 10 with|true=>.opd (10+i)|false=>.opd i,fun i=>bX 10 i⟩
def hJ (n:Nat) (dz ch:Bool) (os:List Nat):Bool:=(yP n dz ch os).form&&(yP n dz ch os).runs omT (WQ [56] (wV n dz ch 1 os)) 12
noncomputable def outs (h:Nat):Nat→List (List Nat)
 |0=>[[]]
 |n+1=>(bz h).flatMap fun o=>(outs h n).map (o::·)
def x4 (n:Nat):Nat:=(K3 n).length
noncomputable def bn (T N:Nat):Option Nat:=match N with
 |0=>(match T with|0=>aj|_=>aa 1)
 |1=>(match T with|0=>aa 1|1=>aj|_=>aa 2)
 |2=>(match T with|0=>aa 1|1=>aa 1|2=>aj|3=>aa 2|_=>aa 3)
 |3=>(match T with|3=>aj|_=>aa 1)
 |4=>(match T with|4=>aj|5=>aa 2|_=>aa 1)
 |_=>(match T with|5=>aj|_=>aa 1)
noncomputable def nb (N k:Nat):Nat:=match N with
 |0=>1
 |1=>(match k with|1=>0|_=>2)
 |2=>(match k with|1=>1|2=>3|_=>4)
 |3=>2
 |4=>(match k with|1=>2|_=>5)
 |_=>4
noncomputable def knd (N k:Nat):Nat:=match N with
 |2=>(match k with|1=>0|2=>2|_=>1)
 |3=>2
 |4=>(match k with|1=>1|_=>0)
 |_=>0
noncomputable def jc (l:List Int):AV:=.tup [.int 2,.tup (l.map AV.int)]
noncomputable def zK (i:Int):AV:=.tup [.int 3,.tup [.int i]]
def VL (T N:Nat):List AV×Int×Bool:=match T,N with
 |0,0=>([],11,ae)|0,1=>([jc [300]],11,ae)|0,2=>([jc [200,300]],12,ae)|0,3=>([jc [200,300]],12,ac)|0,4=>([zK 65001,jc [200,300]],12,ac)|0,_=>([jc [100,200,300]],15,ae)
 |1,0=>([jc [200]],12,ae)|1,1=>([],12,ae)|1,2=>([jc [200]],12,ae)|1,3=>([jc [200]],12,ac)|1,4=>([zK 65001,jc [200]],12,ac)|1,_=>([jc [100,200]],15,ae)
 |2,0=>([jc [200,100]],12,ae)|2,1=>([jc [100]],13,ae)|2,2=>([],13,ae)|2,3=>([],13,ac)|2,4=>([zK 65001],13,ac)|2,_=>([jc [100]],15,ae)
 |3,0=>([jc [200,100]],12,ae)|3,1=>([jc [100]],13,ae)|3,2=>([],14,ac)|3,3=>([],14,ae)|3,4=>([zK 65001],14,ac)|3,_=>([jc [100]],15,ae)
 |4,0=>([jc [200,100]],12,ae)|4,1=>([jc [100]],13,ae)|4,2=>([zK 65002],15,ac)|4,3=>([zK 65002],15,ac)|4,4=>([],15,ae)|4,_=>([jc [100]],15,ae)
 |_,0=>([jc [200,100,400]],12,ae)|_,1=>([jc [100,400]],13,ae)|_,2=>([zK 65002,jc [400]],16,ac)|_,3=>([zK 65002,jc [400]],16,ac)|_,4=>([jc [400]],16,ae)|_,_=>([],16,ae)
noncomputable def XX (m:List Int):List (AV×AV):=match m with|[]=>[]|_=>[(.str 114,.tup (m.map AV.int))]
noncomputable def MB (b:Bool):List (AV×AV):=match b with|true=>[(.str 20,.int 100)]|false=>[]
noncomputable def F9 (T N af:Nat):Bool:=match N with|4=>aF T 4&&aF 0 af|_=>ae
def nM (T N af:Nat) (m:List Int):List (AV×AV):=
 let w:=VL T N
 [(.str 82,.int 0),(.str 70,.tup w.1),(.str 110,.int w.2.1)]++(match F9 T N af with|true=>MB w.2.2++XX m|false=>XX m++MB w.2.2)
def dH (T N af:Nat) (m:List Int):AV:=.fd 0 (nM T N af m)
noncomputable def Uu (N:Nat):Int:=match N with|2=>3|3=>3|4=>3|_=>0
def i8 (T N af:Nat) (m:List Int):AV:=match bn T N with
 |none=>.tup [kU,dH T N af m,.none,.int 0,.int 0]
 |some k=>.tup [kU,dH T N af m,.int (aw k),.int (Uu N),.ge 0]
noncomputable def EG (x:Int) (m:List Int):Bool:=m.any fun y=>decide (y=x)
def Dy (kind:Nat) (m:List Int):Bool:=match kind with
 |0=>EG 4294967041 m||EG 4294967042 m||EG 4294967043 m
 |1=>EG 4294967042 m||EG 4294967043 m
 |_=>EG 4294967042 m
noncomputable def Pp (m:List Int):List Int:=match m with
 |[]=>[4294967041]
 |x::l=>if x<4294967041 then x::Pp l else if x=4294967041 then x::l else 4294967041::x::l
def BR (af:Nat) (m:List Int):Option (List Int):=match af with
 |0=>aa m
 |1=>aa (Pp m)
 |2=>aa (m.filter fun x=>!decide (x=4294967041))
 |3=>aa []
 |_=>aj
def x0 (T af N k:Nat) (m:List Int):Option (List Int):=
 if bn T N=aa k then aj
 else if Dy (knd N k) m then aj
 else if N=2∧k=3 then BR af m else aa m
def Uo (T af N k:Nat) (m:List Int):AV:=match x0 T af N k m with|some s=>dH T (nb N k) af s|none=>.none
def Jp (T af N k:Nat) (m:List Int):Ctr:=⟨.fn 56,[.loc (gS N),.int (aw k),kU],492,part af (x1 N) [(gS N+7,eC (i8 T N af m))],Uo T af N k m,[]⟩
noncomputable def masks:List (List Int):=[[],[4294967041],[4294967042],[4294967041,4294967042],[4294967043],[4294967041,4294967043],[4294967042,4294967043],[4294967041,4294967042,4294967043],
 [7],[7,4294967041],[7,4294967042],[7,4294967041,4294967042],[7,4294967043],[7,4294967041,4294967043],[7,4294967042,4294967043],[7,4294967041,4294967042,4294967043]]
noncomputable def om0:Om:=⟨fun k i=>decide (i=aw k),ay,fun i=>.opd i,fun a=>ac⟩
def hfO (o:AO):Bool:=match o with|.list _ aj l aj=>TV l|.list ..=>ae|.dict _ _ l=>QB l|.inst _ fs=>fs.all fun p=>nZ p.2
def Ctr.flat (C:Ctr):Bool:=nZ C.f&&nZ C.v&&TV C.args&&C.P.all fun p=>hfO p.2
def Ctr.good (C:Ctr):Bool:=C.form&&C.flat&&C.runs om0 noOv 12
def ZH (T af N k:Nat):Bool:=masks.all fun m=>(Jp T af N k m).good
noncomputable def QS (c:Bool):List (AV×AV):=match c with|true=>[(.str 114,.opa 1)]|false=>[]
def dk (T N af:Nat) (c:Bool):AV:=
 let w:=VL T N
 .fd 0 ([(.str 82,.int 0),(.str 70,.tup w.1),(.str 110,.int w.2.1)]++(match F9 T N af with|true=>MB w.2.2++QS c|false=>QS c++MB w.2.2))
def sI (n:Nat):List Nat:=(match n with|2=>[0,1,2,3,4,5,6,7,9]|_=>[0,1,2,3,4,5,6,7]).map (gS n+·)++(K3 n).flatMap fun p=>[p,p+1,p+2,p+3]
def U8 (N k:Nat):Nat:=match (K3 N)[k-1]? with|some p=>p+2|none=>0
def QV (v:AV):AO:=eC (.tup [v,.ge 0])
def cho (k N:Nat) (v:AV):AO:=eC (.tup [kU,v,.int (aw k),.int (Uu N),.ge 0])
noncomputable def WR (v:AV):Om:=⟨fun k i=>decide (i=aw k),ay,fun i=>(match i with|0=>v|i=>.opd i),fun i=>(match i with|0=>ae|_=>ac)⟩
def h_ (T N k af:Nat) (c old:Bool):Ctr:=
 let A:=dk T N af c
 ⟨.fn 49,[.loc (gS N),.int (aw k),.tup [],A,.tup [kU],.ge 0],492,part af (sI N) (match old with|true=>[(U8 N k,QV (.opd 0)),(gS N+7,eC (.opa 2))]|false=>[]),.none,[(U8 N k,QV A),(gS N+7,cho k N A)]⟩
def QD (T N k af:Nat):Bool:=[(ac,ac),(ac,ae),(ae,ac),(ae,ae)].all fun p=>(h_ T N k af p.1 p.2).form&&(h_ T N k af p.1 p.2).runs (WR (dk T N af p.1)) noOv 12
def ia (N k af:Nat):Ctr:=
 ⟨.fn 49,[.loc (gS N),.int (aw k),.tup [kU],.fd 9 [],.tup [],.ge 0],492,part af (sI N) [(U8 N k,QV (.opd 0)),(gS N+7,eC (.opa 2))],.none,[(U8 N k,je),(gS N+7,je)]⟩
def QF (N k af:Nat):Bool:=(ia N k af).form&&(ia N k af).runs om0 noOv 12
def hO (T af:Nat) (c old:Bool):Ctr:=
 let A:=dk T T af c
 ⟨.fn 46,[.loc (gS T),kU,A],492,part af (sI T) (match old with|true=>[(gS T+5,eC (.opa 2)),(gS T+7,eC (.opa 3))]|false=>[]),.none,[(gS T+5,eC A),(gS T+7,eC (.tup [kU,A,.none,.int 0,.int 0]))]⟩
def Qb (T af:Nat):Bool:=[(ac,ac),(ac,ae),(ae,ac),(ae,ae)].all fun p=>(hO T af p.1 p.2).form&&(hO T af p.1 p.2).runs om0 noOv 12
def g8 (T af:Nat):Ctr:=
 ⟨.fn 47,[.loc (gS T),kU],492,part af (sI T) [(gS T+5,eC (.opa 2)),(gS T+7,eC (.opa 3))],.none,[(gS T+5,je),(gS T+7,je)]⟩
def PV (T af:Nat):Bool:=(g8 T af).form&&(g8 T af).runs om0 noOv 12
def Eh (N k af:Nat):Ctr:=⟨.fn 56,[.loc (gS N),.int (aw k),kU],492,part af (x1 N) [(gS N+7,je)],.none,[]⟩
def Zh (N k af:Nat):Bool:=(Eh N k af).good
noncomputable def ww (P N:Nat):Nat:=match P with
 |1=>(match N with|0=>1|_=>2)
 |2=>(match N with|1=>1|3=>2|_=>3)
 |4=>(match N with|2=>1|_=>2)
 |_=>1
noncomputable def cK (T af:Nat) (m:List Int):Nat→Nat→Option (List Int)
 |0,_=>aj
 |f+1,N=>(match bn T N with
  |none=>aa m
  |some k=>(match cK T af m f (nb N k) with|some s=>x0 T af (nb N k) (ww (nb N k) N) s|none=>aj))
def YT (T af:Nat) (m:List Int):Nat:=([0,1,2,3,4,5].filter fun N=>(cK T af m 6 N).isSome).length
def Dw (T:Nat) (m:List Int):Bool:=aF T 4&&(match cK T 0 m 6 2 with|some s=>!Dy 1 s|none=>ae)
section
section
variable {α β:Type} {x:Option α} {f:α→Option β} {y r:Option β} {a:α}
theorem eE (h:x=aa a) (q:f a=r):ob x f=r:=(congrArg (ob · f) h).trans q
theorem jR (h:x=aa a) (q:f a=r):oe x f y=r:=(congrArg (oe · f y) h).trans q
theorem cW (h:x=aj) (q:y=r):oe x f y=r:=(congrArg (oe · f y) h).trans q
theorem QG (h:x=aj) (q:y=r):gn x y=r:=(congrArg (gn · y) h).trans q
theorem jU (h:b=ac) (q:y=r):gd b y=r:=(congrArg (gd · y) h).trans q
end
theorem T4 (h:S.get j=aa (.dict ae d l)):jh (.loc j) S=(.fd d l,S.del j):=
 congrArg (fun x=>aM (motive:=fun a=>AV×St) (AV.loc j,S) (T5 (.loc j) j S) x) h
section
variable {S:St} {j c nm:Nat}
theorem jV (h:S.get j=aa (.inst c fs)) (hc:aF c j4=ac) (hx:im nm fs=aa x) (hr:uo x=ae):xX (.loc j) nm S=aa (x,S):=by
 refine (congrArg (fun o=>ob o fun o=>MO o fun c fs=>gd (aF c j4) (ob (im nm fs) fun x=>gd (!uo x) (aa (x,S)))) h).trans ?_;show gd (aF c j4) (ob (im nm fs) fun x=>gd (!uo x) (aa (x,S)))=_;erw[hc,hx];show gd (!uo x) (aa (x,S))=_;erw[hr];rfl
theorem xK (h:S.get j=aa (.dict ro d l)):c8 S (.loc j)=aj:=congrArg (ob · MQ) h
theorem py (h:S.get j=aa (.dict ro d l)):ew S (.loc j)=aa (d,l):=congrArg (ob · G8) h
theorem jg (h:S.get j=aa (.list ro aj l aj)):c8 S (.loc j)=aa l:=congrArg (ob · MQ) h
theorem mv (h:S.get j=aa (.dict ro d l)) (hk:pe d i=ac) (hf:bD i l=aa v):pF (.loc j) i S=aa v:=
 cW rfl (cW (xK h) (eE (py h) (jU hk hf)))
end
theorem bg {α:Type} {x:Option α} {f:α→Bool} {a:α} (h:x=aa a) (q:f a=ac):o1 x f=ac:=by erw[h];exact q
theorem bH {α β:Type} {x:Option (α×β)} {f:α→β→Bool} {a:α} {b:β} (h:x=aa (a,b)) (q:f a b=ac):o2 x f=ac:=by rw [h];exact q
theorem mz (h:b=ac) (q:x=ac):bt b x y=ac:=by erw[h];exact q
theorem kM (h:b=ae) (q:y=ac):bt b x y=ac:=by erw[h];exact q
section
variable {rc:Rc} {fr:Fr} {S:St} {k:KV} {kn kb:KF} {kr:KR} {nm i j c f:Nat} {v:AV} {e e2 o:CE} {es:List CE} {kt:Bool→St→Bool} {kl:List AV→St→Bool} {t:CT} {s s2 a b:CX} {ss:List CX}
theorem bk (q:k v S=ac):aO v rc fr S k=ac:=q
theorem aW (h:bc fr i=aa (aa v)) (q:k v S=ac):aD i rc fr S k=ac:=bg h (bg rfl q)
theorem l_ (q:e rc fr S (fun v S=>o2 (xX v nm S) k)=ac):gz e nm rc fr S k=ac:=q
theorem ee (q:e rc fr S (fun o S=>e2 rc fr S fun i S=>o1 (pF o i S) fun v=>k v S)=ac):cX e e2 rc fr S k=ac:=q
theorem bB (q:kl [] S=ac):dU [] rc fr S kl=ac:=q
theorem aT (q:e rc fr S (fun v S=>dU es rc fr S fun vs S=>kl (v::vs) S)=ac):dU (e::es) rc fr S kl=ac:=q
theorem dt (q:e rc fr S (fun fv S=>dU es rc fr S fun vs S=>YU rc fv vs S k)=ac):bw e es rc fr S k=ac:=q
theorem eN (q:o rc fr S (wz rc nm es fr k)=ac):cT o nm es rc fr S k=ac:=q
theorem lH (q:e rc fr S (fun x S=>e2 rc fr S fun y S=>o2 (Kz op x y S) k)=ac):gI op e e2 rc fr S k=ac:=q
theorem B7 (q:dU es rc fr S (fun vs S=>o2 (qi vs S) k)=ac):vW es rc fr S k=ac:=q
theorem s5 (q:dU es rc fr S (fun vs S=>o2 (gU vs S) k)=ac):n9 es rc fr S k=ac:=q
theorem FD {op:Nat} (q:d7 op e e2 rc fr S (fun r S=>k (.bool r) S)=ac):zy op e e2 rc fr S k=ac:=q
theorem PU (q:t rc fr S (fun r S=>bt r (e rc fr S k) (e2 rc fr S k))=ac):By t e e2 rc fr S k=ac:=q
theorem gL (q:e rc fr S (fun x S=>e2 rc fr S fun y S=>o1 (qx rc.om op x y S) fun r=>kt r S)=ac):d7 op e e2 rc fr S kt=ac:=q
theorem Gm (q:e rc fr S (fun v S=>o1 (EH v) fun r=>kt r S)=ac):lP e rc fr S kt=ac:=q
theorem Gn (q:t rc fr S (fun r S=>kt (!r) S)=ac):vL t rc fr S kt=ac:=q
theorem oN (q:t rc fr S (fun r S=>bt r (eO ts rc fr S kt) (kt ae S))=ac):eO (t::ts) rc fr S kt=ac:=q
theorem Aw (q:kt ac S=ac):eO [] rc fr S kt=ac:=q
theorem V_ (q:t rc fr S (fun r S=>bt r (kt ac S) (Go ts rc fr S kt))=ac):Go (t::ts) rc fr S kt=ac:=q
theorem V9 (q:kt ae S=ac):Go [] rc fr S kt=ac:=q
theorem hX {fs:List (Nat×AV)} (h:S.get j=aa (.inst c fs)) (hc:aF c j4=ac) (hn:t_ nm fs=ac) (hf:jS nm (rc.ms c)=aa f) (q:dU es rc fr S (fun vs S=>rc.cl (.fn f) (.loc j::vs) S k)=ac):wz rc nm es fr k (.loc j) S=ac:=
 bg h (mz hc (mz hn (bg hf q)))
theorem Hr {ro:Bool} {d:Nat} {l:List (AV×AV)} (h:S.get j=aa (.dict ro d l)) (q:dU es rc fr S (fun vs S=>o2 (wC j nm vs S) k)=ac):wz rc nm es fr k (.loc j) S=ac:=bg h q
theorem Hq {ro:Bool} {p r:Option Nat} {l:List AV} (h:S.get j=aa (.list ro p l r)) (q:dU es rc fr S (fun vs S=>o2 (ub j nm vs S) k)=ac):wz rc nm es fr k (.loc j) S=ac:=bg h q
theorem pC {vs:List AV} (q:o2 (E9 j vs S) k=ac):YU rc (.bi j) vs S k=ac:=q
theorem gN (q:s rc fr S kn kb kr=ac):bK [s] rc fr S kn kb kr=ac:=q
theorem oS (q:kn fr S=ac):bK [] rc fr S kn kb kr=ac:=q
theorem du (q:s rc fr S (fun fr S=>bK (s2::ss) rc fr S kn kb kr) kb kr=ac):bK (s::s2::ss) rc fr S kn kb kr=ac:=q
theorem jZ (q:e rc fr S (fun a S=>kn fr S)=ac):gv e rc fr S kn kb kr=ac:=q
theorem mi (q:e rc fr S (fun v S=>kn (dT fr i (aa v)) S)=ac):iX i e rc fr S kn kb kr=ac:=q
theorem AA (q:e rc fr S (fun v S=>o1 (eI l ae v fr) fun fr=>kn fr S)=ac):qR l e rc fr S kn kb kr=ac:=q
theorem GI (q:e2 rc fr S (fun v S=>o rc fr S fun ov S=>e rc fr S fun iv S=>o1 (w7 ov iv v S) fun S=>kn fr S)=ac):wq o e e2 rc fr S kn kb kr=ac:=q
theorem nz (q:e rc fr S (fun v S=>kr v fr S)=ac):jd e rc fr S kn kb kr=ac:=q
theorem tY (q:t rc fr S (fun r S=>bt r (a rc fr S kn kb kr) (b rc fr S kn kb kr))=ac):xA t a b rc fr S kn kb kr=ac:=q
theorem Wv (q:kb fr S=ac):GJ rc fr S kn kb kr=ac:=q
end
variable {om:Om} {ms:Nat→List (Nat×Nat)} {ov:Ov} {tab:TR CF} {m j:Nat} {args:List AV} {S:St} {k:KV}
theorem ZT (h:ov j=aa g) (q:g args S k=ac):nJ om ms ov tab (m+1) (.fn j) args S k=ac:=by
 show (match ov j with|some g=>g args S k|none=>o1 (tab.get j) fun F=>zQ F ⟨om,ms,nJ om ms ov tab m⟩ args S k)=ac
 erw[h];exact q
theorem v3 {F:CF} {np nv:Nat} {z:Bool} {body:CX} {fr:Fr} (h:ov j=aj) (ht:tab.get j=aa F) (e:F=⟨np,nv,z,body⟩) (hl:ay (eZ args) np=ac) (hf:dL (iz aa args) (d4 (rW nv np))=fr)
 (q:body ⟨om,ms,nJ om ms ov tab m⟩ fr S (fun fr S=>k .none S) (fun a a=>ae) (fun v fr S=>w5 z v S k)=ac):nJ om ms ov tab (m+1) (.fn j) args S k=ac:=by
 show (match ov j with|some g=>g args S k|none=>o1 (tab.get j) fun F=>zQ F ⟨om,ms,nJ om ms ov tab m⟩ args S k)=ac
 erw[h];subst e hf;exact bg ht (mz hl q)
end
end
section
open PySem PySem.W PyProof.Rows PySem.Calls
section
def k_:List (Nat×AO)→St→St
 |[],S=>S
 |p::l,S=>(k_ l S).put p.1 p.2
theorem jp (l:List (Nat×AO)):(k_ l S).nx=S.nx:=by
 induction l with
 |nil=>rfl
 |cons p l ih=>exact (St.nx_put ..).trans ih
noncomputable def YA (x y:Option AO):Option AO:=match x with|some o=>aa o|none=>y
theorem k9 (l:List (Nat×AO)):(k_ l S).get j=YA (j5 j l) (S.get j):=by
 induction l with
 |nil=>rfl
 |cons p l ih=>
  show ((k_ l S).put p.1 p.2).get j=YA (be (motive:=fun a=>Option AO) (j5 j l) (aa p.2) (ay p.1 j)) (S.get j);erw[(St.get_put ..)];cases h:ay p.1 j with
  |true=>erw[am h];exact bo ..
  |false=>exact (bA _ _ fun e=>by replace h:=(cp ..)▸(e ..)▸h;exact ff h.symm).trans ih
noncomputable def j0 (f:Nat→AO→AO) (p:Nat×AO):Nat×AO:=(p.1,f p.1 p.2)
theorem Ba (l:List (Nat×AO)):j5 j (l.map (j0 f))=(j5 j l).map (f j):=by
 induction l with
 |nil=>rfl
 |cons p l ih=>
  show (be (motive:=fun a=>Option AO) (j5 j (l.map (j0 f))) (aa (f p.1 p.2)) (ay p.1 j))=(be (motive:=fun a=>Option AO) (j5 j l) (aa p.2) (ay p.1 j)).map (f j);cases h:ay p.1 j with
  |true=>rw [am h];rfl
  |false=>exact ih
structure WS where
 cho:Nat→AO
 ro:Nat→AO
 ou:Nat→AO
 qu:Nat→AO
def GZ (P k:Nat):Nat:=(match (K3 P)[k-1]? with|some p=>p|none=>0)+4
def fW (P k:Nat):Nat:=match (que P)[k-1]? with|some p=>p|none=>0
def nj (T:Nat) (W:WS) (N:Nat):List (Nat×AO):=(gS N+7,W.cho N)::match bn T N with
 |none=>[(gS N+5,W.ro N)]
 |some k=>[(U8 N k,W.ro N),(GZ (nb N k) (ww (nb N k) N),W.ou N),(fW (nb N k) (ww (nb N k) N),W.qu N),(GZ N k,je),(fW N k,.list ae aj [] aj)]
def gQ (T:Nat) (W:WS):List (Nat×AO):=[0,1,2,3,4,5].flatMap (nj T W)
def jK (T af:Nat) (W:WS) (j:Nat):AO:=match j5 j (gQ T W) with|some o=>o|none=>base af j
def bN:List Nat:=w0.map (·.1)
def At (T af:Nat) (W:WS) (S:St):Prop:=∀j,cJ j bN=ac→S.get j=aa (jK T af W j)
def fU (N:Nat→AV) (D:Nat→List (AV×AV)) (B:Nat→List AV) (C:Ctr):List (Nat×AO):=C.U.map (j0 fun a=>dw N D B)
def over (U:List (Nat×AO)) (j:Nat) (o:AO):AO:=match j5 j U with|some o'=>o'|none=>o
theorem wj (up:gQ T W'=(gQ T W).map (j0 (over U))) (ku:U.all (fun u=>(j5 u.1 (gQ T W)).isSome)=ac) (j:Nat):aa (jK T af W' j)=YA (j5 j U) (aa (jK T af W j)):=by
 unfold jK;erw[(up ..),(Ba ..)];cases h:j5 j (gQ T W) with
 |some o=>
  show aa (over U j o)=_;unfold over;cases j5 j U<;>rfl
 |none=>
  cases q:j5 j U with
  |none=>rfl
  |some o=>
   have:=ai.mp ku _ (hY q);replace this:=h▸this;exact ff this
def ic (S S':St):Prop:=∀j,cJ j bN=ae→S'.get j=S.get j
theorem jz (h:n<6):n=0∨n=1∨n=2∨n=3∨n=4∨n=5:=(by decide :∀n,n<6→n=0∨n=1∨n=2∨n=3∨n=4∨n=5) n h
def YG {α β:Type} (F:α→β) (l:List α):List β:=aP [] (fun a b ih=>F a::ih) l
def YE {α β:Type} (F:α→β) (l:List α):List β:=aP [] (fun a b ih=>F a::ih) l
theorem eL {α β:Type} {F G:α→β} {l:List α}:YG F l=YE G l→∀{a:α},a∈l→F a=G a:=by
 induction l with
 |nil=>exact fun c a h=>nomatch h
 |cons b l ih=>
  intro h a m;have h:F b::YG F l=G b::YE G l:=h;injection h with h1 h2
  cases m with
  |head=>exact h1
  |tail _ m=>exact ih h2 m
noncomputable def n6:List Nat:=[0,1,2,3,4,5]
theorem m6 (h:n<6):n∈n6:=bM.mpr h
theorem ZI:d∈[0,d-1+1]:=by cases d with|zero=>exact .head _|succ d=>exact .tail _ (.head _)
def p36:List (Nat×Nat):=n6.flatMap fun T=>n6.map fun N=>(T,N)
theorem SZ (hT:T<6) (hN:N<6):(T,N)∈p36:=br.mpr ⟨T,m6 hT,bp.mpr ⟨N,m6 hN,rfl⟩⟩
def p72 (d:Nat):List (Nat×Nat×Nat):=p36.flatMap fun p=>[0,d+1].map fun e=>(p.1,p.2,e)
theorem yA (hT:T<6) (hN:N<6):(T,N,af)∈p72 (af-1):=br.mpr ⟨_,SZ hT hN,bp.mpr ⟨af,ZI,rfl⟩⟩
def e30:List (Nat×Nat×Nat):=p36.flatMap fun p=>match bn p.1 p.2 with|some k=>[(p.1,p.2,k)]|none=>[]
theorem CQ (hT:T<6) (hN:N<6) (hk:bn T N=aa k):(T,N,k)∈e30:=br.mpr ⟨_,SZ hT hN,by dsimp only;erw[hk];exact .head _⟩
def e60 (d:Nat):List (Nat×Nat×Nat×Nat×Bool):=e30.flatMap fun p=>[0,d+1].flatMap fun e=>[(p.1,p.2.1,p.2.2,e,ac),(p.1,p.2.1,p.2.2,e,ae)]
theorem YC (hT:T<6) (hN:N<6) (hk:bn T N=aa k):(T,N,k,af,o)∈e60 (af-1):=br.mpr ⟨_,CQ hT hN hk,br.mpr ⟨af,ZI,by cases o;exact .tail _ (.head _);exact .head _⟩⟩
def t24 (d:Nat):List (Nat×Nat×Bool):=n6.flatMap fun T=>[0,d+1].flatMap fun e=>[(T,e,ac),(T,e,ae)]
theorem YD (hT:T<6):(T,af,o)∈t24 (af-1):=br.mpr ⟨T,m6 hT,br.mpr ⟨af,ZI,by cases o;exact .tail _ (.head _);exact .head _⟩⟩
theorem O9 {T:Nat} (hT:T<6) (W:WS):(gQ T W).all (fun p=>cJ p.1 bN)=ac:=(eL (F:=fun T=>(gQ T W).all fun p=>cJ p.1 bN) (G:=fun a=>ac) (by kernel_rfl) (m6 hT):)
theorem BP (hT:T<6) (ku:U.all (fun u=>(j5 u.1 (gQ T W)).isSome)=ac) (S:St):ic S (k_ U S):=fun j hj=>by
 erw[(k9 ..)];cases q:j5 j U with
 |none=>rfl
 |some o=>
  have h:=ai.mp ku _ (hY q);dsimp only at h;cases e:j5 j (gQ T W) with
  |none=>replace h:=e▸h;exact ff h
  |some o'=>
   have:=ai.mp (O9 hT W) _ (hY e);dsimp only at this;replace this:=hj▸this;exact ff this
theorem Ctr.at (X:Known c) (F:pJ c) (H:eJ N D) (hN :∀k,uV 0 (N k)=ac) (hD :∀k,uD 0 (D k)=ac)
 (hom :∀μ:Nat→List Value,nk {c with N:=N,D:=D,μ:=μ} om) (hov :∀μ:Nat→List Value,(∀q,(μ q).length≤1000)→Fa {c with N:=N,D:=D,μ:=μ} N0 ov)
 (hf:C.form=ac) (hr:C.runs om ov m=ac) (hB :∀k,uL 0 (B k)=ac) (hBl :∀k,(B k).length≤999) (hT:T<6)
 (fit:C.P.map (j0 fun b=>dw N D B)=C.P.map (j0 fun j b=>jK T af W j)) (sub:C.P.all (fun p=>cJ p.1 bN)=ac) (nx:C.nx=492)
 (up:gQ T W'=(gQ T W).map (j0 (over (fU N D B C)))) (ku:(fU N D B C).all (fun u=>(j5 u.1 (gQ T W)).isSome)=ac) (a:At T af W S) (hn:492≤S.nx):
 JFc c (N0+m) (bS N D C.f) (dE N D C.args) S (bS N D C.v) (k_ (fU N D B C) S)∧At T af W' (k_ (fU N D B C) S)∧ic S (k_ (fU N D B C) S):=by
 refine ⟨Ctr.ok X F H hN hD hom hov hf hr hB hBl (fun p hp=>?_) (nx▸hn) (fun j=>?_) (jp _),fun j hj=>?_,BP hT ku S⟩
 ·erw[a p.1 (ai.mp sub p hp)];have:=jH (f:=j0 fun b=>dw N D B) hp;exact congrArg aa (Prod.mk.inj (List.map_inj_left.mp fit p hp)).2.symm
 ·erw[(k9 ..)];unfold fU;erw[(Ba ..)];cases j5 j C.U<;>rfl
 ·erw[(k9 ..),(a j hj ..)];exact (wj up ku j).symm
end
section
theorem mr (v:AV):nZ v=ac→bS N D v=v:=
 AV.rec (motive_1:=fun v=>nZ v=ac→bS N D v=v) (motive_2:=fun l=>TV l=ac→dE N D l=l) (motive_3:=fun l=>QB l=ac→kG N D l=l) (motive_4:=fun p=>nZ p.2=ac→bS N D p.2=p.2)
  (fun c=>rfl) (fun c c=>rfl) (fun c c=>rfl) (fun c c=>rfl) (fun l ih h=>(jv l).trans (congrArg AV.tup (ih h))) (fun d l ih h=>(kF l).trans (congrArg (AV.fd d) (ih h)))
  (fun c c=>rfl) (fun c c=>rfl) (fun c c=>rfl) (fun c c=>rfl) (fun c c=>rfl) (fun c c=>rfl) (fun c c=>rfl) (fun c h=>ff h) (fun c h=>ff h)
  (fun c=>rfl) (fun v l a b h=>(congrArg (·::dE N D l) (a (aL h))).trans (congrArg (v::·) (b (aR h)))) (fun c=>rfl)
  (fun p l a b h=>(congrArg (fun x=>(p.1,x)::kG N D l) (a (aR (aL h)))).trans (congrArg (p::·) (b (aR h)))) (fun c c c b=>b) v
theorem zq (h:TV l=ac):dE N D l=l:=by
 have:=mr (N:=N) (D:=D) (.tup l) h;rw [jv] at this;injection this with e
theorem Jh (h:QB l=ac):kG N D l=l:=by
 have:=mr (N:=N) (D:=D) (.fd 0 l) h;rw [kF] at this;injection this with _ e
theorem Jg (l:List (Nat×AV)) (h:(l.all fun p=>nZ p.2)=ac):rh N D l=l:=by
 induction l with
 |nil=>rfl
 |cons p l ih=>
  have h:=eS (show (nZ p.2&&l.all fun p=>nZ p.2)=ac from h);exact (congrArg (fun x=>(p.1,x)::rh N D l) (mr p.2 h.1)).trans (congrArg (p::·) (ih h.2))
theorem Jf (o:AO) (h:hfO o=ac):dw N D B o=o:=by
 cases o with
 |list ro p l q=>
  cases p with
  |some _=>exact ff h
  |none=>
   cases q with
   |some _=>exact ff h
   |none=>exact congrArg (fun l=>AO.list ro aj l aj) ((cf _).trans (zq h))
 |dict ro d l=>exact congrArg (AO.dict ro d) (Jh h)
 |inst c fs=>exact congrArg (AO.inst c) (Jg fs h)
structure lK (c:Cx):Prop where
 X:Known c
 M:c.M=fun k=>[aw k]
 F:pJ c
theorem yZ (hM:c.M=fun k=>[aw k]) (h1:om.eq=ay) (h2:om.memb=fun k i=>decide (i=aw k)) (h3 :∀i nx,kI om ⟨.nil,nx⟩ (.fd 0 (c.D i)) (bS c.N c.D (om.dv i))=aa (om.eqd i)):nk c om:=by
 refine ⟨fun i j=>?_,fun k i=>?_,h3⟩
 ·erw[h1,hM];cases q:ay i j with
  |true=>erw[am q];exact (decide_eq_true rfl).symm
  |false=>
   refine (decide_eq_false fun e=>?_).symm;injection e with e
   have e:i=j:=vc e;replace q:=(cp ..)▸(e ..)▸q;exact ff q.symm
 ·erw[h2,hM];show decide (i=aw k)=([aw k].contains i)
  rw [Fx,List.contains_nil,pL];rfl
noncomputable def N0':Nat→AV:=fun a=>.none
noncomputable def D0':Nat→List (AV×AV):=fun a=>[]
noncomputable def vi:Nat→List AV:=fun a=>[]
theorem Ctr.plain (X:lK c) {C:Ctr} (h:C.good=ac) (hU:C.U=[]):JFc c 12 C.f C.args (gp C.nx C.P) C.v (gp C.nx C.P):=by
 have h3:=aR h;have h:=aL h;have h1:=aL h;have h2:=aR h;have f3:=ai.mp (aR h2);have h2:=aL h2;have nd:(C.P.map (·.1)).Nodup:=by unfold Ctr.form at h1;exact qk (aR (aL (aL h1)))
 have h2:=eS h2;have h4:=eS h2.1;have:=Ctr.ok (c:=c) X.X X.F (N:=N0') (D:=D0') ⟨fun a=>rfl,fun a=>rfl⟩ (fun a=>rfl) (fun a=>rfl) (om:=om0) (ov:=noOv) (N0:=0) (m:=12) (fun μ=>yZ (c:={c with N:=N0',D:=D0',μ:=μ}) X.M rfl rfl fun a a=>rfl) (fun a a j g e=>no e) h1 h3 (B:=vi) (fun a=>rfl) (fun a=>a7 _)
  (S:=gp C.nx C.P) (S':=gp C.nx C.P) (fun p hp=>by exact au fk▸au (Hx nd hp)▸au (Jf _ (f3 p hp))▸rfl) (iH ea.symm) (fun j=>by rw [hU];rfl) rfl
 replace this:=(mr _ h4.2)▸(zq h2.2)▸(mr _ h4.1)▸this;exact (dI 12)▸this
abbrev Mk:=Option (List Int)
def eU (m:Mk):Prop:=∀l,m=aa l→l∈masks
def tA (T C af:Nat) (m:Mk):AO:=match m with|none=>je|some l=>eC (dH T C af l)
def cA (T N af:Nat) (m:Mk):AO:=match m with|none=>je|some l=>eC (i8 T N af l)
noncomputable def oc (t d:Mk):Nat:=match t with
 |none=>(match d with|none=>0|some _=>2)
 |some a=>(match d with|none=>1|some b=>(match decide (a=b) with|true=>4|false=>3))
noncomputable def SD:List (AV×AV):=[(.str 0,.none)]
def tD (T C af:Nat) (t d:Mk):List (AV×AV):=match oc t d with|4=>[]|_=>(match t with|none=>[]|some l=>nM T C af l)
def dD (T C af:Nat) (d:Mk):List (AV×AV):=match d with|none=>SD|some l=>nM T C af l
def dF (T N af:Nat) (t d:Nat→Mk) (i:Nat):List (AV×AV):=match aF i 10 with|true=>tD T (nb N i) af (t i) (d i)|false=>dD T (nb N (i-10)) af (d (i-10))
def zE (af:Nat):AV:=.tup [.tup [.tup [.str 223,.tup [OZ af]]],.tup [.str 185]]
def nF (R:AV) (af:Nat) (i:Nat):AV:=match i with|0=>R|5=>zE af|_=>.none
noncomputable def YM (x:Option Bool) (b:Bool):Bool:=match x with|some y=>(match y with|true=>b|false=>!b)|none=>ae
theorem Bl (h:YM x b=ac):x=aa b:=by
 cases x with
 |none=>exact ff h
 |some y=>cases y<;>cases b<;>first|rfl|exact ff h
def eqR (om:Om) (S:St) (T N af:Nat):Bool:=masks.all fun a=>YM (kI om S (dH T N af a) (.fd 0 SD)) ae&&YM (kI om S (.fd 0 []) (dH T N af a)) ae&&masks.all fun b=>YM (kI om S (dH T N af a) (dH T N af b)) (decide (a=b))
theorem Uj (om:Om) (S:St) (T N af:Nat) (hT:T<6) (hN:N<6):eqR om S T N af=ac:=(eL (F:=fun p:Nat×Nat×Nat=>eqR om S p.1 p.2.1 p.2.2) (G:=fun a=>ac) (by kernel_rfl) (yA hT hN):)
end
section
noncomputable def oz {α:Type} (x:Option α):Bool:=match x with|some _=>ac|none=>ae
def kh (T N C:Nat):Option Nat:=match bn T C with
 |some k=>(match ay (nb C k) N with|true=>aa (ww N C)|false=>aj)
 |none=>aj
def oP (T N:Nat) (o:Nat→Nat) (k:Nat):Nat:=match bn T N with|some p=>(match ay p k with|true=>0|false=>o k)|none=>o k
def o4 (T N:Nat) (o:Nat→Nat):List Nat:=(bz (x4 N)).map fun k=>oP T N o (k+1)
def bP (T N:Nat) (B:Nat→List AV) (q:Nat):List AV:=match bn T N with|some p=>(match ay q (fW N p) with|true=>[]|false=>B q)|none=>B q
noncomputable def cw {α:Type} (N:Nat) (x:α) (f:Nat→α) (j:Nat):α:=match ay j N with|true=>x|false=>f j
def rR (T N:Nat) (f:Nat→AO) (g:Nat→AO) (C:Nat):AO:=match kh T N C with|some k=>f k|none=>g C
variable (T N af:Nat) (dz ch:Bool) (o:Nat→Nat) (R:AV) (D:Nat→List (AV×AV)) (B:Nat→List AV) (W:WS)
def vV (a:AO):AO:=dw (nF R af) D (bP T N B) a
def tw:WS:={W with cho:=cw N (vV T N af R D B (Uy ch)) W.cho,ou:=rR T N (fun k=>vV T N af R D B (Cj k (o k))) W.ou,qu:=rR T N (fun k=>vV T N af R D B (.list ae (aa (fW N k)) [] aj)) W.qu}
def Yv:WS:={W with cho:=cw N (vV T N af R D B (Uy ch)) W.cho,ou:=rR T N (fun k=>vV T N af R D B (Oe k (o k))) W.ou,qu:=rR T N (fun k=>vV T N af R D B (.list ae (aa (fW N k)) (Hh k (o k)) aj)) W.qu}
def tC:Ctr:=yP N (match N with|2=>aF 0 af|_=>dz) ch (o4 T N o)
variable {T N}
theorem Gg (hT:T<6) (hN:N<6):(tC T N af dz ch o).P.map (j0 fun a=>vV T N af R D B)=(tC T N af dz ch o).P.map (j0 fun j a=>jK T af (tw T N af ch o R D B W) j):=
 (eL (F:=fun p:Nat×Nat×Nat=>(tC p.1 p.2.1 p.2.2 dz ch o).P.map (j0 fun a=>vV p.1 p.2.1 p.2.2 R D B)) (G:=fun p=>(tC p.1 p.2.1 p.2.2 dz ch o).P.map (j0 fun j a=>jK p.1 p.2.2 (tw p.1 p.2.1 p.2.2 ch o R D B W) j)) (by kernel_rfl) (yA hT hN):)
theorem Gf (hT:T<6) (hN:N<6):(tC T N af dz ch o).P.all (fun p=>cJ p.1 bN)=ac:=
 (eL (F:=fun p:Nat×Nat×Nat=>(tC p.1 p.2.1 p.2.2 dz ch o).P.all fun p=>cJ p.1 bN) (G:=fun a=>ac) (by kernel_rfl) (yA hT hN):)
theorem LS (hT:T<6) (hN:N<6):gQ T (Yv T N af ch o R D B W)=(gQ T (tw T N af ch o R D B W)).map (j0 (over (fU (nF R af) D (bP T N B) (tC T N af dz ch o)))):=
 (eL (F:=fun p:Nat×Nat=>gQ p.1 (Yv p.1 p.2 af ch o R D B W)) (G:=fun p=>(gQ p.1 (tw p.1 p.2 af ch o R D B W)).map (j0 (over (fU (nF R af) D (bP p.1 p.2 B) (tC p.1 p.2 af dz ch o))))) (by kernel_rfl) (SZ hT hN):)
theorem LU (hT:T<6) (hN:N<6):(fU (nF R af) D (bP T N B) (tC T N af dz ch o)).all (fun u=>(j5 u.1 (gQ T (tw T N af ch o R D B W))).isSome)=ac:=
 (eL (F:=fun p:Nat×Nat=>(fU (nF R af) D (bP p.1 p.2 B) (tC p.1 p.2 af dz ch o)).all fun u=>(j5 u.1 (gQ p.1 (tw p.1 p.2 af ch o R D B W))).isSome) (G:=fun a=>ac) (by kernel_rfl) (SZ hT hN):)
end
section
theorem QL (hT:T<6) (hC:C<6) (om:Om) (S:St) (ha:a∈masks):kI om S (dH T C af a) (.fd 0 SD)=aa ae∧kI om S (.fd 0 []) (dH T C af a)=aa ae∧∀b∈masks,kI om S (dH T C af a) (dH T C af b)=aa (decide (a=b)):=by
 have h:=ai.mp (Uj om S T C af hT hC) a ha;exact ⟨Bl (aL (aL h)),Bl (aR (aL h)),fun b hb=>Bl (ai.mp (aR h) b hb)⟩
theorem W0 (hT:T<6) (hC:C<6) (om:Om) (S:St) (ht:eU t) (hd:eU d):kI om S (.fd 0 (tD T C af t d)) (.fd 0 (dD T C af d))=aa ae:=by
 cases t with
 |none=>
  cases d with
  |none=>rfl
  |some b=>exact (QL hT hC om S (hd b rfl)).2.1
 |some a=>
  cases d with
  |none=>exact (QL hT hC om S (ht a rfl)).1
  |some b=>
   cases e:decide (a=b) with
   |true=>
    have:tD T C af (aa a) (aa b)=[]:=by unfold tD oc;dsimp only;erw[e];rfl
    erw[this];exact (QL hT hC om S (hd b rfl)).2.1
   |false=>
    have:tD T C af (aa a) (aa b)=nM T C af a:=by unfold tD oc;dsimp only;erw[e];rfl
    erw[this];exact ((QL hT hC om S (ht a rfl)).2.2 b (hd b rfl)).trans (congrArg aa e)
theorem XM (hT:T<6) (hC:C<6) (om:Om) (S:St) (hd:eU d):kI om S (.fd 0 (dD T C af d)) (.fd 0 (dD T C af d))=aa ac:=by
 cases d with
 |none=>rfl
 |some b=>exact ((QL hT hC om S (hd b rfl)).2.2 b (hd b rfl)).trans (congrArg aa (decide_eq_true rfl))
theorem lJ:nb N k<6:=by unfold nb;split<;>first|decide|(split<;>decide)
theorem wW (k:Nat):dF T N af t d (10+k)=dD T (nb N k) af (d k):=by
 unfold dF;have:aF (10+k) 10=ae:=by
  cases h:aF (10+k) 10 with
  |false=>rfl
  |true=>exact absurd (aG.mp h) (by omega)
 exact au (this ..)▸au (Ai ..)▸rfl
theorem MK (X:lK c) (hT:T<6) (ht :∀k,eU (t k)) (hd :∀k,eU (d k)) (R:AV) (μ:Nat→List Value):nk {c with N:=nF R af,D:=dF T N af t d,μ:=μ} omT:=by
 refine yZ (c:={c with N:=nF R af,D:=dF T N af t d,μ:=μ}) (om:=omT) X.M rfl rfl fun i nx=>?_;show kI omT ⟨.nil,nx⟩ (.fd 0 (dF T N af t d i)) (bS (nF R af) (dF T N af t d) (match aF i 10 with|true=>.opd (10+i)|false=>.opd i))=aa (bX 10 i)
 cases h:aF i 10 with
 |true=>
  have hi:=aG.mp h;have:bX 10 i=ae:=by
   cases q:bX 10 i with
   |false=>rfl
   |true=>exact absurd (az q) (by omega)
  erw[this];show kI omT ⟨.nil,nx⟩ (.fd 0 (dF T N af t d i)) (.fd 0 (dF T N af t d (10+i)))=aa ae;erw[(wW ..)];have:dF T N af t d i=tD T (nb N i) af (t i) (d i):=by unfold dF;exact au h▸rfl
  erw[this];exact W0 hT lJ omT _ (ht i) (hd i)
 |false=>
  have hi:10≤i:=Nat.le_of_not_lt fun z=>by replace h:=(aG.mpr z)▸h;exact ff h.symm
  erw[fw hi];show kI omT ⟨.nil,nx⟩ (.fd 0 (dF T N af t d i)) (.fd 0 (dF T N af t d i))=aa ac;obtain ⟨k,rfl⟩:∃k,i=10+k:=⟨i-10,by omega⟩
  erw[(wW ..)];exact XM hT lJ omT _ (hd k)
noncomputable def dn (N af:Nat):Nat:=match N with|2=>af|4=>(match af with|0=>0|_+1=>1)|_=>0
noncomputable def x3 (N:Nat):List Nat:=match N with|2=>[0,1,2,3,4]|4=>[0,1]|_=>[0]
def eR (T N:Nat):Bool:=(x3 N).all fun af=>(bz (x4 N)).all fun k=>ZH T af N (k+1)&&Zh N (k+1) af
def DueRows:Prop:=∀T N,T<6→N<6→eR T N=ac
theorem Ur (hN:N<6) (hd:af<5):dn N af∈x3 N:=
 gx (ai.mp (ai.mp (by decide +kernel:(n6.all fun N=>(bz 5).all fun d=>cJ (dn N d) (x3 N))=ac) N (m6 hN)) af (bM.mpr hd))
theorem Jw (hN:N<6):x4 N≤3:=az (ai.mp (by decide +kernel:(n6.all fun N=>bX (x4 N) 3)=ac) N (m6 hN))
theorem Jo (m:List Int) (hT:T<6) (hN:N<6) (hk:k<x4 N):Jp T (dn N af) N (k+1) m=Jp T af N (k+1) m:=
 (eL (F:=fun p:(Nat×Nat×Nat)×Nat=>Jp p.1.1 (dn p.1.2.1 p.1.2.2) p.1.2.1 (p.2+1) m) (G:=fun p=>Jp p.1.1 p.1.2.2 p.1.2.1 (p.2+1) m) (l:=(p72 (af-1)).flatMap fun p=>(bz (x4 p.2.1)).map fun k=>(p,k)) (by kernel_rfl) (br.mpr ⟨_,yA hT hN,bp.mpr ⟨k,bM.mpr hk,rfl⟩⟩):)
theorem Hc (hN:N<6):Eh N k (dn N af)=Eh N k af:=
 (eL (F:=fun p:Nat×Nat×Nat=>Eh p.2.1 k (dn p.2.1 p.2.2)) (G:=fun p=>Eh p.2.1 k p.2.2) (by kernel_rfl) (yA hN hN):)
def dM (T af N k:Nat) (h:Mk):Mk:=match h with|none=>aj|some m=>x0 T af N k m
def aV (T C af:Nat) (d:Mk):AV:=match d with|none=>.none|some s=>dH T C af s
def ES (T N af:Nat) (h:Mk):List (Nat×AO):=part af (x1 N) [(gS N+7,cA T N af h)]
theorem XT (X:lK c) (rows:DueRows) (hT:T<6) (hN:N<6) (hk:k<x4 N) (hd:af<5) (hh:eU h):
 JFc c 12 (.fn 56) [.loc (gS N),.int (aw (k+1)),kU] (gp 492 (ES T N af h)) (aV T (nb N (k+1)) af (dM T af N (k+1) h)) (gp 492 (ES T N af h)):=by
 have r:=ai.mp (ai.mp (rows T N hT hN) _ (Ur hN hd)) k (bM.mpr hk);cases h with
 |none=>
  have r:(Eh N (k+1) (dn N af)).good=ac:=aR r;replace r:=(Hc hN)▸r;exact Ctr.plain X r rfl
 |some m=>
  have r:=ai.mp (aL r) m (hh m rfl);replace r:=(Jo m hT hN hk)▸r;have:=Ctr.plain X r rfl;have e:aV T (nb N (k+1)) af (dM T af N (k+1) (aa m))=Uo T af N (k+1) m:=by
   show aV T (nb N (k+1)) af (x0 T af N (k+1) m)=_;unfold Uo aV;cases x0 T af N (k+1) m<;>rfl
  erw[e];exact this
end
section
def rV (T N af:Nat) (h:Mk):AV:=match h with|none=>.none|some m=>i8 T N af m
def flB (T N af:Nat):Bool:=masks.all fun m=>nZ (dH T N af m)&&uV 0 (dH T N af m)&&(nZ (i8 T N af m)&&uV 0 (i8 T N af m))
theorem T_ (af:Nat) (hT:T<6) (hN:N<6):flB T N af=ac:=(eL (F:=fun p:Nat×Nat×Nat=>flB p.1 p.2.1 p.2.2) (G:=fun a=>ac) (by kernel_rfl) (yA hT hN):)
theorem zn (hT:T<6) (hN:N<6) (hm:m∈masks):(nZ (dH T N af m)=ac∧uV 0 (dH T N af m)=ac)∧nZ (i8 T N af m)=ac∧uV 0 (i8 T N af m)=ac:=by
 have h:=eS (ai.mp (T_ af hT hN) m hm);exact ⟨eS h.1,eS h.2⟩
theorem OY (af:Nat):nZ (zE af)=ac∧uV 0 (zE af)=ac:=by
 have :∀d,OZ af=d→nZ (zE af)=nZ (.tup [.tup [.tup [.str 223,.tup [d]]],.tup [.str 185]])∧uV 0 (zE af)=uV 0 (.tup [.tup [.tup [.str 223,.tup [d]]],.tup [.str 185]]):=fun d e=>e▸⟨rfl,rfl⟩
 unfold OZ at this
 split at this<;>exact ⟨(this _ rfl).1,(this _ rfl).2⟩
theorem Cy (hT:T<6) (hN:N<6) (hh:eU h):nZ (rV T N af h)=ac∧uV 0 (rV T N af h)=ac:=by
 cases h with
 |none=>exact ⟨rfl,rfl⟩
 |some m=>exact (zn hT hN (hh m rfl)).2
theorem Qi (af:Nat) (h:nZ R=ac∧uV 0 R=ac) (k:Nat):nZ (nF R af k)=ac∧uV 0 (nF R af k)=ac:=by
 unfold nF
 split
 ·exact h
 ·exact OY af
 ·exact ⟨rfl,rfl⟩
theorem QP (hT:T<6) (ht :∀k,eU (t k)) (hd :∀k,eU (d k)) (k:Nat):QB (dF T N af t d k)=ac∧uD 0 (dF T N af t d k)=ac:=by
 have at_ :∀{C:Nat} {m:Mk} {l:List Int},C<6→eU m→m=aa l→QB (nM T C af l)=ac∧uD 0 (nM T C af l)=ac:=fun hC hm e=>(zn (af:=af) hT hC (hm _ e)).1;unfold dF
 split
 ·unfold tD
  split
  ·exact ⟨rfl,rfl⟩
  ·cases e:t k with
   |none=>exact ⟨rfl,rfl⟩
   |some l=>exact at_ lJ (ht k) e
 ·unfold dD;cases e:d (k-10) with
  |none=>exact ⟨rfl,rfl⟩
  |some l=>exact at_ lJ (hd _) e
noncomputable def Bz (N af:Nat):Bool:=match N with|2=>aF 0 af|_=>ae
theorem Of (af k o:Nat) (h:Mk) (D:Nat→List (AV×AV)) (hN:N<6):ES T N af h=(pu N (Bz N af) (oz h) k o).P.map (j0 fun a=>dw (nF (rV T N af h) af) D B0):=by
 cases h with
 |none=>exact eL (F:=fun p:Nat×Nat×Nat=>ES T p.2.1 p.2.2 aj) (G:=fun p=>(pu p.2.1 (Bz p.2.1 p.2.2) ae k o).P.map (j0 fun a=>dw (nF .none p.2.2) D B0)) (by kernel_rfl) (yA hN hN)
 |some m=>exact eL (F:=fun p:Nat×Nat×Nat=>ES T p.2.1 p.2.2 (aa m)) (G:=fun p=>(pu p.2.1 (Bz p.2.1 p.2.2) ac k o).P.map (j0 fun a=>dw (nF (i8 T p.2.1 p.2.2 m) p.2.2) D B0)) (by kernel_rfl) (yA hN hN)
def ZG:Bool:=(bz 6).all fun N=>[ac,ae].all fun dz=>[ac,ae].all fun ch=>(bz 3).all fun k=>(bz 5).all fun o=>(pu N dz ch (k+1) o).form&&(pu N dz ch (k+1) o).P.all fun p=>lf p.2
theorem OW:ZG=ac:=by decide +kernel
theorem Qc (t d:Mk):oc t d<5:=by
 unfold oc
 split
 ·split<;>decide
 ·split
  ·decide
  ·split<;>decide
theorem zA (hN:N<6) (hk:k<x4 N) (t d:Mk):(pu N dz ch (k+1) (oc t d)).form=ac∧∀p∈(pu N dz ch (k+1) (oc t d)).P,lf p.2=ac:=by
 have h:=ai.mp OW N (bM.mpr hN);have h:=ai.mp h dz (by cases dz<;>simp);have h:=ai.mp h ch (by cases ch<;>simp);have h:=ai.mp h k (bM.mpr (aU hk (Jw hN)));have h:=eS (ai.mp h (oc t d) (bM.mpr (Qc t d)));exact ⟨h.1,ai.mp h.2⟩
theorem XS (X:lK c) (rows:DueRows) (hT:T<6) (hN:N<6) (hk:k<x4 N) (hdo:af<5) (hh:eU h) (ht :∀k,eU (t k)) (hd :∀k,eU (d k)) (e:d (k+1)=dM T af N (k+1) h) (μ:Nat→List Value):
 JFc {c with N:=nF (rV T N af h) af,D:=dF T N af t d,μ:=μ} 12 (.fn 56) [.loc (gS N),.int (aw (k+1)),kU] (gp 492 (pu N (Bz N af) (oz h) (k+1) (oc (t (k+1)) (d (k+1)))).P) (OV (k+1) (oc (t (k+1)) (d (k+1))))
  (gp 492 (pu N (Bz N af) (oz h) (k+1) (oc (t (k+1)) (d (k+1)))).P):=by
 have pl:=(zA (dz:=Bz N af) (ch:=oz h) hN hk (t (k+1)) (d (k+1))).2;have sm:SameS (nF (rV T N af h) af) (dF T N af t d) B0 (gp 492 (pu N (Bz N af) (oz h) (k+1) (oc (t (k+1)) (d (k+1)))).P) (gp 492 (ES T N af h)):=
  ⟨fun j=>by exact au (fk ..)▸au (fk ..)▸au (Of af (k+1) (oc (t (k+1)) (d (k+1))) h (dF T N af t d) hN ..)▸au (Ba ..)▸rfl,by rw [ea,ea]⟩
 have pls :∀j ob,(gp 492 (pu N (Bz N af) (oz h) (k+1) (oc (t (k+1)) (d (k+1)))).P).get j=aa ob→lf ob=ac:=fun j ob q=>by
  replace q:=fk▸q;exact pl _ (hY q)
 refine JFc.dig (c:=c) (d:={c with N:=nF (rV T N af h) af,D:=dF T N af t d,μ:=μ}) ⟨rfl,rfl,rfl,rfl,rfl,rfl⟩ ⟨fun k=>(Qi af (Cy hT hN hh) k).1,fun k=>(QP hT ht hd k).1⟩ sm sm pls pls ?_;have J:=XT X rows hT hN hk hdo hh;have ev:bS (nF (rV T N af h) af) (dF T N af t d) (OV (k+1) (oc (t (k+1)) (d (k+1))))=aV T (nb N (k+1)) af (dM T af N (k+1) h):=by
  refine e▸?_;have hi:=wW (T:=T) (N:=N) (af:=af) (t:=t) (d:=d) (k+1);cases q:d (k+1) with
  |none=>cases t (k+1)<;>rfl
  |some s=>
   replace hi:=q▸hi;have:bS (nF (rV T N af h) af) (dF T N af t d) (.opd (10+(k+1)))=dH T (nb N (k+1)) af s:=congrArg (AV.fd 0) hi;cases t (k+1) with
   |none=>exact this
   |some a=>
    unfold oc;dsimp only;cases decide (a=s)<;>exact this
 show JFc c 12 (bS _ _ (.fn 56)) (dE _ _ [.loc (gS N),.int (aw (k+1)),kU]) _ (bS (nF (rV T N af h) af) (dF T N af t d) (OV (k+1) (oc (t (k+1)) (d (k+1))))) _;erw[ev];exact J
end
section
def TellRows:Prop:=∀N,N<6→∀dz,(dz=ac→N=2)→∀os:List Nat,os.length=x4 N→(∀o∈os,o<5)→hJ N dz ac os=ac∧((∀o∈os,o<2)→hJ N dz ae os=ac)
def fJ (T C af:Nat) (d:Mk):AV:=match d with|none=>.tup [.tup [kU],.fd 9 [],.tup []]|some s=>.tup [.tup [],dH T C af s,.tup [kU]]
def AU (T C af:Nat) (t d:Mk):List AV:=match oc t d with|0=>[]|4=>[]|_=>[fJ T C af d]
noncomputable def qA (l:List AV):AO:=.list ae aj l aj
def nxt (T N af:Nat) (W:WS) (d:Nat→Mk) (q:Nat→List AV) (t:Nat→Mk):WS:=
 {W with ou:=fun C=>match kh T N C with|some k=>tA T C af (d k)|none=>W.ou C,qu:=fun C=>match kh T N C with|some k=>qA (q C++AU T C af (t k) (d k))|none=>W.qu C}
def k30:List (Nat×Nat×Nat×Nat):=p36.flatMap fun p=>n6.flatMap fun C=>match kh p.1 p.2 C with|some k=>[(p.1,p.2,C,k)]|none=>[]
theorem SV (hT:T<6) (hN:N<6) (hC:C<6) (h:kh T N C=aa k):(T,N,C,k)∈k30:=br.mpr ⟨_,SZ hT hN,br.mpr ⟨C,m6 hC,by dsimp only;erw[h];exact .head _⟩⟩
theorem Qr (hT:T<6) (hN:N<6) (hC:C<6) (h:kh T N C=aa k):(ay (nb N k) C&&!ay C N&&(aF 0 k&&bX k (x4 N)))=ac:=
 ai.mp (by decide +kernel:(k30.all fun p=>ay (nb p.2.1 p.2.2.2) p.2.2.1&&!ay p.2.2.1 p.2.1&&(aF 0 p.2.2.2&&bX p.2.2.2 (x4 p.2.1)))=ac) _ (SV hT hN hC h)
theorem Bc (hT:T<6) (hN:N<6) (hC:C<6) (h:kh T N C=aa k):nb N k=C∧∃j,k=j+1∧j<x4 N:=by
 have b:=eS (Qr hT hN hC h);have c:=eS b.2;have l:=az c.2;cases k with
 |zero=>exact ff c.1
 |succ j=>exact ⟨am (aL b.1),j,rfl,l⟩
def Bq (N:Nat) (q:Nat→List AV) (x:Nat):List AV:=match ay x (fW N 1) with|true=>q (nb N 1)|false=>(match ay x (fW N 2) with|true=>q (nb N 2)|false=>q (nb N 3))
theorem Kl (hT:T<6) (hN:N<6) (hC:C<6) (h:kh T N C=aa k):bP T N (Bq N q) (fW N k)=q C:=
 (eL (F:=fun p:Nat×Nat×Nat×Nat=>bP p.1 p.2.1 (Bq p.2.1 q) (fW p.2.1 p.2.2.2)) (G:=fun p=>q p.2.2.1) (by kernel_rfl) (SV hT hN hC h):)
theorem kL (h :∀C,C<6→W.cho C=W'.cho C∧W.ro C=W'.ro C∧W.ou C=W'.ou C∧W.qu C=W'.qu C):gQ T W=gQ T W':=by
 have e :∀C,C<6→nj T W C=nj T W' C:=fun C hC=>by
  refine Lm (h C hC) fun a b c d=>?_;unfold nj;exact au a▸au b▸au c▸au d▸rfl
 show nj T W 0++(nj T W 1++(nj T W 2++(nj T W 3++(nj T W 4++(nj T W 5++[])))))=nj T W' 0++(nj T W' 1++(nj T W' 2++(nj T W' 3++(nj T W' 4++(nj T W' 5++[])))));rw [e 0 (by decide),e 1 (by decide),e 2 (by decide),e 3 (by decide),e 4 (by decide),e 5 (by decide)]
theorem At.congr (e:gQ T W=gQ T W') (a:At T af W S):At T af W' S:=fun j hj=>by
 rw [a j hj];unfold jK;rw [e]
theorem Qe (h :∀p,bn T N=aa p→o p=0) (k:Nat):oP T N o k=o k:=by
 unfold oP;cases e:bn T N with
 |none=>rfl
 |some p=>
  dsimp only;cases q:ay p k with
  |true=>exact (am q▸h p e).symm
  |false=>rfl
theorem Ek (os:List Nat):∀{a:Nat},C∈wV N dz ch a os→∃i,∃h:i<os.length,C=pu N dz ch (a+i) (os[i]):=by
 induction os with
 |nil=>intro a h;exact nomatch h
 |cons o os ih=>
  intro a h;rcases aN.mp (show C∈pu N dz ch a o::wV N dz ch (a+1) os from h) with e|e
  ·exact ⟨0,gB _,e⟩
  ·obtain ⟨i,hi,e⟩:=ih e;exact ⟨i+1,u4 hi,e.trans (by erw[(Ab ..),(mK 1 i ..)];rfl)⟩
theorem SC (h:i<(o4 T N o).length):(o4 T N o)[i]=oP T N o (i+1)∧i<x4 N:=by
 unfold o4 at h ⊢;rw [a9,rF] at h;exact ⟨by simp,h⟩
theorem XW (h:k<10):dF T N af t d k=tD T (nb N k) af (t k) (d k):=by
 unfold dF;rw [aG.mpr h]
section
variable {T N C af k:Nat} {h:Mk} {t d:Nat→Mk} {q:Nat→List AV}
theorem Di:vV T N af (rV T N af h) (dF T N af t d) (Bq N q) (Uy (oz h))=cA T N af h:=by cases h<;>rfl
theorem Ji (hT:T<6) (hN:N<6) (hC:C<6) (e:kh T N C=aa k):vV T N af (rV T N af h) (dF T N af t d) (Bq N q) (Cj k (oc (t k) (d k)))=tA T C af (t k):=by
 refine aK (fun q200 h20=>?_) (Bc hT hN hC e);refine cg h20 fun j q210 hj=>?_;apply Q_ q200;apply dW q210;have lo:=XW (T:=T) (N:=N) (af:=af) (t:=t) (d:=d) (k:=j+1) (aU (u4 (aU hj (Jw hN))) (by decide));have hi:=wW (T:=T) (N:=N) (af:=af) (t:=t) (d:=d) (j+1);have f :∀i l,dF T N af t d i=l→vV T N af (rV T N af h) (dF T N af t d) (Bq N q) (eC (.opd i))=eC (.fd 0 l):=fun i l e=>congrArg (fun l=>eC (.fd 0 l)) e;cases q1:t (j+1) with
 |none=>cases d (j+1)<;>rfl
 |some a=>
  cases q2:d (j+1) with
  |none=>rw [q1,q2] at lo;exact f _ _ lo
  |some b=>
   rw [q1,q2] at lo;rw [q2] at hi;unfold tD at lo;unfold oc at lo ⊢;dsimp only at lo ⊢;cases q3:decide (a=b) with
   |false=>rw [q3] at lo;exact f _ _ lo
   |true=>rw [of_decide_eq_true q3];exact f _ _ hi
theorem N7 (hT:T<6) (hN:N<6) (hC:C<6) (e:kh T N C=aa k):vV T N af (rV T N af h) (dF T N af t d) (Bq N q) (Oe k (oc (t k) (d k)))=tA T C af (d k):=by
 refine aK (fun q300 h30=>?_) (Bc hT hN hC e);refine cg h30 fun j q310 hj=>?_;apply Q_ q300;apply dW q310;have hi:=wW (T:=T) (N:=N) (af:=af) (t:=t) (d:=d) (j+1);have f :∀i l,dF T N af t d i=l→vV T N af (rV T N af h) (dF T N af t d) (Bq N q) (eC (.opd i))=eC (.fd 0 l):=fun i l e=>congrArg (fun l=>eC (.fd 0 l)) e;cases q2:d (j+1) with
 |none=>cases t (j+1)<;>rfl
 |some b=>
  replace hi:=q2▸hi;cases t (j+1) with
  |none=>exact f _ _ hi
  |some a=>
   unfold oc;dsimp only;cases decide (a=b)<;>exact f _ _ hi
theorem N5 (hT:T<6) (hN:N<6) (hC:C<6) (e:kh T N C=aa k):vV T N af (rV T N af h) (dF T N af t d) (Bq N q) (.list ae (aa (fW N k)) [] aj)=qA (q C):=by
 show AO.list ae aj (bP T N (Bq N q) (fW N k)++[]++[]) aj=_;erw[(Kl hT hN hC e ..),(cf ..),(cf ..)];rfl
theorem N6 (hT:T<6) (hN:N<6) (hC:C<6) (e:kh T N C=aa k):vV T N af (rV T N af h) (dF T N af t d) (Bq N q) (.list ae (aa (fW N k)) (Hh k (oc (t k) (d k))) aj)=qA (q C++AU T C af (t k) (d k)):=by
 have b:=Kl (q:=q) hT hN hC e;refine aK (fun q400 h40=>?_) (Bc hT hN hC e);refine cg h40 fun j q410 hj=>?_;subst q400;subst q410;have hi:=wW (T:=T) (N:=N) (af:=af) (t:=t) (d:=d) (j+1);show AO.list ae aj (bP T N (Bq N q) (fW N (j+1))++dE (nF (rV T N af h) af) (dF T N af t d) (Hh (j+1) (oc (t (j+1)) (d (j+1))))++[]) aj=_;erw[(b ..),(cf ..)];refine congrArg (fun l=>AO.list ae aj (q (nb N (j+1))++l) aj) ?_;have f :∀i l,dF T N af t d i=l→dE (nF (rV T N af h) af) (dF T N af t d) [.tup [.tup [],.opd i,.tup [kU]]]=[.tup [.tup [],.fd 0 l,.tup [kU]]]:=fun i l e=>congrArg (fun l=>[AV.tup [.tup [],.fd 0 l,.tup [kU]]]) e;cases q2:d (j+1) with
 |none=>cases t (j+1)<;>rfl
 |some b=>
  replace hi:=q2▸hi;cases t (j+1) with
  |none=>exact f _ _ hi
  |some a=>
   unfold AU oc;dsimp only;cases decide (a=b) with
   |true=>rfl
   |false=>exact f _ _ hi
end
theorem Hg (n:Nat):bS N D (nam n)=nam n:=by unfold nam;split<;>rfl
theorem MM (h:d=aj) (t:Mk):oc t d<2:=by
 subst h;cases t with
 |none=>decide
 |some a=>exact (by decide:1<2)
theorem LV (X:lK c) (rows:DueRows) (trows:TellRows) (hT:T<6) (hN:N<6) (hdo:af<5) (hh:eU h) (ht :∀k,eU (t k)) (hd :∀k,eU (d k))
 (e :∀k,k<x4 N→d (k+1)=dM T af N (k+1) h) (tp :∀p,bn T N=aa p→t p=aj∧d p=aj) (hq :∀C,uL 0 (q C)=ac∧(q C).length≤999) (a:At T af W S) (hn:492≤S.nx)
 (w1:W.cho N=cA T N af h) (w2 :∀C k,C<6→kh T N C=aa k→W.ou C=tA T C af (t k)∧W.qu C=qA (q C)) {PP:Prop} (kk :∀n S',JFc c 24 (.fn 66) [.loc 13,nam N] S (.int n) S'→S'.nx=S.nx→ic S S'→At T af (nxt T N af W d q t) S'→PP):PP:=by
 let o:Nat→Nat:=fun k=>oc (t k) (d k)
 have o0 :∀p,bn T N=aa p→o p=0:=fun p hp=>by show oc (t p) (d p)=0;rw [(tp p hp).1,(tp p hp).2];rfl
 let D:=dF T N af t d
 let R:=rV T N af h
 let B:=Bq N q
 let C:=tC T N af ae (oz h) o
 have hos:(o4 T N o).length=x4 N:=by unfold o4;rw [a9,rF]
 have mem :∀x∈o4 T N o,∃k,k<x4 N∧x=o (k+1):=fun x hx=>by
  apply sY (bp.mp hx);intro k hk;exact ⟨k,bM.mp hk,Qe o0 _⟩
 have row:hJ N (Bz N af) (oz h) (o4 T N o)=ac:=by
  have r:=trows N hN (Bz N af) (fun z=>by
   unfold Bz at z
   split at z
   ·rfl
   ·exact ff z) (o4 T N o) hos (fun x hx=>by apply sZ (mem x hx);intro k _;exact Qc _ _)
  cases h with
  |some m=>exact r.1
  |none=>
   have dnone :∀k,k<x4 N→d (k+1)=aj:=fun k hk=>e k hk;exact r.2 fun x hx=>by
    apply sZ (mem x hx);intro k hk;exact MM (dnone k hk) _
 have row:=eS (show ((yP N (Bz N af) (oz h) (o4 T N o)).form&&(yP N (Bz N af) (oz h) (o4 T N o)).runs omT (WQ [56] (wV N (Bz N af) (oz h) 1 (o4 T N o))) 12)=ac from row);have fN:=Qi af (Cy (af:=af) hT hN hh);have fD:=QP (N:=N) (af:=af) hT ht hd;have e1:gQ T W=gQ T (tw T N af (oz h) o R D B W):=kL fun K hK=>by
  refine ⟨?_,rfl,?_,?_⟩
  ·show W.cho K=cw N (vV T N af R D B (Uy (oz h))) W.cho K;unfold cw;cases z:ay K N with
   |true=>rw [am z,w1];exact Di.symm
   |false=>rfl
  ·show W.ou K=rR T N (fun k=>vV T N af R D B (Cj k (o k))) W.ou K;unfold rR;cases z:kh T N K with
   |none=>rfl
   |some k=>exact (w2 K k hK z).1.trans (Ji hT hN hK z).symm
  ·show W.qu K=rR T N (fun k=>vV T N af R D B (.list ae (aa (fW N k)) [] aj)) W.qu K;unfold rR;cases z:kh T N K with
   |none=>rfl
   |some k=>exact (w2 K k hK z).2.trans (N5 hT hN hK z).symm
 have e2:gQ T (Yv T N af (oz h) o R D B W)=gQ T (nxt T N af W d q t):=kL fun K hK=>by
  refine ⟨?_,rfl,?_,?_⟩
  ·show cw N (vV T N af R D B (Uy (oz h))) W.cho K=W.cho K;unfold cw;cases z:ay K N with
   |true=>rw [am z,w1];exact Di
   |false=>rfl
  ·show rR T N (fun k=>vV T N af R D B (Oe k (o k))) W.ou K=(match kh T N K with|some k=>tA T K af (d k)|none=>W.ou K)
   unfold rR;cases z:kh T N K with
   |none=>rfl
   |some k=>exact N7 hT hN hK z
  ·show rR T N (fun k=>vV T N af R D B (.list ae (aa (fW N k)) (Hh k (o k)) aj)) W.qu K=(match kh T N K with|some k=>qA (q K++AU T K af (t k) (d k))|none=>W.qu K)
   unfold rR;cases z:kh T N K with
   |none=>rfl
   |some k=>exact N6 hT hN hK z
 have bq :∀x,uL 0 (bP T N B x)=ac∧(bP T N B x).length≤999:=fun x=>by
  have b:uL 0 (B x)=ac∧(B x).length≤999:=by
   show uL 0 (Bq N q x)=ac∧(Bq N q x).length≤999;unfold Bq
   split
   ·exact hq _
   ·split<;>exact hq _
  unfold bP
  split
  ·split
   ·exact ⟨rfl,a7 _⟩
   ·exact b
  ·exact b
 have J:=Ctr.at X.X X.F (hT:=hT) (N:=nF R af) (D:=D) (C:=C) ⟨fun k=>(fN k).1,fun k=>(fD k).1⟩ (fun k=>(fN k).2) (fun k=>(fD k).2) (om:=omT) (ov:=WQ [56] (wV N (Bz N af) (oz h) 1 (o4 T N o))) (m:=12) (N0:=12)
  (fun μ=>MK X hT ht hd R μ) (fun μ hμ=>Sy (cx:={c with N:=nF R af,D:=D,μ:=μ}) ⟨fun k=>(fN k).2,fun k=>(fD k).2⟩ (fun j hj=>by
   obtain rfl:j=56:=by simpa [cJ] using hj
   exact X.X.pk.keepF 56 _ rfl) fun K hK=>by
   obtain ⟨i,hi,rfl⟩:=Ek _ hK;refine aK (fun g1 g2=>?_) (SC hi);rw [g1,Qe o0,mK 1 i];exact ⟨(zA hN g2 _ _).1,rfl,XS X rows hT hN g2 hdo hh ht hd (e i g2) μ⟩)
  row.1 row.2 (B:=bP T N B) (fun x=>(bq x).1) (fun x=>(bq x).2) (W:=tw T N af (oz h) o R D B W) (W':=Yv T N af (oz h) o R D B W) (Gg af ae (oz h) o R D B W hT hN) (Gf af ae (oz h) o hT hN) rfl
  (LS af ae (oz h) o R D B W hT hN) (LU af ae (oz h) o R D B W hT hN) (a.congr e1) hn
 have J1:JFc c 24 (.fn 66) [.loc 13,bS (nF R af) D (nam N)] S (.int (aw (((o4 T N o).filter fun o=>o==1||o==2||o==3).length))) (k_ (fU (nF R af) D (bP T N B) C) S):=J.1
 rw [Hg] at J1;exact kk _ _ J1 (jp _) J.2.2 (J.2.1.congr e2)
end
section
noncomputable def dh (N af:Nat):Nat:=match N with|2=>(match af with|0=>0|_+1=>1)|4=>(match af with|0=>0|_+1=>1)|_=>0
noncomputable def ZJ (N:Nat):List Nat:=match N with|2=>[0,1]|4=>[0,1]|_=>[0]
def cQ (T N:Nat):Bool:=(ZJ N).all fun af=>match bn T N with
 |some k=>QD T N k af&&QF N k af
 |none=>Qb T af&&PV T af
def HearRows:Prop:=∀T N,T<6→N<6→cQ T N=ac
theorem Jt (af:Nat) (hN:N<6):dh N af∈ZJ N:=
 gx (eL (F:=fun p:Nat×Nat×Nat=>cJ (dh p.2.1 p.2.2) (ZJ p.2.1)) (G:=fun a=>ac) (by kernel_rfl) (yA hN hN))
def nH (T N af:Nat) (old:Mk) (m:List Int) (i:Nat):AV:=match i with|1=>.tup (m.map AV.int)|2=>(match bn T N with|none=>aV T N af old|some _=>rV T N af old)|3=>rV T N af old|_=>.none
def kj (T N af:Nat) (old:Mk) (i:Nat):List (AV×AV):=match i with|0=>(match old with|none=>[]|some o=>nM T N af o)|_=>[]
def fh (T N af:Nat) (old:Mk) (m:List Int) (o:AO):AO:=dw (nH T N af old m) (kj T N af old) vi o
def xO (b:Bool) (i:Nat):AO:=match b with|true=>eC (.opa i)|false=>je
def yO (b:Bool):AO:=match b with|true=>QV (.opd 0)|false=>je
def hw (N:Nat) (x y:AO) (W:WS):WS:={W with cho:=cw N x W.cho,ro:=cw N y W.ro}
def rA (T N af:Nat) (m:Mk):AO:=match m with
 |none=>je
 |some l=>(match bn T N with|none=>eC (dH T N af l)|some _=>QV (dH T N af l))
variable {T N af k:Nat}
theorem Bp (hT:T<6) (hN:N<6):h_ T N k (dh N af) c old=h_ T N k af c old:=
 (eL (F:=fun p:Nat×Nat×Nat=>h_ p.1 p.2.1 k (dh p.2.1 p.2.2) c old) (G:=fun p=>h_ p.1 p.2.1 k p.2.2 c old) (by kernel_rfl) (yA hT hN):)
theorem Br (hN:N<6):ia N k (dh N af)=ia N k af:=
 (eL (F:=fun p:Nat×Nat×Nat=>ia p.2.1 k (dh p.2.1 p.2.2)) (G:=fun p=>ia p.2.1 k p.2.2) (by kernel_rfl) (yA hN hN):)
theorem AR (hT:T<6):hO T (dh T af) c old=hO T af c old:=
 (eL (F:=fun p:Nat×Nat×Nat=>hO p.2.1 (dh p.2.1 p.2.2) c old) (G:=fun p=>hO p.2.1 p.2.2 c old) (by kernel_rfl) (yA hT hT):)
theorem As (hT:T<6):g8 T (dh T af)=g8 T af:=
 (eL (F:=fun p:Nat×Nat×Nat=>g8 p.2.1 (dh p.2.1 p.2.2)) (G:=fun p=>g8 p.2.1 p.2.2) (by kernel_rfl) (yA hT hT):)
theorem BS (hT:T<6) (hN:N<6):dk T N (dh N af) c=dk T N af c:=
 (eL (F:=fun p:Nat×Nat×Nat=>dk p.1 p.2.1 (dh p.2.1 p.2.2) c) (G:=fun p=>dk p.1 p.2.1 p.2.2 c) (by kernel_rfl) (yA hT hN):)
noncomputable def cm (m:List Int):Bool:=match m with|[]=>ae|_::_=>ac
theorem gK (hT:T<6) (hN:N<6):bS (nH T N af old m) (kj T N af old) (dk T N af (cm m))=dH T N af m:=by
 cases m with
 |nil=>exact eL (F:=fun p:Nat×Nat×Nat=>bS (nH p.1 p.2.1 p.2.2 old []) (kj p.1 p.2.1 p.2.2 old) (dk p.1 p.2.1 p.2.2 ae)) (G:=fun p=>dH p.1 p.2.1 p.2.2 []) (by kernel_rfl) (yA hT hN)
 |cons x m=>exact eL (F:=fun p:Nat×Nat×Nat=>bS (nH p.1 p.2.1 p.2.2 old (x::m)) (kj p.1 p.2.1 p.2.2 old) (dk p.1 p.2.1 p.2.2 ac)) (G:=fun p=>dH p.1 p.2.1 p.2.2 (x::m)) (by kernel_rfl) (yA hT hN)
variable (W:WS) (h:Mk) (m:List Int) (c o:Bool)
section
variable (hT:T<6) (hN:N<6) (hk:bn T N=aa k)
include hT hN hk
theorem Il:(h_ T N k af c o).P.map (j0 fun a=>fh T N af h m)=(h_ T N k af c o).P.map (j0 fun j a=>jK T af (hw N (fh T N af h m (xO o 2)) (fh T N af h m (yO o)) W) j):=
 (eL (F:=fun ⟨T,N,k,af,o⟩ =>(h_ T N k af c o).P.map (j0 fun a=>fh T N af h m)) (G:=fun ⟨T,N,k,af,o⟩ =>(h_ T N k af c o).P.map (j0 fun j a=>jK T af (hw N (fh T N af h m (xO o 2)) (fh T N af h m (yO o)) W) j)) (by kernel_rfl) (YC hT hN hk):)
theorem Ij:(h_ T N k af c o).P.all (fun p=>cJ p.1 bN)=ac:=
 (eL (F:=fun ⟨T,N,k,af,o⟩ =>(h_ T N k af c o).P.all fun p=>cJ p.1 bN) (G:=fun a=>ac) (by kernel_rfl) (YC hT hN hk):)
theorem NL (x y:AO):gQ T (hw N (fh T N af h m (cho k N (dk T N af c))) (fh T N af h m (QV (dk T N af c))) W)=(gQ T (hw N x y W)).map (j0 (over (fU (nH T N af h m) (kj T N af h) vi (h_ T N k af c o)))):=
 (eL (F:=fun ⟨T,N,k⟩ =>gQ T (hw N (fh T N af h m (cho k N (dk T N af c))) (fh T N af h m (QV (dk T N af c))) W)) (G:=fun ⟨T,N,k⟩ =>(gQ T (hw N x y W)).map (j0 (over (fU (nH T N af h m) (kj T N af h) vi (h_ T N k af c o))))) (by kernel_rfl) (CQ hT hN hk):)
theorem NM (x y:AO):(fU (nH T N af h m) (kj T N af h) vi (h_ T N k af c o)).all (fun u=>(j5 u.1 (gQ T (hw N x y W))).isSome)=ac:=
 (eL (F:=fun ⟨T,N,k⟩ =>(fU (nH T N af h m) (kj T N af h) vi (h_ T N k af c o)).all fun u=>(j5 u.1 (gQ T (hw N x y W))).isSome) (G:=fun a=>ac) (by kernel_rfl) (CQ hT hN hk):)
theorem I8:(ia N k af).P.map (j0 fun a=>fh T N af h m)=(ia N k af).P.map (j0 fun j a=>jK T af (hw N (fh T N af h m (xO ac 2)) (fh T N af h m (yO ac)) W) j):=
 (eL (F:=fun ⟨T,N,k,af,_⟩ =>(ia N k af).P.map (j0 fun a=>fh T N af h m)) (G:=fun ⟨T,N,k,af,_⟩ =>(ia N k af).P.map (j0 fun j a=>jK T af (hw N (fh T N af h m (xO ac 2)) (fh T N af h m (yO ac)) W) j)) (by kernel_rfl) (YC (o:=ac) hT hN hk):)
theorem I6:(ia N k af).P.all (fun p=>cJ p.1 bN)=ac:=
 (eL (F:=fun ⟨T,N,k,af,_⟩ =>(ia N k af).P.all fun p=>cJ p.1 bN) (G:=fun a=>ac) (by kernel_rfl) (YC (o:=ac) hT hN hk):)
theorem NP (x y:AO):gQ T (hw N je je W)=(gQ T (hw N x y W)).map (j0 (over (fU (nH T N af h m) (kj T N af h) vi (ia N k af)))):=
 (eL (F:=fun ⟨T,N,k⟩ =>gQ T (hw N je je W)) (G:=fun ⟨T,N,k⟩ =>(gQ T (hw N x y W)).map (j0 (over (fU (nH T N af h m) (kj T N af h) vi (ia N k af))))) (by kernel_rfl) (CQ hT hN hk):)
theorem NQ (x y:AO):(fU (nH T N af h m) (kj T N af h) vi (ia N k af)).all (fun u=>(j5 u.1 (gQ T (hw N x y W))).isSome)=ac:=
 (eL (F:=fun ⟨T,N,k⟩ =>(fU (nH T N af h m) (kj T N af h) vi (ia N k af)).all fun u=>(j5 u.1 (gQ T (hw N x y W))).isSome) (G:=fun a=>ac) (by kernel_rfl) (CQ hT hN hk):)
end
section
variable (hT:T<6)
include hT
theorem G2:(hO T af c o).P.map (j0 fun a=>fh T T af h m)=(hO T af c o).P.map (j0 fun j a=>jK T af (hw T (fh T T af h m (xO o 3)) (fh T T af h m (xO o 2)) W) j):=
 (eL (F:=fun ⟨T,af,o⟩ =>(hO T af c o).P.map (j0 fun a=>fh T T af h m)) (G:=fun ⟨T,af,o⟩ =>(hO T af c o).P.map (j0 fun j a=>jK T af (hw T (fh T T af h m (xO o 3)) (fh T T af h m (xO o 2)) W) j)) (by kernel_rfl) (YD hT):)
theorem G0:(hO T af c o).P.all (fun p=>cJ p.1 bN)=ac:=
 (eL (F:=fun ⟨T,af,o⟩ =>(hO T af c o).P.all fun p=>cJ p.1 bN) (G:=fun a=>ac) (by kernel_rfl) (YD hT):)
theorem MG (x y:AO):gQ T (hw T (fh T T af h m (eC (.tup [kU,dk T T af c,.none,.int 0,.int 0]))) (fh T T af h m (eC (dk T T af c))) W)=(gQ T (hw T x y W)).map (j0 (over (fU (nH T T af h m) (kj T T af h) vi (hO T af c o)))):=
 (eL (F:=fun T=>gQ T (hw T (fh T T af h m (eC (.tup [kU,dk T T af c,.none,.int 0,.int 0]))) (fh T T af h m (eC (dk T T af c))) W)) (G:=fun T=>(gQ T (hw T x y W)).map (j0 (over (fU (nH T T af h m) (kj T T af h) vi (hO T af c o))))) (by kernel_rfl) (m6 hT):)
theorem MH (x y:AO):(fU (nH T T af h m) (kj T T af h) vi (hO T af c o)).all (fun u=>(j5 u.1 (gQ T (hw T x y W))).isSome)=ac:=
 (eL (F:=fun T=>(fU (nH T T af h m) (kj T T af h) vi (hO T af c o)).all fun u=>(j5 u.1 (gQ T (hw T x y W))).isSome) (G:=fun a=>ac) (by kernel_rfl) (m6 hT):)
theorem FJ:(g8 T af).P.map (j0 fun a=>fh T T af h m)=(g8 T af).P.map (j0 fun j a=>jK T af (hw T (fh T T af h m (xO ac 3)) (fh T T af h m (xO ac 2)) W) j):=
 (eL (F:=fun ⟨T,af,_⟩ =>(g8 T af).P.map (j0 fun a=>fh T T af h m)) (G:=fun ⟨T,af,_⟩ =>(g8 T af).P.map (j0 fun j a=>jK T af (hw T (fh T T af h m (xO ac 3)) (fh T T af h m (xO ac 2)) W) j)) (by kernel_rfl) (YD (o:=ac) hT):)
theorem FH:(g8 T af).P.all (fun p=>cJ p.1 bN)=ac:=
 (eL (F:=fun ⟨T,af,_⟩ =>(g8 T af).P.all fun p=>cJ p.1 bN) (G:=fun a=>ac) (by kernel_rfl) (YD (o:=ac) hT):)
theorem Lx (x y:AO):gQ T (hw T je je W)=(gQ T (hw T x y W)).map (j0 (over (fU (nH T T af h m) (kj T T af h) vi (g8 T af)))):=
 (eL (F:=fun T=>gQ T (hw T je je W)) (G:=fun T=>(gQ T (hw T x y W)).map (j0 (over (fU (nH T T af h m) (kj T T af h) vi (g8 T af))))) (by kernel_rfl) (m6 hT):)
theorem Ly (x y:AO):(fU (nH T T af h m) (kj T T af h) vi (g8 T af)).all (fun u=>(j5 u.1 (gQ T (hw T x y W))).isSome)=ac:=
 (eL (F:=fun T=>(fU (nH T T af h m) (kj T T af h) vi (g8 T af)).all fun u=>(j5 u.1 (gQ T (hw T x y W))).isSome) (G:=fun a=>ac) (by kernel_rfl) (m6 hT):)
end
end
section
theorem JFc.args (J:JFc cx n f vs S v S') (h :∀g xs,VRs cx g us xs→VRs cx g vs xs):JFc cx n f us S v S':=fun A g s x xs R I rx rxs=>J A g s x xs R I rx (h _ _ rxs)
theorem Rg (l:List AV):∀{xs:List Value},VRs cx g (l++[.int (aw i)]) xs→VRs cx g (l++[.ge 0]) xs:=by
 induction l with
 |nil=>intro xs r;exact r.uncons fun x ys e a b=>e▸(de a).elim fun t q=>q▸.cons (.ge (eX _)) b
 |cons v l ih=>intro xs r;exact r.uncons fun x ys e a b=>e▸.cons a (ih b)
theorem JFc.now (l:List AV) (now:Nat) (J:JFc cx n f (l++[.ge 0]) S v S'):JFc cx n f (l++[.int (aw now)]) S v S':=J.args fun g xs r=>Rg l r
variable {T N af k:Nat}
noncomputable def yz (m:Mk):Bool:=match m with|none=>ae|some _=>ac
theorem QJ (hk:bn T N=aa k):fh T N af h m (xO (yz h) 2)=cA T N af h:=by
 cases h with
 |none=>rfl
 |some o=>show eC (match bn T N with|none=>aV T N af (aa o)|some _=>rV T N af (aa o))=_;erw[hk];rfl
theorem jA (hT:T<6):bn T T=aj:=(eL (F:=fun T=>bn T T) (G:=fun a=>aj) (by kernel_rfl) (m6 hT):)
theorem XC (hT:T<6):fh T T af h m (xO (yz h) 2)=rA T T af h:=by
 have hk:=jA hT;cases h with
 |none=>rfl
 |some o=>show eC (match bn T T with|none=>aV T T af (aa o)|some _=>rV T T af (aa o))=rA T T af (aa o);unfold rA;erw[hk];rfl
theorem QI:fh T N af h m (xO (yz h) 3)=cA T N af h:=by cases h<;>rfl
theorem XB (hk:bn T N=aa k):fh T N af h m (yO (yz h))=rA T N af h:=by
 cases h with
 |none=>rfl
 |some o=>unfold rA;dsimp only;erw[hk];rfl
theorem Ud {h:Mk} {m:List Int} (hT:T<6) (hN:N<6) (hk:bn T N=aa k):fh T N af h m (Mine.cho k N (dk T N af (cm m)))=cA T N af (aa m):=by
 show eC (.tup [kU,bS (nH T N af h m) (kj T N af h) (dk T N af (cm m)),.int (aw k),.int (Uu N),.ge 0])=eC (i8 T N af m);rw [gK hT hN];unfold i8;exact au hk▸rfl
theorem Ue (hT:T<6) (hN:N<6) (hk:bn T N=aa k):fh T N af h m (QV (dk T N af (cm m)))=rA T N af (aa m):=by
 show eC (.tup [bS (nH T N af h m) (kj T N af h) (dk T N af (cm m)),.ge 0])=_;erw[gK hT hN];unfold rA;dsimp only;erw[hk];rfl
theorem Ub (hT:T<6):fh T T af h m (eC (.tup [kU,dk T T af (cm m),.none,.int 0,.int 0]))=cA T T af (aa m):=by
 show eC (.tup [kU,bS (nH T T af h m) (kj T T af h) (dk T T af (cm m)),.none,.int 0,.int 0])=eC (i8 T T af m);rw [gK hT hT];unfold i8;exact au (jA hT)▸rfl
theorem Uc (hT:T<6):fh T T af h m (eC (dk T T af (cm m)))=rA T T af (aa m):=by
 show eC (bS (nH T T af h m) (kj T T af h) (dk T T af (cm m)))=_;rw [gK hT hT];unfold rA;dsimp only;exact au (jA hT)▸rfl
structure AS where
 h:Nat→Mk
 t:Nat→Mk
 q:Nat→List Mk
def WA (T af:Nat) (A:AS):WS:=⟨fun N=>cA T N af (A.h N),fun N=>rA T N af (A.h N),fun N=>tA T N af (A.t N),fun N=>qA ((A.q N).map (fJ T N af))⟩
def AS.hear (A:AS) (N:Nat) (m:Mk):AS:={A with h:=cw N m A.h}
theorem FM:WA T af A=hw N (cA T N af (A.h N)) (rA T N af (A.h N)) (WA T af A):=by
 show (⟨_,_,_,_⟩:WS)=⟨_,_,_,_⟩
 congr 1<;>(funext K;unfold cw;cases h:ay K N with
  |true=>dsimp only;exact au (am h)▸rfl
  |false=>rfl)
theorem xi:WA T af (A.hear N m)=hw N (cA T N af m) (rA T N af m) (WA T af A):=by
 show (⟨_,_,_,_⟩:WS)=⟨_,_,_,_⟩
 congr 1<;>(funext K;show _=cw _ _ _ _;unfold AS.hear cw;dsimp only;cases h:ay K N with
  |true=>dsimp only;exact au (am h)▸rfl
  |false=>rfl)
theorem GK (rows:HearRows) (hT:T<6) (hN:N<6) (af:Nat) (hk:bn T N=aa k):QD T N k (dh N af)=ac∧QF N k (dh N af)=ac:=by
 have r:=ai.mp (rows T N hT hN) _ (Jt af hN);rw [hk] at r;exact eS r
theorem Cr (rows:HearRows) (hT:T<6) (af:Nat):Qb T (dh T af)=ac∧PV T (dh T af)=ac:=by
 have r:=ai.mp (rows T T hT hT) _ (Jt af hT);rw [jA hT] at r;exact eS r
theorem P_ (c o:Bool):(c,o)∈[(ac,ac),(ac,ae),(ae,ac),(ae,ae)]:=by cases c<;>cases o<;>simp
theorem Ik (rows:HearRows) (hT:T<6) (hN:N<6) (af:Nat) (hk:bn T N=aa k) (c o:Bool):(h_ T N k af c o).form=ac∧(h_ T N k af c o).runs (WR (dk T N af c)) noOv 12=ac:=by
 have r:=eS (ai.mp (GK rows hT hN af hk).1 _ (P_ c o));dsimp only at r;replace r:=(BS hT hN)▸(Bp hT hN)▸r;exact r
theorem I7 (rows:HearRows) (hT:T<6) (hN:N<6) (af:Nat) (hk:bn T N=aa k):(ia N k af).form=ac∧(ia N k af).runs om0 noOv 12=ac:=by
 have r:=eS (GK rows hT hN af hk).2;replace r:=(Br hN)▸r;exact r
theorem G1 (rows:HearRows) (hT:T<6) (af:Nat) (c o:Bool):(hO T af c o).form=ac∧(hO T af c o).runs om0 noOv 12=ac:=by
 have r:=eS (ai.mp (Cr rows hT af).1 _ (P_ c o));dsimp only at r;replace r:=(AR hT)▸r;exact r
theorem FI (rows:HearRows) (hT:T<6) (af:Nat):(g8 T af).form=ac∧(g8 T af).runs om0 noOv 12=ac:=by
 have r:=eS (Cr rows hT af).2;replace r:=(As hT)▸r;exact r
theorem NI (l:List Int):nZ (.tup (l.map AV.int))=ac∧uV 0 (.tup (l.map AV.int))=ac:=⟨Ig l,LM l⟩
theorem CL (af:Nat) (hT:T<6) (hN:N<6) (hh:eU h) (m:List Int) (i:Nat):nZ (nH T N af h m i)=ac∧uV 0 (nH T N af h m i)=ac:=by
 unfold nH
 split
 ·exact NI m
 ·split
  ·cases h with
   |none=>exact ⟨rfl,rfl⟩
   |some o=>exact (zn hT hN (hh o rfl)).1
  ·exact Cy hT hN hh
 ·exact Cy hT hN hh
 ·exact ⟨rfl,rfl⟩
theorem Dv (af:Nat) (hT:T<6) (hN:N<6) (hh:eU h) (i:Nat):QB (kj T N af h i)=ac∧uD 0 (kj T N af h i)=ac:=by
 unfold kj
 split
 ·cases h with
  |none=>exact ⟨rfl,rfl⟩
  |some o=>exact (zn hT hN (hh o rfl)).1
 ·exact ⟨rfl,rfl⟩
theorem OX (hT:T<6) (hN:N<6) (hh:eU h) (om:Om) (S:St) (i:Nat):kI om S (.fd 0 (kj T N af h i)) (.fd 0 (kj T N af h i))=aa ac:=by
 unfold kj
 split
 ·cases h with
  |none=>rfl
  |some o=>exact ((QL hT hN om S (hh o rfl)).2.2 o (hh o rfl)).trans (congrArg aa (decide_eq_true rfl))
 ·rfl
theorem t9 (X:lK c) (hT:T<6) (hN:N<6) (hh:eU h) (m:List Int) (μ:Nat→List Value):nk {c with N:=nH T N af h m,D:=kj T N af h,μ:=μ} om0:=
 yZ (c:={c with N:=nH T N af h m,D:=kj T N af h,μ:=μ}) (om:=om0) X.M rfl rfl fun i nx=>OX hT hN hh om0 _ i
theorem ML (X:lK c) (hT:T<6) (hN:N<6) (hh:eU h) (hm:m∈masks) (ne:h≠aa m) (μ:Nat→List Value):nk {c with N:=nH T N af h m,D:=kj T N af h,μ:=μ} (WR (dk T N af (cm m))):=
 yZ (c:={c with N:=nH T N af h m,D:=kj T N af h,μ:=μ}) (om:=WR (dk T N af (cm m))) X.M rfl rfl fun i nx=>by
  cases i with
  |succ i=>rfl
  |zero=>
   show kI _ _ (.fd 0 (kj T N af h 0)) (bS (nH T N af h m) (kj T N af h) (dk T N af (cm m)))=aa ae;erw[gK hT hN];cases h with
   |none=>exact (QL hT hN _ _ hm).2.1
   |some o=>exact ((QL hT hN _ _ (hh o rfl)).2.2 m hm).trans (congrArg aa (decide_eq_false fun e=>ne (congrArg aa e)))
def m1 (m:Mk):AV:=match m with|none=>.tup [kU]|some _=>.tup []
def m2 (T N af:Nat) (m:Mk):AV:=match m with|none=>.fd 9 []|some s=>dH T N af s
def m3 (m:Mk):AV:=match m with|none=>.tup []|some _=>.tup [kU]
theorem Ei:fJ T N af m=.tup [m1 m,m2 T N af m,m3 m]:=by cases m<;>rfl
theorem xC:Fa c 0 noOv:=fun j g e=>no e
theorem NN (X:lK c) (rows:HearRows) (hT:T<6) (hN:N<6) (hk:bn T N=aa k) (hh:eU (A.h N)) (hm:eU m) (ne:A.h N≠m) (a:At T af (WA T af A) S) (hn:492≤S.nx) (now:Nat) {PP:Prop} (kk :∀S',JFc c 12 (.fn 49) [.loc (gS N),.int (aw k),m1 m,m2 T N af m,m3 m,.int (aw now)] S .none S'→S'.nx=S.nx→ic S S'→At T af (WA T af (A.hear N m)) S'→PP):PP:=by
 replace a:=(FM (N:=N))▸a;replace kk:=xi▸kk;cases m with
 |some s=>
  have hs:=hm s rfl;have r:=Ik rows hT hN af hk (cm s) (yz (A.h N));have fN:=CL af hT hN hh s;have fD:=Dv af hT hN hh;have J:=Ctr.at X.X X.F (hT:=hT) (N:=nH T N af (A.h N) s) (D:=kj T N af (A.h N)) (C:=h_ T N k af (cm s) (yz (A.h N))) ⟨fun k=>(fN k).1,fun k=>(fD k).1⟩ (fun k=>(fN k).2) (fun k=>(fD k).2) (om:=WR (dk T N af (cm s))) (ov:=noOv) (m:=12) (N0:=0)
   (fun μ=>ML X hT hN hh hs ne μ) (fun μ b=>xC) r.1 r.2 (B:=vi) (fun b=>rfl) (fun b=>a7 _) (W:=hw N _ _ (WA T af A)) (W':=hw N _ _ (WA T af A)) (Il (WA T af A) (A.h N) s (cm s) (yz (A.h N)) hT hN hk) (Ij (cm s) (yz (A.h N)) hT hN hk) rfl
   (NL (WA T af A) (A.h N) s (cm s) (yz (A.h N)) hT hN hk _ _) (NM (WA T af A) (A.h N) s (cm s) (yz (A.h N)) hT hN hk _ _) (by erw[QJ hk,XB hk];exact a) hn
  replace J:=(Ue hT hN hk)▸(Ud hT hN hk)▸J;refine B6 J fun J1 J2 J3=>?_;refine kk _ ?_ (jp _) J3 J2;have J1:JFc c (0+12) (.fn 49) [.loc (gS N),.int (aw k),.tup [],bS (nH T N af (A.h N) s) (kj T N af (A.h N)) (dk T N af (cm s)),.tup [kU],.ge 0] S .none _:=J1;replace J1:=(gK hT hN)▸J1;exact JFc.now [_,_,_,_,_] now J1
 |none=>
  cases q:A.h N with
  |none=>exact absurd q ne
  |some o=>
   rw [q] at a hh;have r:=I7 rows hT hN af hk;have fN:=CL af hT hN hh [];have fD:=Dv af hT hN hh;have J:=Ctr.at X.X X.F (hT:=hT) (N:=nH T N af (aa o) []) (D:=kj T N af (aa o)) (C:=ia N k af) ⟨fun k=>(fN k).1,fun k=>(fD k).1⟩ (fun k=>(fN k).2) (fun k=>(fD k).2) (om:=om0) (ov:=noOv) (m:=12) (N0:=0)
    (fun μ=>t9 X hT hN hh [] μ) (fun μ b=>xC) r.1 r.2 (B:=vi) (fun b=>rfl) (fun b=>a7 _) (W:=hw N _ _ (WA T af A)) (W':=hw N _ _ (WA T af A)) (I8 (WA T af A) (aa o) [] hT hN hk) (I6 hT hN hk) rfl
    (NP (WA T af A) (aa o) [] hT hN hk _ _) (NQ (WA T af A) (aa o) [] hT hN hk _ _) (by
     have e1:=QJ (T:=T) (N:=N) (af:=af) (h:=aa o) (m:=[]) hk;have e2:=XB (T:=T) (N:=N) (af:=af) (h:=aa o) (m:=[]) hk;dsimp only [yz] at e1 e2;erw[e1,e2];exact a) hn
   refine B6 J fun J1 J2 J3=>?_;exact kk _ (JFc.now [_,_,_,_,_] now (show JFc c 12 (.fn 49) [.loc (gS N),.int (aw k),.tup [kU],.fd 9 [],.tup [],.ge 0] S .none _ from J1)) (jp _) J3 J2
theorem MI (X:lK c) (rows:HearRows) (hT:T<6) (hh:eU (A.h T)) (a:At T af (WA T af A) S) (hn:492≤S.nx) {PP:Prop} (kk :∀S',JFc c 12 (.fn 46) [.loc (gS T),kU,dH T T af s] S .none S'→S'.nx=S.nx→ic S S'→At T af (WA T af (A.hear T (aa s))) S'→PP):PP:=by
 rw [FM (N:=T)] at a;rw [xi] at kk;have r:=G1 rows hT af (cm s) (yz (A.h T));have fN:=CL af hT hT hh s;have fD:=Dv af hT hT hh;have J:=Ctr.at X.X X.F (hT:=hT) (N:=nH T T af (A.h T) s) (D:=kj T T af (A.h T)) (C:=hO T af (cm s) (yz (A.h T))) ⟨fun k=>(fN k).1,fun k=>(fD k).1⟩ (fun k=>(fN k).2) (fun k=>(fD k).2) (om:=om0) (ov:=noOv) (m:=12) (N0:=0)
  (fun μ=>t9 X hT hT hh s μ) (fun μ b=>xC) r.1 r.2 (B:=vi) (fun b=>rfl) (fun b=>a7 _) (W:=hw T _ _ (WA T af A)) (W':=hw T _ _ (WA T af A)) (G2 (WA T af A) (A.h T) s (cm s) (yz (A.h T)) hT) (G0 (cm s) (yz (A.h T)) hT) rfl
  (MG (WA T af A) (A.h T) s (cm s) (yz (A.h T)) hT _ _) (MH (WA T af A) (A.h T) s (cm s) (yz (A.h T)) hT _ _) (by rw [QI,XC hT];exact a) hn
 rw [Ub hT,Uc hT] at J;refine B6 J fun J1 J2 J3=>?_;refine kk _ ?_ (jp _) J3 J2;have J1:JFc c (0+12) (.fn 46) [.loc (gS T),kU,bS (nH T T af (A.h T) s) (kj T T af (A.h T)) (dk T T af (cm s))] S .none _:=J1;rw [gK hT hT] at J1;exact J1
theorem Lz (X:lK c) (rows:HearRows) (hT:T<6) (hh:eU (A.h T)) (q:A.h T=aa o) (a:At T af (WA T af A) S) (hn:492≤S.nx) {PP:Prop} (kk :∀S',JFc c 12 (.fn 47) [.loc (gS T),kU] S .none S'→S'.nx=S.nx→ic S S'→At T af (WA T af (A.hear T aj)) S'→PP):PP:=by
 rw [FM (N:=T)] at a;rw [xi] at kk;rw [q] at a hh;have r:=FI rows hT af;have fN:=CL af hT hT hh [];have fD:=Dv af hT hT hh;have J:=Ctr.at X.X X.F (hT:=hT) (N:=nH T T af (aa o) []) (D:=kj T T af (aa o)) (C:=g8 T af) ⟨fun k=>(fN k).1,fun k=>(fD k).1⟩ (fun k=>(fN k).2) (fun k=>(fD k).2) (om:=om0) (ov:=noOv) (m:=12) (N0:=0)
  (fun μ=>t9 X hT hT hh [] μ) (fun μ b=>xC) r.1 r.2 (B:=vi) (fun b=>rfl) (fun b=>a7 _) (W:=hw T _ _ (WA T af A)) (W':=hw T _ _ (WA T af A)) (FJ (WA T af A) (aa o) [] hT) (FH hT) rfl
  (Lx (WA T af A) (aa o) [] hT _ _) (Ly (WA T af A) (aa o) [] hT _ _) (by
   have e1:=QI (T:=T) (N:=T) (af:=af) (h:=aa o) (m:=[]);have e2:=XC (T:=T) (af:=af) (h:=aa o) (m:=[]) hT;dsimp only [yz] at e1 e2;rw [e1,e2];exact a) hn
 refine B6 J fun J1 J2 J3=>?_;exact kk _ J1 (jp _) J3 J2
end
end
section
section
theorem B69:cF f69=⟨3,8,ae,bK [(qR [3,4] (aD 1)),(qR [5,6,7] (cT (cX (gz (aD 0) 154) (aD 1)) 1 [(aO (.int 0))])),(gv (cT (cX (gz (aD 0) 152) (aD 4)) 164 [(cX (cX (gz (aD 0) 39) (aD 4)) (aD 3)),(aD 5),(aD 6),(aD 7),(aD 2)])),(gv (cT (aD 0) 159 [(aD 4)]))]⟩:=rfl
theorem B70:cF f70=⟨3,4,ae,bK [(iX 3 (cT (aD 0) 163 [])),(xA (d7 0 (bw (aO (.bi 2)) [(aD 3)]) (aO (.int 0))) (bK [(jd (aO (.bool ae)))]) (bK [])),(gv (cT (aD 0) 167 [(cX (aD 3) (gI 4 (aD 1) (bw (aO (.bi 2)) [(aD 3)]))),(aD 2)])),(jd (aO (.bool ac)))]⟩:=rfl
theorem B67:cF f67=⟨1,1,ae,bK [(jd (bw (aO (.bi 3)) [(xY (aD 0) [0] ac 0 [(gz (aD 0) 154)] [(d7 4 (bw (aO (.bi 2)) [(cX (gz (aD 1) 154) (aD 0))]) (aO (.int 0)))] 1 [0])]))]⟩:=rfl
theorem B68:cF f68=⟨1,1,ae,bK [(jd (zy 0 (bw (aO (.bi 2)) [(cT (aD 0) 163 [])]) (aO (.int 0))))]⟩:=rfl
theorem B71:cF f71=⟨4,5,ae,bK [(tZ [4] ac 2 [(gI 0 (aD 2) (aO (.int 1)))] (bK [(xA (vL (lP (cT (aD 0) 169 [(By (d7 2 (aD 4) (bw (aO (.bi 2)) [(aD 1)])) (cX (aD 1) (aD 4)) (aO (.int 0))),(aD 3)]))) (bK [(jd (aD 4))]) (bK []))])),(jd (aO .none))]⟩:=rfl
theorem Z4:cF f100=⟨2,3,ae,bK [(iX 2 (cT (cX (gz (aD 0) 152) (aD 1)) 230 [(aO (.tup [(.int 335544320),(.int 8)]))])),(jd (By (d7 8 (aD 2) (aO .none)) (aO .none) (bw (aO (.bi 6)) [(cT (cX (aD 2) (aO (.int 1))) 0 [(aO (.str 114)),(vW [])])])))]⟩:=rfl
theorem Z3:cF f101=⟨3,4,ae,bK [(iX 3 (ER [((aO (.str 82)),(aO (.int 0))),((aO (.str 70)),(vW [])),((aO (.str 110)),(cX (cX (gz (aD 0) 153) (aD 1)) (aO (.str 63))))])),(xA (d7 1 (aD 2) (n9 [])) (bK [(wq (aD 3) (aO (.str 114)) (bw (aO (.bi 8)) [(aD 2)]))]) (bK [])),(AB 3),(gv (cT (cX (gz (aD 0) 152) (aD 1)) 231 [(aO (.tup [(.int 335544320),(.int 8)])),(aD 3)])),(gv (cT (aD 0) 159 [(aD 1)]))]⟩:=rfl
theorem Z2:cF f102=⟨1,12,ae,bK [(iX 1 (n9 [(bw (aO (.bi 6)) [(Jn (aD 0) 0 (aa 24))]),(aO (.int 0))])),(qR [2,3] (vW [(cX (bw (aO (.fn 94)) []) (bw (aO (.fn 96)) [(aD 1),(aO (.int 6))])),(bw (aO (.fn 96)) [(aD 1),(aO (.int 5))])])),(iX 4 (n9 [(bw (aO (.fn 96)) [(aD 1),(aO (.int 16))])])),(gv (cT (aD 4) 5 [(bw (aO (.fn 96)) [(aD 1),(aO (.int 16))])])),(iX 5 (xY (bw (aO (.bi 3)) [(xY (aD 1) [0,1] ae 1 [(bw (aO (.fn 93)) [])] [(d7 0 (gI 4 (gI 3 (aD 2) (gI 5 (aO (.int 2)) (aD 0))) (aO (.int 2))) (aO (.int 1)))] 2 [0])]) [0] ac 0 [(aD 4)] [] 1 [])),(iX 6 (bw (aO (.fn 97)) [(aD 3)])),(iX 7 (n9 [(bw (aO (.fn 99)) [(aD 2),(cX (aD 5) (aO (.int 0))),(aD 3)]),(bw (aO (.fn 99)) [(aD 2),(cX (aD 5) (aO (.int 1))),(aD 3)])])),(gv (bw (aO (.fn 101)) [(aD 6),(aD 2),(cX (aD 5) (aO (.int 0)))])),(iX 8 (bw (aO (.fn 96)) [(aD 1),(aO (.int 6))])),(tZ [9] ac 2 [(aO (.int 40))] (bK [(xA (d7 0 (aD 9) (aD 8)) (bK [(gv (bw (aO (.fn 101)) [(aD 6),(aD 2),(cX (aD 5) (aO (.int 1)))]))]) (bK [(xA (eO [(vL (lP (cT (aD 6) 169 [(bw (aO (.fn 96)) [(aD 1),(aO (.int 9))]),(aD 9)]))),(d7 4 (aD 9) (aD 8))]) (bK [GJ]) (bK []))])),(tZ [10] ac 0 [(bw (aO (.fn 94)) [])] (bK [(iX 11 (bw (aO (.fn 100)) [(aD 6),(aD 10)])),(xA (eO [(d7 9 (aD 11) (aO .none)),(d7 7 (aD 11) (xY (cX (aD 0) (aD 1)) [0] ac 0 [(aD 7)] [(d7 6 (aD 1) (aD 0))] 1 [10]))]) (bK [(jd (aO (.bool ae)))]) (bK []))]))])),(xA (Go [(vL (lP (cT (aD 6) 242 []))),(d7 1 (bw (aO (.bi 7)) [(xY (vW [(aD 0),(bw (aO (.fn 100)) [(aD 1),(aD 0)])]) [0] ac 0 [(bw (aO (.fn 94)) [])] [(d7 9 (bw (aO (.fn 100)) [(aD 1),(aD 0)]) (aO .none))] 1 [6])]) (cX (aD 7) (aO (.int 1))))]) (bK [(jd (aO (.bool ae)))]) (bK [])),(gv (cT (cX (gz (aD 6) 152) (aD 2)) 243 [(aO (.tup [(.int 335544320),(.int 8)]))])),(gv (cT (aD 6) 159 [(aD 2)])),(jd (zz [(zy 9 (cT (aD 6) 244 [(n9 []),(aO (.int 20)),(aO (.int 50))]) (aO .none)),(zy 0 (xY (aD 0) [0] ac 0 [(bw (aO (.fn 94)) [])] [(d7 9 (bw (aO (.fn 100)) [(aD 1),(aD 0)]) (aO .none))] 1 [6]) (n9 []))]))]⟩:=rfl
theorem B96:cF f96=⟨2,2,ae,bK [(wq (aD 0) (aO (.int 1)) (gI 0 (cX (aD 0) (aO (.int 1))) (aO (.int 1)))),(xA (d7 3 (cX (aD 0) (aO (.int 1))) (bw (aO (.bi 2)) [(cX (aD 0) (aO (.int 0)))])) (bK [(jd (gI 4 (bw (aO (.bi 5)) [(cX (cX (aD 0) (aO (.int 0))) (gI 1 (cX (aD 0) (aO (.int 1))) (aO (.int 1))))]) (aD 1)))]) (bK [])),(jd (gI 4 (gI 0 (gI 2 (aO (.int 14)) (cX (aD 0) (aO (.int 1)))) (gI 3 (cX (aD 0) (aO (.int 1))) (aO (.int 3)))) (aD 1)))]⟩:=rfl
variable {om:Om} {ov:Ov} {m:Nat}
noncomputable def Z8:List (Nat×AV):=[(152,.loc 14),(153,.loc 15),(39,.loc 16),(154,.loc 17)]
theorem MD (h:S.get q=aa (.list ae aj (x::rest) po)) (hs:sm rest=ac):ub q 1 [.int 0] S=aa (x,S.put q (.list ae aj rest po)):=by
 refine (congrArg (fun o=>ob o fun o=>SF o fun ro ii l post=>gd (!ro) (Qk q ii l post 1 [.int 0] S)) h).trans ?_;show gd (sm rest) _=_;erw[hs];rfl
end
noncomputable def uJ (f:Nat→Mk) (a:Nat):Nat→List Mk
 |0=>[]
 |b+1=>(match bX a b with|true=>uJ f a b++(match decide (f (b+1)=f b) with|true=>[]|false=>[f (b+1)])|false=>[])
section
variable {f:Nat→Mk} {a b c:Nat}
theorem kK (h:a≤b):uJ f a (b+1)=uJ f a b++(match decide (f (b+1)=f b) with|true=>[]|false=>[f (b+1)]):=by
 show (match bX a b with|true=>_|false=>_)=_
 rw [fw h]
theorem sO (h:b≤a):uJ f a b=[]:=by
 cases b with
 |zero=>rfl
 |succ b=>
  show (match bX a b with|true=>_|false=>_)=_
  cases q:bX a b with
  |true=>exact absurd (az q) (Nat.not_le_of_lt h)
  |false=>rfl
theorem O8 (h:a≤b):(uJ f a b).length≤b-a:=by
 induction b with
 |zero=>exact a7 _
 |succ b ih=>
  rcases kg h with h|h
  ·have h:=fH h;erw[kK h,bf];have:=ih h;cases decide (f (b+1)=f b)<;>simp<;>omega
  ·erw[sO (iH h.symm)];exact a7 _
theorem Dx (h:a≤b) (e:uJ f a b=[]):f b=f a:=by
 induction b with
 |zero=>rw [Nat.le_zero.mp h]
 |succ b ih=>
  rcases kg h with h|h
  ·have h:=fH h;rw [kK h] at e;have e:=Am.mp e;cases q:decide (f (b+1)=f b) with
   |true=>exact (of_decide_eq_true q).trans (ih h e.1)
   |false=>rw [q] at e;exact nomatch e.2
  ·rw [h]
theorem J8 (h:a≤b) (hc:b<c) (st :∀i,b≤i→i<c→f i=f b):uJ f a c=uJ f a b++(match decide (f c=f b) with|true=>[]|false=>[f c]):=by
 induction c with
 |zero=>exact absurd hc (d6 _)
 |succ c ih=>
  have hb:=fH hc;rw [kK (aB h hb),st c hb (a8 c)];refine congrArg (·++_) ?_;rcases kg hb with hb|hb
  ·rw [ih hb fun i x y=>st i x (dq y),st c (iG hb) (a8 c),decide_eq_true rfl];exact cf _
  ·rw [hb]
theorem O6 (h:a≤b) (e:uJ f a b=x::r):∃c,a<c∧c≤b∧x=f c∧f c≠f a∧(∀i,a≤i→i<c→f i=f a)∧r=uJ f c b:=by
 induction b generalizing r with
 |zero=>exact nomatch e
 |succ b ih=>
  rcases kg h with h|h
  ·have h:=fH h;rw [kK h] at e;cases q:uJ f a b with
   |nil=>
    rw [q] at e;have st :∀i,a≤i→i≤b→f i=f a:=fun i hi hb=>by
     have :∀n,uJ f a (i+n)=[]→uJ f a i=[]:=fun n=>by
      induction n with
      |zero=>exact id
      |succ n ih=>intro z;rw [← Ab,kK (aB hi (gD ..))] at z;exact ih (Am.mp z).1
     exact Dx hi (this (b-i) (by rw [Fu hb];exact q))
    cases z:decide (f (b+1)=f b) with
    |true=>rw [z] at e;exact nomatch e
    |false=>
     rw [z] at e;injection e with e1 e2
     refine ⟨b+1,Nat.lt_succ_of_le h,aY _,e1.symm,fun w=>of_decide_eq_false z (w.trans (st b h (aY _)).symm),fun i hi hc=>st i hi (fH hc),?_⟩;rw [sO (aY _)];exact e2.symm
   |cons y l=>
    rw [q] at e;injection e with e1 e2
    subst e1;refine Z7 (ih h q) fun c h1 h2 h3 h4 h5 h6=>?_;refine ⟨c,h1,Lf h2,h3,h4,h5,?_⟩;rw [kK h2,← h6];exact e2.symm
  ·rw [sO (iH h.symm)] at e;exact nomatch e
end
end
section
open PySem PySem.W PyProof.Rows PySem.Calls
section
def vl (T af:Nat) (a b:List Int) (N i:Nat):Mk:=match i with|1=>cK T af a 6 N|2=>cK T af b 6 N|_=>aj
def ZX:Bool:=masks.all fun m=>masks.any (fun x=>decide (x=Pp m))&&masks.any (fun x=>decide (x=m.filter fun x=>!decide (x=4294967041)))
theorem DB {l:List (List Int)} (h:l.any (fun x=>decide (x=y))=ac):y∈l:=by
 refine cg (cZ.mp h) fun x hx e=>?_;refine (of_decide_eq_true e)▸?_;exact hx
theorem DH {m:List Int} (h:m∈masks):Pp m∈masks∧(m.filter fun x=>!decide (x=4294967041))∈masks:=by
 have:=eS (ai.mp (by decide +kernel:ZX=ac) m h);exact ⟨DB this.1,DB this.2⟩
theorem mR (h:m∈masks):eU (aa m):=fun l e=>ao e▸h
theorem lh:eU aj:=fun l e=>no e
theorem E3 (h:m∈masks):eU (BR af m):=by
 unfold BR
 split
 ·exact mR h
 ·exact mR (DH h).1
 ·exact mR (DH h).2
 ·exact mR (.head _)
 ·exact lh
theorem Dp (h:m∈masks):eU (x0 T af N k m):=by
 unfold x0
 split
 ·exact lh
 ·split
  ·exact lh
  ·split
   ·exact E3 h
   ·exact mR h
theorem QO {T af N k:Nat} (hh:eU h):eU (dM T af N k h):=by
 cases h with
 |none=>exact lh
 |some m=>exact Dp (hh m rfl)
theorem wE (h:m∈masks) (n:Nat):∀N,eU (cK T af m n N):=by
 induction n with
 |zero=>exact fun N=>lh
 |succ n ih=>
  intro N;unfold cK
  split
  ·exact mR h
  ·split
   ·rename_i s e;exact Dp (ih _ s e)
   ·exact lh
section
variable {T af:Nat} {a b:List Int} (hT:T<6) (ha:a∈masks) (hb:b∈masks)
include ha hb in
theorem lI (N i:Nat):eU (vl T af a b N i):=by
 unfold vl
 split
 ·exact wE ha 6 N
 ·exact wE hb 6 N
 ·exact lh
include hT
theorem VT:vl T af a b T 1=aa a∧vl T af a b T 2=aa b:=
 ⟨eL (F:=fun T=>vl T af a b T 1) (G:=fun c=>aa a) (by kernel_rfl) (m6 hT),eL (F:=fun T=>vl T af a b T 2) (G:=fun c=>aa b) (by kernel_rfl) (m6 hT)⟩
theorem wD (hN:N<6) (hC:C<6) (h:kh T N C=aa k):cK T af m 6 C=dM T af N k (cK T af m 6 N):=
 (eL (F:=fun p:Nat×Nat×Nat×Nat=>cK p.1 af m 6 p.2.2.1) (G:=fun p=>dM p.1 af p.2.1 p.2.2.2 (cK p.1 af m 6 p.2.1)) (by kernel_rfl) (SV hT hN hC h):)
theorem jQ {N C k:Nat} (i:Nat) (hN:N<6) (hC:C<6) (h:kh T N C=aa k):vl T af a b C i=dM T af N k (vl T af a b N i):=by
 unfold vl
 split
 ·exact wD hT hN hC h
 ·exact wD hT hN hC h
 ·rfl
end
def P1 (T:Nat) (f:Nat→Nat→Mk) (ph:Nat→Nat) (C:Nat):Mk:=match bn T C with|some k=>f C (ph (nb C k))|none=>aj
def sr (T:Nat) (f:Nat→Nat→Mk) (ph:Nat→Nat) (C:Nat):List Mk:=match bn T C with|some k=>uJ (f C) (ph C) (ph (nb C k))|none=>[]
def PA (T:Nat) (f:Nat→Nat→Mk) (ph:Nat→Nat):AS:=⟨fun N=>f N (ph N),P1 T f ph,sr T f ph⟩
def PB (T:Nat) (f:Nat→Nat→Mk) (ph:Nat→Nat) (N c:Nat):AS:=⟨cw N (f N c) fun N=>f N (ph N),P1 T f ph,cw N (match bn T N with|some k=>uJ (f N) c (ph (nb N k))|none=>[]) (sr T f ph)⟩
theorem cV {α:Type} {N:Nat} {x:α} {f:Nat→α}:cw N x f N=x:=by unfold cw;exact au (cp ..)▸rfl
theorem cy {α:Type} {N C:Nat} {x:α} {f:Nat→α} (h:C≠N):cw N x f C=f C:=by
 unfold cw;cases q:ay C N with
 |true=>exact absurd (am q) h
 |false=>rfl
structure v5 (T:Nat) (ph:Nat→Nat):Prop where
 le :∀N,N<6→ph N≤3
 mono :∀N k,N<6→bn T N=aa k→ph N≤ph (nb N k)
theorem sB {T N C k:Nat} (h:kh T N C=aa k):∃j,bn T C=aa j∧nb C j=N:=by
 unfold kh at h
 split at h
 ·rename_i j e
  split at h
  ·rename_i q;exact ⟨j,e,am q⟩
  ·exact no h
 ·exact no h
theorem uj {T N C j:Nat} (h:kh T N C=aj) (e:bn T C=aa j):nb C j≠N:=fun z=>by
 unfold kh at h;rw [e] at h;dsimp only at h;replace h:=(cp ..)▸(z ..)▸h;exact nomatch h
theorem HH {T N C k:Nat} (hT:T<6) (hN:N<6) (hC:C<6) (h:kh T N C=aa k):C≠N:=fun z=>by
 have b:=aR (aL (Qr hT hN hC h));replace b:=(cp ..)▸(z ..)▸b;exact ff b
theorem MW {T C af:Nat} {t d:Mk}:AU T C af t d=(match decide (d=t) with|true=>[]|false=>[d]).map (fJ T C af):=by
 unfold AU oc;cases t with
 |none=>cases d<;>rfl
 |some a=>
  cases d with
  |none=>rfl
  |some b=>
   dsimp only;cases q:decide (a=b) with
   |true=>rw [of_decide_eq_true q,decide_eq_true rfl];rfl
   |false=>rw [decide_eq_false fun z=>of_decide_eq_false q (ao z).symm];rfl
theorem BG {f:Nat→Mk} {a b:Nat}:(uJ f a b).length≤b:=by
 rcases Nat.le_total a b with h|h
 ·exact aB (O8 h) (Nat.sub_le ..)
 ·erw[sO h];exact a7 _
theorem O7 {f:Nat→Mk} {a b:Nat} {x:Mk} (h:x∈uJ f a b):∃i,x=f i:=by
 induction b with
 |zero=>exact nomatch h
 |succ b ih=>
  unfold uJ at h
  split at h
  ·rcases d3.mp h with h|h
   ·exact ih h
   ·split at h
    ·exact nomatch h
    ·exact ⟨_,aS.mp h⟩
  ·exact nomatch h
theorem SS {T C af:Nat} (hT:T<6) (hC:C<6) {m:Mk} (h:eU m):uV 0 (fJ T C af m)=ac:=by
 cases m with
 |none=>rfl
 |some s=>
  have:=(zn (af:=af) hT hC (h s rfl)).1.2;show (uV 0 (.tup [])&&(uV 0 (dH T C af s)&&(uV 0 (.tup [kU])&&ac)))=ac;erw[this];rfl
section
variable {T N af c:Nat} {a b:List Int} {ph:Nat→Nat} (hT:T<6) (hN:N<6) (ha:a∈masks) (hb:b∈masks)
include hT hN ha hb in
theorem Cm {cx:Cx} (X:lK cx) (rows:DueRows) (trows:TellRows) (hdo:af<5) (P:v5 T ph) (hc:ph N<c) (st :∀i,ph N≤i→i<c→vl T af a b N i=vl T af a b N (ph N)) (hc3:c≤3) {S:St} (A:At T af (WA T af (PB T (vl T af a b) ph N c)) S) (hn:492≤S.nx) {PP:Prop} (kk :∀n S',JFc cx 24 (.fn 66) [.loc 13,nam N] S (.int n) S'→S'.nx=S.nx→ic S S'→At T af (WA T af (PA T (vl T af a b) (cw N c ph))) S'→PP):PP:=by
 let f:=vl T af a b
 let q:Nat→List AV:=fun C=>match aF C 6 with|true=>((PB T f ph N c).q C).map (fJ T C af)|false=>[]
 have hq :∀C,uL 0 (q C)=ac∧(q C).length≤999:=fun C=>by
  show uL 0 (match aF C 6 with|true=>((PB T f ph N c).q C).map (fJ T C af)|false=>[])=ac∧(match aF C 6 with|true=>((PB T f ph N c).q C).map (fJ T C af)|false=>[]).length≤999
  cases hC:aF C 6 with
  |false=>exact ⟨rfl,a7 _⟩
  |true=>
   have hC:=aG.mp hC;have g :∀u v,v≤3→uL 0 ((uJ (f C) u v).map (fJ T C af))=ac∧((uJ (f C) u v).map (fJ T C af)).length≤999:=fun u v hv=>by
    refine ⟨?_,by rw [a9];exact aB (aB BG hv) (by decide)⟩;have :∀l:List Mk,(∀x∈l,eU x)→uL 0 (l.map (fJ T C af))=ac:=fun l=>by
     induction l with
     |nil=>exact fun o=>rfl
     |cons x l ih=>exact fun h=>v4 (SS hT hC (h x (.head _))) (ih fun y hy=>h y (.tail _ hy))
    refine this _ fun x hx=>?_;refine VF (O7 hx) fun i=>?_;exact lI ha hb C i
   dsimp only;have z :∀k:Nat,nb C k<6→ph (nb C k)≤3:=fun k h=>P.le _ h
   by_cases e:C=N
   ·apply Q_ e;rw [show (PB T f ph C c).q C=_ from cV];cases h:bn T C with
    |none=>exact ⟨rfl,a7 _⟩
    |some k=>exact g _ _ (z k lJ)
   ·rw [show (PB T f ph N c).q C=sr T f ph C from cy e];unfold sr;cases h:bn T C with
    |none=>exact ⟨rfl,a7 _⟩
    |some k=>exact g _ _ (z k lJ)
 have q6 :∀C,C<6→q C=((PB T f ph N c).q C).map (fJ T C af):=fun C hC=>by
  show (match aF C 6 with|true=>((PB T f ph N c).q C).map (fJ T C af)|false=>[])=_
  rw [aG.mpr hC]
 have hN':(PB T f ph N c).h N=f N c:=by show cw N (f N c) (fun N=>f N (ph N)) N=_;exact cV
 refine LV X rows trows hT hN hdo (h:=f N c) (lI ha hb N c) (t:=fun k=>dM T af N k (f N (ph N))) (d:=fun k=>dM T af N k (f N c))
  (fun k=>QO (lI ha hb N _)) (fun k=>QO (lI ha hb N _)) (fun k o=>rfl) (fun p hp=>by
   have :∀h:Mk,dM T af N p h=aj:=fun h=>by
    cases h with
    |none=>rfl
    |some m=>show x0 T af N p m=aj;unfold x0;rw [if_pos hp]
   exact ⟨this _,this _⟩) hq A hn (by show cA T N af ((PB T f ph N c).h N)=_;rw [hN']) (fun C k hC hk=>by
   refine cg (sB hk) fun j e1 e2=>?_;refine ⟨?_,?_⟩
   ·show tA T C af (P1 T f ph C)=_;unfold P1;rw [e1];dsimp only;rw [e2];exact congrArg _ (jQ hT _ hN hC hk)
   ·show qA (((PB T f ph N c).q C).map (fJ T C af))=qA (q C);rw [q6 C hC]) fun n S' J h1 h2 h3=>?_
 refine kk n S' J h1 h2 (h3.congr (kL fun C hC=>?_));have hh:(PB T f ph N c).h C=f C (cw N c ph C):=by
  show cw N (f N c) (fun N=>f N (ph N)) C=_
  by_cases e:C=N
  ·rw [e,cV,cV]
  ·rw [cy e,cy e]
 refine ⟨congrArg (cA T C af) hh,congrArg (rA T C af) hh,?_,?_⟩
 ·show (match kh T N C with|some k=>tA T C af (dM T af N k (f N c))|none=>tA T C af (P1 T f ph C))=tA T C af (P1 T f (cw N c ph) C);cases hk:kh T N C with
  |some k=>
   refine cg (sB hk) fun j e1 e2=>?_;dsimp only;refine congrArg _ ?_;unfold P1;rw [e1];dsimp only;rw [e2,cV];exact (jQ hT c hN hC hk).symm
  |none=>
   dsimp only;refine congrArg _ ?_;unfold P1;cases e:bn T C with
   |none=>rfl
   |some j=>
    dsimp only;rw [cy (uj hk e)]
 ·show (match kh T N C with|some k=>qA (q C++AU T C af (dM T af N k (f N (ph N))) (dM T af N k (f N c)))|none=>qA (((PB T f ph N c).q C).map (fJ T C af)))=qA ((sr T f (cw N c ph) C).map (fJ T C af));cases hk:kh T N C with
  |some k=>
   refine cg (sB hk) fun j e1 e2=>?_;have ne:=HH hT hN hC hk;dsimp only;rw [q6 C hC,MW,← PL];refine congrArg (fun l:List Mk=>qA (l.map (fJ T C af))) ?_;show cw N _ (sr T f ph) C++_=_;rw [cy ne];unfold sr;rw [e1];dsimp only;rw [e2,cV,cy ne];have le:=P.mono C j hC e1;rw [e2] at le;rw [J8 (c:=c) le hc fun i h1 h2=>?_]
   ·rw [← jQ (a:=a) (b:=b) (af:=af) hT _ hN hC hk,← jQ (a:=a) (b:=b) (af:=af) hT _ hN hC hk];try rfl
   ·show vl T af a b C i=vl T af a b C (ph N);rw [jQ hT _ hN hC hk,jQ hT _ hN hC hk,st i h1 h2]
  |none=>
   dsimp only;refine congrArg (fun l:List Mk=>qA (l.map (fJ T C af))) ?_;show cw N _ (sr T f ph) C=_
   by_cases e:C=N
   ·subst e;rw [cV];unfold sr;cases e:bn T C with
    |none=>rfl
    |some j=>
     dsimp only;rw [cV,cy (uj hk e)]
   ·rw [cy e];unfold sr;cases e':bn T C with
    |none=>rfl
    |some j=>
     dsimp only;rw [cy e,cy (uj hk e')]
end
end
section
def pB (p:Prop):Bool:=@decide p (c_ p)
theorem rL {p:Prop} (h:p):pB p=ac:=@decide_eq_true p (c_ p) h
theorem CA {p:Prop} (h:pB p=ac):p:=@of_decide_eq_true p (c_ p) h
def gJ (c:Cx) (N0 j:Nat) (args:List AV) (S:St) (k:KV):Bool:=pB (∃v S',JFc c N0 (.fn j) args S v S'∧k v S'=ac)
def yy (c:Cx) (N0:Nat) (js:List Nat):Ov:=fun j=>match cJ j js with|true=>aa (gJ c N0 j)|false=>aj
structure Bs (c:Cx):Prop where
 P:lK c
 O:nk c om0
section
variable {c:Cx} {N0 m j:Nat} {js:List Nat} {args:List AV} {S:St} {k:KV}
theorem Sz (h:cJ j js=ac):yy c N0 js j=aa (gJ c N0 j):=by unfold yy;exact au h▸rfl
theorem Zz {v:AV} {S':St} (J:JFc c N0 (.fn j) args S v S') (q:k v S'=ac):gJ c N0 j args S k=ac:=rL ⟨v,S',J,q⟩
theorem c_J {om:Om} {ms:Nat→List (Nat×Nat)} {tab:TR CF} {v:AV} {S':St} (h:cJ j js=ac) (J:JFc c N0 (.fn j) args S v S') (q:k v S'=ac):nJ om ms (yy c N0 js) tab (m+1) (.fn j) args S k=ac:=ZT (Sz h) (Zz J q)
def xL (js:List Nat):Bool:=js.all fun j=>(tabC.get j).isSome
theorem GY (B:Bs c) (hk:xL js=ac):Fa c N0 (yy c N0 js):=fun j g e=>by
 unfold yy at e
 split at e
 ·rename_i h;apply gF e;have:=ai.mp hk j (gx h);cases q:tabC.get j with
  |none=>replace this:=q▸this;exact ff this
  |some F=>exact ⟨B.P.X.pk.keepF j F q,fun args S k e=>have ⟨v,S',J,q⟩:=CA e;⟨v,S',J,q⟩⟩
 ·exact no e
theorem Cq (B:Bs c) (hk:xL js=ac) {P:AV→St→Prop} (e:nJ om0 meths (yy c N0 js) tabC m (.fn j) args S (fun v S'=>pB (P v S'))=ac) {PP:Prop} (kk :∀v S',JFc c (N0+m) (.fn j) args S v S'→P v S'→PP):PP:=
 ((xz B.P.X.pk B.O (GY B hk) m) _ _ _ _ e).2.on fun v S' J q=>kk v S' J (CA q)
theorem t0 (B:Bs c) (hk:xL js=ac) (e:nJ om0 meths (yy c N0 js) tabC m (.fn j) args S (fun v S'=>pB (v=v0∧S'=S0))=ac):JFc c (N0+m) (.fn j) args S v0 S0:=
 ((xz B.P.X.pk B.O (GY B hk) m) _ _ _ _ e).2.on fun v S' J q=>(CA q).1▸(CA q).2▸J
end
def Vf:List Nat:=[0,1,2,3,4,5].flatMap fun N=>[gS N+7,gS N+5]++([0,1,2].flatMap fun k=>match aF k (x4 N) with|true=>[U8 N (k+1),GZ N (k+1),fW N (k+1)]|false=>[])
theorem O_ (hT:T<6) (W:WS):(gQ T W).all (fun p=>cJ p.1 Vf)=ac:=(eL (F:=fun T=>(gQ T W).all fun p=>cJ p.1 Vf) (G:=fun a=>ac) (by kernel_rfl) (m6 hT):)
section
variable {T N C af k:Nat} {W:WS} {A:AS} {S:St} (hT:T<6) (hN:N<6)
include hT in
theorem Lv (h:cJ j Vf=ae):jK T af W j=base af j:=by
 unfold jK;cases e:j5 j (gQ T W) with
 |none=>rfl
 |some o=>
  have:=ai.mp (O_ hT W) _ (hY e);dsimp only at this;rw [h] at this;exact ff this
include hT in
theorem w6 (a:At T af W S) (h1:cJ j bN=ac) (h2:cJ j Vf=ae) (e:base af j=o):S.get j=aa o:=by exact au (a j h1)▸au (Lv hT h2)▸au e▸rfl
noncomputable def ZM:List (AV×AV):=[(.str 12,.loc 25),(.str 10,.loc 40),(.str 8,.loc 55),(.str 7,.loc 90),(.str 9,.loc 123),(.str 11,.loc 156)]
noncomputable def ZL:List (AV×AV):=[(.str 12,.loc 20),(.str 10,.loc 35),(.str 8,.loc 50),(.str 7,.loc 85),(.str 9,.loc 118),(.str 11,.loc 151)]
noncomputable def ZK:List (AV×AV):=[(.str 12,.loc 34),(.str 10,.loc 49),(.str 8,.loc 84),(.str 7,.loc 117),(.str 9,.loc 150),(.str 11,.loc 165)]
noncomputable def JQ:List (AV×AV):=[(.tup [.str 12,.str 10],.loc 178),(.tup [.str 10,.str 12],.loc 187),(.tup [.str 10,.str 8],.loc 228),(.tup [.str 8,.str 10],.loc 237),(.tup [.str 8,.str 7],.loc 290),(.tup [.str 7,.str 8],.loc 299),(.tup [.str 8,.str 9],.loc 352),(.tup [.str 9,.str 8],.loc 361),(.tup [.str 9,.str 11],.loc 426),(.tup [.str 11,.str 9],.loc 435)]
section
variable (a:At T af W S)
include hT a
theorem zl:S.get 13=aa (.inst 4 Z8):=w6 hT a rfl rfl rfl
theorem g14:S.get 14=aa (.dict ae 0 ZM):=w6 hT a rfl rfl rfl
theorem g15:S.get 15=aa (.dict ae 0 ZL):=w6 hT a rfl rfl rfl
theorem g16:S.get 16=aa (.dict ae 0 ZK):=w6 hT a rfl rfl rfl
theorem g17:S.get 17=aa (.dict ae 3 JQ):=w6 hT a rfl rfl rfl
end
theorem ml (hN:N<6):pe 0 (nam N)=ac∧bD (nam N) ZM=aa (.loc (gS N))∧bD (nam N) ZK=aa (.loc (U9 N)):=
 ⟨eL (F:=fun N=>pe 0 (nam N)) (G:=fun a=>ac) (by kernel_rfl) (m6 hN),eL (F:=fun N=>bD (nam N) ZM) (G:=fun N=>aa (.loc (gS N))) (by kernel_rfl) (m6 hN),eL (F:=fun N=>bD (nam N) ZK) (G:=fun N=>aa (.loc (U9 N))) (by kernel_rfl) (m6 hN)⟩
noncomputable def EZ (N:Nat):Nat:=match N with|2=>5|_=>3
def Vd (N:Nat):List (Nat×AV):=match base 0 (gS N) with|.inst _ fs=>fs|_=>[]
include hT in
theorem Kq {f:Nat→Nat} {o:Nat→AO} (a:At T af W S) (h:(n6.all fun N=>cJ (f N) bN&&!cJ (f N) Vf)=ac) (e:YG (fun N=>base af (f N)) n6=YE o n6) (hN:N<6):S.get (f N)=aa (o N):=by
 have h:=eS (ai.mp h N (m6 hN));refine w6 hT a h.1 ?_ (eL e (m6 hN));cases q:cJ (f N) Vf with
 |false=>rfl
 |true=>have:=h.2;replace this:=q▸this;exact ff this
include hT in
theorem xx (hN:N<6) (a:At T af W S):S.get (gS N)=aa (.inst (EZ N) (Vd N)):=Kq (f:=gS) (o:=fun N=>.inst (EZ N) (Vd N)) hT a (by decide +kernel) (by kernel_rfl) hN
theorem x9 (hN:N<6):aF (EZ N) j4=ac:=(eL (F:=fun N=>aF (EZ N) j4) (G:=fun a=>ac) (by kernel_rfl) (m6 hN):)
theorem T2 (hN:N<6):im 134 (Vd N)=aa (.loc (gS N+7)):=(eL (F:=fun N=>im 134 (Vd N)) (G:=fun N=>aa (.loc (gS N+7))) (by kernel_rfl) (m6 hN):)
theorem NV (nm f:Nat) (e:YG (fun N=>(t_ nm (Vd N),jS nm (meths (EZ N)))) n6=YE (fun a=>(ac,aa f)) n6) (hN:N<6):t_ nm (Vd N)=ac∧jS nm (meths (EZ N))=aa f:=
 have h:=eL e (m6 hN)
 ⟨congrArg fX h,congrArg w_ h⟩
include hT in
theorem Ux (hN:N<6) (a:At T af W S):S.get (gS N+7)=aa (W.cho N):=
 (a _ (eL (F:=fun N=>cJ (gS N+7) bN) (G:=fun b=>ac) (by kernel_rfl) (m6 hN))).trans (congrArg aa (eL (F:=fun p:Nat×Nat=>jK p.1 af W (gS p.2+7)) (G:=fun p=>W.cho p.2) (by kernel_rfl) (SZ hT hN)))
def nA (P C:Nat):Nat:=fW P (ww P C)
include hT in
theorem GQ (hN:N<6) (hk:bn T N=aa k) (a:At T af W S):S.get (nA (nb N k) N)=aa (W.qu N):=
 (a _ (eL (F:=fun p:Nat×Nat×Nat=>cJ (nA (nb p.2.1 p.2.2) p.2.1) bN) (G:=fun b=>ac) (by kernel_rfl) (CQ hT hN hk))).trans (congrArg aa (eL (F:=fun p:Nat×Nat×Nat=>jK p.1 af W (nA (nb p.2.1 p.2.2) p.2.1)) (G:=fun p=>W.qu p.2.1) (by kernel_rfl) (CQ hT hN hk)))
include hT in
theorem Pe (hN:N<6) (hk:bn T N=aa k) (a:At T af W S):S.get (fW N k)=aa (qA []):=
 (a _ (eL (F:=fun p:Nat×Nat×Nat=>cJ (fW p.2.1 p.2.2) bN) (G:=fun b=>ac) (by kernel_rfl) (CQ hT hN hk))).trans (congrArg aa (eL (F:=fun p:Nat×Nat×Nat=>jK p.1 af W (fW p.2.1 p.2.2)) (G:=fun b=>qA []) (by kernel_rfl) (CQ hT hN hk)))
def Y7 (P C:Nat):AV:=.tup [nam P,nam C]
def MR (N:Nat):List (AV×AV):=match base 0 (U9 N) with|.dict _ _ l=>l|_=>[]
include hT in
theorem SH (hN:N<6) (a:At T af W S):S.get (U9 N)=aa (.dict ae 0 (MR N)):=Kq (f:=U9) (o:=fun N=>.dict ae 0 (MR N)) hT a (by decide +kernel) (by kernel_rfl) hN
include hT in
theorem WU (hN:N<6) (hk:bn T N=aa k):bD (nam (nb N k)) (MR N)=aa (.int (aw k)):=
 (eL (F:=fun p:Nat×Nat×Nat=>bD (nam (nb p.2.1 p.2.2)) (MR p.2.1)) (G:=fun p=>aa (.int (aw p.2.2))) (by kernel_rfl) (CQ hT hN hk):)
end
section
variable {rc:Rc} {fr:Fr} {S:St} {kv:KV} {i:Nat} {T N af:Nat} {W:WS}
theorem FC (hT:T<6) (hN:N<6) (a:At T af W S) (h0:bc fr s=aa (aa (.loc 13))) (hi:bc fr i=aa (aa (nam N))) (q:kv (.loc (gS N)) S=ac):cX (gz (aD s) 152) (aD i) rc fr S kv=ac:=
 ee (l_ (aW h0 (bH (jV (x:=.loc 14) (zl hT a) rfl rfl rfl) (aW hi (bg (mv (g14 hT a) (ml hN).1 (ml hN).2.1) q)))))
end
end
section
theorem B50:cF f50=⟨2,2,ae,bK [(jd (cT (gz (aD 0) 134) 0 [(aD 1)]))]⟩:=rfl
section
variable {S:St} {j:Nat} {args:List AV} {r:AV×St}
theorem wA (h:S.get j=aa (.dict ro d l)) (q:xG (d,l) args S=aa r):wC j 0 args S=aa r:=by
 unfold wC;erw[h];exact q
end
theorem NU:xG (2,[(kU,v)]) [kU] S=aa (v,S):=rfl
theorem get_nil:xG (9,[]) [kU] S=aa (.none,S):=rfl
theorem ud {m:List Int} (h:m∈masks):sm (m.map AV.int)=ac:=ai.mp (by decide +kernel:(masks.all fun m=>sm (m.map AV.int))=ac) m h
noncomputable def hV (S:St) (m:Mk):AV:=match m with|none=>.none|some _=>.loc S.nx
noncomputable def lO (m:List Int):AO:=.list ae aj (m.map AV.int) aj
def hS (S:St) (m:Mk):St:=match m with|none=>S|some l=>S.new (lO l)
theorem Zk (q:dU es rc fr S (fun vs S=>o2 (CO d l nm vs S) k)=ac):wz rc nm es fr k (.fd d l) S=ac:=q
section
variable {T N af:Nat} {A:AS} {S:St} {ov:Ov} {m:Nat} {k:KV} (hT:T<6) (hN:N<6)
theorem O2 {T N af:Nat} (hT:T<6) (hN:N<6) {m:List Int} {S:St}:xG (0,nM T N af m) [.str 114,.tup []] S=aa (.tup (m.map AV.int),S):=by
 cases m with
 |nil=>exact eL (F:=fun p:Nat×Nat×Nat=>xG (0,nM p.1 p.2.1 p.2.2 []) [.str 114,.tup []] S) (G:=fun a=>aa (.tup [],S)) (by kernel_rfl) (yA hT hN)
 |cons x m=>exact eL (F:=fun p:Nat×Nat×Nat=>xG (0,nM p.1 p.2.1 p.2.2 (x::m)) [.str 114,.tup []] S) (G:=fun a=>aa (.tup ((x::m).map AV.int),S)) (by kernel_rfl) (yA hT hN)
theorem Ct {m:List Int} {S:St}:pF (i8 T N af m) (.int 1) S=aa (dH T N af m)∧qx om0 8 (i8 T N af m) .none S=aa ae:=by
 unfold i8;cases bn T N<;>exact ⟨rfl,rfl⟩
theorem Kg {A:AS} (hT:T<6) (hN:N<6) (a:At T af (WA T af A) S) (h50:ov 50=aj) (h0:bc fr 0=aa (aa (.loc 13))) (h1:bc fr 1=aa (aa (nam N)))
 (q:k (match A.h N with|none=>.none|some l=>i8 T N af l) S=ac):cT (cX (gz (aD 0) 152) (aD 1)) 230 [(aO (.tup [(.int 335544320),(.int 8)]))] ⟨om0,meths,nJ om0 meths ov tabC (m+1)⟩ fr S k=ac:=by
 have sp:=xx hT hN a;have sf:=NV 230 50 (by kernel_rfl) hN;have cl:=x9 hN;refine eN (FC hT hN a h0 h1 (hX sp cl sf.1 sf.2 (aT (bk (bB ?_)))));have c:=Ux hT hN a;refine v3 h50 rfl B50 rfl rfl (gN (nz (eN (l_ (aW rfl (bH (jV sp cl (T2 hN) rfl) ?_))))));have c:S.get (gS N+7)=aa (cA T N af (A.h N)):=c;cases e:A.h N with
 |none=>rw [e] at c q;exact Hr c (aT (aW rfl (bB (bH (wA c get_nil) q))))
 |some l=>rw [e] at c q;exact Hr c (aT (aW rfl (bB (bH (wA c NU) q))))
include hT hN in
theorem Ii (a:At T af (WA T af A) S) (ok:eU (A.h N)) (h100:ov 100=aj) (h50:ov 50=aj) (q:k (hV S (A.h N)) (hS S (A.h N))=ac):nJ om0 meths ov tabC (m+2) (.fn 100) [.loc 13,nam N] S k=ac:=by
 refine v3 h100 rfl Z4 rfl rfl (du (mi (Kg hT hN a h50 rfl rfl (gN (nz (PU (gL (aW rfl (bk ?_)))))))));cases e:A.h N with
 |none=>rw [e] at q;exact bg rfl (mz rfl (bk q))
 |some l=>
  rw [e] at q;have hn:E9 6 [.tup (l.map AV.int)] S=aa (.loc S.nx,S.new (lO l)):=by
   show ob (aa (l.map AV.int,aj)) (fun p=>gU p.1 S)=_;unfold ob gU;dsimp only;rw [ud (ok l e)];rfl
  exact bg Ct.2<|kM rfl<|dt<|bk<|aT<|eN<|ee<|aW rfl<|bk<|bg Ct.1<|Zk<|aT<|bk<|aT<|B7<|bB<|bH rfl<|bB<|bH (O2 hT hN)<|bB<|pC<|bH hn q
end
end
section
theorem fp {S:St}:(S.put j o).get j=aa o:=by rw [St.get_put];exact bo ..
theorem bF {S:St} (h:i≠j):(S.put j o).get i=S.get i:=by rw [St.get_put];exact bA _ _ h
theorem ck {S:St}:(S.new o).get S.nx=aa o:=by rw [St.get_new];exact bo ..
theorem b0 {S:St} (h:i<S.nx):(S.new o).get i=S.get i:=by rw [St.get_new];exact bA _ _ (bv h)
theorem Bo (B:Bs c) (hT:T<6) (hN:N<6) (a:At T af (WA T af A) S) (ok:eU (A.h N)):JFc c 2 (.fn 100) [.loc 13,nam N] S (hV S (A.h N)) (hS S (A.h N)):=by
 have J:=t0 (js:=[]) (N0:=0) (m:=2) (v0:=hV S (A.h N)) (S0:=hS S (A.h N)) B rfl (Ii hT hN a ok rfl rfl (rL ⟨rfl,rfl⟩));exact J
noncomputable def bO (s i:Nat):AO:=.list ae aj [.loc s,.int (aw i)] aj
section
variable {S:St} {b s i many:Nat} {is:List Int}
theorem Qp (h:S.get b=aa (bO s i)):c8 S (.loc b)=aa [.loc s,.int (aw i)]:=jg h
theorem ZU (h:S.get b=aa (bO s i)):pF (.loc b) (.int 0) S=aa (.loc s):=cW rfl (jR (Qp h) rfl)
theorem Vg (h:S.get b=aa (bO s i)):pF (.loc b) (.int 1) S=aa (.int (aw i)):=cW rfl (jR (Qp h) rfl)
theorem X4 (h:S.get b=aa (bO s i)):w7 (.loc b) (.int 1) (.int (aw i+1)) S=aa (S.put b (bO s (i+1))):=by
 show ob (S.get b) _=_;erw[h];rfl
theorem En (is:List Int):∀{i:Nat},i<is.length→∃x,bc (is.map AV.int) i=aa (.int x):=by
 induction is with
 |nil=>exact fun h=>absurd h (d6 _)
 |cons x is ih=>
  intro i h;cases i with
  |zero=>exact ⟨x,rfl⟩
  |succ i=>exact ih (dJ h)
theorem wF (is:List Int):eZ (is.map AV.int)=is.length:=(cC _).trans (a9 _)
theorem si (h:is.length≤1000):sm (is.map AV.int)=ac:=by unfold sm;erw[(wF ..)];exact fw h
theorem Je (a:Int) (h:0<many):∃r,r<many∧Fi a (aw many)=aw r:=by
 have p:(0:Int)<aw many:=iI.mpr h;have h1:=Int.fmod_nonneg_of_pos a p;have h2:=Int.fmod_lt_of_pos a p;refine ak (Ao h1) fun r e=>?_;replace h2:=e▸h2;exact ⟨r,iI.mp h2,e⟩
theorem AW (a:Int) (h:0<many):∃r,r<many∧Kz 4 (.int a) (.int (aw many)) S=aa (.int (aw r),S):=by
 refine cg (Je a h) fun r hr e=>?_;refine ⟨r,hr,?_⟩;show ob (gd (!decide (aw many=0)) (aa (Fi a (aw many)))) (fun r=>aa (AV.int r,S))=_;erw[(decide_eq_false (p:=(aw many:Int)=0) fun z=>iF h (vc z)),e];rfl
theorem Gj (h96:ov 96=aj) (h:S.get b=aa (bO s i)) (hs:S.get s=aa (lO is)) (ne:s≠b) (hl:is.length≤24) (hm:0<many):
 ∃r,r<many∧∀k:KV,k (.int (aw r)) (S.put b (bO s (i+1)))=ac→nJ om0 meths ov tabC (m+1) (.fn 96) [.loc b,.int (aw many)] S k=ac:=by
 have h':(S.put b (bO s (i+1))).get b=aa (bO s (i+1)):=fp;have hs':(S.put b (bO s (i+1))).get s=aa (lO is):=(bF ne).trans hs;have la:c8 (S.put b (bO s (i+1))) (.loc s)=aa (is.map AV.int):=jg hs';have go:(∃r,r<many∧∀k:KV,k (.int (aw r)) (S.put b (bO s (i+1)))=ac→bK [(xA (d7 3 (cX (aD 0) (aO (.int 1))) (bw (aO (.bi 2)) [(cX (aD 0) (aO (.int 0)))])) (bK [(jd (gI 4 (bw (aO (.bi 5)) [(cX (cX (aD 0) (aO (.int 0))) (gI 1 (cX (aD 0) (aO (.int 1))) (aO (.int 1))))]) (aD 1)))]) (bK [])),(jd (gI 4 (gI 0 (gI 2 (aO (.int 14)) (cX (aD 0) (aO (.int 1)))) (gI 3 (cX (aD 0) (aO (.int 1))) (aO (.int 3)))) (aD 1)))] ⟨om0,meths,nJ om0 meths ov tabC m⟩ [aa (.loc b),aa (.int (aw many))] (S.put b (bO s (i+1))) (fun fr S=>k .none S) (fun a a=>ae) (fun v fr S=>w5 ae v S k)=ac)→∃r,r<many∧∀k:KV,k (.int (aw r)) (S.put b (bO s (i+1)))=ac→nJ om0 meths ov tabC (m+1) (.fn 96) [.loc b,.int (aw many)] S k=ac:=fun ⟨r,hr,q⟩ =>by
  refine ⟨r,hr,fun k hk=>?_⟩;refine v3 h96 rfl B96 rfl rfl ?_;exact du<|GI<|lH<|ee<|aW rfl<|bk<|bg (Vg h)<|bk<|bH rfl<|aW rfl<|bk<|bg (X4 h)<|q k hk
 refine go ?_;generalize hS1:S.put b (bO s (i+1))=S1 at *;have ln:E9 2 [.loc s] S1=aa (.int (aw is.length),S1):=by
  exact eE (x:=E8 (.loc s) S1) (cW rfl (eE rfl (eE hs' (jU (si (aB hl (by decide))) rfl)))) (by rw [wF])
 cases hc:decide ((aw (i+1):Int)≤aw is.length) with
 |true=>
  have hi:i<is.length:=rY.mp (of_decide_eq_true hc);refine ak (En is hi) fun x hx=>?_;have it:pF (.loc s) (.int (aw i)) S1=aa (.int x):=cW rfl (jR la (eE rfl (jU (aG.mpr (by omega:i<1000)) hx)));have sb:Kz 1 (.int (aw (i+1))) (.int 1) S1=aa (.int (aw i),S1):=by
   show aa (AV.int (aw (i+1)-1),S1)=_;rw [show (aw (i+1):Int)-1=aw i from by show ((i+1:Nat):Int)-1=(i:Int);omega]
  refine cg (AW (S:=S1) (aw x.natAbs) hm) fun r hr e=>?_;refine ⟨r,hr,fun k hk=>?_⟩;refine du<|tY<|gL<|ee<|aW rfl<|bk<|bg (Vg h')<|dt<|bk<|aT<|ee<|aW rfl<|bk<|bg (ZU h')<|bB<|pC<|bH ln<|bg (congrArg aa hc)<|mz rfl ?_
  exact gN<|nz<|lH<|dt<|bk<|aT<|ee<|ee<|aW rfl<|bk<|bg (ZU h')<|lH<|ee<|aW rfl<|bk<|bg (Vg h')<|bk<|bH sb<|bg it<|bB<|pC<|bH rfl<|aW rfl<|bH e hk
 |false=>
  refine cg (AW (S:=S1) (14*aw (i+1)+U1 (aw (i+1)) 3) hm) fun r hr e=>?_;refine ⟨r,hr,fun k hk=>?_⟩;refine du<|tY<|gL<|ee<|aW rfl<|bk<|bg (Vg h')<|dt<|bk<|aT<|ee<|aW rfl<|bk<|bg (ZU h')<|bB<|pC<|bH ln<|bg (congrArg aa hc)<|kM rfl ?_
  exact oS<|gN<|nz<|lH<|lH<|lH<|bk<|ee<|aW rfl<|bk<|bg (Vg h')<|bH rfl<|lH<|ee<|aW rfl<|bk<|bg (Vg h')<|bk<|bH rfl<|bH rfl<|aW rfl<|bH e hk
theorem Rv (B:Bs c) (h:S.get b=aa (bO s i)) (hs:S.get s=aa (lO is)) (ne:s≠b) (hl:is.length≤24) (hm:0<many) {PP:Prop} (kk :∀r,r<many→JFc c 1 (.fn 96) [.loc b,.int (aw many)] S (.int (aw r)) (S.put b (bO s (i+1)))→PP):PP:=by
 refine cg (Gj (ov:=yy c 0 []) (m:=0) rfl h hs ne hl hm) fun r hr q=>?_;have J:=t0 (js:=[]) (N0:=0) (m:=1) (v0:=.int (aw r)) (S0:=S.put b (bO s (i+1))) B rfl (q _ (rL ⟨rfl,rfl⟩));exact kk r hr J
end
end
section
def UpX (j:Nat) (S S':St):Prop:=S.nx≤S'.nx∧∀x,x<S.nx→x≠j→S'.get x=S.get x
def Up (S S':St):Prop:=S.nx≤S'.nx∧∀x,x<S.nx→S'.get x=S.get x
theorem UpX.refl:UpX j S S:=⟨aY _,fun a a a=>rfl⟩
theorem UpX.trans {j:Nat} {S S' S'':St} (h:UpX j S S') (k:UpX j S' S''):UpX j S S'':=⟨aB h.1 k.1,fun x hx ne=>(k.2 x (aU hx h.1) ne).trans (h.2 x hx ne)⟩
theorem Up.refl:Up S S:=⟨aY _,fun a a=>rfl⟩
theorem Up.trans {S S' S'':St} (h:Up S S') (k:Up S' S''):Up S S'':=⟨aB h.1 k.1,fun x hx=>(k.2 x (aU hx h.1)).trans (h.2 x hx)⟩
theorem Up.x {j:Nat} {S S':St} (h:Up S S'):UpX j S S':=⟨h.1,fun x hx a=>h.2 x hx⟩
theorem Up.new {S:St} {o:AO}:Up S (S.new o):=⟨by erw[(St.nx_new ..)];exact ie _,fun x hx=>b0 hx⟩
theorem UpX.put {j:Nat} {S:St} {o:AO}:UpX j S (S.put j o):=⟨by erw[(St.nx_put ..)];exact aY _,fun x a ne=>bF ne⟩
inductive All2 {α β:Type} (R:α→β→Prop):List α→List β→Prop
 |nil:All2 R [] []
 |cons {a b l m}:R a b→All2 R l m→All2 R (a::l) (b::m)
theorem All2.imp {α β:Type} {R R':α→β→Prop} (h :∀a b,R a b→R' a b) {l:List α} {m:List β} (x:All2 R l m):All2 R' l m:=by
 induction x with
 |nil=>exact .nil
 |cons a _ ih=>exact .cons (h _ _ a) ih
theorem All2.eq {α:Type} {l m:List α} (x:All2 (fun a b=>b=a) l m):m=l:=by
 induction x with
 |nil=>rfl
 |cons a _ ih=>exact au a▸au ih▸rfl
theorem All2.len {α β:Type} {R:α→β→Prop} {l:List α} {m:List β} (x:All2 R l m):m.length=l.length:=by
 induction x with
 |nil=>rfl
 |cons _ _ ih=>exact congrArg bW ih
def Ev {α:Type} (m:(α→St→Bool)→Bool) (v:α) (S':St):Prop:=∀k,k v S'=ac→m k=ac
noncomputable def lA (l:List AV):AO:=.list ae aj l aj
theorem p_ (h:l.length≤1000):sm l=ac:=by unfold sm;erw[(cC ..)];exact fw h
structure Y1 (E:Nat→Nat→Nat→Prop):Prop where
 z :∀n,E 0 n n
 t :∀{c d l m n},E c l m→E d m n→E (c+d) l n
theorem ZN:Y1 (fun a a a=>True):=⟨fun a=>trivial,fun a a=>trivial⟩
theorem ZO:Y1 (fun c n m=>m=n):=⟨fun c=>rfl,fun a b=>b.trans a⟩
section
variable {rc:Rc} {bm:List Nat} {one:Bool} {bd:AV→Fr} {okF:Fr→Prop} {j:Nat} {ifs:CT} {e:CE} {p:AV→Bool} {Q:AV→AV→St→Prop} {G:St→Prop} {E:Nat→Nat→Nat→Prop}
theorem Tc (hE:Y1 E) (stab :∀x v S S',Q x v S→UpX j S S'→Q x v S') (gs :∀S S',G S→UpX j S S'→G S') (l:List AV) (hb :∀x∈l,∀fr,okF fr→eI bm one x fr=aa (bd x)∧okF (bd x))
 (hif :∀x∈l,∀S,G S→∃S',UpX j S S'∧S'.get j=S.get j∧E 0 S.nx S'.nx∧Ev (ifs rc (bd x) S) (p x) S')
 (hel :∀x∈l,p x=ac→∀S,G S→∃v S',UpX j S S'∧S'.get j=S.get j∧E 1 S.nx S'.nx∧Q x v S'∧Ev (e rc (bd x) S) v S'):
 ∀{acc:List AV} {fr:Fr} {S:St},okF fr→G S→j<S.nx→S.get j=aa (lA acc)→acc.length+l.length≤1000→
  ∃vs S',UpX j S S'∧S'.get j=aa (lA (acc++vs))∧E (l.filter p).length S.nx S'.nx∧All2 (fun x v=>Q x v S') (l.filter p) vs∧∀k:St→Bool,k S'=ac→ik rc bm one ifs (za e rc j) k l fr S=ac:=by
 induction l with
 |nil=>exact fun {acc fr S} o g hj h _=>⟨[],S,.refl,by rw [cf];exact h,hE.z _,.nil,fun k hk=>hk⟩
 |cons x l ih=>
  intro acc fr S o g hj h hl;have ih:=@ih (fun y hy=>hb y (.tail _ hy)) (fun y hy=>hif y (.tail _ hy)) (fun y hy=>hel y (.tail _ hy));have hl:acc.length+(l.length+1)≤1000:=hl;refine aK (fun b1 b2=>?_) (hb x (.head _) fr o);refine Ar (hif x (.head _) S g) fun S1 u1 j1 n1 e1=>?_;have hj1:=aU hj u1.1;have fin :∀k:St→Bool,ifs rc (bd x) S (fun r S=>bt r (za e rc j (bd x) S fun S=>ik rc bm one ifs (za e rc j) k l (bd x) S) (ik rc bm one ifs (za e rc j) k l (bd x) S))=ac→ik rc bm one ifs (za e rc j) k (x::l) fr S=ac:=fun k q=>by
   show o1 (eI bm one x fr) (fun fr=>ifs rc fr S fun r S=>bt r (za e rc j fr S fun S=>ik rc bm one ifs (za e rc j) k l fr S) (ik rc bm one ifs (za e rc j) k l fr S))=ac;exact bg b1 q
  cases hp:p x with
  |false=>
   refine Yn (ih (acc:=acc) (fr:=bd x) b2 (gs _ _ g u1) hj1 (j1.trans h) (by omega)) fun vs S' u hS n2 al q=>?_;refine ⟨vs,S',u1.trans u,hS,?_,by rw [lN,hp];exact al,fun k hk=>?_⟩
   ·rw [lN,hp];have:=hE.t n1 n2;rw [dI] at this;exact this
   ·exact fin k (e1 _ (kM hp (q k hk)))
  |true=>
   refine Yn (hel x (.head _) hp S1 (gs _ _ g u1)) fun v S2 u2 j2 n2 hq e2=>?_;have h2:S2.get j=aa (lA acc):=j2.trans (j1.trans h);have hj2:=aU hj1 u2.1;have sm1:sm (dL acc [v])=ac:=p_ (by rw [fM,bf];show acc.length+1≤1000;omega);have g3:=gs _ _ (gs _ _ (gs _ _ g u1) u2) (UpX.put (j:=j) (S:=S2) (o:=lA (dL acc [v])));refine Yn (ih (acc:=dL acc [v]) (fr:=bd x) (S:=S2.put j (lA (dL acc [v]))) b2 g3 (by rw [St.nx_put];exact hj2) fp (by rw [fM,bf];show acc.length+1+l.length≤1000;omega)) fun vs S' u hS n3 al q=>?_;refine ⟨v::vs,S',((u1.trans u2).trans .put).trans u,by rw [hS,fM,rH];rfl,?_,?_,fun k hk=>?_⟩
   ·rw [lN,hp];rw [St.nx_put] at n3;have:=hE.t (hE.t n1 n2) n3;rw [dI,mK] at this;exact this
   ·rw [lN,hp];exact .cons (stab _ _ _ _ hq (UpX.put.trans u)) al
   ·refine fin k (e1 _ (mz hp (e2 _ ?_)));show o_ j v S2 (fun S=>ik rc bm one ifs (za e rc j) k l (bd x) S)=ac;unfold o_ lA at *;rw [h2];dsimp only;unfold rK;rw [sm1];exact q k hk
end
noncomputable def q7 (b:Bool) (d:Option (Nat×List (AV×AV))) (l:List AV):AO:=match d with|none=>.list b aj l aj|some p=>.dict b p.1 p.2
def K7 (d:Option (Nat×List (AV×AV))) (l:List AV):List AV:=match d with|none=>l|some p=>iz (·.1) p.2
section
variable {S:St} {i:Nat} {d:Option (Nat×List (AV×AV))} {l:List AV}
theorem qp (h:S.get i=aa (q7 b d l)):dX (.loc i) S=aa (K7 d l,aa i):=um h (by cases d<;>rfl)
theorem Sl (h:S.get i=aa (q7 ae d l)):dy (aa i) S=ae:=by
 unfold dy;show (aM ac TQ (S.get i):Bool)=ae;erw[h];cases d<;>rfl
theorem wp {b r:Bool} (h:S.get i=aa (q7 b d l)):gq r i S=S.put i (q7 r d l):=by
 unfold gq;erw[h];cases d<;>rfl
end
section
variable {rc:Rc} {fr:Fr} {it:List CE} {ifs:List CT} {e:CE} {bm:List Nat} {one:Bool} {src:Nat} {bd:AV→Fr} {okF:Fr→Prop} {p:AV→Bool} {Q:AV→AV→St→Prop} {E:Nat→Nat→Nat→Prop} {S S1:St} {i own:Nat} {aJ:List Nat} {d:Option (Nat×List (AV×AV))} {l items:List AV}
theorem Hz (hE:Y1 E) (hit:Ev (dU it rc fr S) [.loc i] S1) (hi:i<S1.nx) (ho:S1.get i=aa (q7 ae d l)) (hs:xw src [.loc i] S1=aa (items,aa i)) (hf:okF (dL (d4 own) (eB aJ fr))) (hl:items.length≤1000) (hb :∀x∈items,∀fr,okF fr→eI bm one x fr=aa (bd x)∧okF (bd x))
 (stab :∀x v S S',Q x v S→(∀y,y<S.nx→y≠S1.nx→y≠i→S'.get y=S.get y)→S.nx≤S'.nx→Q x v S')
 (hif :∀x∈items,∀S,S1.nx<S.nx→S.get i=aa (q7 ac d l)→(∀y,y<S1.nx→y≠i→S.get y=S1.get y)→∃S',Up S S'∧E 0 S.nx S'.nx∧Ev (eO ifs rc (bd x) S) (p x) S')
 (hel :∀x∈items,p x=ac→∀S,S1.nx<S.nx→S.get i=aa (q7 ac d l)→(∀y,y<S1.nx→y≠i→S.get y=S1.get y)→∃v S',Up S S'∧E 1 S.nx S'.nx∧Q x v S'∧Ev (e rc (bd x) S) v S') {PP:Prop} (kk :∀vs S',Up S1 S'→S1.nx<S'.nx→E (items.filter p).length (S1.nx+1) S'.nx→S'.get S1.nx=aa (lA vs)→All2 (fun x v=>Q x v S') (items.filter p) vs→Ev (xY e bm one src it ifs own aJ rc fr S) (.loc S1.nx) S'→PP):PP:=by
 let S0:=(S1.put i (q7 ac d l)).new (lA [])
 have n0:S0.nx=S1.nx+1:=by show ((S1.put i _).new _).nx=_;rw [St.nx_new,St.nx_put]
 have pn:(S1.put i (q7 ac d l)).nx=S1.nx:=St.nx_put ..
 let G:St→Prop:=fun S=>S1.nx<S.nx∧S.get i=aa (q7 ac d l)∧∀y,y<S1.nx→y≠i→S.get y=S1.get y
 have g0:G S0:=⟨by rw [n0];exact a8 _,(b0 (by rw [pn];exact hi)).trans fp,fun y hy ne=>(b0 (by rw [pn];exact hy)).trans (bF ne)⟩
 have gs :∀S S',G S→UpX S1.nx S S'→G S':=fun S S' ⟨a,b,c⟩ u=>⟨aU a u.1,(u.2 i (jN hi a) (bv hi)).trans b,fun y hy ne=>(u.2 y (jN hy a) (bv hy)).trans (c y hy ne)⟩
 refine Yn (Tc (rc:=rc) (bm:=bm) (one:=one) (bd:=bd) (okF:=okF) (j:=S1.nx) (ifs:=eO ifs) (e:=e) (p:=p) (Q:=Q) (G:=G) hE (fun x v S S' hq u=>stab x v S S' hq (fun y hy ne f=>u.2 y hy ne) u.1) gs items hb
  (fun x hx S ⟨a,b,c⟩ =>have ⟨S',w,n,ev⟩:=hif x hx S a b c;⟨S',w.x,w.2 _ a,n,ev⟩)
  (fun x hx hp S ⟨a,b,c⟩ =>have ⟨v,S',w,n,hq,ev⟩:=hel x hx hp S a b c;⟨v,S',w.x,w.2 _ a,n,hq,ev⟩) (acc:=[]) (S:=S0) hf g0 (by rw [n0];exact a8 _) (show S0.get S1.nx=_ from pn▸ck) (by rw [List.length_nil,dI];exact hl)) fun vs S2 u h2 en al q=>?_
 have g2:=gs _ _ g0 u;have ne:S1.nx≠i:=(bv hi).symm;refine kk vs (S2.put i (q7 ae d l)) ⟨by rw [St.nx_put];exact iG g2.1,fun x hx=>?_⟩ (by rw [St.nx_put];exact g2.1) (by rw [St.nx_put,← n0];exact en) ((bF ne).trans h2) (al.imp fun x v hq=>stab _ _ _ _ hq (fun y f f z=>bF z) (by rw [St.nx_put];exact aY _)) (fun k hk=>?_)
 ·by_cases z:x=i
  ·rw [z,fp,ho]
  ·rw [bF z];exact g2.2.2 x hx z
 ·refine hit _ ?_;refine bH (a:=items) (b:=aa i) hs ?_;show ik rc bm one (eO ifs) (za e rc S1.nx) (fun S'=>k (.loc S1.nx) (bG (aa i) (dy (aa i) S1) S')) items (dL (d4 own) (eB aJ fr)) ((cL (aa i) S1).new (lA []))=ac;rw [Sl ho,show cL (aa i) S1=S1.put i (q7 ac d l) from wp ho];refine q _ ?_;show k (.loc S1.nx) (gq ae i S2)=ac;rw [wp g2.2.1];exact hk
variable {rest:Fr}
theorem CW (hit:Ev (dU it rc fr S) [.loc i] S1) (hi:i<S1.nx) (ho:S1.get i=aa (q7 ae d l)) (hf:dL (d4 own) (eB aJ fr)=aj::rest) (hl:(K7 d l).length≤1000)
 (stab :∀x v S S',Q x v S→(∀y,y<S.nx→y≠S1.nx→y≠i→S'.get y=S.get y)→S.nx≤S'.nx→Q x v S')
 (hif :∀x∈K7 d l,∀S,S1.nx<S.nx→S.get i=aa (q7 ac d l)→(∀y,y<S1.nx→y≠i→S.get y=S1.get y)→∃S',Up S S'∧Ev (eO ifs rc (aa x::rest) S) (p x) S')
 (hel :∀x∈K7 d l,p x=ac→∀S,S1.nx<S.nx→S.get i=aa (q7 ac d l)→(∀y,y<S1.nx→y≠i→S.get y=S1.get y)→∃v S',Up S S'∧Q x v S'∧Ev (e rc (aa x::rest) S) v S') {PP:Prop} (kk :∀vs S',Up S1 S'→S1.nx<S'.nx→S'.get S1.nx=aa (lA vs)→All2 (fun x v=>Q x v S') ((K7 d l).filter p) vs→Ev (xY e [0] ac 0 it ifs own aJ rc fr S) (.loc S1.nx) S'→PP):PP:=by
 refine Hz (E:=fun c c c=>True) (rc:=rc) (fr:=fr) (it:=it) (ifs:=ifs) (e:=e) (bm:=[0]) (one:=ac) (src:=0) (bd:=fun x=>aa x::rest) (okF:=fun fr=>∃v,fr=v::rest) (p:=p) (Q:=Q) (S:=S) (S1:=S1) (i:=i) (own:=own) (aJ:=aJ) (d:=d) (l:=l) (items:=K7 d l)
  ZN hit hi ho (qp ho) ⟨aj,hf⟩ hl (fun x _ fr ⟨v,hv⟩ =>by apply dW hv;exact ⟨rfl,_,rfl⟩) stab
  (fun x hx S h1 h2 h3=>have ⟨S',u,e⟩:=hif x hx S h1 h2 h3;⟨S',u,trivial,e⟩) (fun x hx hp S h1 h2 h3=>have ⟨v,S',u,e⟩:=hel x hx hp S h1 h2 h3;⟨v,S',u,trivial,e⟩) fun vs S' a b c g h=>?_
 exact kk vs S' a b g h
end
end
section
noncomputable def prsW:List (Nat×Nat):=[(0,1),(1,0),(1,2),(2,1),(2,3),(3,2),(2,4),(4,2),(4,5),(5,4)]
def wayP (p:Nat×Nat):AV:=Y7 p.1 p.2
theorem Td:iz (·.1) JQ=prsW.map wayP:=rfl
def eQ (T:Nat) (q:Nat→List Mk) (p:Nat×Nat):List Mk:=match kh T p.1 p.2 with|some _=>q p.2|none=>[]
noncomputable def K6 {α:Type} (l:List α):Bool:=match l with|[]=>ae|_::_=>ac
theorem Qh {α:Type} {l:List α} (h:K6 l=ae):l=[]:=by cases l with|nil=>rfl|cons=>exact ff h.symm
section
variable {T af:Nat} {A:AS} {S:St} (hT:T<6)
theorem Au (hT:T<6) (h:p∈prsW):(∃k,bn T p.2=aa k∧nb p.2 k=p.1∧p.2<6)∨(kh T p.1 p.2=aj∧∃k,bn T p.1=aa k∧nb p.1 k=p.2∧p.1<6∧nA p.1 p.2=fW p.1 k):=by
 have b:=ai.mp (ai.mp (by decide +kernel:(n6.all fun T=>prsW.all fun p=>aF p.1 6&&aF p.2 6&&(match kh T p.1 p.2 with|some _=>ac|none=>(match bn T p.1 with|some k=>ay (nb p.1 k) p.2&&ay (nA p.1 p.2) (fW p.1 k)|none=>ae)))=ac) T (m6 hT)) p h
 have l:=eS (aL b);have b:=aR b;cases e:kh T p.1 p.2 with
 |some x=>refine cg (sB e) fun j e1 e2=>?_;exact .inl ⟨j,e1,e2,aG.mp l.2⟩
 |none=>
  rw [e] at b;dsimp only at b;cases e2:bn T p.1 with
  |none=>rw [e2] at b;exact ff b
  |some k=>rw [e2] at b;exact .inr ⟨rfl,k,rfl,am (aL b),aG.mp l.1,am (aR b)⟩
theorem pf (h:bn T C=aa k) (e:nb C k=P):kh T P C=aa (ww P C):=by unfold kh;erw[h];dsimp only;exact au (e ..)▸au (cp ..)▸rfl
include hT in
theorem QK (h:p∈prsW) (a:At T af (WA T af A) S):S.get (nA p.1 p.2)=aa (qA ((eQ T A.q p).map (fJ T p.2 af))):=by
 unfold eQ;rcases Au hT h with ⟨k,h1,h2,h3⟩|⟨h0,k,h1,h2,h3,h4⟩
 ·refine au (pf h1 h2)▸h2▸?_;exact GQ hT h3 h1 a
 ·erw[h0,h4];exact Pe hT h3 h1 a
theorem FK (h:p∈prsW):pe 3 (wayP p)=ac∧bD (wayP p) JQ=aa (.loc (nA p.1 p.2))∧aF (nA p.1 p.2) 492=ac∧ay (nA p.1 p.2) 17=ae:=
 ⟨eL (F:=fun p=>pe 3 (wayP p)) (G:=fun a=>ac) (by kernel_rfl) h,eL (F:=fun p=>bD (wayP p) JQ) (G:=fun p=>aa (.loc (nA p.1 p.2))) (by kernel_rfl) h,eL (F:=fun p:Nat×Nat=>aF (nA p.1 p.2) 492) (G:=fun a=>ac) (by kernel_rfl) h,eL (F:=fun p:Nat×Nat=>ay (nA p.1 p.2) 17) (G:=fun a=>ae) (by kernel_rfl) h⟩
theorem PW (h:p∈prsW):p.2<6:=aG.mp (eL (F:=fun p:Nat×Nat=>aF p.2 6) (G:=fun a=>ac) (by kernel_rfl) h)
def Dj (T:Nat) (b:Nat→Bool):List (Nat×Nat):=prsW.filter fun p=>match kh T p.1 p.2 with|some _=>b p.2|none=>ae
def Dz (l:List Bool) (C:Nat):Bool:=match bc l C with|some b=>b|none=>ae
def L_ (T:Nat) (b:Nat→Bool):Bool:=match Fl ((Dj T b).map wayP) with
 |some L=>L.all (fun w=>(Dj T b).any fun p=>K9 w (wayP p))&&Bool.xor (K6 L) (!K6 (Dj T b))&&bX L.length 20
 |none=>ae
noncomputable def yd:Nat→List (List Bool)
 |0=>[[]]
 |n+1=>(yd n).flatMap fun l=>[ac::l,ae::l]
theorem zW (l:List Bool):l∈yd l.length:=by
 induction l with
 |nil=>exact .head _
 |cons b l ih=>exact br.mpr ⟨l,ih,by cases b<;>simp⟩
theorem DY:((bz 6).all fun T=>(yd 6).all fun l=>L_ T (Dz l))=ac:=by decide +kernel
theorem L9 (hT:T<6) (b:Nat→Bool):L_ T b=ac:=by
 have h:=ai.mp (ai.mp DY T (bM.mpr hT)) [b 0,b 1,b 2,b 3,b 4,b 5] (zW _);have e:Dj T (Dz [b 0,b 1,b 2,b 3,b 4,b 5])=Dj T b:=by
  unfold Dj;refine rG fun p hp=>?_;have:Dz [b 0,b 1,b 2,b 3,b 4,b 5] p.2=b p.2:=eL (F:=Dz [b 0,b 1,b 2,b 3,b 4,b 5]) (G:=b) (by kernel_rfl) (m6 (PW hp));exact au this▸rfl
 unfold L_ at h ⊢;replace h:=e▸h;exact h
theorem Gw (hT:T<6) (b:Nat→Bool) {PP:Prop} (kk :∀L,Fl ((Dj T b).map wayP)=aa L→(∀w∈L,∃p∈Dj T b,w=wayP p)→(L=[]→Dj T b=[])→L.length≤20→PP):PP:=by
 have h:=L9 hT b;unfold L_ at h
 split at h
 ·rename_i L e;have h3:=az (aR h);have h:=aL h;have h1:=ai.mp (aL h);have h2:=aR h;refine kk L e (fun w hw=>?_) (fun z=>?_) h3
  ·refine cg (cZ.mp (h1 w hw)) fun p hp q=>?_;exact ⟨p,hp,mA q⟩
  ·replace h2:=z▸h2;cases q:K6 (Dj T b) with
   |false=>exact Qh q
   |true=>replace h2:=q▸h2;exact ff h2
 ·exact ff h
def qB (q:Nat→List Mk) (C:Nat):Bool:=K6 (q C)
def pW (S:St) (w:AV):Bool:=match bD w JQ with
 |some (.loc q)=>(match S.get q with|some (.list _ _ l _)=>K6 l|_=>ae)
 |_=>ae
include hT in
theorem Qa (h:p∈prsW) (a:At T af (WA T af A) S):pW S (wayP p)=K6 (eQ T A.q p):=by
 unfold pW;erw[(FK h).2.1];dsimp only;erw[QK hT h a];show K6 ((eQ T A.q p).map _)=_;cases eQ T A.q p<;>rfl
include hT in
theorem yX (a:At T af (WA T af A) S):(iz (·.1) JQ).filter (pW S)=(Dj T (qB A.q)).map wayP:=by
 erw[Td,PM];refine congrArg (List.map wayP) (rG fun p hp=>?_);show pW S (wayP p)=_;erw[Qa hT hp a];unfold eQ qB;cases kh T p.1 p.2<;>rfl
theorem GU (hT:T<6) (a:At T af (WA T af A) S) (hn:492≤S.nx) (h67:ov 67=aj) (lq :∀C,C<6→(A.q C).length≤900) {PP:Prop} (kk :∀L j S',Up S S'→S.nx≤j→j<S'.nx→S'.get j=aa (lA L)→Fl ((Dj T (qB A.q)).map wayP)=aa L→L.length≤20→(∀k:KV,k (.loc j) S'=ac→nJ om0 meths ov tabC (m+1) (.fn 67) [.loc 13] S k=ac)→PP):PP:=by
 refine Gw hT (qB A.q) fun L hL c c hl=>?_;refine CW (rc:=⟨om0,meths,nJ om0 meths ov tabC m⟩) (fr:=[aa (.loc 13)]) (it:=[(gz (aD 0) 154)]) (ifs:=[(d7 4 (bw (aO (.bi 2)) [(cX (gz (aD 1) 154) (aD 0))]) (aO (.int 0)))]) (e:=aD 0)
  (p:=pW S) (Q:=fun x v c=>v=x) (S:=S) (S1:=S) (i:=17) (own:=1) (aJ:=[0]) (d:=aa (3,JQ)) (l:=[]) (rest:=[aa (.loc 13)])
  (fun k hk=>aT<|l_<|aW rfl<|bH (jV (zl hT a) rfl rfl rfl)<|bB hk) (by omega) (g17 hT a) rfl (by decide) (fun c c c c h c c=>h)
  (fun x hx S2 hn2 g2 st=>by
   rw [show K7 (aa (3,JQ)) []=prsW.map wayP from rfl] at hx;apply sY (bp.mp hx);intro p hp;have w:=FK hp;have lt:=aU (aG.mp w.2.2.1) hn;have ne:nA p.1 p.2≠17:=fun z=>by rw [z] at w;exact ff w.2.2.2.symm
   have q2:S2.get (nA p.1 p.2)=aa (qA ((eQ T A.q p).map (fJ T p.2 af))):=(st _ lt ne).trans (QK hT hp a);have o2:S2.get 13=aa (.inst 4 Z8):=(st 13 (by omega) (by decide)).trans (zl hT a);have sm1:sm ((eQ T A.q p).map (fJ T p.2 af))=ac:=p_ (by
    rw [a9];unfold eQ
    split
    ·exact aB (lq _ (PW hp)) (by decide)
    ·exact a7 _)
   refine ⟨S2,.refl,fun k hk=>?_⟩;have ln:E9 2 [.loc (nA p.1 p.2)] S2=aa (.int (aw ((eQ T A.q p).length)),S2):=by
    exact eE (x:=E8 (.loc (nA p.1 p.2)) S2) (cW rfl (eE rfl (eE q2 (jU sm1 rfl)))) (by rw [cC,a9])
   refine oN<|gL<|dt<|bk<|aT<|ee<|l_<|aW rfl<|bH (jV (x:=.loc 17) o2 rfl rfl rfl)<|aW rfl<|bg (mv (show S2.get 17=aa (.dict ac 3 JQ) from g2) w.1 w.2.1)<|bB<|pC<|bH ln<|bk ?_
   rw [Qa hT hp a] at hk;cases e:eQ T A.q p with
   |nil=>rw [e] at hk;exact bg (a:=ae) rfl hk
   |cons y l=>rw [e] at hk;exact bg (a:=ac) (congrArg aa (decide_eq_true (iI.mpr (gB _)))) (mz rfl (Aw hk)))
  (fun x hx c S2 c c c=>⟨x,S2,.refl,rfl,fun k hk=>aW rfl hk⟩) fun vs S1 u h1 h2 al ev=>?_
 have al:=al.eq;rw [show K7 (aa (3,JQ)) []=iz (·.1) JQ from rfl,yX hT a] at al;subst al;refine kk L S1.nx (S1.new (lA L)) (u.trans .new) (aB (iG h1) (aY _)) (by rw [St.nx_new];exact a8 _) ck hL hl (fun k hk=>?_);have ss:E9 3 [.loc S.nx] S1=aa (.loc S1.nx,S1.new (lA L)):=by
  show ob (dX (.loc S.nx) S1) (fun p=>ob (Fl p.1) fun l=>gU l S1)=_;rw [qp (d:=aj) (b:=ae) h2];show ob (Fl ((Dj T (qB A.q)).map wayP)) (fun l=>gU l S1)=_;rw [hL];show gU L S1=_;unfold gU;rw [p_ (aB hl (by decide))];rfl
 exact v3 h67 rfl B67 rfl rfl<|gN<|nz<|dt<|bk<|aT<|ev _<|bB<|pC<|bH ss hk
theorem GV {c:Cx} (B:Bs c) (hT:T<6) (a:At T af (WA T af A) S) (hn:492≤S.nx) (lq :∀C,C<6→(A.q C).length≤900) {PP:Prop} (kk :∀L j S',JFc c 1 (.fn 67) [.loc 13] S (.loc j) S'→Up S S'→S.nx≤j→j<S'.nx→S'.get j=aa (lA L)→L.length≤20→(∀w∈L,∃p∈prsW,w=wayP p∧(kh T p.1 p.2).isSome=ac∧A.q p.2≠[])→(L=[]→∀C k,C<6→bn T C=aa k→A.q C=[])→PP):PP:=by
 refine GU (ov:=yy c 0 []) (m:=0) hT a hn rfl lq fun L j S' u h1 h2 h3 h4 h5 q=>?_;have J:=t0 (js:=[]) (N0:=0) (m:=1) (v0:=.loc j) (S0:=S') B rfl (q _ (rL ⟨rfl,rfl⟩));refine Gw hT (qB A.q) fun L' hL k1 k2 b=>?_;replace hL:=h4▸hL;cases hL;refine kk L j S' J u h1 h2 h3 h5 (fun w hw=>?_) (fun z C k hC hk=>?_)
 ·refine cg (k1 w hw) fun p hp e=>?_;have hp:=gY.mp hp;refine ⟨p,hp.1,e,?_⟩;have h:=hp.2;cases q:kh T p.1 p.2 with
  |none=>replace h:=q▸h;exact ff h
  |some x=>
   replace h:=q▸h;refine ⟨rfl,fun z=>?_⟩;have h:K6 (A.q p.2)=ac:=h;replace h:=z▸h;exact ff h
 ·have f:=k2 z;have mem:(nb C k,C)∈prsW:=of_decide_eq_true (ai.mp (by decide +kernel:(e30.all fun p=>decide ((nb p.2.1 p.2.2,p.2.1)∈prsW))=ac) _ (CQ hT hC hk));cases q:K6 (A.q C) with
  |false=>exact Qh q
  |true=>
   have:(nb C k,C)∈Dj T (qB A.q):=gY.mpr ⟨mem,by show (match kh T (nb C k) C with|some _=>qB A.q C|none=>ae)=ac;erw[pf hk rfl];exact q⟩
   replace this:=f▸this;exact nomatch this
end
end
section
theorem pD (h:ic S S') (k:ic S' S''):ic S S'':=fun j hj=>(k j hj).trans (h j hj)
theorem Bn (h:cJ j bN=ac):j<492:=by
 have:=ai.mp (by decide +kernel:(bN.all fun j=>aF j 492)=ac) j (gx h);exact aG.mp this
def Bes (S S':St):Prop:=S.nx≤S'.nx∧∀j,j<S.nx→cJ j bN=ae→S'.get j=S.get j
theorem Bes.refl:Bes S S:=⟨aY _,fun a a a=>rfl⟩
theorem Bes.trans (h:Bes S S') (k:Bes S' S''):Bes S S'':=⟨aB h.1 k.1,fun x hx ne=>(k.2 x (aU hx h.1) ne).trans (h.2 x hx ne)⟩
theorem Up.bes (h:Up S S'):Bes S S':=⟨h.1,fun x hx a=>h.2 x hx⟩
theorem BQ (hn:S'.nx=S.nx) (h:ic S S'):Bes S S':=⟨iH hn.symm,fun j a hj=>h j hj⟩
theorem At.up (a:At T af W S) (hn:492≤S.nx) (u:Up S S'):At T af W S':=fun j hj=>(u.2 j (aU (Bn hj) hn)).trans (a j hj)
section
variable {T C k af:Nat} {W:WS} {S:St} {o:AO} (hT:T<6) (hC:C<6) (hk:bn T C=aa k)
include hT hC hk
theorem Sr:cJ (nA (nb C k) C) bN=ac:=(eL (F:=fun p:Nat×Nat×Nat=>cJ (nA (nb p.2.1 p.2.2) p.2.1) bN) (G:=fun a=>ac) (by kernel_rfl) (CQ hT hC hk):)
theorem Sp:gQ T {W with qu:=cw C o W.qu}=(gQ T W).map (j0 (over [(nA (nb C k) C,o)])):=
 (eL (F:=fun p:Nat×Nat×Nat=>gQ p.1 {W with qu:=cw p.2.1 o W.qu}) (G:=fun p=>(gQ p.1 W).map (j0 (over [(nA (nb p.2.1 p.2.2) p.2.1,o)]))) (by kernel_rfl) (CQ hT hC hk):)
theorem Sq:[(nA (nb C k) C,o)].all (fun u=>(j5 u.1 (gQ T W)).isSome)=ac:=
 (eL (F:=fun p:Nat×Nat×Nat=>[(nA (nb p.2.1 p.2.2) p.2.1,o)].all fun u=>(j5 u.1 (gQ p.1 W)).isSome) (G:=fun a=>ac) (by kernel_rfl) (CQ hT hC hk):)
theorem At.que (a:At T af W S):At T af {W with qu:=cw C o W.qu} (S.put (nA (nb C k) C) o):=fun j hj=>by
 rw [show ((S.put (nA (nb C k) C) o).get j=YA (j5 j [(nA (nb C k) C,o)]) (S.get j)) from k9 [(nA (nb C k) C,o)],a j hj];exact (wj (Sp hT hC hk) (Sq hT hC hk) j).symm
end
theorem uM (h:cJ j js=ac) (J:JFc c N0 (.fn j) args S v S') (q:k v S'=ac):(⟨om0,meths,nJ om0 meths (yy c N0 js) tabC (m+1)⟩:Rc).cl (.fn j) args S k=ac:=c_J h J q
section
variable {c:Cx} {T af:Nat} {a b:List Int} {ph:Nat→Nat} {S:St}
theorem EV (B:Bs c) (rows:DueRows) (trows:TellRows) (hrows:HearRows) (hT:T<6) (hdo:af<5) (ha:a∈masks) (hb:b∈masks) (P:v5 T ph) (at_:At T af (WA T af (PA T (vl T af a b) ph)) S) (hn:492≤S.nx) (hp:p∈prsW) (hk:(kh T p.1 p.2).isSome=ac) (hq:(PA T (vl T af a b) ph).q p.2≠[]) (now:Nat) {PP:Prop} (kk :∀C e S',JFc c 26 (.fn 69) [.loc 13,wayP p,.int (aw now)] S .none S'→C<6→C≠T→ph C<e→v5 T (cw C e ph)→S'.nx=S.nx→ic S S'→At T af (WA T af (PA T (vl T af a b) (cw C e ph))) S'→PP):PP:=by
 have X:=B.P
 let f:=vl T af a b
 obtain ⟨k,h1,h2,hC⟩:∃k,bn T p.2=aa k∧nb p.2 k=p.1∧p.2<6:=by
  rcases Au hT hp with h|⟨h,_⟩
  ·exact h
  ·rw [h] at hk;exact ff hk
 obtain ⟨P0,C⟩:=p;dsimp only at h1 h2 hC hq hk;subst h2;have hN:nb C k<6:=lJ;have mono:=P.mono C k hC h1;have q0:(PA T f ph).q C=uJ (f C) (ph C) (ph (nb C k)):=by show sr T f ph C=_;unfold sr;rw [h1]
 cases e:uJ (f C) (ph C) (ph (nb C k)) with
 |nil=>exact absurd (q0.trans e) hq
 |cons x r=>
 refine Z7 (O6 mono e) fun n n1 n2 n3 n4 n5 n6=>?_;have w:=FK hp;have lr:r.length≤999:=by rw [n6];exact aB BG (aB (P.le _ hN) (by decide))
 have ne:C≠T:=fun z=>by rw [z,jA hT] at h1;exact no h1
 have oq:S.get (nA (nb C k) C)=aa (.list ae aj (.tup [m1 x,m2 T C af x,m3 x]::r.map (fJ T C af)) aj):=by
  have:=GQ hT hC h1 at_;rw [this];show aa (qA (((PA T f ph).q C).map (fJ T C af)))=_;rw [q0,e,e_,Ei];rfl
 have a1:=At.que (o:=qA (r.map (fJ T C af))) hT hC h1 at_;have a1:At T af (WA T af {PA T f ph with q:=cw C r (sr T f ph)}) (S.put (nA (nb C k) C) (qA (r.map (fJ T C af)))):=by
  refine At.congr ?_ a1;refine kL fun K hK=>⟨rfl,rfl,rfl,?_⟩
  show cw C (qA (r.map (fJ T C af))) (fun N=>qA ((sr T f ph N).map (fJ T N af))) K=qA ((cw C r (sr T f ph) K).map (fJ T K af))
  by_cases z:K=C
  ·rw [z,cV,cV]
  ·rw [cy z,cy z]
 have nx1:(S.put (nA (nb C k) C) (qA (r.map (fJ T C af)))).nx=S.nx:=St.nx_put ..;have by1:ic S (S.put (nA (nb C k) C) (qA (r.map (fJ T C af)))):=fun j hj=>bF fun z=>by rw [z,Sr hT hC h1] at hj;exact ff hj.symm
 generalize hS1:S.put (nA (nb C k) C) (qA (r.map (fJ T C af)))=S1 at a1 nx1 by1;refine NN X hrows hT hC h1 (A:={PA T f ph with q:=cw C r (sr T f ph)}) (m:=x) (lI ha hb C _) (n3▸lI ha hb C _) (fun z=>n4 (n3▸z.symm)) a1 (nx1▸hn) now fun S2 J2 nx2 by2 a2=>?_;have a2:At T af (WA T af (PB T f ph C n)) S2:=by
  have:({PA T f ph with q:=cw C r (sr T f ph)}:AS).hear C x=PB T f ph C n:=by
   unfold AS.hear PB PA;rw [n3,n6,h1]
  rw [← this];exact a2
 refine Cm hT hC ha hb X rows trows hdo P n1 n5 (aB n2 (P.le _ hN)) a2 (by rw [nx2,nx1];exact hn) fun v S3 J3 nx3 by3 a3=>?_;have run:nJ om0 meths (yy c 24 [49,66]) tabC 2 (.fn 69) [.loc 13,wayP (nb C k,C),.int (aw now)] S (fun v S'=>pB (v=.none∧S'=S3))=ac:=by
  refine v3 rfl rfl B69 rfl rfl ?_;refine du<|AA<|aW rfl<|bg (a:=[aa (.loc 13),aa (wayP (nb C k,C)),aa (.int (aw now)),aa (nam (nb C k)),aa (nam C),aj,aj,aj]) rfl ?_
  refine du<|AA<|eN<|ee<|l_<|aW rfl<|bH (jV (x:=.loc 17) (zl hT at_) rfl rfl rfl)<|aW rfl<|bg (mv (g17 hT at_) w.1 w.2.1)<|Hq oq<|aT<|bk<|bB<|bH (MD oq (p_ (by rw [a9];exact aB lr (by decide))))<|bg (a:=[aa (.loc 13),aa (wayP (nb C k,C)),aa (.int (aw now)),aa (nam (nb C k)),aa (nam C),aa (m1 x),aa (m2 T C af x),aa (m3 x)]) rfl ?_
  rw [show S.put (nA (nb C k) C) (.list ae aj (r.map (fJ T C af)) aj)=S1 from hS1];have nums:=SH hT hC a1;have b4:=WU hT hC h1;have sf:=NV 164 49 (by kernel_rfl) hC;refine du<|jZ<|eN<|FC hT hC a1 rfl rfl<|hX (xx hT hC a1) (x9 hC) sf.1 sf.2<|aT<|ee<|ee<|l_<|aW rfl<|bH (jV (x:=.loc 16) (zl hT a1) rfl rfl rfl)<|aW rfl<|bg (mv (g16 hT a1) (ml hC).1 (ml hC).2.2)<|aW rfl<|bg (mv nums (ml lJ).1 b4)<|aT<|aW rfl<|aT<|aW rfl<|aT<|aW rfl<|aT<|aW rfl<|bB<|uM rfl (J2.mono (az rfl:12≤24)) ?_
  exact gN<|jZ<|eN<|aW rfl<|hX (zl hT a2) rfl rfl rfl<|aT<|aW rfl<|bB<|uM rfl J3<|rL ⟨rfl,rfl⟩
 have J:=t0 (js:=[49,66]) (N0:=24) (m:=2) (v0:=.none) (S0:=S3) B rfl run;refine kk C n S3 J hC ne n1 ⟨fun N hN'=>?_,fun N k' hN' hk'=>?_⟩ (by rw [nx3,nx2,nx1]) (pD by1 (pD by2 by3)) a3
 ·by_cases z:N=C
  ·rw [z,cV];exact aB n2 (P.le _ hN)
  ·rw [cy z];exact P.le N hN'
 ·by_cases z:N=C
  ·subst z;rw [h1] at hk';cases hk';rw [cV,cy (fun z=>HH hT lJ hC (pf h1 rfl) z.symm)];exact n2
  ·rw [cy z];have:=P.mono N k' hN' hk'
   by_cases y:nb N k'=C
   ·rw [y,cV];rw [y] at this;exact aB this (iG n1)
   ·rw [cy y];exact this
end
end
section
def mE (T:Nat) (A:AS):Prop:=∀C k,C<6→bn T C=aa k→A.q C=[]
def KH (T:Nat) (A:AS) (S:St) (v:AV) (S':St):Prop:=Up S S'∧(mE T A→v=.bool ac)∧(v=.bool ac→mE T A)
theorem Hy {l:List AV}:∀{r:Nat},r<l.length→∃w,bc l r=aa w∧w∈l:=by
 induction l with
 |nil=>exact fun h=>absurd h (d6 _)
 |cons x l ih=>
  intro r h;cases r with
  |zero=>exact ⟨x,rfl,.head _⟩
  |succ r=>have ⟨w,a,b⟩:=ih (dJ h);exact ⟨w,a,.tail _ b⟩
theorem xJ {S:St} {L:List AV} (h:S.get j=aa (lA L)) (hl:L.length≤1000):E9 2 [.loc j] S=aa (.int (aw L.length),S):=by
 exact eE (x:=E8 (.loc j) S) (cW rfl (eE rfl (eE h (jU (p_ hl) rfl)))) (by rw [cC])
theorem lu {S:St} (h:S.get j=aa (lA L)) (hr:r<1000) (q:bc L r=aa w):pF (.loc j) (.int (aw r)) S=aa w:=cW rfl (jR (jg h) (eE rfl (jU (aG.mpr hr) q)))
structure Wd (T af:Nat) (a b:List Int) (ph:Nat→Nat) (S:St):Prop where
 ok:v5 T ph
 at_:At T af (WA T af (PA T (vl T af a b) ph)) S
 nx:492≤S.nx
structure KG:Prop where
 due:DueRows
 tell:TellRows
 hear:HearRows
section
variable {c:Cx} {T af:Nat} {a b:List Int} {ph:Nat→Nat} {S:St} (B:Bs c) (R:KG) (hT:T<6) (hdo:af<5) (ha:a∈masks) (hb:b∈masks)
theorem WN (P:v5 T ph) (C:Nat):((PA T (vl T af a b) ph).q C).length≤900:=by
 show (sr T _ ph C).length≤900;unfold sr
 split
 ·exact aB BG (aB (P.le _ lJ) (by decide))
 ·exact a7 _
def QX (T af:Nat) (a b:List Int) (ph:Nat→Nat) (S:St) (v:AV) (S':St):Prop:=Bes S S'∧
 ((v=.bool ae∧mE T (PA T (vl T af a b) ph)∧Wd T af a b ph S')∨(v=.bool ac∧∃C e,C<6∧C≠T∧ph C<e∧Wd T af a b (cw C e ph) S'))
include B R hT hdo ha hb
theorem Gr (W:Wd T af a b ph S) (n now:Nat) {PP:Prop} (kk :∀v S',JFc c 28 (.fn 70) [.loc 13,.int (aw n),.int (aw now)] S v S'→QX T af a b ph S v S'→PP):PP:=by
 refine GV B hT W.at_ W.nx (fun C d=>WN W.ok C) fun L j S1 J1 u1 j1 j2 g1 l1 m1 q1=>?_;have a1:=W.at_.up W.nx u1;have n1:492≤S1.nx:=aB W.nx u1.1;refine Cq (js:=[67,69]) (N0:=26) (m:=2) B rfl (P:=QX T af a b ph S) ?_ kk;refine v3 rfl rfl B70 rfl rfl ?_;refine du<|mi<|eN<|aW rfl<|hX (zl hT W.at_) rfl rfl rfl<|bB<|uM rfl (J1.mono (az rfl:1≤26)) ?_
 have ln:=xJ g1 (aB l1 (by decide));refine du<|tY<|gL<|dt<|bk<|aT<|aW rfl<|bB<|pC<|bH ln<|bk ?_
 cases e:L with
 |nil=>exact bg (a:=ac) rfl<|mz rfl<|gN<|nz<|bk<|rL ⟨u1.bes,.inl ⟨rfl,q1 e,W.ok,a1,n1⟩⟩
 |cons w0 L0=>
  have pos:0<L.length:=by erw[e];exact gB _
  have hne:qx om0 0 (.int (aw (w0::L0).length)) (.int 0) S1=aa ae:=rfl;rw [← e] at hne ⊢;refine bg hne<|kM rfl<|oS ?_
  refine cg (AW (S:=S1) (aw n) pos) fun r hr hmod=>?_;refine cg (Hy hr) fun w hw mw=>?_;refine Ar (m1 w mw) fun p hp q201 hk hq=>?_;subst q201;refine EV B R.due R.tell R.hear hT hdo ha hb W.ok a1 n1 hp hk hq now fun C e' S2 J2 hC ne lt P2 nx2 by2 a2=>?_;refine du<|jZ<|eN<|aW rfl<|hX (zl hT a1) rfl rfl rfl<|aT<|ee<|aW rfl<|lH<|aW rfl<|dt<|bk<|aT<|aW rfl<|bB<|pC<|bH ln<|bH hmod<|bg (lu g1 (aU hr (aB l1 (by decide))) hw)<|aT<|aW rfl<|bB<|uM rfl J2 ?_
  exact gN<|nz<|bk<|rL ⟨u1.bes.trans (BQ nx2 by2),.inr ⟨rfl,C,e',hC,ne,lt,P2,a2,nx2▸n1⟩⟩
omit R hdo ha hb in
theorem Mz (W:Wd T af a b ph S) {PP:Prop} (kk :∀v S',JFc c 3 (.fn 68) [.loc 13] S v S'→KH T (PA T (vl T af a b) ph) S v S'→PP):PP:=by
 refine GV B hT W.at_ W.nx (fun C d=>WN W.ok C) fun L j S1 J1 u1 j1 j2 g1 l1 m1 q1=>?_;refine Cq (js:=[67]) (N0:=1) (m:=2) B rfl (P:=KH T (PA T (vl T af a b) ph) S) ?_ kk;refine v3 rfl rfl B68 rfl rfl ?_;refine gN<|nz<|FD<|gL<|dt<|bk<|aT<|eN<|aW rfl<|hX (zl hT W.at_) rfl rfl rfl<|bB<|uM rfl J1<|bB<|pC<|bH (xJ g1 (aB l1 (by decide)))<|bk ?_
 cases e:L with
 |nil=>exact bg (a:=ac) rfl<|rL ⟨u1,fun d=>rfl,fun d=>q1 e⟩
 |cons w0 L0=>
  refine bg (a:=ae) rfl<|rL ⟨u1,fun q=>?_,fun z=>(by cases z)⟩
  refine Ar (m1 w0 (by erw[e];exact .head _)) fun p hp d hk hq=>?_;refine absurd ?_ hq;rcases Au hT hp with ⟨k,h1,h2,h3⟩|⟨h,_⟩
  ·exact q _ k h3 h1
  ·replace hk:=h▸hk;exact ff hk
end
def vM (f:Nat→Nat) (l:List Nat):Nat:=aP 0 (fun x a ih=>f x+ih) l
theorem LZ (h:C∉l):vM (cw C x f) l=vM f l:=by
 induction l with
 |nil=>rfl
 |cons y l ih=>
  show cw C x f y+vM (cw C x f) l=f y+vM f l;exact au (ih fun z=>h (.tail _ z))▸au (cy fun z:y=C=>h (z▸.head _))▸rfl
theorem LY (nd:l.Nodup) (m:C∈l):vM (cw C x f) l+f C=vM f l+x:=by
 induction l with
 |nil=>exact nomatch m
 |cons y l ih=>
  have nd:=ce.mp nd;show cw C x f y+vM (cw C x f) l+f C=f y+vM f l+x;rcases aN.mp m with z|z
  ·apply dW z;erw[cV,LZ nd.1];omega
  ·have:=ih nd.2 z;erw[(cy fun w:y=C=>nd.1 (w▸z))];omega
theorem Rz (h :∀x,f x≤3):vM f l≤3*l.length:=by
 induction l with
 |nil=>exact aY 0
 |cons y l ih=>exact aB (yt (h y) ih) (iH (mK _ _))
def oT (ph:Nat→Nat):Nat:=vM (fun N=>3-ph N) n6
theorem Cu:oT ph≤18:=Rz fun x=>Nat.sub_le ..
theorem t4 (hC:C<6):oT (cw C e ph)+(3-ph C)=oT ph+(3-e):=by
 have h:=LY (x:=3-e) (f:=fun N=>3-ph N) (by decide:n6.Nodup) (m6 hC);have s:cw C (3-e) (fun N=>3-ph N)=fun N=>3-cw C e ph N:=funext fun N=>by unfold cw;cases ay N C<;>rfl
 replace h:=s▸h;exact h
theorem wt (hC:C<6) (h:ph C<e) (P:v5 T (cw C e ph)):oT (cw C e ph)<oT ph:=by
 have l:=P.le C hC;replace l:=cV▸l;have:=t4 (e:=e) (ph:=ph) hC;omega
section
variable {c:Cx} {T af:Nat} {a b:List Int} {l:Nat} (B:Bs c) (R:KG) (hT:T<6) (hdo:af<5) (ha:a∈masks) (hb:b∈masks)
include B R hT hdo ha hb
theorem D_ (hl:492≤l):∀(ts:List Nat) {ph:Nat→Nat} {S:St} {v0:Option AV},oT ph<ts.length→Wd T af a b ph S→l<S.nx→S.get l=aa (lA [])→∀kn:KF,∀kr:KR,
 (∀fr t ph' S',Bes S S'→Wd T af a b ph' S'→mE T (PA T (vl T af a b) ph')→ph' T=ph T→kr (.int (aw t)) fr S'=ac)→
 pr ⟨om0,meths,nJ om0 meths (yy c 28 [70]) tabC 1⟩ [4] ac (bK [(xA (vL (lP (cT (aD 0) 169 [(By (d7 2 (aD 4) (bw (aO (.bi 2)) [(aD 1)])) (cX (aD 1) (aD 4)) (aO (.int 0))),(aD 3)]))) (bK [(jd (aD 4))]) (bK []))]) kn kr (ts.map fun t=>.int (aw t)) [aa (.loc 13),aa (.loc l),aa (.int 20),aa (.int 50),v0] S=ac:=by
 intro ts
 induction ts with
 |nil=>exact fun {ph S v0} h=>absurd h (d6 _)
 |cons t ts ih=>
  intro ph S v0 h W hlx hlo kn kr hk;show o1 (eI [4] ac (.int (aw t)) [aa (.loc 13),aa (.loc l),aa (.int 20),aa (.int 50),v0]) (fun fr=>bK [(xA (vL (lP (cT (aD 0) 169 [(By (d7 2 (aD 4) (bw (aO (.bi 2)) [(aD 1)])) (cX (aD 1) (aD 4)) (aO (.int 0))),(aD 3)]))) (bK [(jd (aD 4))]) (bK []))] _ fr S (fun fr S=>pr _ [4] ac _ kn kr (ts.map fun t=>.int (aw t)) fr S) (fun fr S=>kn fr S) kr)=ac;refine bg (a:=[aa (.loc 13),aa (.loc l),aa (.int 20),aa (.int 50),aa (.int (aw t))]) rfl ?_;refine Gr B R hT hdo ha hb W 0 50 fun v S1 J ⟨b1,P⟩ =>?_;refine gN<|tY<|Gn<|Gm<|eN<|aW rfl<|hX (zl hT W.at_) rfl rfl rfl<|aT<|PU<|gL<|aW rfl<|dt<|bk<|aT<|aW rfl<|bB<|pC<|bH (xJ hlo (a7 _))<|bg (a:=ae) (congrArg aa (decide_eq_false (yw.mpr (eX _))))<|kM rfl<|bk<|aT<|aW rfl<|bB<|uM rfl J ?_
  rcases P with ⟨rfl,q,W1⟩|⟨rfl,C,e,hC,ne,lt,W1⟩
  ·exact bg (a:=ae) rfl<|mz rfl<|gN<|nz<|aW rfl<|hk _ _ _ _ b1 W1 q rfl
  ·refine bg (a:=ac) rfl<|kM rfl<|oS ?_
   have r:=wt hC lt W1.ok;have off:cJ l bN=ae:=by
    cases z:cJ l bN with
    |false=>rfl
    |true=>exact absurd (Bn z) (PH hl)
   refine ih (by have:oT ph<ts.length+1:=h;omega) W1 (aU hlx b1.1) ((b1.2 l hlx off).trans hlo) kn kr fun fr t ph' S' b2 W2 q2 e2=>hk fr t ph' S' (b1.trans b2) W2 q2 (e2.trans (cy fun z=>ne z.symm))
theorem Sk (W:Wd T af a b ph S) (hl:492≤l) (hlx:l<S.nx) (hlo:S.get l=aa (lA [])) (hr:oT ph<21) {PP:Prop} (kk :∀t ph' S',JFc c 30 (.fn 71) [.loc 13,.loc l,.int 20,.int 50] S (.int t) S'→Wd T af a b ph' S'→mE T (PA T (vl T af a b) ph')→ph' T=ph T→PP):PP:=by
 refine Cq (js:=[70]) (N0:=28) (m:=2) B rfl (P:=fun v S'=>∃t ph',v=.int t∧Wd T af a b ph' S'∧mE T (PA T (vl T af a b) ph')∧ph' T=ph T) ?_ fun v S' J ⟨t,ph',e,w,q,z⟩ =>kk t ph' S' (e▸J) w q z;refine v3 rfl rfl B71 rfl rfl ?_;refine du ?_;refine aT<|lH<|aW rfl<|bk<|bH rfl<|bB<|bH (a:=(bz 21).map fun t=>.int (aw t)) (b:=aj) rfl ?_
 exact D_ B R hT hdo ha hb hl (bz 21) (by erw[rF];exact hr) W hlx hlo _ _ fun fr t ph' S' b1 W1 q e=>rL ⟨_,ph',rfl,W1,q,e⟩
end
end
section
theorem zH (n:Nat) (l:List Int):rP (vh (n+1)) (l.map AV.int)=ac:=by
 induction l with
 |nil=>rfl
 |cons x l ih=>exact ih
theorem EK (n:Nat) (l:List Int):∀m:List Int,EL (Ve (n+1)) (l.map AV.int) (m.map AV.int)=decide (l=m):=by
 induction l with
 |nil=>
  intro m;cases m with
  |nil=>rfl
  |cons y m=>exact (decide_eq_false fun z=>nomatch z).symm
 |cons x l ih=>
  intro m;cases m with
  |nil=>exact (decide_eq_false fun z=>nomatch z).symm
  |cons y m=>
   show (decide (x=y)&&EL (Ve (n+1)) (l.map AV.int) (m.map AV.int))=_;cases q:decide (x=y) with
   |false=>exact (decide_eq_false fun z=>of_decide_eq_false q (jO z).1).symm
   |true=>
    erw[of_decide_eq_true q];refine (ih m).trans ?_;cases r:decide (l=m) with
    |false=>exact (decide_eq_false fun z=>of_decide_eq_false r (jO z).2).symm
    |true=>erw[of_decide_eq_true r];exact (decide_eq_true rfl).symm
section
variable {S:St} {x y:Nat} {l m:List Int}
theorem mX (hx:S.get x=aa (lO l)) (hy:S.get y=aa (lO m)):uG S (.loc x) (.loc y)=aa (decide (l=m)):=by
 refine jR (jg (show S.get x=aa (.list ae aj (l.map AV.int) aj) from hx)) (eE (jg (show S.get y=aa (.list ae aj (m.map AV.int) aj) from hy)) ?_);unfold Dm;rw [zH 7 l];dsimp only;rw [zH 7 m];dsimp only;rw [EK 7 l m]
theorem sN (hx:S.get x=aa (lO l)):ew S (.loc x)=aj:=congrArg (ob · G8) hx
theorem CJ (hx:S.get x=aa (lO l)) (hy:S.get y=aa (lO m)):qx om0 1 (.loc x) (.loc y) S=aa (!decide (l=m)):=by
 exact eE (x:=kI om0 S (.loc x) (.loc y)) (cW (sN hx) (QG (sN hy) (cW rfl (mX hx hy)))) rfl
end
section
variable {rc:Rc} {fr:Fr} {S:St} {k:KV} {kl:List AV→St→Bool}
theorem WP (q:kl [] S=ac):Bw [] rc fr S kl=ac:=q
theorem AN (q:e1 rc fr S (fun kv S=>e2 rc fr S fun vv S=>Bw ps rc fr S fun l S=>kl (.tup [kv,vv]::l) S)=ac):Bw ((e1,e2)::ps) rc fr S kl=ac:=q
theorem VK (q:Bw ps rc fr S (fun l S=>o1 (iD l 9 []) fun p=>o2 (nh p.1 p.2 S) k)=ac):ER ps rc fr S k=ac:=q
theorem Wu (h:bc fr i=aa (aa v)) (q:kn (dT fr i (aa (jh v S).1)) (jh v S).2=ac):AB i rc fr S kn kb kr=ac:=bg h (bg rfl q)
end
noncomputable def XE (N:Nat):Nat:=match N with|0=>20|1=>35|2=>50|3=>85|4=>118|_=>151
def N9 (N:Nat):List (AV×AV):=match base 0 (XE N) with|.dict _ _ l=>l|_=>[]
noncomputable def YY (N:Nat):AV:=.int (aw (11+N))
theorem Ug (hT:T<6) (hN:N<6) (a:At T af W S):bD (nam N) ZL=aa (.loc (XE N))∧S.get (XE N)=aa (.dict ae 0 (N9 N))∧bD (.str 63) (N9 N)=aa (YY N):=
 ⟨eL (F:=fun N=>bD (nam N) ZL) (G:=fun N=>aa (.loc (XE N))) (by kernel_rfl) (m6 hN),Kq (f:=XE) (o:=fun N=>.dict ae 0 (N9 N)) hT a (by decide +kernel) (by kernel_rfl) hN,eL (F:=fun N=>bD (.str 63) (N9 N)) (G:=fun N=>aa (YY N)) (by kernel_rfl) (m6 hN)⟩
def AQ (T:Nat):List (AV×AV):=[(.str 82,.int 0),(.str 70,.tup []),(.str 110,YY T)]
theorem GX (T:Nat):iD [.tup [.str 82,.int 0],.tup [.str 70,.tup []],.tup [.str 110,YY T]] 9 []=aa (0,AQ T):=by kernel_rfl
theorem MF (T:Nat) (S:St):nh 0 (AQ T) S=aa (.loc S.nx,S.new (.dict ae 0 (AQ T))):=by kernel_rfl
def AP (T:Nat) (s:List Int):List (AV×AV):=match s with|[]=>AQ T|_::_=>AQ T++[(.str 114,.tup (s.map AV.int))]
theorem Sx (hT:T<6) (af:Nat) (s:List Int):dH T T af s=.fd 0 (AP T s):=by
 cases s with
 |nil=>exact eL (F:=fun T=>dH T T af []) (G:=fun T=>.fd 0 (AQ T)) (by kernel_rfl) (m6 hT)
 |cons x s=>exact eL (F:=fun T=>dH T T af (x::s)) (G:=fun T=>.fd 0 (AP T (x::s))) (by kernel_rfl) (m6 hT)
section
variable {c:Cx} {T af:Nat} {a b:List Int} {ph:Nat→Nat} {S:St} (B:Bs c) (R:KG) (hT:T<6) (hdo:af<5) (ha:a∈masks) (hb:b∈masks)
theorem WO (P:v5 T ph) (hT:T<6) (h:ph T≤e) (he:e≤3):v5 T (cw T e ph):=⟨fun N hN=>by
 by_cases z:N=T
 ·erw[z,cV];exact he
 ·erw[cy z];exact P.le N hN,fun N k hN hk=>by
 have ne:N≠T:=fun z=>by replace hk:=(jA hT)▸z▸hk;exact no hk
 erw[cy ne];have m:=P.mono N k hN hk
 by_cases z:nb N k=T
 ·erw[z,cV];replace m:=z▸m;exact aB m h
 ·erw[cy z];exact m⟩
include B R hT hdo ha hb
theorem wy (W:Wd T af a b ph S) (h3:ph T<3) (hm:m=vl T af a b T (ph T+1)) (a1:At T af (WA T af ((PA T (vl T af a b) ph).hear T m)) S1) (hn:492≤S1.nx) {PP:Prop} (kk :∀n S',JFc c 24 (.fn 66) [.loc 13,nam T] S1 (.int n) S'→S'.nx=S1.nx→ic S1 S'→Wd T af a b (cw T (ph T+1) ph) S'→PP):PP:=by
 have a2:At T af (WA T af (PB T (vl T af a b) ph T (ph T+1))) S1:=by
  subst hm;refine At.congr ?_ a1;refine kL fun C hC=>⟨rfl,rfl,rfl,?_⟩
  show qA ((sr T (vl T af a b) ph C).map (fJ T C af))=qA ((cw T (match bn T T with|some k=>uJ (vl T af a b T) (ph T+1) (ph (nb T k))|none=>[]) (sr T (vl T af a b) ph) C).map (fJ T C af))
  by_cases z:C=T
  ·apply dW z;erw[cV];unfold sr;exact au (jA hT)▸rfl
  ·exact au (cy z)▸rfl
 refine Cm hT hT ha hb B.P R.due R.tell hdo W.ok (a8 _) (fun i x y=>by exact au (Nat.le_antisymm (fH y) x)▸rfl) h3 a2 hn fun n S' J h1 h2 h4=>?_;exact kk n S' J h1 h2 ⟨WO W.ok hT (ie _) h3,h4,by erw[h1];exact hn⟩
theorem CR (W:Wd T af a b ph S) (h3:ph T<2) (hs:vl T af a b T (ph T+1)=aa s) (hj:S.get j=aa (lO s)) (jn:j<S.nx) {PP:Prop} (kk :∀S',JFc c 26 (.fn 101) [.loc 13,nam T,.loc j] S .none S'→Bes S S'→Wd T af a b (cw T (ph T+1) ph) S'→PP):PP:=by
 have sk:s∈masks:=lI ha hb T _ s hs
 let O:AO:=.dict ae 0 (AQ T)
 let S1:=S.new O
 let S2:=S1.new (lA [])
 have n1:S1.nx=S.nx+1:=St.nx_new ..;have n2:S2.nx=S.nx+2:=by show (S1.new _).nx=_;rw [St.nx_new,n1]
 have g1:S2.get S.nx=aa O:=(b0 (by rw [n1];exact a8 _)).trans ck;have g2:S2.get S1.nx=aa (lO []):=ck;have gj:S2.get j=aa (lO s):=(b0 (by rw [n1];exact dq jn)).trans ((b0 jn).trans hj);have fin :∀S4:St,S4.nx=S2.nx→(∀x,x≠S.nx→S4.get x=S2.get x)→∃S':St,(∃S5 n,JFc c 24 (.fn 46) [.loc (gS T),kU,.fd 0 (AP T s)] S4 .none S5∧At T af (WA T af ((PA T (vl T af a b) ph).hear T (aa s))) S5∧JFc c 24 (.fn 66) [.loc 13,nam T] S5 (.int n) S')∧Bes S S'∧Wd T af a b (cw T (ph T+1) ph) S':=fun S4 e1 e2=>by
  have u:Up S S4:=⟨by rw [e1,n2];exact gD ..,fun x hx=>(e2 x (bv hx)).trans ((b0 (by rw [n1];exact dq hx)).trans (b0 hx))⟩
  have n4:492≤S4.nx:=aB W.nx u.1;refine MI B.P R.hear hT (A:=PA T (vl T af a b) ph) (s:=s) (lI ha hb T _) (W.at_.up W.nx u) n4 fun S5 J5 nx5 by5 a5=>?_;refine wy B R hT hdo ha hb W (dq h3) hs.symm a5 (nx5▸n4) fun n S6 J6 nx6 by6 W6=>?_;rw [Sx hT] at J5;exact ⟨S6,⟨S5,n,J5.mono (az rfl:12≤24),a5,J6⟩,u.bes.trans ((BQ nx5 by5).trans (BQ nx6 by6)),W6⟩
 have rest :∀S3:St,S3.nx=S2.nx→(∀x,x≠S.nx→S3.get x=S2.get x)→S3.get S.nx=aa (.dict ae 0 (AP T s))→∃S',Bes S S'∧Wd T af a b (cw T (ph T+1) ph) S'∧∀k:KV,k .none S'=ac→bK [(AB 3),(gv (cT (cX (gz (aD 0) 152) (aD 1)) 231 [(aO (.tup [(.int 335544320),(.int 8)])),(aD 3)])),(gv (cT (aD 0) 159 [(aD 1)]))] ⟨om0,meths,nJ om0 meths (yy c 24 [46,66]) tabC 1⟩ [aa (.loc 13),aa (nam T),aa (.loc j),aa (.loc S.nx)] S3 (fun fr S=>k .none S) (fun d d=>ae) (fun v fr S=>w5 ae v S k)=ac:=fun S3 e1 e2 e3=>by
  have fz:jh (.loc S.nx) S3=(.fd 0 (AP T s),S3.del S.nx):=T4 e3;have g4 :∀x,x≠S.nx→(S3.del S.nx).get x=S2.get x:=fun x hx=>by rw [St.get_del];exact (bA _ _ hx).trans (e2 x hx)
  obtain ⟨S',⟨S5,n,J5,a5,J6⟩,b6,W6⟩:=fin (S3.del S.nx) e1 g4;refine ⟨S',b6,W6,fun k hk=>?_⟩;refine du<|Wu (v:=.loc S.nx) rfl ?_
  rw [fz];have a4:At T af (WA T af (PA T (vl T af a b) ph)) (S3.del S.nx):=W.at_.up W.nx ⟨by show S.nx≤S3.nx;rw [e1,n2];exact gD ..,fun x hx=>(g4 x (bv hx)).trans ((b0 (by rw [n1];exact dq hx)).trans (b0 hx))⟩;have sf:=NV 231 46 (by kernel_rfl) hT;exact du<|jZ<|eN<|FC hT hT a4 rfl rfl<|hX (xx hT hT a4) (x9 hT) sf.1 sf.2<|aT<|bk<|aT<|aW rfl<|bB<|uM rfl J5<|gN<|jZ<|eN<|aW rfl<|hX (zl hT a5) rfl rfl rfl<|aT<|aW rfl<|bB<|uM rfl J6 hk
 have fc:=Ug hT hT W.at_;have start :∀S',(∀k:KV,k .none S'=ac→bK [(xA (d7 1 (aD 2) (n9 [])) (bK [(wq (aD 3) (aO (.str 114)) (bw (aO (.bi 8)) [(aD 2)]))]) (bK [])),(AB 3),(gv (cT (cX (gz (aD 0) 152) (aD 1)) 231 [(aO (.tup [(.int 335544320),(.int 8)])),(aD 3)])),(gv (cT (aD 0) 159 [(aD 1)]))] ⟨om0,meths,nJ om0 meths (yy c 24 [46,66]) tabC 1⟩ [aa (.loc 13),aa (nam T),aa (.loc j),aa (.loc S.nx)] S1 (fun fr S=>k .none S) (fun d d=>ae) (fun v fr S=>w5 ae v S k)=ac)→
  nJ om0 meths (yy c 24 [46,66]) tabC 2 (.fn 101) [.loc 13,nam T,.loc j] S (fun v S2=>pB (v=.none∧S2=S'))=ac:=fun S' q=>by
  refine v3 rfl rfl Z3 rfl rfl ?_;exact du<|mi<|VK<|AN<|bk<|bk<|AN<|bk<|B7<|bB<|bH rfl<|AN<|bk<|ee<|ee<|l_<|aW rfl<|bH (jV (x:=.loc 15) (zl hT W.at_) rfl rfl rfl)<|aW rfl<|bg (mv (g15 hT W.at_) (ml hT).1 fc.1)<|bk<|bg (mv fc.2.1 rfl fc.2.2)<|WP<|bg (GX T)<|bH (MF T S)<|q (fun v S2=>pB (v=.none∧S2=S')) (rL ⟨rfl,rfl⟩)
 have done :∀S',Bes S S'∧Wd T af a b (cw T (ph T+1) ph) S'→nJ om0 meths (yy c 24 [46,66]) tabC 2 (.fn 101) [.loc 13,nam T,.loc j] S (fun v S2=>pB (v=.none∧S2=S'))=ac→PP:=fun S' h e=>by
  have J:=t0 (js:=[46,66]) (N0:=24) (m:=2) (v0:=.none) (S0:=S') B rfl e;exact kk S' J h.1 h.2
 cases hsm:s with
 |nil=>
  subst hsm;refine lG (rest S2 rfl (fun d d=>rfl) g1) fun S' b6 W6 q=>?_;refine done S' ⟨b6,W6⟩ (start S' fun k hk=>?_);exact du<|tY<|gL<|aW rfl<|s5<|bB<|bH (a:=.loc S1.nx) (b:=S2) rfl<|bg (a:=ae) (CJ gj g2)<|kM rfl<|oS<|q k hk
 |cons x s0=>
  have ne:qx om0 1 (.loc j) (.loc S1.nx) S2=aa ac:=(CJ gj g2).trans (by rw [hsm];rfl);have tp:E9 8 [.loc j] S2=aa (.tup (s.map AV.int),S2):=by
   show ob (c8 S2 (.loc j)) (fun l=>qi l S2)=_;rw [jg (show S2.get j=aa (.list ae aj (s.map AV.int) aj) from gj)];show qi (s.map AV.int) S2=_;unfold qi;rw [ud sk]
  have st:w7 (.loc S.nx) (.str 114) (.tup (s.map AV.int)) S2=aa (S2.put S.nx (.dict ae 0 (AP T s))):=by
   show ob (S2.get S.nx) (fun ob=>P5 S.nx ob (.str 114) (.tup (s.map AV.int)) S2)=_;rw [g1,hsm];rfl
  refine lG (rest (S2.put S.nx (.dict ae 0 (AP T s))) (St.nx_put ..) (fun x hx=>bF hx) fp) fun S' b6 W6 q=>?_;refine done S' ⟨b6,W6⟩ (start S' fun k hk=>?_);exact du<|tY<|gL<|aW rfl<|s5<|bB<|bH (a:=.loc S1.nx) (b:=S2) rfl<|bg ne<|mz rfl<|gN<|GI<|dt<|bk<|aT<|aW rfl<|bB<|pC<|bH tp<|aW rfl<|bk<|bg st<|q k hk
end
end
section
noncomputable def UN (is:List Int):St:=⟨.node (aa (.list ac aj (is.map .int) aj)) .nil .nil,1⟩
def Es (s:CX) (rc:Rc) (fr:Fr) (S:St) (fr':Fr) (S':St):Prop:=∀kn kb kr,kn fr' S'=ac→s rc fr S kn kb kr=ac
noncomputable def js:List Nat:=[96,97,99,101,100,70,68,47,66,71]
def k7 (c:Cx):Rc:=⟨om0,meths,nJ om0 meths (yy c 40 js) tabC 2⟩
def dr (n:Int):CE:=bw (aO (.fn 96)) [(aD 1),(aO (.int n))]
def Qg:CE:=bw (aO (.fn 94)) []
def st1:CX:=iX 1 (n9 [(bw (aO (.bi 6)) [(Jn (aD 0) 0 (aa 24))]),(aO (.int 0))])
def K2:CX:=qR [2,3] (vW [(cX Qg (dr 6)),dr 5])
def U7:CX:=iX 4 (n9 [dr 16])
def st4:CX:=gv (cT (aD 4) 5 [dr 16])
def Um:CE:=bw (aO (.bi 3)) [(xY (aD 1) [0,1] ae 1 [(bw (aO (.fn 93)) [])] [(d7 0 (gI 4 (gI 3 (aD 2) (gI 5 (aO (.int 2)) (aD 0))) (aO (.int 2))) (aO (.int 1)))] 2 [0])]
def st5:CX:=iX 5 (xY Um [0] ac 0 [(aD 4)] [] 1 [])
def st6:CX:=iX 6 (bw (aO (.fn 97)) [(aD 3)])
def rch (n:Int):CE:=bw (aO (.fn 99)) [(aD 2),(cX (aD 5) (aO (.int n))),(aD 3)]
def st7:CX:=iX 7 (n9 [rch 0,rch 1])
def Zb (n:Int):CX:=gv (bw (aO (.fn 101)) [(aD 6),(aD 2),(cX (aD 5) (aO (.int n)))])
def st9:CX:=iX 8 (dr 6)
def inC:CE:=xY (cX (aD 0) (aD 1)) [0] ac 0 [(aD 7)] [(d7 6 (aD 1) (aD 0))] 1 [10]
def wY:CX:=bK [(iX 11 (bw (aO (.fn 100)) [(aD 6),(aD 10)])),(xA (eO [(d7 9 (aD 11) (aO .none)),(d7 7 (aD 11) inC)]) (bK [(jd (aO (.bool ae)))]) (bK []))]
def Wc:CX:=xA (d7 0 (aD 9) (aD 8)) (bK [Zb 1]) (bK [(xA (eO [(vL (lP (cT (aD 6) 169 [dr 9,(aD 9)]))),(d7 4 (aD 9) (aD 8))]) (bK [GJ]) (bK []))])
def uh:CX:=tZ [10] ac 0 [Qg] wY
def Wj:CX:=tZ [9] ac 2 [(aO (.int 40))] (bK [Wc,uh])
def QC:CE:=xY (vW [(aD 0),(bw (aO (.fn 100)) [(aD 1),(aD 0)])]) [0] ac 0 [Qg] [(d7 9 (bw (aO (.fn 100)) [(aD 1),(aD 0)]) (aO .none))] 1 [6]
def Wi:CX:=xA (Go [(vL (lP (cT (aD 6) 242 []))),(d7 1 (bw (aO (.bi 7)) [QC]) (cX (aD 7) (aO (.int 1))))]) (bK [(jd (aO (.bool ae)))]) (bK [])
def Wg:CX:=gv (cT (cX (gz (aD 6) 152) (aD 2)) 243 [(aO (.tup [(.int 335544320),(.int 8)]))])
def Wf:CX:=gv (cT (aD 6) 159 [(aD 2)])
def QE:CE:=xY (aD 0) [0] ac 0 [Qg] [(d7 9 (bw (aO (.fn 100)) [(aD 1),(aD 0)]) (aO .none))] 1 [6]
def We:CX:=jd (zz [(zy 9 (cT (aD 6) 244 [(n9 []),(aO (.int 20)),(aO (.int 50))]) (aO .none)),(zy 0 QE (n9 []))])
theorem BL:cF f102=⟨1,12,ae,bK [st1,K2,U7,st4,st5,st6,st7,Zb 0,st9,Wj,Wi,Wg,Wf,We]⟩:=Z2
noncomputable def iR:List AV:=[.str 12,.str 10,.str 8,.str 7,.str 9,.str 11]
noncomputable def M0:List Int:=[4294967041,4294967042,4294967043,7]
section
variable {c:Cx} {fr:Fr} {S:St} {k:KV}
theorem Hf:Qg (k7 c) fr S k=k (.loc S.nx) (S.new (lA iR)):=by kernel_rfl
theorem Hp:bw (aO (.fn 93)) [] (k7 c) fr S k=k (.loc S.nx) (S.new (lO M0)):=by kernel_rfl
theorem VI {rc:Rc} {e:CE} {lo:Nat} {hi:Option Nat} (q:e rc fr S (fun o S=>o2 (qw o lo hi S) k)=ac):Jn e lo hi rc fr S k=ac:=q
end
structure Bx (xs:List Int) (i:Nat) (S:St):Prop where
 l:S.get 2=aa (lO xs)
 b:S.get 3=aa (bO 2 i)
 nx:4≤S.nx
theorem Bx.up (h:Bx xs i S) (u:Up S S'):Bx xs i S':=⟨(u.2 2 (aU (by decide) h.nx)).trans h.l,(u.2 3 (aU (by decide) h.nx)).trans h.b,aB h.nx u.1⟩
theorem Bx.draw (h:Bx xs i S):Bx xs (i+1) (S.put 3 (bO 2 (i+1))):=⟨(bF (by decide)).trans h.l,fp,by erw[(St.nx_put ..)];exact h.nx⟩
section
variable {c:Cx} {fr:Fr} {S:St} {xs:List Int} {i many:Nat} (B:Bs c)
include B in
theorem pv (h:Bx xs i S) (hl:xs.length≤24) (hm:0<many) (hf:bc fr 1=aa (aa (.loc 3))) {PP:Prop} (kk :∀r,r<many→Ev (dr (aw many) (k7 c) fr S) (.int (aw r)) (S.put 3 (bO 2 (i+1)))→PP):PP:=by
 refine Rv B h.b h.l (by decide) hl hm fun r hr J=>?_;refine kk r hr (fun k hk=>?_);exact dt<|bk<|aT<|aW hf<|aT<|bk<|bB<|uM rfl (J.mono (az rfl:1≤40)) hk
theorem AY (n:Nat):∀is:List Int,o7 n (is.map AV.int)=(is.take n).map AV.int:=by
 induction n with
 |zero=>intro is;rfl
 |succ n ih=>
  intro is;cases is with
  |nil=>rfl
  |cons x is=>exact congrArg (AV.int x::·) (ih is)
theorem RM (is:List Int) (hl:is.length≤63) (fr:Fr) (hf:bc fr 0=aa (aa (.loc 0))) {PP:Prop} (kk :∀S',Bx (is.take 24) 0 S'→S'.nx=4→Es st1 (k7 c) fr (UN is) (dT fr 1 (aa (.loc 3))) S'→PP):PP:=by
 have l1:(is.take 24).length≤1000:=aB (Fg ..) (by decide)
 let S0:=UN is
 let S1:=S0.new (lO (is.take 24))
 let S2:=S1.new (lO (is.take 24))
 let S3:=S2.new (bO 2 0)
 have g0:S0.get 0=aa (.list ac aj (is.map AV.int) aj):=rfl;have e1:qw (.loc 0) 0 (aa 24) S0=aa (.loc 1,S1):=by
  refine cW rfl (eE (jg g0) (eE rfl (jU rfl (jU rfl (jU (si (aB hl (by decide))) ?_)))));show gU (o7 24 (is.map AV.int)) S0=_;erw[(AY ..)];show gU ((is.take 24).map AV.int) S0=_;unfold gU;erw[si l1];rfl
 have e2:E9 6 [.loc 1] S1=aa (.loc 2,S2):=by
  show ob (dX (.loc 1) S1) (fun p=>gU p.1 S1)=_;erw[(qp (d:=aj) (b:=ae) (l:=(is.take 24).map AV.int) (show S1.get 1=_ from ck))];show gU ((is.take 24).map AV.int) S1=_;unfold gU;erw[si l1];rfl
 refine kk S3 ⟨?_,ck,aY 4⟩ rfl (fun kn kb kr hk=>?_)
 ·exact (b0 (show 2<S2.nx from a8 2)).trans ck
 ·exact mi<|s5<|aT<|dt<|bk<|aT<|VI<|aW hf<|bH e1<|bB<|pC<|bH e2<|aT<|bk<|bB<|bH (a:=.loc 3) (b:=S3) rfl hk
end
end
section
noncomputable def iA (i:Nat):AV:=.int (aw i)
section
variable {c:Cx} {fr:Fr} {S:St} {xs:List Int} {i many:Nat} (B:Bs c)
theorem o6:Ev (Qg (k7 c) fr S) (.loc S.nx) (S.new (lA iR)):=fun k hk=>Hf.trans hk
theorem Ho:Ev (bw (aO (.fn 93)) [] (k7 c) fr S) (.loc S.nx) (S.new (lO M0)):=fun k hk=>Hp.trans hk
theorem He (h:r<6):bc iR r=aa (nam r):=(eL (F:=bc iR) (G:=fun r=>aa (nam r)) (by kernel_rfl) (m6 h):)
theorem Bx.nu (h:Bx xs i S):Bx xs i (S.new o):=h.up .new
theorem eP:(S.put j o).nx=S.nx:=St.nx_put ..
theorem iy:(S.new o).nx=S.nx+1:=St.nx_new ..
include B
theorem RL (h:Bx xs i S) (hl:xs.length≤24) (hf:bc fr 1=aa (aa (.loc 3))) {PP:Prop} (kk :∀T af S',T<6→af<5→Bx xs (i+2) S'→S'.nx=S.nx+1→Es K2 (k7 c) fr S (dT (dT fr 2 (aa (nam T))) 3 (aa (iA af))) S'→PP):PP:=by
 refine pv (many:=6) (fr:=fr) B (h.nu (o:=lA iR)) hl (by decide) hf fun T hT e1=>?_;have h1:=(h.nu (o:=lA iR)).draw;refine pv (many:=5) (fr:=fr) B h1 hl (by decide) hf fun d hd e2=>?_;have gn:((S.new (lA iR)).put 3 (bO 2 (i+1))).get S.nx=aa (lA iR):=(bF (iF (aU (by decide:3<4) h.nx))).trans ck;refine kk T d _ hT hd h1.draw (by rw [eP,eP,iy]) (fun kn kb kr hk=>?_);exact AA<|B7<|aT<|ee<|o6 _<|e1 _<|bg (lu gn (jN hT (by decide)) (He hT))<|aT<|e2 _<|bB<|bH rfl<|bg rfl hk
theorem RK (h:Bx xs i S) (hl:xs.length≤24) (hf:bc fr 1=aa (aa (.loc 3))) {PP:Prop} (kk :∀m S',m<16→Bx xs (i+1) S'→S'.nx=S.nx+1→S'.get S.nx=aa (lA [iA m])→Es U7 (k7 c) fr S (dT fr 4 (aa (.loc S.nx))) S'→PP):PP:=by
 refine pv (many:=16) (fr:=fr) B h hl (by decide) hf fun m hm e1=>?_;refine kk m _ hm (h.draw.nu (o:=lA [iA m])) (by rw [iy,eP]) (ck (S:=S.put 3 (bO 2 (i+1)))) (fun kn kb kr hk=>?_);exact mi<|s5<|aT<|e1 _<|bB<|bH (a:=.loc S.nx) (b:=(S.put 3 (bO 2 (i+1))).new (lA [iA m])) rfl hk
theorem RJ (h:Bx xs i S) (hl:xs.length≤24) (hf:bc fr 1=aa (aa (.loc 3))) (h4:bc fr 4=aa (aa (.loc j))) (hj:S.get j=aa (lA [iA m])) (ne:j≠3) (n2:j≠2) {PP:Prop} (kk :∀m2 S',m2<16→Bx xs (i+1) S'→S'.nx=S.nx→S'.get j=aa (lA [iA m,iA m2])→Es st4 (k7 c) fr S fr S'→PP):PP:=by
 refine pv (many:=16) (fr:=fr) B h hl (by decide) hf fun m2 hm e1=>?_;have gj:(S.put 3 (bO 2 (i+1))).get j=aa (lA [iA m]):=(bF ne).trans hj;have b:=h.draw;refine kk m2 ((S.put 3 (bO 2 (i+1))).put j (lA [iA m,iA m2])) hm ⟨(bF n2.symm).trans b.l,(bF ne.symm).trans b.b,by rw [eP];exact b.nx⟩ (by rw [eP,eP]) fp (fun kn kb kr hk=>?_);have ap:ub j 5 [iA m2] (S.put 3 (bO 2 (i+1)))=aa (.none,(S.put 3 (bO 2 (i+1))).put j (lA [iA m,iA m2])):=by
  unfold ub;rw [gj];rfl
 exact jZ<|eN<|aW h4<|Hq hj<|aT<|e1 _<|bB<|bH ap hk
end
def vR (i:Nat):List Int:=match bc masks i with|some m=>m|none=>[]
noncomputable def Kd (i:Nat) (x:AV):Bool:=match x with|.tup [.int j,_]=>decide (Fi (U1 (aw i) (2 ^ j.toNat)) 2=1)|_=>ae
def bdE (i:Nat) (x:AV):Fr:=match x with|.tup [a,b]=>[aa a,aa b,aa (iA i)]|_=>[]
noncomputable def sndA (x:AV):AV:=match x with|.tup [_,y]=>y|_=>.none
noncomputable def QN:List AV:=[.tup [.int 0,.int 4294967041],.tup [.int 1,.int 4294967042],.tup [.int 2,.int 4294967043],.tup [.int 3,.int 7]]
def Wk (i:Nat):Bool:=match Fl ((QN.filter (Kd i)).map sndA) with|some l=>Ph l ((vR i).map AV.int)|none=>ae
theorem Gx:(bz 16).all Wk=ac:=by decide +kernel
theorem L8 (h:i<16):Fl ((QN.filter (Kd i)).map sndA)=aa ((vR i).map AV.int):=by
 have q:=ai.mp Gx i (bM.mpr h);unfold Wk at q
 split at q
 ·rename_i l e;exact au e▸au (yb q)▸rfl
 ·exact ff q
theorem xF (h:i<16):vR i∈masks:=by
 unfold vR;obtain ⟨w,e,m⟩:∃w,bc masks i=aa w∧w∈masks:=by
  have :∀(l:List (List Int)) (i:Nat),i<l.length→∃w,bc l i=aa w∧w∈l:=fun l=>by
   induction l with
   |nil=>exact fun i h=>absurd h (d6 _)
   |cons x l ih=>
    intro i h;cases i with
    |zero=>exact ⟨x,rfl,.head _⟩
    |succ i=>have ⟨w,a,b⟩:=ih i (dJ h);exact ⟨w,a,.tail _ b⟩
  exact this masks i h
 erw[e];exact m
theorem X9 (h:kt b S=ac):bt b (eO [] rc fr S kt) (kt ae S)=ac:=by cases b<;>exact h
theorem Kx (h:All2 (fun x v=>v=sndA x) l vs):vs=l.map sndA:=by
 induction h with
 |nil=>rfl
 |cons a _ ih=>erw[a,ih];rfl
section
variable {c:Cx} {S:St}
theorem UG (hx:x∈QN) (S:St):Ev (eO [(d7 0 (gI 4 (gI 3 (aD 2) (gI 5 (aO (.int 2)) (aD 0))) (aO (.int 2))) (aO (.int 1)))] (k7 c) (bdE i x) S) (Kd i x) S:=fun kt hk=>by
 have q:x=.tup [.int 0,.int 4294967041]∨x=.tup [.int 1,.int 4294967042]∨x=.tup [.int 2,.int 4294967043]∨x=.tup [.int 3,.int 7]:=by simpa [QN] using hx
 rcases q with rfl|rfl|rfl|rfl<;>exact oN<|gL<|lH<|lH<|aW rfl<|lH<|bk<|aW rfl<|bH rfl<|bH rfl<|bk<|bH rfl<|bk<|bg rfl<|X9 hk
theorem Jm (hi:i<16) (S:St) {PP:Prop} (kk :∀S',S'.nx=S.nx+3→Up S S'→S'.get (S.nx+2)=aa (lO (vR i))→Ev (Um (k7 c) [aa (iA i)] S) (.loc (S.nx+2)) S'→PP):PP:=by
 have n1:(S.new (lO M0)).nx=S.nx+1:=iy;refine Hz (E:=fun f n m=>m=n) (rc:=k7 c) (fr:=[aa (iA i)]) (it:=[(bw (aO (.fn 93)) [])]) (ifs:=[(d7 0 (gI 4 (gI 3 (aD 2) (gI 5 (aO (.int 2)) (aD 0))) (aO (.int 2))) (aO (.int 1)))]) (e:=aD 1) (bm:=[0,1]) (one:=ae) (src:=1)
  (bd:=bdE i) (okF:=fun fr=>∃a b,fr=[a,b,aa (iA i)]) (p:=Kd i) (Q:=fun x v f=>v=sndA x) (S:=S) (S1:=S.new (lO M0)) (i:=S.nx) (own:=2) (aJ:=[0]) (d:=aj) (l:=M0.map AV.int) (items:=QN)
  ZO (fun k hk=>aT<|Ho _<|bB hk) (by erw[n1];exact a8 _) ck (by
   show Ax [.loc S.nx] (S.new (lO M0))=_;unfold Ax;dsimp only;erw[(show (S.new (lO M0)).get S.nx=_ from ck)];rfl) ⟨aj,aj,rfl⟩ (by decide)
  (fun x hx fr ⟨a,b,hf⟩ =>by
   apply dW hf;have q:x=.tup [.int 0,.int 4294967041]∨x=.tup [.int 1,.int 4294967042]∨x=.tup [.int 2,.int 4294967043]∨x=.tup [.int 3,.int 7]:=by simpa [QN] using hx
   rcases q with rfl|rfl|rfl|rfl<;>exact ⟨rfl,_,_,rfl⟩)
  (fun f f f f h f f=>h) (fun x hx S f f f=>⟨S,.refl,rfl,UG hx S⟩)
  (fun x hx f S f f f=>by
   have q:x=.tup [.int 0,.int 4294967041]∨x=.tup [.int 1,.int 4294967042]∨x=.tup [.int 2,.int 4294967043]∨x=.tup [.int 3,.int 7]:=by simpa [QN] using hx
   refine ⟨sndA x,S,.refl,rfl,rfl,fun k hk=>?_⟩;rcases q with rfl|rfl|rfl|rfl<;>exact aW rfl hk) fun vs S2 u f e g al ev=>?_
 have al:=Kx al;subst al;have n2:S2.nx=S.nx+2:=by exact au e▸au n1▸rfl
 have ss:E9 3 [.loc (S.new (lO M0)).nx] S2=aa (.loc S2.nx,S2.new (lO (vR i))):=by
  show ob (dX (.loc (S.new (lO M0)).nx) S2) (fun p=>ob (Fl p.1) fun l=>gU l S2)=_;erw[(qp (d:=aj) (b:=ae) g)];show ob (Fl ((QN.filter (Kd i)).map sndA)) (fun l=>gU l S2)=_;erw[L8 hi];show gU ((vR i).map AV.int) S2=_;unfold gU;erw[ud (xF hi)];rfl
 replace kk:=au n2▸kk;exact kk (S2.new (lO (vR i))) (by exact au iy▸au n2▸rfl) ((Up.new.trans u).trans .new) ck (fun k hk=>dt<|bk<|aT<|ev _<|bB<|pC<|bH ss hk)
theorem HC (h:S.get j=aa (lA acc)) (hl:acc.length<1000) (q:k (S.put j (lA (dL acc [v])))=ac):o_ j v S k=ac:=by
 unfold o_;rw [h];unfold lA;dsimp only;unfold rK;rw [p_ (by rw [fM,bf];exact hl)];exact q
theorem VJ (q:dU it rc fr S (fun vs S=>o2 (xw src vs S) fun l h=>ik rc bm one (eO ifs) (za e rc S.nx) (fun S'=>k (.loc S.nx) (bG h (dy h S) S')) l (dL (d4 own) (eB aJ fr)) ((cL h S).new (lA [])))=ac):xY e bm one src it ifs own aJ rc fr S k=ac:=q
theorem QR (h:Ev (e rc (aa x::rest) S) v S') (g:S'.get j=aa (lA acc)) (hl:acc.length<1000) (q:ik rc [0] ac (eO []) (za e rc j) k l (aa x::rest) (S'.put j (lA (dL acc [v])))=ac):ik rc [0] ac (eO []) (za e rc j) k (x::l) (v0::rest) S=ac:=
 h (fun v S=>o_ j v S fun S=>ik rc [0] ac (eO []) (za e rc j) k l (aa x::rest) S) (HC g hl q)
theorem RI (h:Bx xs t S) (nx:S.nx=6) (h4:bc fr 4=aa (aa (.loc 5))) (g5:S.get 5=aa (lA [iA i0,iA i1])) (h0:i0<16) (h1:i1<16) {PP:Prop} (kk :∀S',Bx xs t S'→S'.nx=13→S'.get 6=aa (lA [.loc 9,.loc 12])→S'.get 9=aa (lO (vR i0))→S'.get 12=aa (lO (vR i1))→Es st5 (k7 c) fr S (dT fr 5 (aa (.loc 6))) S'→PP):PP:=by
 let S0:=(S.put 5 (q7 ac aj [iA i0,iA i1])).new (lA [])
 have n0:S0.nx=7:=by show ((S.put 5 _).new _).nx=_;exact au iy▸au eP▸au nx▸rfl
 have p6:(S.put 5 (q7 ac aj [iA i0,iA i1])).nx=6:=eP.trans nx;have g60:S0.get 6=aa (lA []):=p6▸ck;have g50:S0.get 5=aa (q7 ac aj [iA i0,iA i1]):=(b0 (by erw[p6];decide)).trans fp;have lo :∀x,x<5→S0.get x=S.get x:=fun x hx=>(b0 (by erw[p6];omega)).trans (bF (bv hx));refine Jm (c:=c) h0 S0 fun S1 n1 u1 k1 e1=>?_;rw [n0] at n1 k1 e1;have g61:S1.get 6=aa (lA []):=(u1.2 6 (by erw[n0];decide)).trans g60
 let S2:=S1.put 6 (lA [.loc 9])
 have n2:S2.nx=10:=eP.trans n1;refine Jm (c:=c) h1 S2 fun S3 n3 u3 k3 e3=>?_;rw [n2] at n3 k3 e3;have g63:S3.get 6=aa (lA [.loc 9]):=(u3.2 6 (by erw[n2];decide)).trans fp
 let S4:=S3.put 6 (lA [.loc 9,.loc 12])
 have keep :∀x,x<10→x≠6→S4.get x=S1.get x:=fun x hx ne=>(bF ne).trans ((u3.2 x (by erw[n2];exact hx)).trans (bF ne));have g54:S4.get 5=aa (q7 ac aj [iA i0,iA i1]):=(keep 5 (by decide) (by decide)).trans ((u1.2 5 (by erw[n0];decide)).trans g50);have low :∀x,x<5→(S4.put 5 (q7 ae aj [iA i0,iA i1])).get x=S.get x:=fun x hx=>(bF (bv hx)).trans ((keep x (by omega) (by omega)).trans ((u1.2 x (by erw[n0];omega)).trans (lo x hx)));refine kk (S4.put 5 (q7 ae aj [iA i0,iA i1])) ⟨(low 2 (by decide)).trans h.l,(low 3 (by decide)).trans h.b,by erw[eP,eP,n3];decide⟩ (by exact au eP▸au eP▸au n3▸rfl) ((bF (by decide)).trans fp) ((bF (by decide)).trans ((keep 9 (by decide) (by decide)).trans k1)) ((bF (by decide)).trans ((bF (by decide)).trans k3)) (fun kn kb kr hk=>?_);refine mi ?_;refine VJ<|aT<|aW h4<|bB ?_
 refine bH (x:=xw 0 [.loc 5] S) (a:=[iA i0,iA i1]) (b:=aa 5) (qp (d:=aj) (b:=ae) g5) ?_;show ik (k7 c) [0] ac (eO []) (za Um (k7 c) S.nx) (fun S'=>kn (dT fr 5 (aa (.loc S.nx))) (bG (aa 5) (dy (aa 5) S) S')) [iA i0,iA i1] [aj] ((cL (aa 5) S).new (lA []))=ac;erw[nx,(Sl (d:=aj) g5),(show cL (aa 5) S=S.put 5 (q7 ac aj [iA i0,iA i1]) from wp (d:=aj) g5)];refine QR e1 g61 (by decide)<|QR e3 g63 (by decide) ?_
 show kn (dT fr 5 (aa (.loc 6))) (gq ae 5 S4)=ac;erw[wp g54];exact hk
end
end
section
theorem JFc.wide2 {f v:AV} {args:List AV} {P P' S S':St} (hn:P.nx=S.nx) (X :∀j ob,P.get j=aa ob→S.get j=aa ob) (J:JFc cx n f args P v P') (e :∀j ob,S'.get j=aa ob→qX P.get P'.get S.get S.nx j=aa ob) (hn':P'.nx≤S'.nx):JFc cx n f args S v S':=fun A g s x xs R I rx rxs=>by
 have I':Inv cx g P.get P.nx s.heap:=by erw[hn];exact I.fewer X (aY _)
 refine dp (J A g s x xs R I' rx rxs) fun r s' hr=>hr.imp fun g' w a r=>?_;refine ⟨g.wide g' P.get S.nx,⟨a.same,?_⟩,VR.sees (show Sees g' (g.wide g' P.get S.nx) from ⟨fun b b e=>e,fun b b e=>e⟩) r⟩;have ev:=a.evo;replace ev:=hn▸ev;exact (Evo.wide I X ev).fewer e hn'
def Kn (L:List (Nat×AO)) (S:St):Prop:=∀p∈L,S.get p.1=aa p.2∧p.1<S.nx
theorem Hw (h:(j,o)∈l):∃o',j5 j l=aa o'∧(j,o')∈l:=by
 induction l with
 |nil=>exact nomatch h
 |cons p l ih=>
  cases q:ay p.1 j with
  |true=>exact ⟨p.2,uN q,am q▸.head _⟩
  |false=>
   refine cg (ih ((aN.mp h).resolve_left fun e=>nomatch ((congrArg (fun z:Nat×AO=>ay z.1 j) e).symm.trans (cp j)).symm.trans q)) fun o' a b=>?_;exact ⟨o',(rS q).trans a,.tail _ b⟩
theorem HJ {f v:AV} {args:List AV} {P P' S:St} {U L:List (Nat×AO)} {nx:Nat} (hn:P.nx=S.nx) (X :∀j ob,P.get j=aa ob→S.get j=aa ob) (J:JFc cx n f args P v P') (hk:Kn L S) (hU :∀p∈U,P'.get p.1=aa p.2∧S.nx≤p.1∧p.1<nx)
 (hP :∀j ob,P.get j=aa ob→P'.get j=aa ob) (hx:P'.nx≤nx) (hS:S.nx≤nx):JFc cx n f args S v (gp nx (U++L))∧Kn (U++L) (gp nx (U++L)):=by
 have at_ :∀p∈U++L,qX P.get P'.get S.get S.nx p.1=aa p.2:=fun p hp=>by
  unfold qX;rcases d3.mp hp with h|h
  ·refine B6 (hU p h) fun h1 h2 _=>?_
   split
   ·exact h1
   ·erw[if_neg (PH h2)];exact h1
  ·refine aK (fun h1 h2=>?_) (hk p h)
   split
   ·rename_i ob e;have:=X _ _ e;replace this:=h1▸this;erw[ao this];exact hP _ _ e
   ·erw[if_pos h2];exact h1
 refine ⟨JFc.wide2 hn X J (fun j ob e=>?_) (by erw[ea];exact hx),fun p hp=>⟨?_,?_⟩⟩
 ·replace e:=fk▸e;exact at_ _ (hY e)
 ·refine cg (Hw hp) fun o' a b=>?_;have:=at_ _ b;replace this:=(at_ _ hp)▸this;erw[fk,a];exact this.symm
 ·erw[ea];rcases d3.mp hp with h|h
  ·exact (hU p h).2.2
  ·exact aU (hk p h).2 hS
def pU (af:Nat):Bool:=nJ om0 meths noOv tabC 12 (.fn 97) [iA af] (gp 13 []) fun v S=>K9 v (.loc 13)&&bX S.nx 600&&(part af bN []).all fun p=>Qd (S.get p.1) p.2
def WorldRows:Prop:=∀af,af<5→pU af=ac
def Yy (T af:Nat) (m:List Int) (j nx0 nx1:Nat) (l:List (AV×AV)) (S:St) (N:Nat):Bool:=match bD (nam N) l with
 |some (.loc i)=>(match cK T af m 6 N with|some s=>Qd (S.get i) (lO s)&&aF i nx1&&(ay i j||bX nx0 i)|none=>ae)
 |some _=>ae
 |none=>(match cK T af m 6 N with|some _=>ae|none=>ac)
def rcV (T af:Nat) (m:List Int) (j nx0 nx1:Nat) (v:AV) (S:St):Bool:=match v with
 |.loc r=>aF r nx1&&bX nx0 r&&bX S.nx nx1&&Qd (S.get j) (lO m)&&(match S.get r with
  |some (.dict ae 0 l)=>ay l.length (YT T af m)&&[0,1,2,3,4,5].all (Yy T af m j nx0 nx1 l S)
  |_=>ae)
 |_=>ae
def Yz (T af:Nat) (m:List Int) (j nx0 nx1:Nat) (dv:AV):Bool:=nJ om0 meths noOv tabC 12 (.fn 99) [nam T,.loc j,dv] (gp nx0 [(j,lO m)]) (rcV T af m j nx0 nx1)
def AD (T j nx0 nx1 af:Nat) (dv:AV):Bool:=masks.all fun m=>match Dw T m with
 |true=>[0,1,2,3,4].all fun d=>Yz T d m j nx0 nx1 (iA d)
 |false=>Yz T af m j nx0 nx1 dv
def RchRows:Prop:=∀T,T<6→∀af dv,AD T 9 600 1000 af dv=ac∧AD T 12 1000 1400 af dv=ac
theorem P9 (h :∀af dv,AD T j nx0 nx1 af dv=ac) (hd:af<5) (hm:m∈masks):Yz T af m j nx0 nx1 (iA af)=ac:=by
 have q:=ai.mp (h af (iA af)) m hm;cases e:Dw T m with
 |true=>rw [e] at q;exact ai.mp q af (by
  have:af=0∨af=1∨af=2∨af=3∨af=4:=by omega
  simpa using this)
 |false=>rw [e] at q;exact q
def vQ (i:Nat):Bool:=!cJ i bN&&!ay i 3&&aF i 1400
theorem CB (h:600≤i) (k:i<1400):vQ i=ac:=by
 unfold vQ;have h1:cJ i bN=ae:=by
  cases z:cJ i bN with
  |false=>rfl
  |true=>exact absurd (Bn z) (by omega)
 have h2:ay i 3=ae:=by
  cases z:ay i 3 with
  |false=>rfl
  |true=>exact absurd (am z) (by omega)
 erw[h1,h2,aG.mpr k];rfl
def RD (T af:Nat) (m:List Int) (r:Nat) (L:List (Nat×AO)):Prop:=∃l,(r,AO.dict ae 0 l)∈L∧vQ r=ac∧l.length=YT T af m∧
 ∀N,N<6→(∀s,cK T af m 6 N=aa s→∃i,bD (nam N) l=aa (.loc i)∧(i,lO s)∈L∧vQ i=ac)∧(cK T af m 6 N=aj→bD (nam N) l=aj)
theorem RD.mono (h:RD T af m r L) (s :∀p∈L,p∈L'):RD T af m r L':=by
 refine Ar h fun l h1 h0 h2 h3=>?_;exact ⟨l,s _ h1,h0,h2,fun N hN=>⟨fun x hx=>have ⟨i,a,b,c⟩:=(h3 N hN).1 x hx;⟨i,a,s _ b,c⟩,(h3 N hN).2⟩⟩
theorem P8 {c:Cx} (B:Bs c) {j:Nat} {args:List AV} {S:St} {k:KV} {m:Nat} (h:nJ om0 meths noOv tabC m (.fn j) args S k=ac) {PP:Prop} (kk :∀v S',JFc c m (.fn j) args S v S'→k v S'=ac→PP):PP:=
 ((xz B.P.X.pk B.O (N0:=0) (fun j g e=>no e) m) _ _ _ _ h).2.on fun v S' J q=>kk v S' ((dI m)▸J) q
section
variable {c:Cx} {T af:Nat} {m:List Int} {S:St} {L:List (Nat×AO)} (B:Bs c)
include B in
theorem Cw (row:Yz T af m j nx0 nx1 (iA af)=ac) (hk:Kn L S) (hj:(j,lO m)∈L) (nx:S.nx=nx0) (hj0:vQ j=ac) (h6:600≤nx0) (h14:nx1≤1400) {PP:Prop} (kk :∀r S' L',JFc c 12 (.fn 99) [nam T,.loc j,iA af] S (.loc r) S'→S'.nx=nx1→r<nx1→Kn L' S'→(∀p∈L,p∈L')→RD T af m r L'→PP):PP:=by
 refine P8 B row fun v P' J q=>?_;cases v with
 |loc r=>
  have q:(aF r nx1&&bX nx0 r&&bX P'.nx nx1&&Qd (P'.get j) (lO m)&&(match P'.get r with
   |some (.dict ae 0 l)=>ay l.length (YT T af m)&&[0,1,2,3,4,5].all (Yy T af m j nx0 nx1 l P')
   |_=>ae))=ac:=q
  have q5:=aR q;have q:=aL q;have q4:=nW (aR q);have q:=aL q;have q3:=az (aR q);have q:=aL q;have q2:=az (aR q);have q1:=aG.mp (aL q)
  split at q5
  ·rename_i l e;have ql:=am (aL q5);have qn:=ai.mp (aR q5)
   let U:List (Nat×AO):=(r,AO.dict ae 0 l)::([0,1,2,3,4,5].flatMap fun N=>match bD (nam N) l with
    |some (.loc i)=>(match cK T af m 6 N with|some s=>(match bX nx0 i with|true=>[(i,lO s)]|false=>[])|none=>[])
    |_=>[])
   have hU :∀p∈U,P'.get p.1=aa p.2∧S.nx≤p.1∧p.1<nx1:=fun p hp=>by
    rcases aN.mp hp with z|z
    ·apply dW z;erw[nx];exact ⟨e,q2,q1⟩
    ·refine cg (br.mp z) fun N hN z=>?_;have w:=qn N hN;unfold Yy at w
     split at z
     ·rename_i i ei;replace w:=ei▸w
      split at z
      ·rename_i s es;replace w:=es▸w;dsimp only at w
       split at z
       ·rename_i hi;cases aS.mp z;erw[nx];exact ⟨nW (aL (aL w)),az hi,aG.mp (aR (aL w))⟩
       ·exact nomatch z
      ·exact nomatch z
     ·exact nomatch z
   have X :∀i ob,(gp nx0 [(j,lO m)]).get i=aa ob→i=j∧ob=lO m:=fun i ob z=>by
    replace z:=fk▸z;have:=hY z;cases aS.mp this;exact ⟨rfl,rfl⟩
   refine aK (fun J' K'=>?_) (HJ (S:=S) (L:=L) (U:=U) (nx:=nx1) (by exact au ea▸au nx▸rfl) (fun i ob z=>by obtain ⟨rfl,rfl⟩:=X i ob z;exact (hk _ hj).1) J hk hU (fun i ob z=>by obtain ⟨rfl,rfl⟩:=X i ob z;exact q4) q3 (by rw [nx];exact iG (KX q2 q1)));refine kk r _ (U++L) J' ea q1 K' (fun p hp=>m8 _ hp) ⟨l,jb _ (.head _),CB (aB h6 q2) (aU q1 h14),ql,fun N hN=>?_⟩;have w:=qn N (m6 hN);unfold Yy at w;refine ⟨fun s es=>?_,fun es=>?_⟩
   ·replace w:=es▸w;cases ed:bD (nam N) l with
    |none=>replace w:=ed▸w;exact ff w
    |some x=>
     replace w:=ed▸w;cases x with
     |loc i=>
      have w:(Qd (P'.get i) (lO s)&&aF i nx1&&(ay i j||bX nx0 i))=ac:=w
      cases hi:bX nx0 i with
      |true=>
       refine ⟨i,rfl,?_,CB (aB h6 (az hi)) (aU (aG.mp (aR (aL w))) h14)⟩;refine jb _ (.tail _ (br.mpr ⟨N,m6 hN,?_⟩));erw[ed];dsimp only;erw[es];dsimp only;erw[hi];exact .head _
      |false=>
       replace w:=(pL ..)▸(hi ..)▸w;have ij:=am (aR w);have:=nW (aL (aL w));replace this:=q4▸ij▸this;refine ⟨i,rfl,?_,ij▸hj0⟩;refine au ij▸(ao this)▸?_;exact m8 _ hj
     |_=>exact ff w
   ·replace w:=es▸w;cases ed:bD (nam N) l with
    |none=>rfl
    |some x=>replace w:=ed▸w;cases x<;>exact ff w
  ·exact ff q5
 |_=>exact ff q
end
theorem ZR (hT:T<6) (af:Nat) (a b:List Int):(gQ T (WA T af (PA T (vl T af a b) fun c=>0))).all (fun p=>YW p.2 (base af p.1))=ac:=
 (eL (F:=fun T=>(gQ T (WA T af (PA T (vl T af a b) fun c=>0))).all fun p=>YW p.2 (base af p.1)) (G:=fun c=>ac) (by kernel_rfl) (m6 hT):)
theorem GW (h:cJ j l=ac):(j,base af j)∈part af l []:=bp.mpr ⟨j,gx h,rfl⟩
section
variable {c:Cx} {T af:Nat} {a b:List Int} {S:St} {L:List (Nat×AO)} (B:Bs c)
include B in
theorem Ln (rows:WorldRows) (hT:T<6) (hd:af<5) (hk:Kn L S) (nx:S.nx=13) {PP:Prop} (kk :∀S' L',JFc c 12 (.fn 97) [iA af] S (.loc 13) S'→S'.nx=600→Kn L' S'→(∀p∈L,p∈L')→(∀p∈part af bN [],p∈L')→PP):PP:=by
 refine P8 B (rows af hd) fun v P' J q=>?_;have q3:=ai.mp (aR q);have q:=aL q;have q2:=az (aR q);have q1:=mA (aL q);subst q1;refine aK (fun J' K'=>?_) (HJ (S:=S) (L:=L) (U:=part af bN []) (nx:=600) (by exact au ea▸au nx▸rfl) (fun i ob z=>by rw [fk] at z;exact no z) J hk (fun p hp=>by
  refine ⟨nW (q3 p hp),?_,?_⟩
  ·have:=ai.mp (by decide +kernel:(bN.all fun j=>bX 13 j&&aF j 492)=ac);obtain ⟨j,hj,rfl⟩:=bp.mp hp;erw[nx];exact az (aL (this j hj))
  ·have:=ai.mp (by decide +kernel:(bN.all fun j=>bX 13 j&&aF j 492)=ac);obtain ⟨j,hj,rfl⟩:=bp.mp hp;exact jN (aG.mp (aR (this j hj))) (by decide)) (fun i ob z=>by replace z:=fk▸z;exact no z) q2 (by erw[nx];decide))
 exact kk _ _ J' ea K' (fun p hp=>m8 _ hp) (fun p hp=>jb _ hp)
theorem FG (hT:T<6) (hk:Kn L S) (hp :∀p∈part af bN [],p∈L) (a b:List Int):At T af (WA T af (PA T (vl T af a b) fun c=>0)) S:=fun j hj=>by
 erw[(hk _ (hp _ (GW hj))).1];refine congrArg aa ?_;unfold jK;cases e:j5 j (gQ T (WA T af (PA T (vl T af a b) fun c=>0))) with
 |none=>rfl
 |some o=>exact (Ku (ai.mp (ZR hT af a b) _ (hY e))).symm
end
end
section
def FL (T af:Nat) (w r ah tu nm he:Option AV):Fr:=[aa (.loc 0),aa (.loc 3),aa (nam T),aa (iA af),aa (.loc 5),aa (.loc 6),w,r,ah,tu,nm,he]
structure Gv (c:Cx) (T af:Nat) (a b:List Int) (xs:List Int) (r0 r1:Nat) (L:List (Nat×AO)):Prop where
 B:Bs c
 R:KG
 hT:T<6
 hd:af<5
 ha:a∈masks
 hb:b∈masks
 hx:xs.length≤24
 l6:(6,lA [.loc 9,.loc 12])∈L
 l9:(9,lO a)∈L
 l12:(12,lO b)∈L
 d0:RD T af a r0 L
 d1:RD T af b r1 L
structure Lw (T af:Nat) (a b:List Int) (xs:List Int) (r0 r1:Nat) (L:List (Nat×AO)) (i:Nat) (ph:Nat→Nat) (S:St):Prop where
 W:Wd T af a b ph S
 bx:Bx xs i S
 kn :∀p∈L,vQ p.1=ac→S.get p.1=aa p.2
 rl:S.get 1400=aa (lA [.loc r0,.loc r1])
 nx:1401≤S.nx
theorem sx (h:vQ i=ac):cJ i bN=ae∧i≠3∧i<1400:=by
 have h3:=aG.mp (aR h);have h:=aL h;refine ⟨?_,fun z=>?_,h3⟩
 ·cases q:cJ i bN with
  |false=>rfl
  |true=>have:=aL h;replace this:=q▸this;exact ff this
 ·have:=aR h;replace this:=z▸this;exact ff this
section
variable {c:Cx} {T af:Nat} {a b:List Int} {xs:List Int} {r0 r1:Nat} {L:List (Nat×AO)} {i:Nat} {ph ph':Nat→Nat} {S S':St}
theorem Lw.bes (h:Lw T af a b xs r0 r1 L i ph S) (u:Bes S S') (W:Wd T af a b ph' S'):Lw T af a b xs r0 r1 L i ph' S':=by
 have n:=h.nx;have g :∀j,j<1401→cJ j bN=ae→S'.get j=S.get j:=fun j hj q=>u.2 j (aU hj n) q;refine ⟨W,⟨(g 2 (by decide) (by decide +kernel)).trans h.bx.l,(g 3 (by decide) (by decide +kernel)).trans h.bx.b,aB h.bx.nx u.1⟩,fun p hp q=>?_,(g 1400 (by decide) (by decide +kernel)).trans h.rl,aB n u.1⟩;have o:=sx q;exact (g p.1 (dq o.2.2) o.1).trans (h.kn p hp q)
theorem Wd.up (W:Wd T af a b ph S) (u:Up S S'):Wd T af a b ph S':=⟨W.ok,W.at_.up W.nx u,aB W.nx u.1⟩
theorem Lw.up (h:Lw T af a b xs r0 r1 L i ph S) (u:Up S S'):Lw T af a b xs r0 r1 L i ph S':=h.bes u.bes (h.W.up u)
theorem Lw.draw (h:Lw T af a b xs r0 r1 L i ph S):Lw T af a b xs r0 r1 L (i+1) ph (S.put 3 (bO 2 (i+1))):=by
 refine ⟨⟨h.W.ok,fun j hj=>?_,by erw[eP];exact h.W.nx⟩,h.bx.draw,fun p hp q=>?_,(bF (by decide)).trans h.rl,by erw[eP];exact h.nx⟩
 ·refine (bF fun z=>?_).trans (h.W.at_ j hj);replace hj:=z▸hj;exact ff ((by decide +kernel:cJ 3 bN=ae).symm.trans hj)
 ·exact (bF (sx q).2.1).trans (h.kn p hp q)
section
variable (G:Gv c T af a b xs r0 r1 L)
include G
theorem S_ (h:Lw T af a b xs r0 r1 L i ph S):S.get 6=aa (lA [.loc 9,.loc 12])∧S.get 9=aa (lO a)∧S.get 12=aa (lO b):=
 ⟨h.kn _ G.l6 (by decide +kernel:vQ 6=ac),h.kn _ G.l9 (by decide +kernel:vQ 9=ac),h.kn _ G.l12 (by decide +kernel:vQ 12=ac)⟩
theorem Gc (h:Lw T af a b xs r0 r1 L i ph S) (hn:n=0∨n=1) (hp:ph T=n) {PP:Prop} (kk :∀S',Lw T af a b xs r0 r1 L i (cw T (n+1) ph) S'→Es (Zb (aw n)) (k7 c) (FL T af (aa (.loc 13)) r ah tu nm he) S (FL T af (aa (.loc 13)) r ah tu nm he) S'→PP):PP:=by
 refine B6 (S_ G h) fun g6 g9 g12=>?_;have v:=VT (af:=af) (a:=a) (b:=b) G.hT;have nx:=h.nx;rcases hn with rfl|rfl
 ·refine CR G.B G.R G.hT G.hd G.ha G.hb h.W (s:=a) (by erw[hp];decide) (by erw[hp];exact v.1) g9 (by omega) fun S' J u W=>?_;replace W:=hp▸W;exact kk S' (h.bes u W) (fun kn kb kr hk=>jZ<|dt<|bk<|aT<|aW rfl<|aT<|aW rfl<|aT<|ee<|aW rfl<|bk<|bg (lu g6 (by decide) rfl)<|bB<|uM rfl (J.mono (az rfl:26≤40)) hk)
 ·refine CR G.B G.R G.hT G.hd G.ha G.hb h.W (s:=b) (by erw[hp];decide) (by erw[hp];exact v.2) g12 (by omega) fun S' J u W=>?_;replace W:=hp▸W;exact kk S' (h.bes u W) (fun kn kb kr hk=>jZ<|dt<|bk<|aT<|aW rfl<|aT<|aW rfl<|aT<|ee<|aW rfl<|bk<|bg (lu g6 (by decide) rfl)<|bB<|uM rfl (J.mono (az rfl:26≤40)) hk)
theorem y_ (h:Lw T af a b xs r0 r1 L i ph S) (hm:0<many) (hf:bc fr 1=aa (aa (.loc 3))) {PP:Prop} (kk :∀r,r<many→Ev (dr (aw many) (k7 c) fr S) (iA r) (S.put 3 (bO 2 (i+1)))→PP):PP:=pv G.B h.bx G.hx hm hf kk
end
end
theorem B9 {P:Nat→Prop} (hT:T<6) (h0:P T) (st :∀N k,N<6→bn T N=aa k→P (nb N k)→P N) (hN:N<6):P N:=by
 rcases jz hT with rfl|rfl|rfl|rfl|rfl|rfl
 ·have h1:=st 1 1 (by decide) rfl h0;have h2:=st 2 1 (by decide) rfl h1;have h3:=st 3 1 (by decide) rfl h2;have h4:=st 4 1 (by decide) rfl h2;have h5:=st 5 1 (by decide) rfl h4;rcases jz hN with rfl|rfl|rfl|rfl|rfl|rfl<;>assumption
 ·have g0:=st 0 1 (by decide) rfl h0;have h2:=st 2 1 (by decide) rfl h0;have h3:=st 3 1 (by decide) rfl h2;have h4:=st 4 1 (by decide) rfl h2;have h5:=st 5 1 (by decide) rfl h4;rcases jz hN with rfl|rfl|rfl|rfl|rfl|rfl<;>assumption
 ·have h1:=st 1 2 (by decide) rfl h0;have g0:=st 0 1 (by decide) rfl h1;have h3:=st 3 1 (by decide) rfl h0;have h4:=st 4 1 (by decide) rfl h0;have h5:=st 5 1 (by decide) rfl h4;rcases jz hN with rfl|rfl|rfl|rfl|rfl|rfl<;>assumption
 ·have h2:=st 2 2 (by decide) rfl h0;have h1:=st 1 2 (by decide) rfl h2;have g0:=st 0 1 (by decide) rfl h1;have h4:=st 4 1 (by decide) rfl h2;have h5:=st 5 1 (by decide) rfl h4;rcases jz hN with rfl|rfl|rfl|rfl|rfl|rfl<;>assumption
 ·have h2:=st 2 3 (by decide) rfl h0;have h1:=st 1 2 (by decide) rfl h2;have g0:=st 0 1 (by decide) rfl h1;have h3:=st 3 1 (by decide) rfl h2;have h5:=st 5 1 (by decide) rfl h0;rcases jz hN with rfl|rfl|rfl|rfl|rfl|rfl<;>assumption
 ·have h4:=st 4 2 (by decide) rfl h0;have h2:=st 2 3 (by decide) rfl h4;have h1:=st 1 2 (by decide) rfl h2;have g0:=st 0 1 (by decide) rfl h1;have h3:=st 3 1 (by decide) rfl h2;rcases jz hN with rfl|rfl|rfl|rfl|rfl|rfl<;>assumption
theorem Sv (P:v5 T ph) (hT:T<6) (hN:N<6):ph N≤ph T:=
 B9 (P:=fun N=>ph N≤ph T) hT (aY _) (fun N k hN e h=>aB (P.mono N k hN e) h) hN
theorem yV (P:v5 T ph) (hT:T<6) (q:mE T (PA T (vl T af a b) ph)) (hN:N<6):vl T af a b N (ph N)=vl T af a b N (ph T):=
 B9 (P:=fun N=>vl T af a b N (ph N)=vl T af a b N (ph T)) hT rfl (fun N k hN e h=>by
  have q:=q N k hN e;have q:sr T (vl T af a b) ph N=[]:=q;unfold sr at q;rw [e] at q;have z:=Dx (P.mono N k hN e) q;have kd:=pf e rfl;exact z▸au (jQ hT _ lJ hN kd)▸au (jQ hT _ lJ hN kd)▸au h▸rfl) hN
end
section
structure z4:Prop where
 R:KG
 world:WorldRows
 rch:RchRows
theorem Kn.get (h:Kn L S) (m:(j,o)∈L):S.get j=aa o:=(h _ m).1
theorem M4 (B:Bs c) (R:z4) (hT:T<6) (hd:af<5) (ha:a∈masks) (hb:b∈masks) (hx:xs.length≤24) (h:Bx xs t S) (nx:S.nx=13) (g6:S.get 6=aa (lA [.loc 9,.loc 12])) (g9:S.get 9=aa (lO a)) (g12:S.get 12=aa (lO b)) {PP:Prop} (kk :∀S6 r0 r1 L S7,Es st6 (k7 c) (FL T af w r ah tu nm he) S (FL T af (aa (.loc 13)) r ah tu nm he) S6→Es st7 (k7 c) (FL T af (aa (.loc 13)) r ah tu nm he) S6 (FL T af (aa (.loc 13)) (aa (.loc 1400)) ah tu nm he) S7→Gv c T af a b xs r0 r1 L→Lw T af a b xs r0 r1 L t (fun d=>0) S7→PP):PP:=by
 let L0:List (Nat×AO):=[(2,lO xs),(3,bO 2 t),(6,lA [.loc 9,.loc 12]),(9,lO a),(12,lO b)]
 have k0:Kn L0 S:=fun p hp=>by
  have q:p=(2,lO xs)∨p=(3,bO 2 t)∨p=(6,lA [.loc 9,.loc 12])∨p=(9,lO a)∨p=(12,lO b):=by simpa [L0] using hp
  rw [nx];rcases q with rfl|rfl|rfl|rfl|rfl
  ·exact ⟨h.l,(by decide:2<13)⟩
  ·exact ⟨h.b,(by decide:3<13)⟩
  ·exact ⟨g6,(by decide:6<13)⟩
  ·exact ⟨g9,(by decide:9<13)⟩
  ·exact ⟨g12,(by decide:12<13)⟩
 refine Ln B R.world hT hd k0 nx fun S6 L1 J6 n6 k1 s1 w1=>?_;have m9:(9,lO a)∈L0:=.tail _ (.tail _ (.tail _ (.head _)));have m12:(12,lO b)∈L0:=.tail _ (.tail _ (.tail _ (.tail _ (.head _))));have m6:(6,lA [.loc 9,.loc 12])∈L0:=.tail _ (.tail _ (.head _));refine Cw B (P9 (fun af dv=>(R.rch T hT af dv).1) hd ha) k1 (s1 _ m9) n6 (by decide +kernel) (aY _) (by decide) fun r0 Sa L2 Ja na l0 k2 s2 d0=>?_;refine Cw B (P9 (fun af dv=>(R.rch T hT af dv).2) hd hb) k2 (s2 _ (s1 _ m12)) na (by decide +kernel) (by decide) (aY _) fun r1 Sb L3 Jb nb l1 k3 s3 d1=>?_;have up :∀p∈L0,p∈L3:=fun p hp=>s3 _ (s2 _ (s1 _ hp));have k4:Kn L3 (Sb.new (lA [.loc r0,.loc r1])):=fun p hp=>⟨(b0 (k3 p hp).2).trans (k3 p hp).1,by rw [iy];exact dq (k3 p hp).2⟩
 have n7:(Sb.new (lA [.loc r0,.loc r1])).nx=1401:=by rw [iy,nb]
 refine kk S6 r0 r1 L3 (Sb.new (lA [.loc r0,.loc r1])) (fun kn kb kr hk=>?_) (fun kn kb kr hk=>?_) ⟨B,R.R,hT,hd,ha,hb,hx,up _ m6,up _ m9,up _ m12,d0.mono s3,d1⟩ ⟨⟨?_,?_,?_⟩,⟨k4.get (up _ (.head _)),k4.get (up _ (.tail _ (.head _))),?_⟩,fun p hp d=>(k4 p hp).1,?_,?_⟩
 ·exact mi<|dt<|bk<|aT<|aW rfl<|bB<|uM rfl (J6.mono (az rfl:12≤40)) hk
 ·refine mi<|s5<|aT<|dt<|bk<|aT<|aW rfl<|aT<|ee<|aW rfl<|bk<|bg (lu (r:=0) (k1.get (s1 _ m6)) (by decide) rfl)<|aT<|aW rfl<|bB<|uM rfl (Ja.mono (az rfl:12≤40)) ?_
  refine aT<|dt<|bk<|aT<|aW rfl<|aT<|ee<|aW rfl<|bk<|bg (lu (r:=1) (k2.get (s2 _ (s1 _ m6))) (by decide) rfl)<|aT<|aW rfl<|bB<|uM rfl (Jb.mono (az rfl:12≤40)) ?_
  refine bB<|bH (a:=.loc 1400) (b:=Sb.new (lA [.loc r0,.loc r1])) ?_ hk
  show aa (AV.loc Sb.nx,Sb.new (lA [.loc r0,.loc r1]))=_;rw [nb]
 ·exact ⟨fun d d=>a7 _,fun d d d d=>aY _⟩
 ·exact FG hT k4 (fun p hp=>s3 _ (s2 _ (w1 p hp))) a b
 ·rw [n7];decide
 ·rw [n7];decide
 ·have:(Sb.new (lA [.loc r0,.loc r1])).get Sb.nx=aa (lA [.loc r0,.loc r1]):=ck;rw [nb] at this;exact this
 ·rw [n7];exact aY _
end
section
theorem All2.mem_r {α β:Type} {R:α→β→Prop} {l:List α} {m:List β} (x:All2 R l m) {b:β} (h:b∈m):∃a∈l,R a b:=by
 induction x with
 |nil=>exact nomatch h
 |cons r _ ih=>
  rcases aN.mp h with e|e
  ·apply dW e;exact ⟨_,.head _,r⟩
  ·have ⟨a,m,q⟩:=ih e;exact ⟨a,.tail _ m,q⟩
theorem All2.mem_l {α β:Type} {R:α→β→Prop} {l:List α} {m:List β} (x:All2 R l m) {a:α} (h:a∈l):∃b∈m,R a b:=by
 induction x with
 |nil=>exact nomatch h
 |cons r _ ih=>
  rcases aN.mp h with e|e
  ·apply dW e;exact ⟨_,.head _,r⟩
  ·have ⟨b,m,q⟩:=ih e;exact ⟨b,.tail _ m,q⟩
theorem Dd (l:List Int):dY (l.map AV.int)=l:=by
 induction l with
 |nil=>rfl
 |cons x l ih=>exact congrArg (x::·) ih
theorem GH (q:dU it rc fr S (fun vs S=>o2 (xw src vs S) fun l h=>pr rc bm one body (fun fr S'=>kn fr (bG h (dy h S) S')) (fun v fr S'=>kr v fr (bG h (dy h S) S')) l fr (cL h S))=ac):tZ bm one src it body rc fr S kn kb kr=ac:=q
section
variable {S:St} {r:Nat} {l:List (AV×AV)} {N:Nat}
theorem nU (h:S.get r=aa (.dict ae 0 l)) (hN:N<6):pF (.loc r) (nam N) S=bD (nam N) l:=cW rfl (cW (xK h) (eE (py h) (jU (ml hN).1 rfl)))
theorem Wy (h:S.get r=aa (.dict ae 0 l)) (hN:N<6):qx om0 6 (nam N) (.loc r) S=aa (oz (bD (nam N) l)):=
 show Yc om0 (nam N) (.loc r) S=_ from cW rfl (cW rfl (cW (xK h) (eE (py h) (jU (ml hN).1 (by cases bD (nam N) l<;>rfl)))))
theorem Hl (hy:S.get y=aa (lO m)) (vs:List AV) (h :∀v∈vs,∃i s,v=.loc i∧S.get i=aa (lO s)):∃b,Hm (uG S) (.loc y) vs=aa b∧((∃i,AV.loc i∈vs∧S.get i=aa (lO m))→b=ac):=by
 induction vs with
 |nil=>exact ⟨ae,rfl,fun ⟨_,z,_⟩ =>nomatch z⟩
 |cons v vs ih=>
  refine cg (ih fun w hw=>h w (.tail _ hw)) fun b e q=>?_;apply PS (h v (.head _));intro i s g;refine ⟨decide (s=m)||b,?_,fun ⟨j,hj,gj⟩ =>?_⟩
  ·exact eE (mX g hy) (eE e rfl)
  ·rcases aN.mp hj with z|z
   ·cases z;replace gj:=g▸gj;have:s=m:=by
     have z:=ao gj;unfold lO at z;injection z with _ _ z _
     have:=congrArg dY z
     rwa [Dd,Dd] at this
    erw[decide_eq_true this];rfl
   ·exact au (q ⟨j,z,gj⟩ ..)▸au (Bool.or_true ..)▸rfl
end
section
variable {c:Cx} {T af:Nat} {a b:List Int} {xs:List Int} {r0 r1:Nat} {L:List (Nat×AO)} {i:Nat} {ph:Nat→Nat} {S:St} (G:Gv c T af a b xs r0 r1 L)
include G
theorem Em (h:Lw T af a b xs r0 r1 L i ph S) (hp:ph T≤2) {N:Nat} (hN:N<6) {ah tu he:Option AV} {PP:Prop} (kk :∀S' v,Up S S'→Es wY (k7 c) (FL T af (aa (.loc 13)) (aa (.loc 1400)) ah tu (aa (nam N)) he) S (FL T af (aa (.loc 13)) (aa (.loc 1400)) ah tu (aa (nam N)) (aa v)) S'→PP):PP:=by
 have J:=Bo G.B G.hT hN h.W.at_ (lI G.ha G.hb N _);have J:JFc c 2 (.fn 100) [.loc 13,nam N] S (hV S (vl T af a b N (ph N))) (hS S (vl T af a b N (ph N))):=J;have pN:=aB (Sv h.W.ok G.hT hN) hp;cases e:vl T af a b N (ph N) with
 |none=>
  rw [e] at J;exact kk S .none .refl (fun kn kb kr hk=>du<|mi<|dt<|bk<|aT<|aW rfl<|aT<|aW rfl<|bB<|uM rfl (J.mono (az rfl:2≤40))<|gN<|tY<|oN<|gL<|aW rfl<|bk<|bg (a:=ae) rfl<|kM rfl<|kM rfl<|oS hk)
 |some m=>
  rw [e] at J
  let S1:=S.new (lO m)
  have h1:=h.up (Up.new (o:=lO m));have gy:S1.get S.nx=aa (lO m):=ck;have n1:S1.nx=S.nx+1:=iy;have nx:=h.nx;have rd :∀r s,RD T af s r L→∃l,S1.get r=aa (.dict ae 0 l)∧r<1400∧(∀v,bD (nam N) l=aa v→∃i s',v=.loc i∧S1.get i=aa (lO s')∧i<1400)∧∀s',cK T af s 6 N=aa s'→∃i,bD (nam N) l=aa (.loc i)∧S1.get i=aa (lO s'):=fun r s ⟨l,q1,q2,_,q3⟩ =>by
   refine ⟨l,h1.kn _ q1 q2,(sx q2).2.2,fun v hv=>?_,fun s' hs=>?_⟩
   ·cases z:cK T af s 6 N with
    |none=>rw [(q3 N hN).2 z] at hv;exact no hv
    |some s'=>
     refine lG ((q3 N hN).1 s' z) fun j w1 w2 w3=>?_;rw [w1] at hv;exact ⟨j,s',(ao hv).symm,h1.kn _ w2 w3,(sx w3).2.2⟩
   ·refine lG ((q3 N hN).1 s' hs) fun j w1 w2 w3=>?_;exact ⟨j,w1,h1.kn _ w2 w3⟩
  refine Ar (rd r0 a G.d0) fun l0 e0 lt0 f0 k0=>?_;refine Ar (rd r1 b G.d1) fun l1 e1 S9 f1 k1=>?_;have two :∀x∈[AV.loc r0,AV.loc r1],∃r l,x=.loc r∧S1.get r=aa (.dict ae 0 l)∧r<1400∧∀v,bD (nam N) l=aa v→∃i s',v=.loc i∧S1.get i=aa (lO s')∧i<1400:=fun x hx=>by
   rcases aN.mp hx with z|z
   ·exact ⟨r0,l0,z,e0,lt0,f0⟩
   ·exact ⟨r1,l1,aS.mp z,e1,S9,f1⟩
  refine CW (rc:=k7 c) (fr:=FL T af (aa (.loc 13)) (aa (.loc 1400)) ah tu (aa (nam N)) (aa (.loc S.nx))) (it:=[(aD 7)]) (ifs:=[(d7 6 (aD 1) (aD 0))]) (e:=cX (aD 0) (aD 1))
   (p:=fun x=>oz (pF x (nam N) S1)) (Q:=fun x v f=>pF x (nam N) S1=aa v) (S:=S1) (S1:=S1) (i:=1400) (own:=1) (aJ:=[10]) (d:=aj) (l:=[.loc r0,.loc r1]) (rest:=[aa (nam N)])
   (fun k hk=>aT<|aW rfl<|bB hk) (by omega) h1.rl rfl (show 2≤1000 by decide) (fun f f f f h f f=>h)
   (fun x hx S3 f f st=>by
    apply PQ (two x hx);intro r l q1 q2 _;have q3:S3.get r=aa (.dict ae 0 l):=(st r (by omega) (by omega)).trans q1;refine ⟨S3,.refl,fun kt hk=>?_⟩;rw [nU q1 hN] at hk;exact oN<|gL<|aW rfl<|aW rfl<|bg (Wy q3 hN)<|X9 hk)
   (fun x hx hp S3 f f st=>by
    refine Y5 (two x hx) fun r l q700 q1 q2 f=>?_;subst q700;have q3:S3.get r=aa (.dict ae 0 l):=(st r (by omega) (by omega)).trans q1;rw [nU q1 hN] at hp;cases z:bD (nam N) l with
    |none=>rw [z] at hp;exact ff hp
    |some v=>exact ⟨v,S3,.refl,(nU q1 hN).trans z,fun k hk=>ee<|aW rfl<|aW rfl<|bg ((nU q3 hN).trans z) hk⟩) fun vs S2 u2 n2 g2 al ev=>?_
  have all :∀v∈vs,∃i s,v=.loc i∧S2.get i=aa (lO s):=fun v hv=>by
   refine cg (al.mem_r hv) fun x hx q=>?_;refine Y5 (two x (gY.mp hx).1) fun r l q900 q1 q2 q3=>?_;subst q900;rw [nU q1 hN] at q;refine rJ (q3 v q) fun j s z1 z2 z3=>?_;exact ⟨j,s,z1,(u2.2 j (by omega)).trans z2⟩
  refine cg (Hl ((u2.2 S.nx (by omega)).trans gy) vs all) fun bb hb hbt=>?_;have bt1:bb=ac:=hbt (by
   have put :∀r l,AV.loc r∈[AV.loc r0,AV.loc r1]→S1.get r=aa (.dict ae 0 l)→(∃i,bD (nam N) l=aa (.loc i)∧S1.get i=aa (lO m))→∃i,AV.loc i∈vs∧S2.get i=aa (lO m):=fun r l hr q1 ⟨j,q2,q3⟩ =>by
    refine cg (al.mem_l (gY.mpr ⟨hr,(show oz (pF (.loc r) (nam N) S1)=ac by rw [nU q1 hN,q2];rfl)⟩)) fun v hv q=>?_;rw [nU q1 hN,q2] at q;rw [← ao q] at hv;have lt:j<S1.nx:=by
     refine Y5 (two _ hr) fun r' l' z0 z1 z2 z3=>?_;cases z0;rw [q1] at z1;cases z1;refine rJ (z3 _ q2) fun j' s' y1 y2 y3=>?_;cases y1;omega
    exact ⟨j,hv,(u2.2 j lt).trans q3⟩
   have c3:ph N=0∨ph N=1∨ph N=2:=by omega
   rcases c3 with z|z|z
   ·rw [z] at e;exact no e
   ·rw [z] at e;exact put r0 l0 (.head _) e0 (k0 m e)
   ·rw [z] at e;exact put r1 l1 (.tail _ (.head _)) e1 (k1 m e))
  have ni:qx om0 7 (.loc S.nx) (.loc S1.nx) S2=aa ae:=by
   exact eE (x:=Yc om0 (.loc S.nx) (.loc S1.nx) S2) (cW rfl (cW rfl (jR (jg (show S2.get S1.nx=aa (.list ae aj vs aj) from g2)) (hb.trans (congrArg aa bt1))))) rfl
  exact kk S2 (.loc S.nx) (Up.new.trans u2) (fun kn kb kr hk=>du<|mi<|dt<|bk<|aT<|aW rfl<|aT<|aW rfl<|bB<|uM rfl (J.mono (az rfl:2≤40))<|gN<|tY<|oN<|gL<|aW rfl<|bk<|bg (a:=ac) rfl<|mz rfl<|oN<|gL<|aW rfl<|ev _<|bg ni<|kM rfl<|kM rfl<|oS hk)
theorem Hu (hp:ph T≤2) (kn:KF) (kr:KR):∀(Ns:List Nat),(∀N∈Ns,N<6)→∀{S:St} {nm he:Option AV},Lw T af a b xs r0 r1 L i ph S→(∀S' nm he,Up S S'→kn (FL T af (aa (.loc 13)) (aa (.loc 1400)) ah tu nm he) S'=ac)→pr (k7 c) [10] ac wY kn kr (Ns.map nam) (FL T af (aa (.loc 13)) (aa (.loc 1400)) ah tu nm he) S=ac:=fun Ns=>by
 induction Ns with
 |nil=>exact fun d S nm he h hk=>hk S nm he .refl
 |cons N Ns ih=>
  intro hN S nm he h hk;refine Em G h hp (hN N (.head _)) (ah:=ah) (tu:=tu) (he:=he) fun S' v u e=>?_;show o1 (eI [10] ac (nam N) (FL T af (aa (.loc 13)) (aa (.loc 1400)) ah tu nm he)) (fun fr=>wY (k7 c) fr S (fun fr S=>pr (k7 c) [10] ac wY kn kr (Ns.map nam) fr S) (fun fr S=>kn fr S) kr)=ac;refine bg (a:=FL T af (aa (.loc 13)) (aa (.loc 1400)) ah tu (aa (nam N)) he) rfl ?_;exact e _ _ _ (ih (fun M hM=>hN M (.tail _ hM)) (h.up u) fun S'' nm he w=>hk S'' nm he (u.trans w))
theorem M7 (h:Lw T af a b xs r0 r1 L i ph S) (hp:ph T≤2) (kn kb:KF) (kr:KR) (hk :∀S' nm he,Up S S'→kn (FL T af (aa (.loc 13)) (aa (.loc 1400)) ah tu nm he) S'=ac):
 uh (k7 c) (FL T af (aa (.loc 13)) (aa (.loc 1400)) ah tu nm he) S kn kb kr=ac:=by
 let S1:=S.new (lA iR)
 have g1:S1.get S.nx=aa (q7 ae aj iR):=ck;have n1:S1.nx=S.nx+1:=iy;have up0:Up S (S1.put S.nx (q7 ac aj iR)):=⟨by rw [eP,n1];exact ie _,fun x hx=>(bF (bv hx)).trans (b0 hx)⟩
 refine GH<|aT<|o6 _<|bB ?_
 refine bH (x:=xw 0 [.loc S.nx] S1) (a:=iR) (b:=aa S.nx) (qp g1) ?_;show pr (k7 c) [10] ac wY (fun fr S'=>kn fr (bG (aa S.nx) (dy (aa S.nx) S1) S')) (fun v fr S'=>kr v fr (bG (aa S.nx) (dy (aa S.nx) S1) S')) ([0,1,2,3,4,5].map nam) (FL T af (aa (.loc 13)) (aa (.loc 1400)) ah tu nm he) (cL (aa S.nx) S1)=ac;rw [Sl g1,show cL (aa S.nx) S1=S1.put S.nx (q7 ac aj iR) from wp g1];refine Hu G hp _ _ [0,1,2,3,4,5] (by decide) (h.up up0) fun S' nm he u=>?_;have g':S'.get S.nx=aa (q7 ac aj iR):=(u.2 S.nx (by rw [eP,n1];exact a8 _)).trans fp;show kn _ (gq ae S.nx S')=ac;rw [wp g'];refine hk _ nm he ⟨?_,fun x hx=>(bF (bv hx)).trans ((u.2 x (aU hx up0.1)).trans (up0.2 x hx))⟩;rw [eP];exact aB up0.1 u.1
end
end
section
theorem Sm (hT:T<6) (h:ph T=1):oT (cw T 2 ph)+1=oT ph:=by
 have:=t4 (e:=2) (ph:=ph) hT;omega
section
variable {c:Cx} {T af:Nat} {a b:List Int} {xs:List Int} {r0 r1:Nat} {L:List (Nat×AO)} {ah:Nat} (G:Gv c T af a b xs r0 r1 L)
def QY (T ah t:Nat) (ph:Nat→Nat):Prop:=(t≤ah∧ph T=1∧oT ph≤17)∨(ah<t∧ph T=2∧oT ph+t≤24)
abbrev FB (T af ah:Nat) (tu nm he:Option AV):Fr:=FL T af (aa (.loc 13)) (aa (.loc 1400)) (aa (iA ah)) tu nm he
include G
theorem F8 (hah:ah<6) (kn:KF) (kr:KR) (hk :∀tu nm he i ph S,Lw T af a b xs r0 r1 L i ph S→mE T (PA T (vl T af a b) ph)→ph T=2→kn (FB T af ah tu nm he) S=ac):
 ∀(n t:Nat),t+n=40→∀{S:St} {i:Nat} {ph:Nat→Nat} {tu nm he:Option AV},Lw T af a b xs r0 r1 L i ph S→QY T ah t ph→pr (k7 c) [9] ac (bK [Wc,uh]) kn kr ((u7 t n).map iA) (FB T af ah tu nm he) S=ac:=fun n=>by
 induction n with
 |zero=>
  intro t ht S i ph tu nm he h st;rcases st with ⟨h1,_,_⟩|⟨_,_,h1⟩<;>omega
 |succ n ih=>
  intro t ht S i ph tu nm he h st;have ih:=@ih (t+1) (by omega);show o1 (eI [9] ac (iA t) (FB T af ah tu nm he)) (fun fr=>bK [Wc,uh] (k7 c) fr S (fun fr S=>pr (k7 c) [9] ac (bK [Wc,uh]) kn kr ((u7 (t+1) n).map iA) fr S) (fun fr S=>kn fr S) kr)=ac;refine bg (a:=FB T af ah (aa (iA t)) nm he) rfl ?_;have on :∀{i':Nat} {ph':Nat→Nat} {S':St},Lw T af a b xs r0 r1 L i' ph' S'→QY T ah (t+1) ph'→bK [uh] (k7 c) (FB T af ah (aa (iA t)) nm he) S' (fun fr S=>pr (k7 c) [9] ac (bK [Wc,uh]) kn kr ((u7 (t+1) n).map iA) fr S) (fun fr S=>kn fr S) kr=ac:=fun {i' ph' S'} h' st'=>by
   have p2:ph' T≤2:=by rcases st' with ⟨_,e,_⟩|⟨_,e,_⟩<;>omega
   exact gN<|M7 G h' p2 _ _ _ fun S'' nm he u=>ih (h'.up u) st'
  have eq9:qx om0 0 (iA t) (iA ah) S=aa (decide (aw t=aw ah)):=rfl;refine du<|tY<|gL<|aW rfl<|aW rfl<|bg eq9 ?_
  cases q:decide (aw t=aw ah) with
  |true=>
   have e:t=ah:=vc (of_decide_eq_true q);subst e;rcases st with ⟨_,e1,e2⟩|⟨z,_⟩
   ·refine Gc G h (n:=1) (.inr rfl) e1 (r:=aa (.loc 1400)) (ah:=aa (iA t)) (tu:=aa (iA t)) (nm:=nm) (he:=he) fun S' h' ev=>?_;have:=Sm G.hT e1;exact mz rfl<|gN<|ev _ _ _<|on h' (.inr ⟨a8 _,cV,by show oT (cw T 2 ph)+(t+1)≤24;omega⟩)
   ·exact absurd z (dK _)
  |false=>
   have ne:t≠ah:=fun e=>of_decide_eq_false q (congrArg aw e);refine y_ G h (many:=9) (by decide) (fr:=FB T af ah (aa (iA t)) nm he) rfl fun r hr ed=>?_;have h1:=h.draw;refine Gr G.B G.R G.hT G.hd G.ha G.hb h1.W r t fun v S2 J ⟨b2,P⟩ =>?_;refine kM rfl<|gN<|tY<|oN<|Gn<|Gm<|eN<|aW rfl<|hX (zl G.hT h.W.at_) rfl rfl rfl<|aT<|ed _<|aT<|aW rfl<|bB<|uM rfl (J.mono (az rfl:28≤40)) ?_
   rcases P with ⟨rfl,qu,W2⟩|⟨rfl,C,e,hC,neC,lt,W2⟩
   ·have h2:=h1.bes b2 W2;have gt:qx om0 4 (iA t) (iA ah) S2=aa (decide (aw ah<aw t)):=rfl;refine bg (a:=ae) rfl<|mz rfl<|oN<|gL<|aW rfl<|aW rfl<|bg gt ?_
    cases q2:decide (aw ah<aw t) with
    |true=>
     have lt:ah<t:=iI.mp (of_decide_eq_true q2);have p2:ph T=2:=by rcases st with ⟨z,_⟩|⟨_,e,_⟩<;>omega
     exact mz rfl<|Aw<|mz rfl<|gN<|Wv<|hk _ _ _ _ _ _ h2 qu p2
    |false=>
     have le:¬ ah<t:=fun z=>of_decide_eq_false q2 (iI.mpr z);refine kM rfl<|kM rfl<|oS<|on h2 ?_
     rcases st with ⟨z,e1,e2⟩|⟨z,_⟩
     ·exact .inl ⟨by omega,e1,e2⟩
     ·exact absurd z le
   ·have h2:=h1.bes b2 W2;have r6:=wt hC lt W2.ok;refine bg (a:=ac) rfl<|kM rfl<|kM rfl<|oS<|on h2 ?_
    have eT:cw C e ph T=ph T:=cy fun z=>neC z.symm;rcases st with ⟨z,e1,e2⟩|⟨z,e1,e2⟩
    ·exact .inl ⟨by omega,eT.trans e1,by omega⟩
    ·exact .inr ⟨by omega,eT.trans e1,by omega⟩
theorem L7 (hah:ah<6) (h:Lw T af a b xs r0 r1 L i ph S) (p1:ph T=1) (r6:oT ph≤17) (kn kb:KF) (kr:KR) (hk :∀tu nm he i ph S,Lw T af a b xs r0 r1 L i ph S→mE T (PA T (vl T af a b) ph)→ph T=2→kn (FB T af ah tu nm he) S=ac):
 Wj (k7 c) (FB T af ah tu nm he) S kn kb kr=ac:=by
 refine GH<|aT<|bk<|bB ?_
 refine bH (x:=xw 2 [.int 40] S) (a:=(u7 0 40).map iA) (b:=aj) rfl ?_;exact F8 G hah _ _ hk 40 0 rfl h (.inl ⟨a7 _,p1,r6⟩)
end
end
section
noncomputable def U_ (x:AV):Nat:=match x with|.str n=>(match n with|12=>0|10=>1|8=>2|7=>3|9=>4|_=>5)|_=>5
theorem o5 {N:Nat} (h:N<6):U_ (nam N)=N:=(eL (F:=fun N=>U_ (nam N)) (G:=fun N=>N) (by kernel_rfl) (m6 h):)
theorem Nd {M N:Nat} (hM:M<6) (hN:N<6):lj (nam M) (nam N)=ay M N:=(eL (F:=fun p:Nat×Nat=>lj (nam p.1) (nam p.2)) (G:=fun p=>ay p.1 p.2) (by kernel_rfl) (SZ hM hN):)
theorem Xx {S:St} {m:Mk}:Up S (hS S m):=by cases m;exact .refl;exact .new
theorem All2.of_map {α β γ:Type} {f:α→β} {R:β→γ→Prop} (l:List α):∀{vs:List γ},All2 R (l.map f) vs→All2 (fun a v=>R (f a) v) l vs:=by
 induction l with
 |nil=>intro vs h;cases h;exact .nil
 |cons a l ih=>
  intro vs h;cases h with
  |cons r h=>exact .cons r (ih h)
theorem All2.imp_in {α β:Type} {R R':α→β→Prop} {l:List α} {m:List β} (x:All2 R l m):(∀a∈l,∀b,R a b→R' a b)→All2 R' l m:=by
 induction x with
 |nil=>exact fun c=>.nil
 |cons r _ ih=>exact fun h=>.cons (h _ (.head _) _ r) (ih fun a ha=>h a (.tail _ ha))
noncomputable def K4 (v:AV):AV×AV:=match v with|.tup [k,w]=>(k,w)|_=>(.none,.none)
theorem Jq (h :∀p∈acc,lj p.1 k=ae):lz k v acc=acc++[(k,v)]:=by
 induction acc with
 |nil=>rfl
 |cons p acc ih=>
  exact (uE (h p (.head _))).trans (congrArg (p::·) (ih fun q hq=>h q (.tail _ hq)))
theorem zB (Ns:List Nat):∀{vs:List AV} {d:Nat} {acc:List (AV×AV)},All2 (fun N v=>∃y,v=.tup [nam N,.loc y]) Ns vs→(∀N∈Ns,N<6)→Ns.Nodup→(d=0∨d=9)→(∀p∈acc,∃M,M<6∧p.1=nam M∧M∉Ns)→
 ∃d',(d'=0∨d'=9)∧iD vs d acc=aa (d',acc++vs.map K4):=by
 induction Ns with
 |nil=>intro vs d acc al _ _ hd _;cases al;exact ⟨d,hd,by erw[(List.map_nil ..),(cf ..)];rfl⟩
 |cons N Ns ih=>
  intro vs d acc al h6 nd hd hacc;cases al with
  |cons q al=>
  refine ak q fun y q000=>?_;apply dW q000;have hN:=h6 N (.head _);have nd:=ce.mp nd;have fresh :∀p∈acc,lj p.1 (nam N)=ae:=fun p hp=>by
   refine lG (hacc p hp) fun M hM e no=>?_;erw[e,Nd hM hN];cases z:ay M N with
   |false=>rfl
   |true=>exact absurd (by erw[am z];exact .head _) no
  refine cg (ih (d:=0) (acc:=acc++[(nam N,.loc y)]) al (fun M hM=>h6 M (.tail _ hM)) nd.2 (.inl rfl) (fun p hp=>by
   rcases d3.mp hp with z|z
   ·obtain ⟨M,a,b,c⟩:=hacc p z;exact ⟨M,a,b,fun w=>c (.tail _ w)⟩
   ·erw[aS.mp z];exact ⟨N,hN,rfl,nd.1⟩)) fun d' h' e=>?_
  refine ⟨d',h',?_⟩;have k1:pe d (nam N)=ac∧kd (nam N)=0:=⟨by rcases hd with rfl|rfl;exact (ml hN).1;exact eL (F:=fun N=>pe 9 (nam N)) (G:=fun _=>ac) (by kernel_rfl) (m6 hN),eL (F:=fun N=>kd (nam N)) (G:=fun _=>0) (by kernel_rfl) (m6 hN)⟩
  rename_i vs';refine eE (x:=aa _) rfl (jU k1.1 (?_:iD vs' (kd (nam N)) (lz (nam N) (.loc y) acc)=_));erw[k1.2,Jq fresh];erw[(e ..),(rH ..)];rfl
theorem EM (l:List (AV×AV)) (h :∀p∈l,∃w,bD p.1 m=aa w∧f p.2 w=aa ac):Bv f m l=aa ac:=by
 induction l with
 |nil=>rfl
 |cons p l ih=>
  refine cg (h p (.head _)) fun w e q=>?_;exact jR e (eE q (eE (ih fun x hx=>h x (.tail _ hx)) rfl))
section
variable {c:Cx} {T af:Nat} {a b:List Int} {xs:List Int} {r0 r1:Nat} {L:List (Nat×AO)} {i:Nat} {ph:Nat→Nat} {S:St}
theorem Ih (B:Bs c) (hT:T<6) (hN:N<6) (ha:a∈masks) (hb:b∈masks) (W:Wd T af a b ph S):Ev (eO [(d7 9 (bw (aO (.fn 100)) [(aD 1),(aD 0)]) (aO .none))] (k7 c) [aa (nam N),aa (.loc 13)] S) (oz (vl T af a b N (ph N))) (hS S (vl T af a b N (ph N))):=fun kt hk=>by
 have J:JFc c 2 (.fn 100) [.loc 13,nam N] S (hV S (vl T af a b N (ph N))) (hS S (vl T af a b N (ph N))):=Bo B hT hN W.at_ (lI ha hb N _);refine oN<|gL<|dt<|bk<|aT<|aW rfl<|aT<|aW rfl<|bB<|uM rfl (J.mono (az rfl:2≤40))<|bk ?_
 cases e:vl T af a b N (ph N) with
 |none=>replace hk:=e▸hk;exact bg (a:=ae) rfl (kM rfl hk)
 |some m=>replace hk:=e▸hk;exact bg (a:=ac) rfl (mz rfl (Aw hk))
theorem NR (B:Bs c) (hT:T<6) (ha:a∈masks) (hb:b∈masks) (W:Wd T af a b ph S) (hz :∀N,N<6→vl T af a b N (ph N)=aj) (h6:bc fr 6=aa (aa (.loc 13))) {PP:Prop} (kk :∀l S',Up S S'→S'.get l=aa (lO [])→l<S'.nx→Ev (QE (k7 c) fr S) (.loc l) S'→PP):PP:=by
 have n1:(S.new (lA iR)).nx=S.nx+1:=iy;refine CW (rc:=k7 c) (fr:=fr) (it:=[Qg]) (ifs:=[(d7 9 (bw (aO (.fn 100)) [(aD 1),(aD 0)]) (aO .none))]) (e:=aD 0) (p:=fun f=>ae) (Q:=fun x v f=>v=x) (S:=S) (S1:=S.new (lA iR)) (i:=S.nx) (own:=1) (aJ:=[6]) (d:=aj) (l:=iR) (rest:=[aa (.loc 13)])
  (fun k hk=>aT<|o6 _<|bB hk) (by erw[n1];exact a8 _) ck (by show dL [aj] [(match bc fr 6 with|some v=>v|none=>aj)]=_;erw[h6];rfl) (by decide) (fun f f f f h f f=>h)
  (fun x hx S3 h3 f st=>by
   have hx:x∈[0,1,2,3,4,5].map nam:=hx;apply sY (bp.mp hx);intro N hN;have hN:N<6:=by simp at hN;omega
   have u3:Up S S3:=⟨by replace h3:=n1▸h3;omega,fun y hy=>(st y (by erw[n1];omega) (bv hy)).trans (b0 hy)⟩
   have:=Ih (N:=N) B hT hN ha hb (W.up u3);replace this:=(hz N hN)▸this;exact ⟨S3,.refl,this⟩)
  (fun x hx hp=>ff hp) fun vs S2 u n2 g al ev=>?_
 have e0:(K7 aj iR).filter (fun f=>ae)=[]:=rfl;replace al:=e0▸al;cases al;exact kk _ S2 (Up.new.trans u) g n2 ev
variable (G:Gv c T af a b xs r0 r1 L)
include G
theorem UI (h:Lw T af a b xs r0 r1 L i ph S) (q:mE T (PA T (vl T af a b) ph)) (p2:ph T=2) {fr:Fr} (h6:bc fr 6=aa (aa (.loc 13))) (h7:bc fr 7=aa (aa (.loc 1400))) {PP:Prop} (kk :∀S',Up S S'→Ev (d7 1 (bw (aO (.bi 7)) [QC]) (cX (aD 7) (aO (.int 1))) (k7 c) fr S) ae S'→PP):PP:=by
 have n1:(S.new (lA iR)).nx=S.nx+1:=iy;have hf :∀N,N<6→vl T af a b N (ph N)=cK T af b 6 N:=fun N hN=>by rw [yV h.W.ok G.hT q hN,p2];rfl
 have nx:=h.nx;refine CW (rc:=k7 c) (fr:=fr) (it:=[Qg]) (ifs:=[(d7 9 (bw (aO (.fn 100)) [(aD 1),(aD 0)]) (aO .none))]) (e:=vW [(aD 0),(bw (aO (.fn 100)) [(aD 1),(aD 0)])])
  (p:=fun x=>oz (cK T af b 6 (U_ x))) (Q:=fun x v S'=>∃y s,v=.tup [x,.loc y]∧cK T af b 6 (U_ x)=aa s∧S'.get y=aa (lO s)∧y<S'.nx∧S.nx+1<y) (S:=S) (S1:=S.new (lA iR)) (i:=S.nx) (own:=1) (aJ:=[6]) (d:=aj) (l:=iR) (rest:=[aa (.loc 13)])
  (fun k hk=>aT<|o6 _<|bB hk) (by rw [n1];exact a8 _) ck (by show dL [aj] [(match bc fr 6 with|some v=>v|none=>aj)]=_;rw [h6];rfl) (by decide)
  (fun x v S3 S4 ⟨y,s,e1,e2,e3,e4,e5⟩ st hn=>⟨y,s,e1,e2,(st y e4 (by rw [n1];omega) (by omega)).trans e3,aU e4 hn,e5⟩)
  (fun x hx S3 h3 f st=>by
   have hx:x∈[0,1,2,3,4,5].map nam:=hx;apply sY (bp.mp hx);intro N hN;have hN:N<6:=by simp at hN;omega
   have u3:Up S S3:=⟨by rw [n1] at h3;omega,fun y hy=>(st y (by rw [n1];omega) (bv hy)).trans (b0 hy)⟩
   have:=Ih (N:=N) G.B G.hT hN G.ha G.hb (h.W.up u3);rw [o5 hN,← hf N hN];exact ⟨_,Xx,this⟩)
  (fun x hx hp S3 h3 f st=>by
   have hx:x∈[0,1,2,3,4,5].map nam:=hx;refine cg (bp.mp hx) fun N hN q701=>?_;subst q701;have hN:N<6:=by simp at hN;omega
   have u3:Up S S3:=⟨by rw [n1] at h3;omega,fun y hy=>(st y (by rw [n1];omega) (bv hy)).trans (b0 hy)⟩
   rw [o5 hN] at hp;cases e:cK T af b 6 N with
   |none=>rw [e] at hp;exact ff hp
   |some s=>
    have J:JFc c 2 (.fn 100) [.loc 13,nam N] S3 (hV S3 (vl T af a b N (ph N))) (hS S3 (vl T af a b N (ph N))):=Bo G.B G.hT hN (h.W.up u3).at_ (lI G.ha G.hb N _);rw [hf N hN,e] at J;rw [n1] at h3;refine ⟨.tup [nam N,.loc S3.nx],S3.new (lO s),.new,⟨S3.nx,s,rfl,by rw [o5 hN];exact e,ck,by rw [iy];exact a8 _,h3⟩,fun k hk=>?_⟩;exact B7<|aT<|aW rfl<|aT<|dt<|bk<|aT<|aW rfl<|aT<|aW rfl<|bB<|uM rfl (J.mono (az rfl:2≤40))<|bB<|bH rfl hk) fun vs S2 u n2 g al ev=>?_
 have u2:Up S S2:=Up.new.trans u;have fl:(K7 aj iR).filter (fun x=>oz (cK T af b 6 (U_ x)))=([0,1,2,3,4,5].filter fun N=>(cK T af b 6 N).isSome).map nam:=by
  show ([0,1,2,3,4,5].map nam).filter _=_;rw [PM];refine congrArg (List.map nam) (rG fun N hN=>?_);have hN:N<6:=by simp at hN;omega
  show oz (cK T af b 6 (U_ (nam N)))=_;rw [o5 hN];cases cK T af b 6 N<;>rfl
 rw [fl] at al;generalize hNs:([0,1,2,3,4,5].filter fun N=>(cK T af b 6 N).isSome)=Ns at al;have six :∀N∈Ns,N<6:=fun N hN=>by rw [← hNs] at hN;have:=(gY.mp hN).1;simp at this;omega
 have nd:Ns.Nodup:=by rw [← hNs];exact List.Pairwise.filter _ (by decide)
 have ln:Ns.length=YT T af b:=by rw [← hNs];rfl
 have l6:Ns.length≤6:=by rw [← hNs];exact List.length_filter_le _ _
 have al2:All2 (fun N v=>∃y s,v=.tup [nam N,.loc y]∧cK T af b 6 N=aa s∧S2.get y=aa (lO s)∧y<S2.nx) Ns vs:=(All2.of_map Ns al).imp_in fun N hN v ⟨y,s,e1,e2,e3,e4,_⟩ =>⟨y,s,e1,by rw [o5 (six N hN)] at e2;exact e2,e3,e4⟩
 refine cg (zB Ns (d:=9) (acc:=[]) (al2.imp fun N v ⟨y,_,e,_⟩ =>⟨y,e⟩) six nd (.inr rfl) (fun p hp=>nomatch hp)) fun d' hd' e=>?_;rw [PJ] at e;have lv:vs.length=Ns.length:=al2.len;have lm:(vs.map K4).length≤1000:=by rw [a9,lv];omega
 have mk:E9 7 [.loc (S.new (lA iR)).nx] S2=aa (.loc S2.nx,S2.new (.dict ae d' (vs.map K4))):=by
  show DG (.loc (S.new (lA iR)).nx) S2=_;unfold DG;rw [show ew S2 (.loc (S.new (lA iR)).nx)=aj from congrArg (ob · G8) g];dsimp only;rw [jg (show S2.get (S.new (lA iR)).nx=aa (.list ae aj vs aj) from g)];show ob (iD vs 9 []) (fun p=>nh p.1 p.2 S2)=_;rw [e];show nh d' (vs.map K4) S2=_;unfold nh;have:sm (vs.map K4)=ac:=by unfold sm;rw [cC];exact fw lm
  rw [this]
 let S3:=S2.new (.dict ae d' (vs.map K4))
 have u3:Up S S3:=u2.trans .new;have h3:=h.up u3;refine Ar G.d1 fun l1 m1 o1' len1 f1=>?_;have g1:S3.get r1=aa (.dict ae 0 l1):=h3.kn _ m1 o1';have gd:S3.get S2.nx=aa (.dict ae d' (vs.map K4)):=ck;have ne:qx om0 1 (.loc S2.nx) (.loc r1) S3=aa ae:=by
  show ob (kI om0 S3 (.loc S2.nx) (.loc r1)) (fun r=>aa (!r))=_;have dg:Bv (zD om0 S3) l1 (vs.map K4)=aa ac:=EM _ fun p hp=>by
   apply sY (bp.mp hp);intro v hv;refine cg (al2.mem_r hv) fun N hN h110=>?_;apply PQ h110;intro y s e2 e3 e4;refine lG ((f1 N (six N hN)).1 s e2) fun j w1 w2 w3=>?_;refine ⟨.loc j,w1,?_⟩;show uG S3 (.loc y) (.loc j)=aa ac;rw [mX ((b0 e4).trans e3) (h3.kn _ w2 w3),decide_eq_true rfl]
  have k0:HM d'=ac:=by rcases hd' with rfl|rfl<;>rfl
  have ll:ay (eZ (vs.map K4)) (eZ l1)=ac:=by rw [cC,cC,a9,lv,len1,ln];exact cp _
  exact eE (jR (py gd) (eE (py g1) (jU k0 (jU rfl ((congrArg (fun b=>be (motive:=fun f=>Option Bool) (aa ae) (Bv (zD om0 S3) l1 (vs.map K4)) b) ll).trans dg))))) rfl
 exact kk S3 u3 (fun kt hk=>gL<|dt<|bk<|aT<|ev _<|bB<|pC<|bH mk<|ee<|aW h7<|bk<|bg (lu (r:=1) h3.rl (by decide) rfl)<|bg ne hk)
end
end
section
theorem Rb (q:e1 rc fr S (fun v S=>o1 (EH v) fun r=>bt r (e2 rc fr S k) (k v S))=ac):zz [e1,e2] rc fr S k=ac:=q
section
variable {c:Cx} {T af:Nat} {a b:List Int} {xs:List Int} {r0 r1:Nat} {L:List (Nat×AO)} {i:Nat} {ph:Nat→Nat} {S:St} (G:Gv c T af a b xs r0 r1 L)
include G
theorem L6 (h:Lw T af a b xs r0 r1 L i ph S) (q:mE T (PA T (vl T af a b) ph)) (p2:ph T=2) (h6:bc fr 6=aa (aa (.loc 13))) (h7:bc fr 7=aa (aa (.loc 1400))) {PP:Prop} (kk :∀S',Lw T af a b xs r0 r1 L i ph S'→Es Wi (k7 c) fr S fr S'→PP):PP:=by
 refine Mz G.B G.hT h.W fun v S1 J ⟨u1,t1,_⟩ =>?_;have v1:=t1 q;subst v1;have h1:=h.up u1;refine UI G h1 q p2 h6 h7 fun S2 u2 ev=>?_;refine kk S2 (h1.up u2) (fun kn kb kr hk=>?_);refine tY<|V_<|Gn<|Gm<|eN<|aW h6<|hX (zl G.hT h.W.at_) rfl rfl rfl<|bB<|uM rfl (J.mono (az rfl:3≤40)) ?_
 exact bg (a:=ac) rfl<|kM rfl<|V_<|ev _<|kM rfl<|V9<|kM rfl<|oS hk
theorem Ul (h:Lw T af a b xs r0 r1 L i ph S) (p2:ph T=2) (h6:bc fr 6=aa (aa (.loc 13))) (h2:bc fr 2=aa (aa (nam T))) (kn kb:KF) (kr:KR) (hk :∀fr S,kr (.bool ac) fr S=ac):bK [Wg,Wf,We] (k7 c) fr S kn kb kr=ac:=by
 have W:=h.W;have hT:=G.hT;have e2:(PA T (vl T af a b) ph).h T=aa b:=by show vl T af a b T (ph T)=_;erw[p2];exact (VT hT).2
 refine Lz G.B.P G.R.hear hT (A:=PA T (vl T af a b) ph) (lI G.ha G.hb T _) e2 W.at_ W.nx fun S1 J1 nx1 by1 a1=>?_;refine wy G.B G.R hT G.hd G.ha G.hb W (m:=aj) (by erw[p2];decide) (by erw[p2];rfl) a1 (nx1▸W.nx) fun n S2 J2 nx2 by2 W2=>?_;have p3:cw T (ph T+1) ph T=3:=cV.trans (by exact au p2▸rfl);generalize cw T (ph T+1) ph=ph2 at W2 p3;have sf:=NV 243 47 (by kernel_rfl) hT;refine du<|jZ<|eN ?_
 refine ee (l_ (aW h6 (bH (jV (x:=.loc 14) (zl hT W.at_) rfl rfl rfl) (aW h2 (bg (mv (g14 hT W.at_) (ml hT).1 (ml hT).2.1) ?_)))));refine hX (xx hT hT W.at_) (x9 hT) sf.1 sf.2<|aT<|bk<|bB<|uM rfl (J1.mono (az rfl:12≤40)) ?_
 refine du<|jZ<|eN<|aW h6<|hX (zl hT a1) rfl rfl rfl<|aT<|aW h2<|bB<|uM rfl (J2.mono (az rfl:24≤40)) ?_
 have n2:1401≤S2.nx:=by erw[nx2,nx1];exact h.nx
 have W3:=W2.up (Up.new (o:=lA []));refine Sk G.B G.R hT G.hd G.ha G.hb W3 (l:=S2.nx) (by omega) (by erw[iy];exact a8 _) ck (KX Cu (by decide)) fun t ph' S4 J4 W4 q4 e4=>?_;have z :∀N,N<6→vl T af a b N (ph' N)=aj:=fun N hN=>by erw[yV W4.ok hT q4 hN,e4,p3];rfl
 refine NR G.B hT G.ha G.hb W4 z h6 fun l S5 u5 g5 l5 ev=>?_;refine gN<|nz<|Rb<|FD<|gL<|eN<|aW h6<|hX (zl hT W2.at_) rfl rfl rfl<|aT<|s5<|bB<|bH (a:=.loc S2.nx) (b:=S2.new (lA [])) rfl<|aT<|bk<|aT<|bk<|bB<|uM rfl (J4.mono (az rfl:30≤40))<|bk<|bg (a:=ac) rfl<|bg (a:=ac) rfl<|mz rfl ?_
 have eq:qx om0 0 (.loc l) (.loc S5.nx) (S5.new (lO []))=aa ac:=by
  have hx:(S5.new (lO [])).get l=aa (lO []):=(b0 l5).trans g5;have hy:(S5.new (lO [])).get S5.nx=aa (lO []):=ck;show kI om0 (S5.new (lO [])) (.loc l) (.loc S5.nx)=_;exact cW (sN hx) (QG (sN hy) (cW rfl (mX hx hy)))
 exact FD<|gL<|ev _<|s5<|bB<|bH (a:=.loc S5.nx) (b:=S5.new (lO [])) rfl<|bg eq<|hk _ _
end
theorem Na (B:Bs c) (R:z4) (is:List Int) (hl:is.length≤63):nJ om0 meths (yy c 40 js) tabC 3 (.fn 102) [.loc 0] (UN is) (fun v S'=>pB (v=.bool ac))=ac:=by
 have hx:(is.take 24).length≤24:=Fg ..;refine v3 (m:=2) rfl rfl BL rfl rfl ?_;refine RM (c:=c) is hl [aa (.loc 0),aj,aj,aj,aj,aj,aj,aj,aj,aj,aj,aj] rfl fun S1 b1 n1 e1=>?_;refine du<|e1 _ _ _ ?_
 refine RL (fr:=[aa (.loc 0),aa (.loc 3),aj,aj,aj,aj,aj,aj,aj,aj,aj,aj]) B b1 hx rfl fun T af S2 hT hd b2 n2 e2=>?_;refine du<|e2 _ _ _ ?_
 refine RK (fr:=[aa (.loc 0),aa (.loc 3),aa (nam T),aa (iA af),aj,aj,aj,aj,aj,aj,aj,aj]) B b2 hx rfl fun m0 S3 h0 b3 n3 g3 e3=>?_;refine du<|e3 _ _ _ ?_
 have nS2:S2.nx=5:=by exact au n2▸au n1▸rfl
 rw [nS2] at g3 n3 ⊢;refine RJ (fr:=[aa (.loc 0),aa (.loc 3),aa (nam T),aa (iA af),aa (.loc 5),aj,aj,aj,aj,aj,aj,aj]) B b3 hx rfl rfl g3 (by decide) (by decide) fun m1 S4 h1 b4 n4 g4 e4=>?_;refine du<|e4 _ _ _ ?_
 refine RI (c:=c) (fr:=[aa (.loc 0),aa (.loc 3),aa (nam T),aa (iA af),aa (.loc 5),aj,aj,aj,aj,aj,aj,aj]) b4 (by exact au n4▸au n3▸rfl) rfl g4 h0 h1 fun S5 b5 n5 g6 g9 g12 e5=>?_;refine du<|e5 _ _ _ ?_
 refine M4 B R hT hd (xF h0) (xF h1) hx b5 n5 g6 g9 g12 (w:=aj) (r:=aj) (ah:=aj) (tu:=aj) (nm:=aj) (he:=aj) fun S6 r0 r1 L S7 e6 e7 G W7=>?_;refine du<|e6 _ _ _<|du<|e7 _ _ _ ?_
 refine Gc G W7 (n:=0) (.inl rfl) rfl (r:=aa (.loc 1400)) (ah:=aj) (tu:=aj) (nm:=aj) (he:=aj) fun S8 W8 e8=>?_;refine du<|e8 _ _ _ ?_
 refine y_ G W8 (many:=6) (by decide) (fr:=FL T af (aa (.loc 13)) (aa (.loc 1400)) aj aj aj aj) rfl fun ah hah e9=>?_;refine du<|mi<|e9 _ ?_
 refine du<|L7 G hah W8.draw cV (by have:=t4 (e:=0+1) (ph:=fun a=>0) hT;have:=@Cu fun a=>0;omega) (tu:=aj) (nm:=aj) (he:=aj) _ _ _ fun tu nm he i ph S h q p2=>?_
 refine L6 G h q p2 (fr:=FB T af ah tu nm he) rfl rfl fun S11 W11 e11=>?_;refine du<|e11 _ _ _ ?_
 exact Ul G W11 p2 rfl rfl _ _ _ fun fr S=>rL rfl
theorem Xh (B:Bs c) (R:z4) (is:List Int) (hl:is.length≤63):∃S',JFc c 43 (.fn 102) [.loc 0] (UN is) (.bool ac) S':=by
 refine Cq (js:=js) (N0:=40) (m:=3) (P:=fun v a=>v=.bool ac) B rfl (Na B R is hl) fun v S' J e=>?_;subst e;exact ⟨S',J⟩
end
section
abbrev An:=Option (Bool×List Int×Arguments×PN×Scope)
abbrev FF (α:Type):=α→(α→An)→An
noncomputable def fN:FF Nat:=fun x=>fF (motive:=fun a=>(Nat→An)→An) (fun k=>k 0) (fun m a k=>k (bW m)) x
def fL {α:Type} (f:FF α):FF (List α):=fun x=>aP (motive:=fun b=>(List α→An)→An) (fun k=>k []) (fun a b ih k=>f a fun a=>ih fun l=>k (a::l)) x
def fA {α:Type} (f:FF α):FF (Array α):=fun x k=>fL f x.toList fun l=>k ⟨l⟩
def fP {α:Type} (f:FF α):FF (Option α):=fun x k=>aM (motive:=fun b=>An) (k aj) (fun a=>f a fun a=>k (aa a)) x
def fS:FF Str:=fun x k=>fA fN x.cps fun c=>k ⟨c⟩
def fB:FF Bool:=fun x k=>be (motive:=fun a=>An) (k ae) (k ac) x
def fV:FF Value:=fun x k=>Value.rec (motive:=fun c=>An) (k .none) (k .ellipsis) (k .notImplemented) (fun b=>fB b fun b=>k (.bool b))
 (fun i t=>fN t fun t=>k (.int i t)) (fun b t=>k (.float b t)) (fun s t=>fS s fun s=>fN t fun t=>k (.str s t)) (fun b t=>k (.bytes b t)) (fun n=>k (.type n)) (fun n=>k (.builtin n)) (fun a=>fN a fun a=>k (.ref a)) x
def fE:FF DictEntry:=fun x k=>fV x.key fun a=>fV x.val fun b=>k ⟨x.hash,a,b⟩
def fC:FF (Str×Addr):=fun x k=>fS x.1 fun a=>fN x.2 fun b=>k (a,b)
def ZC:FF FuncData:=fun x k=>fS x.name fun n=>fS x.qualname fun q=>fN x.globals fun gl=>fL fC x.closure fun cl=>fV x.defaults fun df=>fV x.kwdefaults fun kd=>fV x.doc fun doc=>fV x.pyModule fun md=>fP fN x.annotations fun an=>fV x.code fun cd=>fV x.closureTuple fun ct=>fN x.builtins fun bl=>
 k ⟨n,q,x.params,x.body,x.scope,gl,cl,df,kd,doc,md,an,cd,ct,bl⟩
def ZD:FF ClassData:=fun x k=>fS x.name fun n=>fL fV x.bases fun bs=>fL fV x.mro fun mro=>fN x.ns fun ns=>fS x.qualname fun q=>fB x.hasDict fun hd=>fL fS x.slotNames fun sn=>fL fV x.subclasses fun sub=>fB x.abstract fun ab=>fP fB x.collection fun col=>fB x.hasDel fun del=>
 k ⟨n,bs,mro,ns,q,hd,sn,sub,ab,col,del⟩
def fD:FF Data:=fun x k=>Data.rec (motive:=fun d=>An) (k .plain) (fun v=>fV v fun v=>k (.prim v)) (fun xs n=>fA fV xs fun xs=>fN n fun n=>k (.seq xs n)) (fun es n=>fA fE es fun es=>fN n fun n=>k (.dict es n))
 (fun a b c=>k (.set a b c)) (fun a b=>k (.bytearray a b)) (fun v=>fP fV v fun v=>k (.cell v)) (fun f=>ZC f fun f=>k (.func f)) (fun c=>ZD c fun c=>k (.cls c)) (fun xs=>fA fV xs fun xs=>k (.fields xs)) (k .freed) x
def fO:FF Obj:=fun x k=>fV x.cls fun c=>fP fN x.dict fun d=>fD x.data fun da=>fA (fP fV) x.slots fun sl=>k ⟨c,d,da,sl⟩
def fT:FF BT:=fun x=>BT.rec (motive:=fun a=>(BT→An)→An) (fun k=>k .nil) (fun v a a il ir k=>fO v fun v=>il fun l=>ir fun r=>k (.node v l r)) x
def YR:FF SharedT:=fun x k=>fT x.tree fun T=>fN x.n fun n=>fN x.toks fun t=>k ⟨T,n,x.life,x.gens,x.drawn,t,x.os⟩
def Oa:FF Pos:=fun x k=>fN x.line fun a=>fN x.col fun b=>fN x.endLine fun c=>fN x.endCol fun d=>k ⟨a,b,c,d⟩
theorem nG (x k):fN x k=k x:=by cases x<;>rfl
theorem zu {α:Type} {f:FF α} (h :∀x k,f x k=k x) (x k):fL f x k=k x:=by
 induction x generalizing k with
 |nil=>rfl
 |cons a l ih=>exact (h a fun a=>fL f l fun l=>k (a::l)).trans (ih _)
theorem Dk {α:Type} {f:FF α} (h :∀x k,f x k=k x) (x k):fA f x k=k x:=zu h x.toList _
theorem zt {α:Type} {f:FF α} (h :∀x k,f x k=k x) (x k):fP f x k=k x:=by
 cases x with
 |none=>rfl
 |some a=>exact h a fun a=>k (aa a)
theorem zr (x k):fS x k=k x:=Dk nG x.cps _
theorem Jk (x k):fB x k=k x:=by cases x<;>rfl
theorem rj (x k):fV x k=k x:=by
 cases x<;>first|rfl|simp only [fV,Jk,nG,zr]
theorem XI (x k):fE x k=k x:=by simp only [fE,rj]
theorem XK (x k):fC x k=k x:=by simp only [fC,zr,nG]
theorem Uh (x k):ZC x k=k x:=by simp only [ZC,zr,nG,zu XK,rj,zt nG]
theorem Ui (x k):ZD x k=k x:=by simp only [ZD,zr,nG,zu rj,zu zr,Jk,zt Jk]
theorem XJ (x k):fD x k=k x:=by
 cases x<;>first|rfl|simp only [fD,rj,nG,Dk rj,Dk XI,zt rj,Uh,Ui]
theorem XG (x k):fO x k=k x:=by simp only [fO,rj,zt nG,XJ,Dk (zt rj)]
theorem XF (x k):fT x k=k x:=by
 induction x generalizing k with
 |nil=>rfl
 |node v l r il ir=>exact (XG v fun v=>fT l fun l=>fT r fun r=>k (.node v l r)).trans ((il _).trans (ir _))
theorem Jj (x k):YR x k=k x:=by simp only [YR,XF,nG]
theorem N_ (x k):Oa x k=k x:=by simp only [Oa,nG]
noncomputable abbrev An.bad:An:=aj
noncomputable abbrev pp:=PySem.Challenge.pw_sj0187_01
abbrev tbT:=lS
abbrev segT:=@PySem.W.Fast.tw10110043849684766642
abbrev execsT:=@PySem.W.Fast.tw12563942051412417395
noncomputable abbrev uR:Option Value:=aa (.ref 6)
abbrev lQ:Env:={scope:=pp.main.scope,locals:=UV,globals:=UV,cells:=[],code:=.ref 13,frame:=aa 14}
noncomputable abbrev row:String:="special-get-raises"
abbrev CK:=SharedT→Code→Pos→An
def next (k:CK) (r:Option (d_×SharedT×Code×Pos)):An:=aM (motive:=fun a=>An) .bad (fun r=>PySem.Flow.rec (motive:=fun a=>An) (YR r.2.1 fun s=>Oa r.2.2.2 fun p=>k s r.2.2.1 p) .bad .bad (fun a=>.bad) r.1) r
def YN (w:World) (ls:List b8) (s:SharedT) (c:Code) (pos:Pos) (k:CK):An:=
 next k (segT tbT pp w 11 uR 1 2000 s ⟨(execsT ls lQ).wrap Vr deadEnd id id,c,pos,[qE default]⟩)
def wB (w:World) (b:Option Bool):World:=aM w (fun b=>w.withFollow row b) b
def yS (w:World) (k:List b8→CK) (ns:List (Nat×Option Bool)):List b8→CK:=
 aP (motive:=fun a=>List b8→CK) k (fun n a ih l s c pos=>YN (wB w n.2) (l.take n.1) s c pos (ih (l.drop n.1))) ns
def Goes (w:World) (B:Nat) (s:av) (t:Thread) (s':av) (t':Thread):Prop:=∀N r,BW iN pp w 11 uR N s' t'=aa r→BW iN pp w 11 uR (B+N) s t=aa r
theorem Goes.trans (h:Goes w B s t s' t') (k:Goes w C s' t' s'' t''):Goes w (B+C) s t s'' t'':=fun N r e=>Ab B C N▸h _ r (k N r e)
abbrev t3 (l:List b8) (c:Code) (p:Pos):Thread:=restOf l lQ c p [qE default]
theorem MU (h:next k r≠.bad):∃s c p,r=aa (.next,s,c,p)∧∀k:CK,next k r=k s c p:=by
 rcases r with _|⟨f,s,c,p⟩
 ·exact absurd rfl h
 ·cases f with
  |next=>exact ⟨s,c,p,rfl,fun k=>(Jj s fun s=>Oa p fun p=>k s c p).trans (N_ p _)⟩
  |_=>exact absurd rfl h
theorem TZ (h:YN w ls s c pos k≠.bad) (rest:List b8):
 ∃s' c' p',(∀k,YN w ls s c pos k=k s' c' p')∧Goes w 2000 s.abs (t3 (ls++rest) c pos) s'.abs (t3 rest c' p'):=by
 refine U5 (MU h) fun s' c' p' e q=>?_;refine ⟨s',c',p',q,fun N r hr=>?_⟩;unfold segT tbT execsT at e;replace e:=au PySem.W.Fast.te12563942051412417395▸au dj▸au lV▸e;refine cg (seg_top (res:=id) (K':=fun f=>match f with|.next=>(qH rest lQ).wrap Vr (leaveH lQ) id id|f=>Vr f) (H':=leaveH lQ) (B:=[qE default]) rfl _ _ (piecesOf ls lQ c pos [qE default])
  ⟨(qH ls lQ).wrap (fun f=>match f with|.next=>(qH rest lQ).wrap Vr (leaveH lQ) id id|f=>Vr f) (leaveH lQ) id id,c,pos,[qE default]⟩ _ _ _ _ ⟨rfl,rfl,.inl ⟨rfl,rfl,_,rfl,rfl⟩⟩ (segRun_of e)) fun a ha hN=>?_
 obtain rfl:a=.next:=ha;show BW _ _ _ _ _ _ _ ⟨(qH (ls++rest) lQ).wrap _ _ _ _,_,_,_⟩=_;erw[(execs_app_wrap ..)];exact hN N r hr
theorem Mw (ns:List (Nat×Option Bool)):∀{l s c pos},yS w k ns l s c pos≠.bad→
 ∃l' s' c' p',(∀k,yS w k ns l s c pos=k l' s' c' p')∧((∀n∈ns,wB w n.2=w)→Goes w (2000*ns.length) s.abs (t3 l c pos) s'.abs (t3 l' c' p')):=by
 induction ns with
 |nil=>exact fun {l s c pos} h=>⟨l,s,c,pos,fun a=>rfl,fun a N r e=>(dI N).symm▸e⟩
 |cons n ns ih=>
  intro l s c pos h;refine U5 (TZ (show YN (wB w n.2) (l.take n.1) s c pos (yS w k ns (l.drop n.1))≠.bad from h) (l.drop n.1)) fun s1 c1 p1 g1 q1=>?_;rw [List.take_append_drop] at q1;refine Yl (ih (show yS w k ns (l.drop n.1) s1 c1 p1≠.bad from fun z=>h ((g1 (yS w k ns (l.drop n.1))).trans z))) fun l' s' c' p' g' q'=>?_;refine ⟨l',s',c',p',fun k=>(g1 (yS w k ns (l.drop n.1))).trans (g' k),fun hw=>?_⟩;rw [hw n (.head _)] at q1;exact (show 2000*(n::ns).length=2000+2000*ns.length from Nat.mul_succ _ _▸mK _ _)▸q1.trans (q' fun m hm=>hw m (.tail _ hm))
def Zy (w:World) (ih:SharedT→Thread→Option (SharedT×Thread)) (s:SharedT) (t:Thread):Option (SharedT×Thread):=
 be (motive:=fun a=>Option (SharedT×Thread)) (be (motive:=fun a=>Option (SharedT×Thread)) aj (aM (motive:=fun a=>Option (SharedT×Thread)) aj (fun r=>ih r.1 r.2) (lT (fy tbT) pp w s t))
  (stepOk 11 uR t)) aj (through t)
def Zx (w:World):Nat→SharedT→Thread→Option (SharedT×Thread):=fun n=>fF (motive:=fun a=>SharedT→Thread→Option (SharedT×Thread)) (fun s t=>aa (s,t)) (fun a ih=>Zy w ih) n
theorem T0 (n:Nat):∀{s s':SharedT} {t t':Thread},Zx w n s t=aa (s',t')→Goes w n s.abs t s'.abs t':=by
 induction n with
 |zero=>intro s s' t t' h;cases h;exact fun N r e=>(dI N).symm▸e
 |succ n ih=>
  intro s s' t t' h N r e;have h:Zy w (Zx w n) s t=aa (s',t'):=h;unfold Zy tbT at h;cases h1:through t with
  |true=>replace h:=h1▸h;cases h
  |false=>
   cases h2:stepOk 11 uR t with
   |false=>replace h:=h2▸h1▸h;cases h
   |true=>
    cases h3:lT (fy lS) pp w s t with
    |none=>replace h:=h3▸h2▸h1▸h;cases h
    |some x=>
     replace h:=h3▸h2▸h1▸h;have hM:=ih (s:=x.1) (t:=x.2) h N r e;replace h3:=au dj▸au lU▸au PySem.W.Fast.te10156331382660048174▸h3;erw[(Nat.succ_add ..)];unfold BW;erw[h1,h2,stepT_spec h3];exact hM
end
section
def V7 (P:yp):BT:=(.node (boot_o_0 P) (.node (boot_o_1 P) (.node (boot_o_3 P) (.node (boot_o_7 P) .nil .nil) .nil) (.node (boot_o_5 P) (.node (boot_o_9 P) .nil .nil) .nil)) (.node (boot_o_2 P) (.node (boot_o_4 P) (.node (boot_o_8 P) .nil .nil) .nil) (.node (boot_o_6 P) (.node (boot_o_10 P) .nil .nil) .nil)))
def s0 (w:World) (os:kR):SharedT:=⟨V7 w.params,11,(dV w.params).life,#[],uY,yl,os⟩
theorem Kb (P:yp):((dV P).isNs cn&&(#[]:Array GenState).size==0,(dV P).objs.size,(dV P).nsMap cn "__annotations__")=(ac,11,uR):=by kernel_rfl
def ii (w:World) (os:kR):Option (SharedT×Thread):=Zx w 12 (s0 w os) (KM pp)
abbrev bdy:=behindTheImports pp
theorem Ss (w:World) (os:kR):(ii w os).map (·.2)=aa ⟨fy tbT (.body bdy lQ),.body bdy lQ,default,[qE default]⟩:=by kernel_rfl
theorem Ka (P:yp):(dV P).bltView=bltViewBooted:=by kernel_rfl
theorem blk (w:World) (s:SharedT):segT tbT pp w 11 uR 1 1 s ⟨(blockStart bdy lQ).wrap (fun a=>Vr .next) deadEnd id id,.body bdy lQ,default,[qE default]⟩=aa (.next,s,.body bdy lQ,default):=by kernel_rfl
def q0:Program:={pp with main:={pp.main with body:=[]}}
abbrev L0:=pp.boundNames
abbrev mods:=importedModules pp.main.body
theorem Su:opening pp=plainProg pp.main.scope.names:=by kernel_rfl
theorem Uf (s:av):fenceModules? pp s=aa s:=by kernel_rfl
noncomputable def ui:Str:="law"
def Xi (h:Heap):Bool:=match h.nsMap cn ui with|some (.ref a)=>ay a 776|_=>ae
def oR (h0:Heap) (s:av):Bool:=staticsOk mods h0 s.heap&&UU pp s.heap&&gensDone s&&laidKept h0 s.heap&&s.heap.keysOk (looseW q0 L0) [] [] []&&s.heap.accountedOkI mods&&s.heap.isNs cn&&s.heap.isNs dZ&&tablesOk q0 s.heap&&PyProof.Rows.tabsOk q0 s&&(s.heap.noLimitOk&&s.heap.noDigitsOk)&&s.gens.size==0&&(s.heap.get? di).isSome&&Xi s.heap
abbrev NS:=List (Nat×Option Bool)
noncomputable def nsA (b:Bool):NS:=[(20,aj),(30,aj),(5,aj),(1,aj),(1,aj),(1,aj),(2,aj),(1,aj),(6,aj),(1,aa b)]
noncomputable def nsM (b:Bool):NS:=[(4,aj),(1,aa b)]
noncomputable def nsZ:NS:=[(8,aj),(1,aj),(1,aj),(8,aj),(7,aj)]
def pm (ns:NS) (k:List b8→CK) (w:World) (os:kR):An:=aM (motive:=fun a=>An) .bad (fun r=>YR r.1 fun s=>yS w k ns bdy s (.body bdy lQ) default) (ii w os)
def SI (b:Bool):NS:=nsA b++(nsM b++nsZ)
theorem WV (b:Bool):(SI b).all (fun n=>decide (n.2=aj∨n.2=aa b))=ac:=by cases b<;>decide
theorem LQ (w:World) (s:av) (c:Code) (p:Pos):BW iN pp w 11 uR 3 s (t3 [] c p)=aa s:=by
 obtain ⟨h,g,d,t,o⟩:=s;rfl
theorem V8 {w:World} {os:kR} {ns:NS} {k:List b8→CK} (h:pm ns k w os≠.bad):
 ∃l s c p,(∀k,pm ns k w os=k l s c p)∧((∀n∈ns,wB w n.2=w)→Goes w (12+(1+2000*ns.length)) ⟨dV w.params,#[],uY,yl,os⟩ (KM pp) s.abs (t3 l c p)):=by
 have th:=Ss w os;cases e:ii w os with
 |none=>replace th:=e▸th;cases th
 |some r=>
  replace th:=e▸th;have th:r.2=_:=ao th;have hb :∀k,pm ns k w os=yS w k ns bdy r.1 (.body bdy lQ) default:=fun k=>by
   unfold pm;erw[e];exact Jj r.1 _
  refine Yl (Mw ns (fun z=>h ((hb k).trans z))) fun l s c p g q=>?_;refine ⟨l,s,c,p,fun k=>(hb k).trans (g k),fun hw=>(T0 12 e).trans (Goes.trans ?_ (q hw))⟩;erw[th];intro N x hx;have b:=blk w r.1;unfold segT tbT at b;unfold tbT;replace b:=au dj▸au lV▸b;refine lU▸dj▸?_;exact piece_block (segRun_of b) hx
theorem I5 {w:World} {os:kR} {k:List b8→CK} {b:Bool} (hb:w.params.followText row=b) (h:pm (SI b) k w os≠.bad):
 ∃l s c p,(∀k,pm (SI b) k w os=k l s c p)∧Goes w (12+(1+2000*17)) ⟨dV w.params,#[],uY,yl,os⟩ (KM pp) s.abs (t3 l c p):=by
 refine Yl (V8 h) fun l s c p g q=>?_;refine ⟨l,s,c,p,g,?_⟩;have e:(SI b).length=17:=by cases b<;>rfl
 replace q:=e▸q;exact q fun n hn=>by
  rcases of_decide_eq_true (ai.mp (WV _) n hn) with q|q
  ·erw[q];rfl
  ·refine au q▸hb▸?_;exact World.withFollow_self w row
end
section
def AL:List Nat:=[3,0,2,76,325,395,452,567,709,75,324,394,451,566,708,81,210,246,645,712,594]++ZB++ZB.map fun a=>rW a 1
def Va (T:BT) (n:Nat):Frag:=aP (motive:=fun b=>Frag) [] (fun a b ih=>aM (motive:=fun b=>Frag) ih (fun o=>aM (motive:=fun b=>Frag) ih (fun o=>(a,o)::ih) (alive o)) (be (motive:=fun b=>Option Obj) aj (T.get a) (aF a n))) AL
theorem Tk {T:BT} {n:Nat} {life:Life}:(Va T n).In (absHeap T n life):=by
 unfold Va;generalize AL=l;intro a o h
 induction l with
 |nil=>exact no h
 |cons b l ih=>
  dsimp only at h;cases hb:aF b n with
  |false=>rw [hb] at h;exact ih h
  |true=>
   cases ho:T.get b with
   |none=>rw [hb,ho] at h;exact ih h
   |some p=>
    cases hp:alive p with
    |none=>rw [hb,ho] at h;dsimp only at h;rw [hp] at h;exact ih h
    |some p'=>
     rw [hb,ho] at h;dsimp only at h;rw [hp] at h;dsimp only at h;rw [eF] at h
     split at h
     ·rename_i e;rw [beq_iff_eq.mp e,abs_get (aG.mp hb) ho,hp];exact h
     ·exact ih h
def fK:FF (Addr×Obj):=fun x k=>Prod.rec (motive:=fun b=>An) (fun a o=>k (a,o)) x
theorem XH (x k):fK x k=k x:=rfl
def YV (x:Option (Option Value)) (t:String):Bool:=oB x fun y=>oB y fun v=>oB (Yu v) fun s=>s==t
theorem BO {x:Option (Option Value)} {t:String} (h:YV x t=ac):x=aa (aa (.builtin t)):=aI h fun y e h=>aI h fun v e2 h=>aI h fun s e3 h=>by rw [e,e2,xo e3,gV h]
def XZ (K:Frag) (c:Nat):Bool:=YV (mH K (.ref (ca c)) "__getattribute__") "object.__getattribute__"&&Zf (mH K (.ref (ca c)) "__getattr__")&&j8 K (.ref (ca c))&&(clsIn K (ca c)).any (·.hasDict)&&plainOver K (ca c)&&makesIn K (ca c)
 && YV (mH K (.ref (ca c)) "__setattr__") "object.__setattr__"&&readsIn K (ca c) (.type "type")&&YV (specialIn K (.ref (ca c)) "__getattribute__") "type.__getattribute__"
theorem O5 {cx:Cx} {c:Nat} (h:XZ cx.K c=ac):ClsOk cx c:=by
 have h9:=aR h;have h:=aL h;have h8:=aR h;have h:=aL h;have h7:=aR h;have h:=aL h;have h6:=aR h;have h:=aL h;have h5:=aR h;have h:=aL h;have h4:=aR h;have h:=aL h;have h3:=aR h;have h:=aL h;have h1:=aL h;have h2:=aR h;exact ⟨BO h1,Hb h2,h3,h4,h5,h6,BO h7,h8,BO h9⟩
def enB (k:Nat) (i:Int) (e:DictEntry):Bool:=VS (.str k) e.key&&VS (.int i) e.val
noncomputable def JN (d:Data):Option (Array DictEntry×Nat):=Aq d aj (fun a=>aj) (fun a a=>aj) (fun es n=>aa (es,n)) (fun a a a=>aj) (fun a a=>aj) (fun a=>aj) (fun a=>aj) (fun a=>aj) (fun a=>aj) aj
theorem EX {d:Data} {p} (h:JN d=aa p):d=.dict p.1 p.2:=by cases d<;>first|exact no h|(rw [← ao h])
def ZF (es:List DictEntry):Bool:=jF (fun p e=>enB p.1 p.2 e) [(185,1),(186,2),(187,3)] es
def QM (K:Frag):Bool:=Sn (nsIn K cn (sT 184)) 594&&oB (K.lookup 594) fun o=>V4 o.cls "dict"&&o.dict.isNone&&o.slots.toList.isEmpty&&oB (JN o.data) fun p=>ZF p.1.toList
def Zu (o:Option Obj):List Int:=aM [] (fun o=>aM [] (fun p=>p.1.toList.map (·.hash)) (JN o.data)) o
def Vc (K:Frag):List Int:=Zu (K.lookup 594)
def Vb (w:World):List Int:=[gk w (sT 185),gk w (sT 186),gk w (sT 187)]
theorem Od {cx:Cx} (h:QM cx.K=ac) (q:Vc cx.K=Vb cx.w):z5 cx 184 (.fd 0 [((.str 185),(.int (1))),((.str 186),(.int (2))),((.str 187),(.int (3)))]):=by
 refine ⟨.ref 594,?_,.inl (Cv (aL h))⟩;refine aI (aR h) fun o e h=>?_;have h0:=aR h;have h:=aL h;refine aI h0 fun p e4 h4=>?_;have q:Zu (cx.K.lookup 594)=_:=q;rw [e] at q;have e4:=EX e4;obtain ⟨c,d,da,⟨sl⟩⟩:=o;have e4:da=_:=e4;rw [show c=_ from xr (aL (aL h)),show d=_ from dQ.mp (aR (aL h)),show sl=_ from lM.mp (aR h),e4] at e;rw [e4] at q;have q:p.1.toList.map (·.hash)=Vb cx.w:=q;refine .fd (o:=_) (es:=p.1) (n:=p.2) (by decide) (show cx.K.lookup 594=_ from e) ⟨rfl,rfl,rfl⟩ rfl ⟨by decide,by decide⟩ ?_;revert q h4;generalize p.1.toList=es;intro h4 q;cases es with
 |nil=>exact ff h4
 |cons e1 es=>cases es with
  |nil=>exact ff (aR h4)
  |cons e2 es=>cases es with
   |nil=>exact ff (aR (aR h4))
   |cons e3 es=>cases es with
    |cons=>exact ff (aR (aR (aR h4)))
    |nil=>
     have q:[e1.hash,e2.hash,e3.hash]=[gk cx.w (sT 185),gk cx.w (sT 186),gk cx.w (sT 187)]:=q;injection q with q1 q;injection q with q2 q;injection q with q3 q
     have h2:=aL h4;have h3:=aL (aR h4);have h4:=aL (aR (aR h4));exact .cons (mf (aL h2)) q1 (mf (aR h2)) (.cons (mf (aL h3)) q2 (mf (aR h3)) (.cons (mf (aL h4)) q3 (mf (aR h4)) .nil))
def Zm (K:Frag) (fd:FuncData):Bool:=decide (fd.name=ui)&&decide (fd.qualname=ui)&&ni fd.closure&&ay fd.globals UV&&ay fd.builtins dZ&&Cc fd.defaults&&Cc fd.kwdefaults
def Er (K:Frag):Option FuncData:=aM aj (fun o=>Ut o.data) (K.lookup 776)
def J9 (K:Frag):Bool:=clsL.all (XZ K)&&QM K&&Hj K&&atB K&&QH K&&Rt K&&oB (Er K) (Zm K)&&K.all (fun p=>aM ac (fun t=>!(t=="list")) (Yq p.2.cls))
def Xu (p:Nat×AV):Bool:=TT p.2
theorem EQ {nm d:Nat} {l:List (AV×AV)} (h:(nm,AV.fd d l)∈glL):(nm,AV.fd d l)=(184,.fd 0 [((.str 185),(.int (1))),((.str 186),(.int (2))),((.str 187),(.int (3)))]):=
 aS.mp ((show glL.filter Xu=[(184,.fd 0 [((.str 185),(.int (1))),((.str 186),(.int (2))),((.str 187),(.int (3)))])] from rfl)▸gY.mpr ⟨h,rfl⟩)
theorem HG {cx:Cx} (O:COk cx) (h:J9 cx.K=ac) (q:Vc cx.K=Vb cx.w):Known cx:=by
 have h:=aL h;have h:=aL h;have h6:=aR h;have h:=aL h;have h5:=aR h;have h:=aL h;have h4:=aR h;have h:=aL h;have h3:=aR h;have h:=aL h;have h1:=aL h;have h2:=aR h;refine ⟨O,h6,h3,h4,h5,fun c hc=>O5 (ai.mp h1 c hc),fun nm d l hm=>?_⟩;have e:(nm,AV.fd d l)=(184,.fd 0 [((.str 185),(.int (1))),((.str 186),(.int (2))),((.str 187),(.int (3)))]):=EQ hm;cases e;exact Od h2 q
def rO:Arguments×List b8×Scope:=(pp.theDef ui).getD default
def BU (b:Bool) (K:Frag):An:=aM (motive:=fun a=>An) .bad (fun fd=>aa (b,Vc K,fd.params,fd.body,fd.scope)) (Er K)
def fin (h0:Heap):List b8→CK:=fun l s c p=>aP (motive:=fun a=>An) (fL fK (Va s.tree s.n) fun K=>BU (oR h0 s.abs&&J9 K) K) (fun a a a=>.bad) l
def YX (w:World):Bool×List Int×Arguments×PN×Scope:=(ac,Vb w,rO.1,.stmts rO.2.1,rO.2.2)
theorem TX (w:World) (os:kR):pm (SI ae) (fin (dV w.params)) w os=aa (YX w):=by kernel_rfl
theorem TW (w:World) (os:kR):pm (SI ac) (fin (dV w.params)) w os=aa (YX w):=by kernel_rfl
theorem zj (b:Bool) (w:World) (os:kR):pm (SI b) (fin (dV w.params)) w os=aa (YX w):=by cases b;exact TX w os;exact TW w os
end
section
theorem MA (h:oR h0 s=ac) (b:s.heap.bltView=bltViewBooted) (x:Xt s=ac):openSeen q0 L0 mods Xt ac s=openGood q0 L0:=by
 have h:=aL h;have h:=aL h;have g:=aR h;have h:=aL h;have h11:=aR h;have h:=aL h;have h10:=aR h;have h:=aL h;have h9:=aR h;have h:=aL h;have h8:=aR h;have h:=aL h;have h7:=aR h;have h:=aL h;have h6:=aR h;have h:=aL h;have h5:=aR h;unfold openSeen openGood;refine io ?_ (io b (io ?_ (io h10 rfl)))
 ·show Seen.mk [] ac [] (s.heap.isNs cn) (s.heap.isNs dZ) (s.heap.noLimitOk&&s.heap.noDigitsOk) 0=Seen.mk [] ac [] ac ac ac 0;exact au h7▸au h8▸au h11▸rfl
 ·show (s.heap.keysOk (looseW q0 L0) [] [] []&&s.heap.accountedOkI mods&&s.heap.isNs cn&&s.heap.isNs dZ&&tablesOk q0 s.heap&&Xt s&&s.gens.size==0)=ac;rw [h5,h6,h7,h8,h9,x,g];rfl
theorem Gb (h:oR h0 s=ac):(staticsOk mods h0 s.heap&&UU pp s.heap&&gensDone s&&laidKept h0 s.heap)=ac:=by
 iterate 10 (have h:=aL h)
 exact h
noncomputable def N0:Nat:=12+(1+2000*17)+3
structure E_ (w:World) (h:Heap) (K:Frag):Prop where
 kin:K.In h
 chk:J9 K=ac
 hs:Vc K=Vb w
 fd :∃fd,Er K=aa fd∧fd.params=rO.1∧fd.body=.stmts rO.2.1∧fd.scope=rO.2.2
theorem head (w:World) (os:kR):∃s K,BW iN pp w 11 uR N0 ⟨dV w.params,#[],uY,yl,os⟩ (KM pp)=aa s∧oR (dV w.params) s=ac∧E_ w s.heap K:=by
 refine Yl (I5 (os:=os) (k:=fin (dV w.params)) (b:=w.params.followText row) rfl (by rw [zj];exact fun z=>nomatch z)) fun l s c p g q=>?_;have g:=(g _).symm.trans (zj _ w os);cases l with
 |cons a l=>exact nomatch g
 |nil=>
  have g:fL fK (Va s.tree s.n) (fun K=>BU (oR (dV w.params) s.abs&&J9 K) K)=aa (YX w):=g;rw [zu XH] at g;refine ⟨s.abs,Va s.tree s.n,q 3 _ (LQ w s.abs c p),?_⟩;unfold BU at g;cases e:Er (Va s.tree s.n) with
  |none=>rw [e] at g;exact nomatch g
  |some fd=>
   rw [e] at g;have g:=ao g;have g1:=congrArg fX g;exact ⟨aL g1,⟨Tk,aR g1,congrArg (fun x=>x.2.1) g,fd,e,congrArg (fun x=>x.2.2.1) g,congrArg (fun x=>x.2.2.2.1) g,congrArg (fun x=>x.2.2.2.2) g⟩⟩
def XP (mg:Str→Option Value) (h:Heap):Prop:=mg ui=aa (.ref 776)∧∃o fd,h.get? 776=aa o∧o.data=.func fd∧fd.name=ui∧fd.qualname=ui∧fd.params=rO.1∧fd.body=.stmts rO.2.1∧fd.scope=rO.2.2∧fd.globals=UV∧fd.closure=[]∧fd.builtins=dZ∧fd.defaults=.none∧fd.kwdefaults=.none
def YP (w:World) (h:Heap):Prop:=(∃K,E_ w h K)∧h.NoLimit∧∃o,h.get? di=aa o
def Zv (h:Heap):List Int:=Zu (h.get? 594)
theorem De {K:Frag} (X:K.In h) (c:J9 K=ac):Zv h=Vc K:=by
 have c:=aL c;have c:=aL c;have c:=aL c;have c:=aL c;have c:=aL c;have c:=aL c;have c:=aR (aR c);cases e:K.lookup 594 with
 |none=>replace c:=e▸c;exact ff c
 |some o=>unfold Zv Vc;exact au (X _ _ e)▸au e▸rfl
theorem XD {K:Frag} {h:Heap} (X:K.In h) (e:Er K=aa fd):∃o,h.get? 776=aa o∧o.data=.func fd:=by
 unfold Er at e;cases q:K.lookup 776 with
 |none=>replace e:=q▸e;exact no e
 |some o=>replace e:=q▸e;exact ⟨o,X _ _ q,zI e⟩
theorem Rs {w:World} {h0:Heap} {s:av} {K:Frag} (g:oR h0 s=ac) (T:E_ w s.heap K):XP (s.heap.nsMap cn) s.heap:=by
 refine Ar T.fd fun fd e p1 p2 p3=>?_;refine cg (XD T.kin e) fun o ho hd=>?_;have c:=aR (aL T.chk);replace c:=e▸c;have c7:=aR c;have c:=aL c;have c6:=aR c;have c:=aL c;have c5:=aR c;have c:=aL c;have c4:=aR c;have c:=aL c;have c3:=aR c;have c:=aL c;refine ⟨?_,o,fd,ho,hd,of_decide_eq_true (aL c),of_decide_eq_true (aR c),p1,p2,p3,am c4,wx c3,am c5,s9 c6,s9 c7⟩;have g:=aR g;unfold Xi at g
 split at g
 ·rename_i a q;exact au q▸au (am g)▸rfl
 ·exact ff g
theorem FA (mg:Str→Option Value) (h h':Heap) (x:XP mg h) (k :∀b o,h.get? b=aa o→h'.get? b=aa o):XP mg h':=
 ⟨x.1,let ⟨o,fd,e,r⟩:=x.2;⟨o,fd,k _ _ e,r⟩⟩
def YF (h:Heap):Prop:=(∃w K,E_ w h K)∧h.NoLimit∧∃o,h.get? di=aa o
def Yf (s:av):List Int×Prop:=(Zv s.heap,YF s.heap)
def Ya (w:World):List Int×Prop:=(Vb w,True)
theorem VG (w:World) (s:av) (e:Yf s=Ya w):YP w s.heap:=by
 have e1:=congrArg fX e;have e2:YF s.heap:=of_eq_true (congrArg w_ e);obtain ⟨⟨w',K,T⟩,nl,sy⟩:=e2;exact ⟨⟨K,T.kin,T.chk,(De T.kin T.chk).symm.trans e1,T.fd⟩,nl,sy⟩
theorem Fz (w:World) (h h':Heap) (y:YP w h) (k :∀b o,h.get? b=aa o→h'.get? b=aa o):YP w h':=
 ⟨y.1.imp fun K T=>⟨T.kin.keeps k,T.chk,T.hs,T.fd⟩,y.2.1.keeps k,y.2.2.imp fun o e=>k _ _ e⟩
def Xt (s:av):Bool:=@decide (XP (s.heap.nsMap cn) s.heap) (c_ _)
theorem zT (P:yp) (os:kR):Shared.asleep ⟨dV P,#[],uY,yl,os⟩:=⟨rfl,rfl⟩
theorem Kc {h h':Heap} (e:h.get? dZ=h'.get? dZ):h.bltView=h'.bltView:=by
 unfold Heap.bltView Heap.nsPairs;exact au e▸rfl
theorem Me {h0:Heap} {s:av} {w:World} {K:Frag} (g:oR h0 s=ac) (T:E_ w s.heap K):YF s.heap:=by
 have h:=aL g;have h2:=aR h;have h:=aL h;have h:=aL h;have h:=aR h;exact ⟨⟨w,K,T⟩,.of_ok (aL h),kq.mp h2⟩
theorem NZ {s₀ s:av} (z:(s₀.heap.isNs cn&&s₀.gens.size==0,s₀.heap.objs.size,s₀.heap.nsMap cn "__annotations__")=(ac,11,uR))
 (r:BW iN pp w 11 uR N s₀ (KM pp)=aa s) (g:oR s₀.heap s=ac):Vm iN pp w N s₀=aa s:=by
 have z1:=congrArg fX z;have z2:=congrArg (fun x=>x.2.1) z;have z3:=congrArg (fun x=>x.2.2) z;dsimp only at z1 z2 z3;unfold Vm;rw [z1,z2,z3,r];show (match staticsOk mods s₀.heap s.heap&&UU pp s.heap&&gensDone s&&laidKept s₀.heap s.heap with|true=>aa s|false=>aj)=_
 exact au (Gb g)▸rfl
theorem M_ {w:World} {N:Nat} {s₀ s:av} {K:Frag} (e:fencedOpening iN pp w N=aa s₀) (t:Vm iN pp w N s₀=aa s) (g:oR s₀.heap s=ac) (T:E_ w s.heap K) (b:s.heap.bltView=bltViewBooted):
 (openEnds iN pp w N).map (fun s=>(openSeen q0 L0 mods Xt ac s,Yf s))=aa (openGood q0 L0,Ya w):=by
 unfold openEnds;erw[e];show (Vm iN pp w N s₀).map _=_;erw[t];exact congrArg aa (io (MA g b (@decide_eq_true _ (c_ _) (Rs g T))) (io ((De T.kin T.chk).trans T.hs) (eq_true (Me g T))))
theorem Mj {s:av} (e:(s.heap,s.gens,s.drawn,s.toks)=(h,gs,d,k)):s=⟨h,gs,d,k,s.os⟩:=by
 obtain ⟨h',gs',d',k',os⟩:=s;cases e;rfl
theorem Xg:LeftO pp q0 L0 Xt Yf Ya N0:=fun w=>by
 refine cg (yE.mp (boot_open Su (by decide +kernel:bX 600 N0=ac) Uf w)) fun s₀ e e'=>?_;have e':=Mj e';refine rJ (head w s₀.os) fun s K r g T=>?_;rw [e'] at e;exact M_ e (NZ (Kb w.params) r g) g T ((Kc (((topRun_spec _ _ _ _ (zT w.params s₀.os) (table_eq_tree▸r)).2.2.2 dZ (boot_o_0 w.params) (by decide) (by decide) (by decide) (by decide) rfl).trans rfl)).trans (Ka w.params))
end
section
noncomputable abbrev lw:=PySem.Challenge.rw_sj0187_01
theorem UF {b:Bool} (h:(!b)=ac):b=ae:=by cases b;rfl;exact ff h
theorem ED (xs:List B2):KQ [] xs .int=ac→∃is:List Int,xs=is.map .int:=by
 induction xs with
 |nil=>exact fun a=>⟨[],rfl⟩
 |cons x xs ih=>
  intro h;have h:=eS (show (WShape.has [] x .int&&KQ [] xs .int)=ac from h);refine ak (ih h.2) fun is e=>?_;refine ak (hasW_int h.1) fun i e1=>?_;exact ⟨i::is,by erw[e,e1];rfl⟩
theorem Pk {args:List B2} (h:lw.row.toRowW.claim.pre args=ac):∃is:List Int,args=[.list (is.map .int)]∧is.length≤63:=by
 refine aK (fun h1 h2=>?_) (pre_splitW h);refine rJ (hasAllW_cons (e:=.list .int) (es:=[]) h1) fun d r e1 h3 h4=>?_;refine cg (hasW_list h3) fun xs e2 h5=>?_;refine ak (ED xs h5) fun is e3=>?_;rw [e1,e2,e3,hasAllW_nil h4] at h2 ⊢;have z:=of_decide_eq_false (UF (aL (condW_of (X:=(!decide ((63:Int)<((is.map WData.int).length:Int)))&&ac) h2 (w_and (w_not (w_lt w_lit (w_len_list (w_arg rfl)))) w_lit))));rw [a9] at z;exact ⟨is,rfl,rY.mp (yw.mp z)⟩
def wlV (P:yp) (h:Heap) (v:Value) (d:B2):Prop:=Q2 d True (fun b=>True) (fun i=>∃t,v=.int i t) (fun b=>True) (fun xs=>∃a vs,v=.ref a∧h.get? a=aa {cls:=.type "list",data:=.seq vs.toArray}∧Vt P h vs xs) (fun b=>True) (fun b=>True) (fun b=>True) (fun b=>True) (fun b=>True) (fun b=>True) (fun b=>True) (fun b b=>True)
theorem B8 {P:yp} {h:Heap} {v:Value} {d:B2} (w:Well P h v d):wlV P h v d:=by
 cases w<;>first|exact trivial|exact ⟨_,rfl⟩|exact ⟨_,_,rfl,by assumption,by assumption⟩
theorem Yo {P:yp} {h:Heap} {vs:List Value} {ds:List B2} (w:Vt P h vs ds):List.casesOn ds (vs=[]) fun d ds=>∃v vs',vs=v::vs'∧Well P h v d∧Vt P h vs' ds:=by
 cases w with
 |nil=>rfl
 |cons a b=>exact ⟨_,_,rfl,a,b⟩
def rlV (v:Value) (d:B2) (as:List Addr):Prop:=Q2 d True (fun b=>True) (fun b=>True) (fun b=>True) (fun b=>∀a,v=.ref a→a∈as) (fun b=>True) (fun b=>True) (fun b=>True) (fun b=>True) (fun b=>True) (fun b=>True) (fun b=>True) (fun b b=>True)
theorem Mx {R:WRecords} {cl:Str→Option Addr} {h:Heap} {v:Value} {d:B2} {as:List Addr} (r:ReadsW R cl h v d as):rlV v d as:=by
 cases r<;>first|exact trivial|exact fun b e=>Ft e▸.head _
theorem Eb {R:WRecords} {cl:Str→Option Addr} {h:Heap} {a:Addr} {xs:List B2} {as:List Addr} (r:ReadsAllW R cl h [.ref a] [.list xs] as):a∈as:=by
 have key :∀{vs ds as},ReadsAllW R cl h vs ds as→vs=[.ref a]→ds=[.list xs]→a∈as:=fun r=>by
  cases r with
  |nil=>exact fun e=>nomatch e
  |cons r _=>exact fun e1 e2=>jb _ ((show rlV _ (.list xs) _ from (jO e2).1▸Mx r) a (jO e1).1)
 exact key r rfl rfl
theorem FT {cx:Cx} {g:Gh} (is:List Int):∀{vs:List Value} {h:Heap} {P:yp},Vt P h vs (is.map .int)→VRs cx g (is.map .int) vs:=by
 induction is with
 |nil=>intro vs h P w;exact (show vs=[] from Yo w)▸.nil
 |cons i is ih=>intro vs h P w;apply PR (Yo w);intro v vs' a b;exact (show∃t,v=.int i t from B8 a).elim fun t e=>e▸.cons (.int _ _) (ih b)
noncomputable def vT:Obj:={cls:=.none,data:=.freed}
theorem uy (h:Heap) (a:Addr):(h.update a fun b=>vT).get? a=aj:=by
 unfold Heap.update Heap.get?;simp only [Array.getElem?_modify,if_pos];cases h.objs[a]?<;>rfl
theorem AZ {α:Type} {l:List (Nat×α)} {a:Nat} {o:α} (h:l.lookup a=aa o):(a,o)∈l:=by
 induction l with
 |nil=>exact no h
 |cons p l ih=>
  rw [eF] at h
  split at h
  ·rename_i e;cases h;erw[beq_iff_eq.mp e];exact .head _
  ·exact .tail _ (ih h)
theorem oO {is:List Int} {j:Nat} {ob:AO} (h:(UN is).get j=aa ob):j=0∧ob=.list ac aj (is.map .int) aj:=by
 cases j with
 |zero=>cases h;exact ⟨rfl,rfl⟩
 |succ j=>
  have n :∀b:Bool,(be aj aj b:Option AO)=aj:=fun b=>by cases b<;>rfl
  exact no ((n (ay (fG j 2) 1)).symm.trans h)
theorem MC (a b:List B2):lw.row.toRowW.claim.post a (.bool ac) b=ac:=by kernel_rfl
theorem Ie (RR:z4):lw.row.toRowW.claim.HoldsOpenBy (callStub lw.name) [lw.name] lw.row.keeps lw.row.writes:=by
 refine open_anyG (r:=lw.row.toRowW) (run:=fun f vs=>PySem.call f vs) (tree:=fun vs=>do match ← nsGet UV lw.name with
  |some f=>do ret (← PySem.call f vs)
  |none=>Px "claim.caller:no-such-global") Xg VG Fz (fun s e=>@of_decide_eq_true _ (c_ _) e) FA (fun s e=>recFacts_nil rfl) rfl (by decide +kernel) ⟨rfl,rfl,rfl,rfl,rfl,by decide +kernel⟩ ⟨[.list []],by decide +kernel,by decide +kernel⟩
  (fun vs w s mg f Q E hg hf h=>ag (wpAny_nsGet hg (by have hf:mg lw.name=aa f:=hf;erw[hf];exact ag (aE h (fun i i x=>aq x) fun i i x=>x))))
  (fun w s hg G n hn=>?_) fun w s₀ s₁ mg mb G Y args vs as hpre hlay L low=>?_
 ·refine aK (fun hm h00=>?_) G.X;refine z2b h00 fun o fd ho hd p1 p2 p3 p4 p5 p6 p7 p8 p9 p10=>?_;cases aS.mp hn;exact ⟨776,o,fd,rO.1,rO.2.1,rO.2.2,(Pin.globalOf_eq hg _).trans hm,ho,hd,(by kernel_rfl),p1,p2,p3,p4,p5,p6,p7,p8,.inl ⟨by kernel_rfl,p9⟩,[],by kernel_rfl,.inl ⟨rfl,p10⟩⟩
 ·refine ⟨.ref 776,G.X.1,?_⟩;refine cg (Pk hpre) fun is q700 hl=>?_;subst q700;refine rJ (Yo L.well) fun v vs' ev W W'=>?_;have e0:vs'=[]:=Yo W';refine rJ (B8 W) fun a ls e ha hw=>?_;subst e0;subst e;subst ev;obtain ⟨⟨K,T⟩,nl,sy⟩:=Y;have nK:K.lookup a=aj:=by
   cases e:K.lookup a with
   |none=>rfl
   |some o=>
    have q:=ai.mp (aR T.chk) _ (AZ e);replace ha:=(T.kin a o e)▸ha;cases ha;exact ff q
  let cx:Cx:=⟨pp,w,s₁.heap.update a fun i=>vT,K,fun i=>.none,fun i=>.none,fun i=>[],fun k=>[aw k],fun i=>[]⟩
  let g:Gh:=⟨fun j=>if j=0 then aa a else aj,fun i=>aj,fun b=>K.lookup b⟩
  have other :∀b o,b≠a→s₁.heap.get? b=aa o→cx.h₀.get? b=aa o:=fun b o ne e=>(Fj _ _ _ _ ne).trans e;have base :∀b o,cx.h₀.get? b=aa o→s₁.heap.get? b=aa o:=fun b o e=>by
   by_cases z:b=a
   ·subst z;exact no ((uy _ _).symm.trans e)
   ·exact (Fj _ _ _ _ z).symm.trans e
  have st:cStatics≠a:=fun e=>by
   obtain ⟨mc,⟨o,es,ep,h,d,_⟩,_⟩:=nl;replace h:=ha▸e▸h;cases h;cases d
  have sn:di≠a:=fun e=>by
   exact absurd e.symm (beq_eq_false_iff_ne.mp (L.low low a (Eb L.reads)))
  have O:COk cx:=⟨fun b o e=>other b o (fun z=>by replace e:=z▸e;exact no (nK.symm.trans e)) (T.kin b o e),fun i=>a7 _,let ⟨mc,⟨o,es,ep,h,d⟩,z⟩:=nl;⟨mc,⟨o,es,ep,other _ _ st h,d⟩,z⟩,sy.imp fun o h=>other _ _ sn h⟩
  have I:Inv cx g (UN is).get (UN is).nx s₁.heap:=by
   refine ⟨⟨fun i i e=>no e,fun i i e=>no e,fun i i e=>e⟩,base,T.kin,fun j ob e=>?_,fun j ob k ob' b e e' i i=>(oO e).1.trans (oO e').1.symm,fun j ob b c i i e=>no e,fun b ⟨j,ob,e,o⟩ =>?_,fun j e=>⟨if_neg (iF e),rfl⟩⟩
   ·refine aK (fun q1100 q1101=>?_) (oO e);subst q1100;subst q1101;exact .list (show (if (0:Nat)=0 then aa a else aj)=aa a from if_pos rfl) ha (by simp [fo]) (FT is hw)
   ·refine aK (fun q1200 q1201=>?_) (oO e);subst q1200;subst q1201;rcases o with o|⟨_,o⟩
    ·cases (show aa a=aa b from o);exact ⟨uy _ _,nK⟩
    ·exact no o
  have bs:Bs cx:=⟨⟨HG O T.chk T.hs,rfl,⟨fun i=>rfl,fun i=>rfl⟩⟩,yZ rfl rfl rfl fun i i=>rfl⟩
  refine ak (Xh bs RR is hl) fun S' J=>?_;have J:=J.jf;refine aE (J callerA g s₁ (.ref 776) [.ref a] ?_ I (.fn 102) (.cons (.loc (show (if (0:Nat)=0 then aa a else aj)=aa a from if_pos rfl)) .nil)) (fun r s' ⟨g',A,R⟩ =>?_) fun e s' z=>z.elim
  ·exact ⟨by show 1+claimMargin+2*43≤900;unfold claimMargin;omega,by show 4+20*43≤9000;omega,rfl⟩
  ·refine wh A.same fun h' tk q1400=>?_;subst q1400;apply R.vw;refine ⟨.inl ⟨_,.bool ac,[],rfl,fun i=>rfl,.bool ac,MC _ _,fun i=>⟨.nil,fun i m=>nomatch m⟩⟩,.of_keep fun b o e=>A.evo.keep b o e fun ⟨j,ob,e,q,_⟩ =>?_,rfl,.of_eq L.gens⟩;replace q:=((oO e).2)▸q;exact ff q
theorem Ep (RR:z4):lw.Holds:=by
 have ok:lw.wellSaid=ac:=by erw[PySem.W.Fast.te9446332074065402090];decide +kernel
 exact holds_law ok fun k=>⟨k,⟨[.list []],by decide +kernel,by decide +kernel⟩,Ie RR⟩
end
end
section
theorem OT:eR 0 0=ac:=by decide +kernel
theorem OS:eR 0 1=ac:=by decide +kernel
theorem OQ:eR 0 2=ac:=by decide +kernel
theorem OP:eR 0 3=ac:=by decide +kernel
theorem OO:eR 0 4=ac:=by decide +kernel
theorem ON:eR 0 5=ac:=by decide +kernel
theorem OM:eR 1 0=ac:=by decide +kernel
theorem OL:eR 1 1=ac:=by decide +kernel
theorem OK:eR 1 2=ac:=by decide +kernel
theorem OJ:eR 1 3=ac:=by decide +kernel
theorem OI:eR 1 4=ac:=by decide +kernel
theorem OH:eR 1 5=ac:=by decide +kernel
theorem OG:eR 2 0=ac:=by decide +kernel
theorem OF:eR 2 1=ac:=by decide +kernel
theorem OE:eR 2 2=ac:=by decide +kernel
theorem OD:eR 2 3=ac:=by decide +kernel
theorem OC:eR 2 4=ac:=by decide +kernel
theorem OB:eR 2 5=ac:=by decide +kernel
theorem OA:eR 3 0=ac:=by decide +kernel
theorem Oz:eR 3 1=ac:=by decide +kernel
theorem Oy:eR 3 2=ac:=by decide +kernel
theorem Ox:eR 3 3=ac:=by decide +kernel
theorem Ow:eR 3 4=ac:=by decide +kernel
theorem Ou:eR 3 5=ac:=by decide +kernel
theorem Ot:eR 4 0=ac:=by decide +kernel
theorem Os:eR 4 1=ac:=by decide +kernel
theorem Oq:eR 4 2=ac:=by decide +kernel
theorem Op:eR 4 3=ac:=by decide +kernel
theorem Oo:eR 4 4=ac:=by decide +kernel
theorem On:eR 4 5=ac:=by decide +kernel
theorem Ol:eR 5 0=ac:=by decide +kernel
theorem Ok:eR 5 1=ac:=by decide +kernel
theorem Oj:eR 5 2=ac:=by decide +kernel
theorem Oi:eR 5 3=ac:=by decide +kernel
theorem Oh:eR 5 4=ac:=by decide +kernel
theorem Og:eR 5 5=ac:=by decide +kernel
theorem OU:DueRows:=fun T N hT hN=>by
 rcases jz hT with rfl|rfl|rfl|rfl|rfl|rfl
 ·rcases jz hN with rfl|rfl|rfl|rfl|rfl|rfl
  ·exact OT
  ·exact OS
  ·exact OQ
  ·exact OP
  ·exact OO
  ·exact ON
 ·rcases jz hN with rfl|rfl|rfl|rfl|rfl|rfl
  ·exact OM
  ·exact OL
  ·exact OK
  ·exact OJ
  ·exact OI
  ·exact OH
 ·rcases jz hN with rfl|rfl|rfl|rfl|rfl|rfl
  ·exact OG
  ·exact OF
  ·exact OE
  ·exact OD
  ·exact OC
  ·exact OB
 ·rcases jz hN with rfl|rfl|rfl|rfl|rfl|rfl
  ·exact OA
  ·exact Oz
  ·exact Oy
  ·exact Ox
  ·exact Ow
  ·exact Ou
 ·rcases jz hN with rfl|rfl|rfl|rfl|rfl|rfl
  ·exact Ot
  ·exact Os
  ·exact Oq
  ·exact Op
  ·exact Oo
  ·exact On
 ·rcases jz hN with rfl|rfl|rfl|rfl|rfl|rfl
  ·exact Ol
  ·exact Ok
  ·exact Oj
  ·exact Oi
  ·exact Oh
  ·exact Og
theorem I3:cQ 0 0=ac:=by decide +kernel
theorem I0:cQ 0 1=ac:=by decide +kernel
theorem IZ:cQ 0 2=ac:=by decide +kernel
theorem IY:cQ 0 3=ac:=by decide +kernel
theorem IX:cQ 0 4=ac:=by decide +kernel
theorem IW:cQ 0 5=ac:=by decide +kernel
theorem IV:cQ 1 0=ac:=by decide +kernel
theorem IU:cQ 1 1=ac:=by decide +kernel
theorem IT:cQ 1 2=ac:=by decide +kernel
theorem IR:cQ 1 3=ac:=by decide +kernel
theorem IQ:cQ 1 4=ac:=by decide +kernel
theorem IP:cQ 1 5=ac:=by decide +kernel
theorem IN:cQ 2 0=ac:=by decide +kernel
theorem IM:cQ 2 1=ac:=by decide +kernel
theorem IL:cQ 2 2=ac:=by decide +kernel
theorem IK:cQ 2 3=ac:=by decide +kernel
theorem IJ:cQ 2 4=ac:=by decide +kernel
theorem IH:cQ 2 5=ac:=by decide +kernel
theorem IG:cQ 3 0=ac:=by decide +kernel
theorem IF:cQ 3 1=ac:=by decide +kernel
theorem ID:cQ 3 2=ac:=by decide +kernel
theorem IC:cQ 3 3=ac:=by decide +kernel
theorem IB:cQ 3 4=ac:=by decide +kernel
theorem IA:cQ 3 5=ac:=by decide +kernel
theorem Iz:cQ 4 0=ac:=by decide +kernel
theorem Iy:cQ 4 1=ac:=by decide +kernel
theorem Ix:cQ 4 2=ac:=by decide +kernel
theorem Iw:cQ 4 3=ac:=by decide +kernel
theorem Iv:cQ 4 4=ac:=by decide +kernel
theorem Iu:cQ 4 5=ac:=by decide +kernel
theorem It:cQ 5 0=ac:=by decide +kernel
theorem Ir:cQ 5 1=ac:=by decide +kernel
theorem Iq:cQ 5 2=ac:=by decide +kernel
theorem Ip:cQ 5 3=ac:=by decide +kernel
theorem Io:cQ 5 4=ac:=by decide +kernel
theorem Im:cQ 5 5=ac:=by decide +kernel
theorem I4:HearRows:=fun T N hT hN=>by
 rcases jz hT with rfl|rfl|rfl|rfl|rfl|rfl
 ·rcases jz hN with rfl|rfl|rfl|rfl|rfl|rfl
  ·exact I3
  ·exact I0
  ·exact IZ
  ·exact IY
  ·exact IX
  ·exact IW
 ·rcases jz hN with rfl|rfl|rfl|rfl|rfl|rfl
  ·exact IV
  ·exact IU
  ·exact IT
  ·exact IR
  ·exact IQ
  ·exact IP
 ·rcases jz hN with rfl|rfl|rfl|rfl|rfl|rfl
  ·exact IN
  ·exact IM
  ·exact IL
  ·exact IK
  ·exact IJ
  ·exact IH
 ·rcases jz hN with rfl|rfl|rfl|rfl|rfl|rfl
  ·exact IG
  ·exact IF
  ·exact ID
  ·exact IC
  ·exact IB
  ·exact IA
 ·rcases jz hN with rfl|rfl|rfl|rfl|rfl|rfl
  ·exact Iz
  ·exact Iy
  ·exact Ix
  ·exact Iw
  ·exact Iv
  ·exact Iu
 ·rcases jz hN with rfl|rfl|rfl|rfl|rfl|rfl
  ·exact It
  ·exact Ir
  ·exact Iq
  ·exact Ip
  ·exact Io
  ·exact Im
def c0 (N:Nat) (dz:Bool) (o:Nat) (n:Nat):Bool:=(outs 5 n).all fun os=>hJ N dz ac (o::os)
def tU (N:Nat) (dz:Bool) (n:Nat):Bool:=(outs 2 n).all fun os=>hJ N dz ae os
theorem dR {h:Nat} (os:List Nat) (q :∀o∈os,o<h):os∈outs h os.length:=by
 induction os with
 |nil=>exact .head _
 |cons o os ih=>exact br.mpr ⟨o,bM.mpr (q o (.head _)),bp.mpr ⟨os,ih fun x hx=>q x (.tail _ hx),rfl⟩⟩
theorem Bu {o:Nat} (h:o<5):o=0∨o=1∨o=2∨o=3∨o=4:=by omega
theorem tT:c0 0 ae 0 0=ac:=by decide +kernel
theorem tS:c0 0 ae 1 0=ac:=by decide +kernel
theorem tR:c0 0 ae 2 0=ac:=by decide +kernel
theorem tQ:c0 0 ae 3 0=ac:=by decide +kernel
theorem tP:c0 0 ae 4 0=ac:=by decide +kernel
theorem vK:tU 0 ae 1=ac:=by decide +kernel
theorem vE (os:List Nat) (hl:os.length=1) (h :∀o∈os,o<5):hJ 0 ae ac os=ac∧((∀o∈os,o<2)→hJ 0 ae ae os=ac):=by
 refine ⟨?_,fun h2=>ai.mp vK os (by have m:=dR os h2;rw [hl] at m;exact m)⟩;cases os with
 |nil=>exact nomatch hl
 |cons o os=>
  have m:=dR os fun x hx=>h x (.tail _ hx);rw [cq hl] at m;rcases Bu (h o (.head _)) with rfl|rfl|rfl|rfl|rfl
  ·exact ai.mp tT os m
  ·exact ai.mp tS os m
  ·exact ai.mp tR os m
  ·exact ai.mp tQ os m
  ·exact ai.mp tP os m
theorem tO:c0 1 ae 0 1=ac:=by decide +kernel
theorem tN:c0 1 ae 1 1=ac:=by decide +kernel
theorem tM:c0 1 ae 2 1=ac:=by decide +kernel
theorem tL:c0 1 ae 3 1=ac:=by decide +kernel
theorem tK:c0 1 ae 4 1=ac:=by decide +kernel
theorem vJ:tU 1 ae 2=ac:=by decide +kernel
theorem vD (os:List Nat) (hl:os.length=2) (h :∀o∈os,o<5):hJ 1 ae ac os=ac∧((∀o∈os,o<2)→hJ 1 ae ae os=ac):=by
 refine ⟨?_,fun h2=>ai.mp vJ os (by have m:=dR os h2;rw [hl] at m;exact m)⟩;cases os with
 |nil=>exact nomatch hl
 |cons o os=>
  have m:=dR os fun x hx=>h x (.tail _ hx);rw [cq hl] at m;rcases Bu (h o (.head _)) with rfl|rfl|rfl|rfl|rfl
  ·exact ai.mp tO os m
  ·exact ai.mp tN os m
  ·exact ai.mp tM os m
  ·exact ai.mp tL os m
  ·exact ai.mp tK os m
theorem tJ:c0 2 ae 0 2=ac:=by decide +kernel
theorem tI:c0 2 ae 1 2=ac:=by decide +kernel
theorem tH:c0 2 ae 2 2=ac:=by decide +kernel
theorem tG:c0 2 ae 3 2=ac:=by decide +kernel
theorem tF:c0 2 ae 4 2=ac:=by decide +kernel
theorem vI:tU 2 ae 3=ac:=by decide +kernel
theorem vC (os:List Nat) (hl:os.length=3) (h :∀o∈os,o<5):hJ 2 ae ac os=ac∧((∀o∈os,o<2)→hJ 2 ae ae os=ac):=by
 refine ⟨?_,fun h2=>ai.mp vI os (by have m:=dR os h2;rw [hl] at m;exact m)⟩;cases os with
 |nil=>exact nomatch hl
 |cons o os=>
  have m:=dR os fun x hx=>h x (.tail _ hx);rw [cq hl] at m;rcases Bu (h o (.head _)) with rfl|rfl|rfl|rfl|rfl
  ·exact ai.mp tJ os m
  ·exact ai.mp tI os m
  ·exact ai.mp tH os m
  ·exact ai.mp tG os m
  ·exact ai.mp tF os m
theorem vy:c0 2 ac 0 2=ac:=by decide +kernel
theorem vt:c0 2 ac 1 2=ac:=by decide +kernel
theorem vr:c0 2 ac 2 2=ac:=by decide +kernel
theorem vq:c0 2 ac 3 2=ac:=by decide +kernel
theorem vp:c0 2 ac 4 2=ac:=by decide +kernel
theorem xv:tU 2 ac 3=ac:=by decide +kernel
theorem xt (os:List Nat) (hl:os.length=3) (h :∀o∈os,o<5):hJ 2 ac ac os=ac∧((∀o∈os,o<2)→hJ 2 ac ae os=ac):=by
 refine ⟨?_,fun h2=>ai.mp xv os (by have m:=dR os h2;rw [hl] at m;exact m)⟩;cases os with
 |nil=>exact nomatch hl
 |cons o os=>
  have m:=dR os fun x hx=>h x (.tail _ hx);rw [cq hl] at m;rcases Bu (h o (.head _)) with rfl|rfl|rfl|rfl|rfl
  ·exact ai.mp vy os m
  ·exact ai.mp vt os m
  ·exact ai.mp vr os m
  ·exact ai.mp vq os m
  ·exact ai.mp vp os m
theorem tE:c0 3 ae 0 0=ac:=by decide +kernel
theorem tB:c0 3 ae 1 0=ac:=by decide +kernel
theorem tz:c0 3 ae 2 0=ac:=by decide +kernel
theorem ty:c0 3 ae 3 0=ac:=by decide +kernel
theorem tx:c0 3 ae 4 0=ac:=by decide +kernel
theorem vH:tU 3 ae 1=ac:=by decide +kernel
theorem vB (os:List Nat) (hl:os.length=1) (h :∀o∈os,o<5):hJ 3 ae ac os=ac∧((∀o∈os,o<2)→hJ 3 ae ae os=ac):=by
 refine ⟨?_,fun h2=>ai.mp vH os (by have m:=dR os h2;rw [hl] at m;exact m)⟩;cases os with
 |nil=>exact nomatch hl
 |cons o os=>
  have m:=dR os fun x hx=>h x (.tail _ hx);rw [cq hl] at m;rcases Bu (h o (.head _)) with rfl|rfl|rfl|rfl|rfl
  ·exact ai.mp tE os m
  ·exact ai.mp tB os m
  ·exact ai.mp tz os m
  ·exact ai.mp ty os m
  ·exact ai.mp tx os m
theorem tv:c0 4 ae 0 1=ac:=by decide +kernel
theorem tr:c0 4 ae 1 1=ac:=by decide +kernel
theorem tq:c0 4 ae 2 1=ac:=by decide +kernel
theorem tm:c0 4 ae 3 1=ac:=by decide +kernel
theorem tl:c0 4 ae 4 1=ac:=by decide +kernel
theorem vG:tU 4 ae 2=ac:=by decide +kernel
theorem vA (os:List Nat) (hl:os.length=2) (h :∀o∈os,o<5):hJ 4 ae ac os=ac∧((∀o∈os,o<2)→hJ 4 ae ae os=ac):=by
 refine ⟨?_,fun h2=>ai.mp vG os (by have m:=dR os h2;rw [hl] at m;exact m)⟩;cases os with
 |nil=>exact nomatch hl
 |cons o os=>
  have m:=dR os fun x hx=>h x (.tail _ hx);rw [cq hl] at m;rcases Bu (h o (.head _)) with rfl|rfl|rfl|rfl|rfl
  ·exact ai.mp tv os m
  ·exact ai.mp tr os m
  ·exact ai.mp tq os m
  ·exact ai.mp tm os m
  ·exact ai.mp tl os m
theorem tj:c0 5 ae 0 0=ac:=by decide +kernel
theorem ti:c0 5 ae 1 0=ac:=by decide +kernel
theorem tg:c0 5 ae 2 0=ac:=by decide +kernel
theorem tf:c0 5 ae 3 0=ac:=by decide +kernel
theorem te:c0 5 ae 4 0=ac:=by decide +kernel
theorem vF:tU 5 ae 1=ac:=by decide +kernel
theorem vz (os:List Nat) (hl:os.length=1) (h :∀o∈os,o<5):hJ 5 ae ac os=ac∧((∀o∈os,o<2)→hJ 5 ae ae os=ac):=by
 refine ⟨?_,fun h2=>ai.mp vF os (by have m:=dR os h2;rw [hl] at m;exact m)⟩;cases os with
 |nil=>exact nomatch hl
 |cons o os=>
  have m:=dR os fun x hx=>h x (.tail _ hx);rw [cq hl] at m;rcases Bu (h o (.head _)) with rfl|rfl|rfl|rfl|rfl
  ·exact ai.mp tj os m
  ·exact ai.mp ti os m
  ·exact ai.mp tg os m
  ·exact ai.mp tf os m
  ·exact ai.mp te os m
theorem Gi:TellRows:=fun N hN dz hz os hl h=>by
 cases dz with
 |true=>obtain rfl:=hz rfl;exact xt os hl h
 |false=>
  rcases jz hN with rfl|rfl|rfl|rfl|rfl|rfl
  ·exact vE os hl h
  ·exact vD os hl h
  ·exact vC os hl h
  ·exact vB os hl h
  ·exact vA os hl h
  ·exact vz os hl h
theorem Lu:pU 0=ac:=by decide +kernel
theorem Ls:pU 1=ac:=by decide +kernel
theorem Lr:pU 2=ac:=by decide +kernel
theorem Lq:pU 3=ac:=by decide +kernel
theorem Lo:pU 4=ac:=by decide +kernel
theorem DP:WorldRows:=fun af h=>by
 have:af=0∨af=1∨af=2∨af=3∨af=4:=by omega
 rcases this with rfl|rfl|rfl|rfl|rfl
 ·exact Lu
 ·exact Ls
 ·exact Lr
 ·exact Lq
 ·exact Lo
theorem WL (af:Nat) (dv:AV):AD 0 9 600 1000 af dv=ac:=by kernel_rfl
theorem WF (af:Nat) (dv:AV):AD 0 12 1000 1400 af dv=ac:=by kernel_rfl
theorem WK (af:Nat) (dv:AV):AD 1 9 600 1000 af dv=ac:=by kernel_rfl
theorem WE (af:Nat) (dv:AV):AD 1 12 1000 1400 af dv=ac:=by kernel_rfl
theorem WJ (af:Nat) (dv:AV):AD 2 9 600 1000 af dv=ac:=by kernel_rfl
theorem WD (af:Nat) (dv:AV):AD 2 12 1000 1400 af dv=ac:=by kernel_rfl
theorem WI (af:Nat) (dv:AV):AD 3 9 600 1000 af dv=ac:=by kernel_rfl
theorem WC (af:Nat) (dv:AV):AD 3 12 1000 1400 af dv=ac:=by kernel_rfl
theorem WH (af:Nat) (dv:AV):AD 4 9 600 1000 af dv=ac:=by kernel_rfl
theorem WB (af:Nat) (dv:AV):AD 4 12 1000 1400 af dv=ac:=by kernel_rfl
theorem WG (af:Nat) (dv:AV):AD 5 9 600 1000 af dv=ac:=by kernel_rfl
theorem Wz (af:Nat) (dv:AV):AD 5 12 1000 1400 af dv=ac:=by kernel_rfl
theorem My:RchRows:=fun T hT af dv=>by
 rcases jz hT with rfl|rfl|rfl|rfl|rfl|rfl
 ·exact ⟨WL af dv,WF af dv⟩
 ·exact ⟨WK af dv,WE af dv⟩
 ·exact ⟨WJ af dv,WD af dv⟩
 ·exact ⟨WI af dv,WC af dv⟩
 ·exact ⟨WH af dv,WB af dv⟩
 ·exact ⟨WG af dv,Wz af dv⟩
theorem YQ:lw.Holds:=Ep ⟨⟨OU,Gi,I4⟩,DP,My⟩
end
end Mine
end
theorem PySem.Challenge.cw_sj0187_01_holds : PySem.Challenge.rw_sj0187_01.Holds :=
  Mine.YQ
