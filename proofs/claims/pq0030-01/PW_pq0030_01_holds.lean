import PyProof.Rows.All
import Wide.All
import OpenK.AllK
import Wide.FinOn
import PyProof.Rows.RuleN_abs
import Lean
import PySem.Challenge.RW_pq0030_01
open Nat renaming le_trans→A0,le_of_eq→Aa,lt_of_lt_of_le→Ac,lt_of_le_of_lt→An,le_refl→At,ne_of_lt→Az,lt_succ_of_lt→AA,le_of_lt_succ→AH,add_le_add_left→AP,lt_succ_self→AS,add_le_add_right→AU,le_antisymm→AY,le_of_lt→B1,lt_irrefl→B3,mul_le_mul_left→B5,lt_or_ge→B8,le_of_not_lt→Bf,min_eq_left→Bh,zero_le→Bi,succ_le_succ→Bk,le_add_right→Bm,add_le_add→Bn,lt_trichotomy→Bv,max_eq_right→BB,le_total→BI,max_eq_left→BJ,min_eq_right→BK,succ_pos→BL,le_add_right_of_le→BP,not_lt_zero→C0,add_comm→C1,lt_of_le_of_ne→C5,add_right_comm→C6,le_succ→Cj,lt_succ_of_le→Cm,ne_of_gt→Cs,lt_trans→Ct,sub_add_cancel→CA,strongRecOn→CG,succ_add→CL,mul_le_mul_right→CM,add_lt_add_left→CU,lt_add_of_pos_right→CV,eq_zero_or_pos→D3,le_add_left→D7,sub_pos_of_lt→Da,le_succ_of_le→Db,add_sub_of_le→Dc,succ_ne_self→Dm,sub_le→Dy,lt_of_succ_lt→DH,add_assoc→E1,min_le_left→E9,not_lt→Ek,sub_lt_left_of_lt_add→En,one_pos→Ev,lt_succ_iff_lt_or_eq→EB,lt_of_not_le→EE,mod_lt→ER,sub_eq_zero_of_le→EZ,le_of_sub_eq_zero→F0,pow_le_pow_right→Fq,le_zero→Fs,sub_le_sub_left→Fx,zero_add→Ga,sub_lt→GX,max_lt→GY,lt_of_mul_lt_mul_right→GZ,le_mul_of_pos_right→Hu,add_sub_cancel_left→Hv,succ_sub→HH,sub_zero→HI,sub_le_iff_le_add'→HJ,lt_of_succ_lt_succ→HK,le_of_succ_le_succ→HL,sub_succ_lt_self→I1,sub_lt_sub_right→I2,le_sub_one_of_lt→I3,add_lt_of_lt_sub→I4,le_min→Iv,add_sub_cancel→Iw,le_of_succ_le→II,not_lt_of_le→IV,min_le_right→IW,le_max_right→IX,le_max_left→J5,succ_mul→JL,pow_succ→JM,add_zero→JN
open PySem renaming Shared→A4,wpAny_bind→A5,wpAny→A8,Str→A9,wpAny_pure→Ae,wpAny_truthy_bool→Ai,wpAny_mono→Al,Around→Aq,wpAny_assign_Name→Aw,Heap→AE,starEach→AG,eval→AJ,mainGlobals→AO,sizeLine_eq→AT,wpAny_holding→B7,World→Bo,sysModules→Bp,wpAny_newObj_type→Bw,wpAny_setState_of→BF,codeAny→BM,backTo→BO,wpAny_call_entry→BS,unpackItems→BX,importBound→BY,getMethod→C3,callWith→Cg,subscripted→Cn,wpAny_callSpecial?_slot→Cp,storeName→Cq,getItem→Cr,HeapKind→Cy,compareOp→CB,wpAny_allTrue_Or_cons→CF,wpAny_specialOf→CP,codeAny_builtin→CQ,Builtin→CT,wpAny_isTrue_BoolOp→CW,valueAt→CX,wpAny_isInstance→CZ,compEnvC→D1,holding→Di,pyIter→Dr,wpAny_forIn_list→Ds,intKind→Dt,assign→Dx,Flow→DB,Expr→DL,strKind→DO,wpAny_typeOf→DS,wpAny_setField→DT,wpAny_pyIter_list→DU,wpAny_allTrue_And_cons→DV,operate→DW,Value→DY,wpAny_notOrdered_dict→E4,wpAny_rule→E5,wpAny_askSetting→E6,assignInOrder→Eb,standAt→Em,swapsWith→Ep,wpAny_seqItems→Ex,ks_wpAt_execs_cons→Ez,dictSetDefault→EA,wpAny_sequenceKey→EF,wpAny_field→EG,spliced→EH,fastTable_eq_tree→EI,argBest→EK,wpAny_getItem_list_slice→EM,plainId_quiet→EN,isTrue→EO,Result→EP,wpAny_pyNext_list_item→Fg,wpAny_call→Fh,newList→Fk,assignEach→Fl,wpAny_execs_nil→Fu,atKey→Fv,wpAny_pyNext_list_end→Fw,wpAny_allTrue_Or_nil→FL,wpAny_Compare1→FM,sliceBounds→FN,setAddHashedIn→FO,newTuple→FP,newFunctionEnv→FQ,setItem→FU,wpAny_setEntries_of→FZ,wpAny_dictFind_heap→G7,wpAny_Constant_bool→G8,wpAny_tupleItemsOf→Gl,pyNext→Gm,ks_wpAt_MethodCall→Gn,intKind_is→Go,wpAny_storeSet_of→GD,wpAny_dictEntries→GE,searchCouldBeSeen→GF,foldedSetIterable→GG,delItem→GH,bootBuiltins→GI,binaryOp→GJ,Scope→GK,rawInt→GS,wpAny_of_eq→Hf,unsupported→Hg,wpAny_ite_split→Hn,size_of_entries→Ho,letOwnedTupleGo→Hp,wpAny_richCompare_same_room→Hs,wpAny_listPart→HA,letTemporaryGo→HC,isSubtype_type→HE,wpAny_standAt→HX,wpAny_newList→HY,wpAny_comprehension_free→HZ,rangeSize_one→I0,pickOrder→I9,stored→Ij,setAddHashed→Ik,setAdd→Il,getAttr→Ip,codeAny_mono→Ir,codeAny_compStart_list→Is,isSubtype_tuple_tuple→IF,builtinLookup_eq_fast→IG,wpAny_updateDictKeys→IK,wpAny_newFunctionEnv→IL,wpAny_loadName_local→IM,wpAny_letGo→IN,wpAny_If→IP,entryFor→IT,bindArgs→IU,wpAny_setItem_pairs→J3,pairTrees_cons_walk→J4,wpAny_pyIter_tuple→J9,wpAny_Constant_str→Ja,setsByText→Jd,isInstance→Jg,getattributeRaised→Jh,call_meets→Ji,builtinsNs→Jj,wpAny_pyIter_slot→Jl,wpAny_pyIter_enum→Jm,slot_list_setitem→Jn,relabel→Jo,ofAClassStatement→Jp,eqIsQuiet_byValue→Jq,IsRange→Jt,wpAny_isTrue_Not→Jx,wpAny_getItem_of→Jy,wpAny_execs_cons→Jz,wpAny_eqBool_int→JA,slicePick→JB,seqIndex?→JC,ks_wpAt_Expr_any→JD,entryFor_of_tree→JF,codeAny_call_def→JG,beq_builtin_none→JH,Addr→JK,wpAny_updateSeq→JV,typeLookup_type→JW,method1_meetsIn→JX,codeAny_of_tree→JY,Fin→JZ
open List renaming getD_eq_getElem?_getD→A6,getElem?_eq_getElem→A7,mem_singleton→Ab,getElem?_eq_some_iff→Af,not_mem_nil→Ah,mem_cons_self→Aj,mem_append→Am,mem_cons_of_mem→Ao,range→Ap,getElem?_append_left→Ar,mem_cons→As,length_append→Au,mem_of_getElem?→Av,size_toArray→Ay,mem_append_left→AD,reverseAux→AF,getElem?_eq_none→AI,mem_append_right→AL,length_map→AQ,mem_map→AR,zipWith→AV,reverse→AW,length_eq_zero_iff→AX,map_congr_left→AZ,getElem?_map→B4,map_append→B6,mem_range→Be,map→Bg,zip→Bj,take_length→Br,length_singleton→Bx,length_set→By,getElem?_append_right→BA,ext_getElem?→BC,getElem?_set_ne→BE,getElem?_set_self→BG,length_cons→BN,getElem?_set→BU,mem_iff_getElem?→BV,nodup_nil→BW,take_add_one→C8,nodup_cons→C9,length_take→Cc,sum_cons→Cf,nodup_append→Ck,toList_toArray→Co,map_cons→Cu,range_succ→CD,mem_filter→CE,take_succ_eq_append_getElem→CH,length_range→CI,getElem?_range→CS,getElem?_take→CY,take_append_drop→D9,map_map→Dj,lookup_cons→Dk,mem_of_find?_eq_some→Dn,drop_eq_getElem_cons→Do,getElem_of_mem→Dp,mem_filterMap→Dv,getElem?_cons_succ→Dz,append_cancel_left→DA,perm_middle→DP,getElem?_drop→Ee,sum_append→ES,eq_nil_or_concat→EU,concat_eq_append→EV,take_left→Fc,lookup→Fd,length_zipIdx→FH,find?_eq_none→FI,eraseIdx_append_of_length_le→FR,pairwise_map→FV,map_nil→FW,eraseIdx_eq_take_drop_succ→Gb,getElem_inj→Gi,any_eq_true→Gj,mem_zipIdx_iff_getElem?→Gx,length_nil→Gy,foldl_cons→Gz,find?_some→GA,take_succ→GQ,drop_zero→GR,getElem?_zip_eq_some→Ha,getElem?_eq_none_iff→Hb,take_of_length_le→Hw,find?_cons_of_pos→Hx,find?_cons_of_neg→Hy,length_filter_le→HM,mem_erase_of_ne→HU,length_eraseIdx→HV,mem_map_of_mem→I5,length_pos_iff→I6,zip_cons_cons→Ig,mem_eraseDups→Ih,reverse_cons→Ix,find?_append→Iy,length_drop→IJ,find?_cons→IZ,set_set→Js,map_id→JO
open Option.some renaming inj→Ag,injEq→EY
open PySem.Heap renaming get?_push_of_some→Ak,get?_push_size→AB,lt_size→AM,get?_update_self→Bl,size_push→Bu,SameBut→BZ,hide_ne→CJ,size_update→DQ,get?_update_ne→Ea,hide_self→Ef,get?_push_ne→Eo,of_hide→FX,get?_update_other→Hz,ExtBut→HW
open Bool renaming false_eq_true→Ax,and_eq_true→Ce,false_ne_true→Cz,not_true→CO,not_eq_true→DR,not_false→Eg,and_false→Fe,and_self→Hm,not_eq_true'→IB,true_or→Jw
open Array renaming getElem?_toList→AC,getElem?_eq_getElem→B0,length_toList→Bb,getElem?_eq_some_iff→Bz,getD→Du,getElem?_eq_none→DC,forIn_toList→Ed,getElem?_replicate→Hd,eraseIdxIfInBounds→He,toList_filterMap→Hr,toList_map→IC,toList_inj→IE
open PySem.Calls renaming spliced_cons→AK,spliced_nil→BR,Name_function_global→IY,loadGlobal_builtin→Je
open PySem.Value renaming ref→AN,int→BD,type→CK,ref→CR,none→Df,builtin→GU
open Ne renaming symm→B9
open PySem.Heap.SameBut renaming update→Ba,refl→Ki
open PySem.Str renaming ofString→Bc
open PySem.SetTable renaming insertAt→Bd,below→D8,turns→EL,fill→EX,tooFull→FE,grown→Gg,toList_insertAt→Gr,advance→HS,probe→Ib,fresh→Ic,slot→It,fits→Iu,has→IH
open PyProof.Rows renaming assignInOrder_cons→Bq,subscriptTail→BQ,tail_any→Dq,locs→Dw,mod_int→Er,sortedHeap→Ey,assignInOrder_nil→EJ,listUpdate_at→Gf,Constant_none→Gk,neg_int→Gu,mul_int→Gv,ne_int→GL,eq_str→GT,get?_update_seq→Hq,Tuple_→HF,Attribute_any_→HQ,IntsAre→Iz,seqEpoch_at→IQ,slot_tuple_getitem→Jb,size_push'→Jc,Call_Name→JR,sub_int→K0,lt_int→K1,len_list→K4,le_int→K5,gt_int→K6,getItem_tuple→K7,eq_int→K8,call_abs_int→K9,callWith_type1→Ka,add_int→Kb,Subscript_→Kc,IfExp_→Kd,Fr→Ke
open Int renaming toNat→Bt,ofNat_inj→Ch,ofNat→Cw,ofNat_le→CN,natCast_nonneg→D4,toNat_natCast→Dd,ofNat_lt→DJ,lt_of_lt_of_le→El,ofNat_sub→FJ,lt_of_le_of_lt→FT,lt_trans→HN,le_trans→HO,max_eq_right→J0,min_eq_left→J7,toNat_sub→Ju,add_zero→JQ
open PySem.Obj renaming mapSeq→C4,putSet→DZ,data_mapDictKeys→E2,putNameByArray→Ej,putName_eq→Fp,mapFields→FG,isFreed_of_dict→Ie
open PySem.Builtin.Tuple renaming tupleHashOf→C7,tupleExact→E3,tupleItemsOf→Fy
open PySem.F renaming called_set→Ca,slot_dict_getitem→Dg,slot_dict_delitem→Dh,slot_dict_pop→DD,slot_list_getattribute→DG,slot_tuple_hash→DN,slot_dict_contains→E8,slot_list_ne→EQ,slot_dict_setdefault→G9,args_dict_delitem_2→Gh,entry_dict_delitem→Gq,slot_list_delitem→Gs,args_dict_pop_2→GM,entry_dict_pop→GV,args_list_ne_2→GW,slot_tuple_eq→Hc,type_dict_pop→Hi,slot_set_iter→Hj,plain_set_new→Hk,entry_list_ne→Hl
open Option renaming bind_some→Cb,toList_some→Cv,getD_some→Et,getD_none→Eu,map_some→ED,isNone_eq_false_iff→Gw,isSome_iff_exists→GO
open Prod renaming fst→Ci,ext→GN,snd→HT
open PySem.Around renaming under_plainId→CC
open PyProof.Rows.F renaming plain_set_update_loop→D5,entry_set_update_loop→Es
open PySem.Builtin.Slice renaming slicePlaces→D6,sliceAdjust→E0,sliceApplied→FA,sliceFields→JS
open Classical renaming byContradiction→De
open PySem.W renaming nsIn→Dl,ks_superIn→DF,KTurns→DI,instObj→DX,keepIn→Eh,findIn→Gp,makesIn→Ht,typeIn→HB,methodObj→Ia,kmk_pick_nat→Io,codeIn→Iq,Frag→IA,plainGet_of→IR,handedIn→IS,ke_carried→Jf,fnIn→JE
open Int.ofNat renaming inj→DE
open PySem.Builtin.List renaming listSubscript?→DK,listLengthHint→FB,listExtendWith→FC,listSameRef→FY,listTooLong→Kj,listFitsIndex→Kk
open List.cons renaming injEq→DM
open PySem.SeqAt renaming shaped→E7
open PySem.PyData renaming int→Ec,eqv→EC,canLay0→ET,eqvAll→Fo,depth→FF
open Prod.mk renaming injEq→Ei
open PySem.Builtin.Dict renaming takeOut→Ew,keyAndDefault→FK,updateFrom→Ge,selfAndRest→Kl,pendingKey?→Km,pairItems→Kn,dictSlotArgs→Ko,addKeywords→Kq
open PySem.W.KTurns renaming ofWalks→EW
open PySem.Reads renaming int→Fa
open PySem.BindsTo renaming of_eq→Ff
open PySem.Shared renaming TypeIs→Fn
open PySem.Builtin.Frozenset renaming sizeOf→Ft,updateFrom→J1,newClass→J2
open List.Pairwise renaming imp_of_mem→FS,filterMap→JP
open List.Perm renaming refl→Gc,swap→I7,cons→I8
open PySem.Heap.IsSliceOf renaming new→GB
open PySem.Builtin.Range renaming small→GC,rangeSize→JT,rangeFitsLong→JU
open Nat.succ renaming inj→GP
open PySem.SeqAt.EqAt renaming int_int→Hh
open PySem.Sem renaming wp_bind'→HG,wp_pure'→JJ
open PySem.DictEntry renaming refKey→HP
open PySem.Value.ref renaming injEq→HR
open PySem.Code renaming quiet_builtin→Ii
open PySem.IsRange renaming new→J6
open PySem.CmpOf renaming ints_gt→J8
open PySem.Challenge renaming pw_pq0030_01→Jk
open PySem.Walks renaming tuple→Jr,list→JI
open PySem.BoolOp renaming And→Jv
open List.Sublist renaming slnil→Kf,cons_cons→Kg,cons→Kh
open PySem PySem.W PySem.Calls PyProof.Rows
-- Typed apart in 80 texts and joined by a program, which also shortened the names. Way: rules for walking (a frame Fm of locals, objects put aside, base facts),
-- the tables of dicts and sets, a ghost layout of the heap and a plain state (Good), one spec for each function of the program, the plain law (closing, least labelling, counting),
-- law's own walk (over any base c that holds the facts Lk), and last the head, which gives such a base.
set_option Elab.async false
set_option maxRecDepth 100000
set_option linter.unusedVariables false
set_option linter.unusedSimpArgs false
set_option genInjectivity false
set_option genSizeOf false
set_option autoImplicit true
set_option maxHeartbeats 8000000
namespace Mine.Internal
section
section
universe u0 u1 u2 u3 u4 u5 u6 u7
variable{G p0 p1 p2 p3 p4 p5 p6 p7 p8 p9:Prop}{α0:Sort u0}{α1:Sort u1}{α2:Sort u2}{α3:Sort u3}{α4:Sort u4}{α5:Sort u5}{α6:Sort u6}{α7:Sort u7}
theorem au1(h:True:=by rfl):True:=h
theorem au2(h:True:=by decide):True:=h
theorem au3(h:True:=by with_unfolding_all rfl):True:=h
theorem au4(h:True:=by assumption):True:=h
theorem au5(h:True:=by intro _;rfl):True:=h
theorem xA(h:p0∧p1)(k:p0→p1→G):G:=by obtain⟨h0,h1⟩:=h;exact k h0 h1
theorem xE{p0:α0→Prop}(h:∃a0,p0 a0)(k:∀a0,p0 a0→G):G:=by obtain⟨a0,h0⟩:=h;exact k a0 h0
theorem xAA(h:p0∧p1∧p2)(k:p0→p1→p2→G):G:=by obtain⟨h0,h1,h2⟩:=h;exact k h0 h1 h2
theorem xAE{p1:α0→Prop}(h:p0∧∃a0,p1 a0)(k:p0→∀a0,p1 a0→G):G:=by obtain⟨h0,a0,h1⟩:=h;exact k h0 a0 h1
theorem xEA{p0 p1:α0→Prop}(h:∃a0,p0 a0∧p1 a0)(k:∀a0,p0 a0→p1 a0→G):G:=by obtain⟨a0,h0,h1⟩:=h;exact k a0 h0 h1
theorem xEE{p0:α0→α1→Prop}(h:∃a0 a1,p0 a0 a1)(k:∀a0 a1,p0 a0 a1→G):G:=by obtain⟨a0,a1,h0⟩:=h;exact k a0 a1 h0
theorem Z0(h:p0∧p1∧p2∧p3)(k:p0→p1→p2→p3→G):G:=by obtain⟨h0,h1,h2,h3⟩:=h;exact k h0 h1 h2 h3
theorem YP{p1 p2:α0→Prop}(h:p0∧∃a0,p1 a0∧p2 a0)(k:p0→∀a0,p1 a0→p2 a0→G):G:=by obtain⟨h0,a0,h1,h2⟩:=h;exact k h0 a0 h1 h2
theorem LY{p0 p1 p2:α0→Prop}(h:∃a0,p0 a0∧p1 a0∧p2 a0)(k:∀a0,p0 a0→p1 a0→p2 a0→G):G:=by obtain⟨a0,h0,h1,h2⟩:=h;exact k a0 h0 h1 h2
theorem XJ{p0:α0→Prop}{p1:α0→α1→Prop}(h:∃a0,p0 a0∧∃a1,p1 a0 a1)(k:∀a0,p0 a0→∀a1,p1 a0 a1→G):G:=by obtain⟨a0,h0,a1,h1⟩:=h;exact k a0 h0 a1 h1
theorem MG{p0 p1:α0→α1→Prop}(h:∃a0 a1,p0 a0 a1∧p1 a0 a1)(k:∀a0 a1,p0 a0 a1→p1 a0 a1→G):G:=by obtain⟨a0,a1,h0,h1⟩:=h;exact k a0 a1 h0 h1
theorem WR(h:p0∧p1∧p2∧p3∧p4)(k:p0→p1→p2→p3→p4→G):G:=by obtain⟨h0,h1,h2,h3,h4⟩:=h;exact k h0 h1 h2 h3 h4
theorem LZ{p0 p1 p2 p3:α0→Prop}(h:∃a0,p0 a0∧p1 a0∧p2 a0∧p3 a0)(k:∀a0,p0 a0→p1 a0→p2 a0→p3 a0→G):G:=by obtain⟨a0,h0,h1,h2,h3⟩:=h;exact k a0 h0 h1 h2 h3
theorem T4{p0:α0→Prop}{p1 p2:α0→α1→Prop}(h:∃a0,p0 a0∧∃a1,p1 a0 a1∧p2 a0 a1)(k:∀a0,p0 a0→∀a1,p1 a0 a1→p2 a0 a1→G):G:=by obtain⟨a0,h0,a1,h1,h2⟩:=h;exact k a0 h0 a1 h1 h2
theorem LR{p0 p1 p2:α0→α1→Prop}(h:∃a0 a1,p0 a0 a1∧p1 a0 a1∧p2 a0 a1)(k:∀a0 a1,p0 a0 a1→p1 a0 a1→p2 a0 a1→G):G:=by obtain⟨a0,a1,h0,h1,h2⟩:=h;exact k a0 a1 h0 h1 h2
theorem T3{p0 p1:α0→α1→α2→Prop}(h:∃a0 a1 a2,p0 a0 a1 a2∧p1 a0 a1 a2)(k:∀a0 a1 a2,p0 a0 a1 a2→p1 a0 a1 a2→G):G:=by obtain⟨a0,a1,a2,h0,h1⟩:=h;exact k a0 a1 a2 h0 h1
theorem xA5(h:p0∧p1∧p2∧p3∧p4∧p5)(k:p0→p1→p2→p3→p4→p5→G):G:=by obtain⟨h0,h1,h2,h3,h4,h5⟩:=h;exact k h0 h1 h2 h3 h4 h5
theorem VL{p0 p1 p2 p3 p4:α0→Prop}(h:∃a0,p0 a0∧p1 a0∧p2 a0∧p3 a0∧p4 a0)(k:∀a0,p0 a0→p1 a0→p2 a0→p3 a0→p4 a0→G):G:=by obtain⟨a0,h0,h1,h2,h3,h4⟩:=h;exact k a0 h0 h1 h2 h3 h4
theorem WN{p0:α0→Prop}{p1 p2:α0→α1→α2→Prop}(h:∃a0,p0 a0∧∃a1 a2,p1 a0 a1 a2∧p2 a0 a1 a2)(k:∀a0,p0 a0→∀a1 a2,p1 a0 a1 a2→p2 a0 a1 a2→G):G:=by obtain⟨a0,h0,a1,a2,h1,h2⟩:=h;exact k a0 h0 a1 a2 h1 h2
theorem PY{p0 p1 p2 p3:α0→α1→Prop}(h:∃a0 a1,p0 a0 a1∧p1 a0 a1∧p2 a0 a1∧p3 a0 a1)(k:∀a0 a1,p0 a0 a1→p1 a0 a1→p2 a0 a1→p3 a0 a1→G):G:=by obtain⟨a0,a1,h0,h1,h2,h3⟩:=h;exact k a0 a1 h0 h1 h2 h3
theorem Vv{p0:α0→α1→Prop}{p1 p2:α0→α1→α2→Prop}(h:∃a0 a1,p0 a0 a1∧∃a2,p1 a0 a1 a2∧p2 a0 a1 a2)(k:∀a0 a1,p0 a0 a1→∀a2,p1 a0 a1 a2→p2 a0 a1 a2→G):G:=by obtain⟨a0,a1,h0,a2,h1,h2⟩:=h;exact k a0 a1 h0 a2 h1 h2
theorem O1{p0 p1 p2:α0→α1→α2→Prop}(h:∃a0 a1 a2,p0 a0 a1 a2∧p1 a0 a1 a2∧p2 a0 a1 a2)(k:∀a0 a1 a2,p0 a0 a1 a2→p1 a0 a1 a2→p2 a0 a1 a2→G):G:=by obtain⟨a0,a1,a2,h0,h1,h2⟩:=h;exact k a0 a1 a2 h0 h1 h2
theorem XC{p0 p1:α0→α1→α2→α3→Prop}(h:∃a0 a1 a2 a3,p0 a0 a1 a2 a3∧p1 a0 a1 a2 a3)(k:∀a0 a1 a2 a3,p0 a0 a1 a2 a3→p1 a0 a1 a2 a3→G):G:=by obtain⟨a0,a1,a2,a3,h0,h1⟩:=h;exact k a0 a1 a2 a3 h0 h1
theorem YO{p0 p1 p2 p3 p4 p5:α0→Prop}(h:∃a0,p0 a0∧p1 a0∧p2 a0∧p3 a0∧p4 a0∧p5 a0)(k:∀a0,p0 a0→p1 a0→p2 a0→p3 a0→p4 a0→p5 a0→G):G:=by obtain⟨a0,h0,h1,h2,h3,h4,h5⟩:=h;exact k a0 h0 h1 h2 h3 h4 h5
theorem VM{p0 p1:α0→α1→Prop}{p2 p3:α0→α1→α2→Prop}(h:∃a0 a1,p0 a0 a1∧p1 a0 a1∧∃a2,p2 a0 a1 a2∧p3 a0 a1 a2)(k:∀a0 a1,p0 a0 a1→p1 a0 a1→∀a2,p2 a0 a1 a2→p3 a0 a1 a2→G):G:=by obtain⟨a0,a1,h0,h1,a2,h2,h3⟩:=h;exact k a0 a1 h0 h1 a2 h2 h3
theorem QF{p0 p1 p2 p3:α0→α1→α2→Prop}(h:∃a0 a1 a2,p0 a0 a1 a2∧p1 a0 a1 a2∧p2 a0 a1 a2∧p3 a0 a1 a2)(k:∀a0 a1 a2,p0 a0 a1 a2→p1 a0 a1 a2→p2 a0 a1 a2→p3 a0 a1 a2→G):G:=by obtain⟨a0,a1,a2,h0,h1,h2,h3⟩:=h;exact k a0 a1 a2 h0 h1 h2 h3
theorem WP{p0 p1 p2:α0→α1→α2→α3→Prop}(h:∃a0 a1 a2 a3,p0 a0 a1 a2 a3∧p1 a0 a1 a2 a3∧p2 a0 a1 a2 a3)(k:∀a0 a1 a2 a3,p0 a0 a1 a2 a3→p1 a0 a1 a2 a3→p2 a0 a1 a2 a3→G):G:=by obtain⟨a0,a1,a2,a3,h0,h1,h2⟩:=h;exact k a0 a1 a2 a3 h0 h1 h2
theorem VN{p3 p4 p5:α0→α1→Prop}(h:p0∧p1∧p2∧∃a0 a1,p3 a0 a1∧p4 a0 a1∧p5 a0 a1)(k:p0→p1→p2→∀a0 a1,p3 a0 a1→p4 a0 a1→p5 a0 a1→G):G:=by obtain⟨h0,h1,h2,a0,a1,h3,h4,h5⟩:=h;exact k h0 h1 h2 a0 a1 h3 h4 h5
theorem Pk{p0:α0→Prop}{p1:α0→α1→Prop}{p2 p3:α0→α1→α2→α3→Prop}(h:∃a0,p0 a0∧∃a1,p1 a0 a1∧∃a2 a3,p2 a0 a1 a2 a3∧p3 a0 a1 a2 a3)(k:∀a0,p0 a0→∀a1,p1 a0 a1→∀a2 a3,p2 a0 a1 a2 a3→p3 a0 a1 a2 a3→G):G:=by obtain⟨a0,h0,a1,h1,a2,a3,h2,h3⟩:=h;exact k a0 h0 a1 h1 a2 a3 h2 h3
theorem XO{p0 p1 p2 p3 p4 p5:α0→α1→Prop}(h:∃a0 a1,p0 a0 a1∧p1 a0 a1∧p2 a0 a1∧p3 a0 a1∧p4 a0 a1∧p5 a0 a1)(k:∀a0 a1,p0 a0 a1→p1 a0 a1→p2 a0 a1→p3 a0 a1→p4 a0 a1→p5 a0 a1→G):G:=by obtain⟨a0,a1,h0,h1,h2,h3,h4,h5⟩:=h;exact k a0 a1 h0 h1 h2 h3 h4 h5
theorem T7{p0 p1 p2 p3:α0→α1→α2→α3→Prop}(h:∃a0 a1 a2 a3,p0 a0 a1 a2 a3∧p1 a0 a1 a2 a3∧p2 a0 a1 a2 a3∧p3 a0 a1 a2 a3)(k:∀a0 a1 a2 a3,p0 a0 a1 a2 a3→p1 a0 a1 a2 a3→p2 a0 a1 a2 a3→p3 a0 a1 a2 a3→G):G:=by obtain⟨a0,a1,a2,a3,h0,h1,h2,h3⟩:=h;exact k a0 a1 a2 a3 h0 h1 h2 h3
theorem YQ{p7:α0→Prop}(h:p0∧p1∧p2∧p3∧p4∧p5∧p6∧∃a0,p7 a0)(k:p0→p1→p2→p3→p4→p5→p6→∀a0,p7 a0→G):G:=by obtain⟨h0,h1,h2,h3,h4,h5,h6,a0,h7⟩:=h;exact k h0 h1 h2 h3 h4 h5 h6 a0 h7
theorem VK{p0:α0→Prop}{p1 p2 p3 p4:α0→α1→α2→α3→Prop}(h:∃a0,p0 a0∧∃a1 a2 a3,p1 a0 a1 a2 a3∧p2 a0 a1 a2 a3∧p3 a0 a1 a2 a3∧p4 a0 a1 a2 a3)(k:∀a0,p0 a0→∀a1 a2 a3,p1 a0 a1 a2 a3→p2 a0 a1 a2 a3→p3 a0 a1 a2 a3→p4 a0 a1 a2 a3→G):G:=by obtain⟨a0,h0,a1,a2,a3,h1,h2,h3,h4⟩:=h;exact k a0 h0 a1 a2 a3 h1 h2 h3 h4
theorem T8{p0 p1 p2 p3 p4 p5:α0→α1→α2→Prop}(h:∃a0 a1 a2,p0 a0 a1 a2∧p1 a0 a1 a2∧p2 a0 a1 a2∧p3 a0 a1 a2∧p4 a0 a1 a2∧p5 a0 a1 a2)(k:∀a0 a1 a2,p0 a0 a1 a2→p1 a0 a1 a2→p2 a0 a1 a2→p3 a0 a1 a2→p4 a0 a1 a2→p5 a0 a1 a2→G):G:=by obtain⟨a0,a1,a2,h0,h1,h2,h3,h4,h5⟩:=h;exact k a0 a1 a2 h0 h1 h2 h3 h4 h5
theorem S0{p0 p1 p2 p3 p4:α0→α1→α2→α3→Prop}(h:∃a0 a1 a2 a3,p0 a0 a1 a2 a3∧p1 a0 a1 a2 a3∧p2 a0 a1 a2 a3∧p3 a0 a1 a2 a3∧p4 a0 a1 a2 a3)(k:∀a0 a1 a2 a3,p0 a0 a1 a2 a3→p1 a0 a1 a2 a3→p2 a0 a1 a2 a3→p3 a0 a1 a2 a3→p4 a0 a1 a2 a3→G):G:=by obtain⟨a0,a1,a2,a3,h0,h1,h2,h3,h4⟩:=h;exact k a0 a1 a2 a3 h0 h1 h2 h3 h4
theorem XN{p0 p1 p2 p3 p4 p5 p6:α0→α1→α2→Prop}(h:∃a0 a1 a2,p0 a0 a1 a2∧p1 a0 a1 a2∧p2 a0 a1 a2∧p3 a0 a1 a2∧p4 a0 a1 a2∧p5 a0 a1 a2∧p6 a0 a1 a2)(k:∀a0 a1 a2,p0 a0 a1 a2→p1 a0 a1 a2→p2 a0 a1 a2→p3 a0 a1 a2→p4 a0 a1 a2→p5 a0 a1 a2→p6 a0 a1 a2→G):G:=by obtain⟨a0,a1,a2,h0,h1,h2,h3,h4,h5,h6⟩:=h;exact k a0 a1 a2 h0 h1 h2 h3 h4 h5 h6
theorem WO{p0 p1 p2 p3 p4 p5:α0→α1→α2→α3→Prop}(h:∃a0 a1 a2 a3,p0 a0 a1 a2 a3∧p1 a0 a1 a2 a3∧p2 a0 a1 a2 a3∧p3 a0 a1 a2 a3∧p4 a0 a1 a2 a3∧p5 a0 a1 a2 a3)(k:∀a0 a1 a2 a3,p0 a0 a1 a2 a3→p1 a0 a1 a2 a3→p2 a0 a1 a2 a3→p3 a0 a1 a2 a3→p4 a0 a1 a2 a3→p5 a0 a1 a2 a3→G):G:=by obtain⟨a0,a1,a2,a3,h0,h1,h2,h3,h4,h5⟩:=h;exact k a0 a1 a2 a3 h0 h1 h2 h3 h4 h5
theorem T9{p0 p1:α0→α1→Prop}{p2 p3 p4 p5:α0→α1→α2→α3→α4→Prop}(h:∃a0 a1,p0 a0 a1∧p1 a0 a1∧∃a2 a3 a4,p2 a0 a1 a2 a3 a4∧p3 a0 a1 a2 a3 a4∧p4 a0 a1 a2 a3 a4∧p5 a0 a1 a2 a3 a4)(k:∀a0 a1,p0 a0 a1→p1 a0 a1→∀a2 a3 a4,p2 a0 a1 a2 a3 a4→p3 a0 a1 a2 a3 a4→p4 a0 a1 a2 a3 a4→p5 a0 a1 a2 a3 a4→G):G:=by obtain⟨a0,a1,h0,h1,a2,a3,a4,h2,h3,h4,h5⟩:=h;exact k a0 a1 h0 h1 a2 a3 a4 h2 h3 h4 h5
theorem XM{p0 p1 p2 p3 p4 p5 p6 p7:α0→α1→α2→Prop}(h:∃a0 a1 a2,p0 a0 a1 a2∧p1 a0 a1 a2∧p2 a0 a1 a2∧p3 a0 a1 a2∧p4 a0 a1 a2∧p5 a0 a1 a2∧p6 a0 a1 a2∧p7 a0 a1 a2)(k:∀a0 a1 a2,p0 a0 a1 a2→p1 a0 a1 a2→p2 a0 a1 a2→p3 a0 a1 a2→p4 a0 a1 a2→p5 a0 a1 a2→p6 a0 a1 a2→p7 a0 a1 a2→G):G:=by obtain⟨a0,a1,a2,h0,h1,h2,h3,h4,h5,h6,h7⟩:=h;exact k a0 a1 a2 h0 h1 h2 h3 h4 h5 h6 h7
theorem XK{p0 p1 p2 p3 p4 p5:α0→α1→α2→α3→α4→Prop}(h:∃a0 a1 a2 a3,∃a4,p0 a0 a1 a2 a3 a4∧p1 a0 a1 a2 a3 a4∧p2 a0 a1 a2 a3 a4∧p3 a0 a1 a2 a3 a4∧p4 a0 a1 a2 a3 a4∧p5 a0 a1 a2 a3 a4)(k:∀a0 a1 a2 a3,∀a4,p0 a0 a1 a2 a3 a4→p1 a0 a1 a2 a3 a4→p2 a0 a1 a2 a3 a4→p3 a0 a1 a2 a3 a4→p4 a0 a1 a2 a3 a4→p5 a0 a1 a2 a3 a4→G):G:=by obtain⟨a0,a1,a2,a3,a4,h0,h1,h2,h3,h4,h5⟩:=h;exact k a0 a1 a2 a3 a4 h0 h1 h2 h3 h4 h5
theorem Rw{p0:α0→α1→Prop}{p1 p2 p3 p4 p5:α0→α1→α2→α3→α4→α5→Prop}(h:∃a0 a1,p0 a0 a1∧∃a2 a3 a4 a5,p1 a0 a1 a2 a3 a4 a5∧p2 a0 a1 a2 a3 a4 a5∧p3 a0 a1 a2 a3 a4 a5∧p4 a0 a1 a2 a3 a4 a5∧p5 a0 a1 a2 a3 a4 a5)(k:∀a0 a1,p0 a0 a1→∀a2 a3 a4 a5,p1 a0 a1 a2 a3 a4 a5→p2 a0 a1 a2 a3 a4 a5→p3 a0 a1 a2 a3 a4 a5→p4 a0 a1 a2 a3 a4 a5→p5 a0 a1 a2 a3 a4 a5→G):G:=by obtain⟨a0,a1,h0,a2,a3,a4,a5,h1,h2,h3,h4,h5⟩:=h;exact k a0 a1 h0 a2 a3 a4 a5 h1 h2 h3 h4 h5
theorem UF{p0 p1:α0→α1→α2→Prop}{p2 p3:α0→α1→α2→α3→α4→α5→α6→α7→Prop}(h:∃a0 a1 a2,p0 a0 a1 a2∧p1 a0 a1 a2∧∃a3 a4 a5 a6,∃a7,p2 a0 a1 a2 a3 a4 a5 a6 a7∧p3 a0 a1 a2 a3 a4 a5 a6 a7)(k:∀a0 a1 a2,p0 a0 a1 a2→p1 a0 a1 a2→∀a3 a4 a5 a6,∀a7,p2 a0 a1 a2 a3 a4 a5 a6 a7→p3 a0 a1 a2 a3 a4 a5 a6 a7→G):G:=by obtain⟨a0,a1,a2,h0,h1,a3,a4,a5,a6,a7,h2,h3⟩:=h;exact k a0 a1 a2 h0 h1 a3 a4 a5 a6 a7 h2 h3
theorem T6{p0 p1 p2 p3 p4 p5 p6 p7:α0→α1→α2→α3→Prop}(h:∃a0 a1 a2 a3,p0 a0 a1 a2 a3∧p1 a0 a1 a2 a3∧p2 a0 a1 a2 a3∧p3 a0 a1 a2 a3∧p4 a0 a1 a2 a3∧p5 a0 a1 a2 a3∧p6 a0 a1 a2 a3∧p7 a0 a1 a2 a3)(k:∀a0 a1 a2 a3,p0 a0 a1 a2 a3→p1 a0 a1 a2 a3→p2 a0 a1 a2 a3→p3 a0 a1 a2 a3→p4 a0 a1 a2 a3→p5 a0 a1 a2 a3→p6 a0 a1 a2 a3→p7 a0 a1 a2 a3→G):G:=by obtain⟨a0,a1,a2,a3,h0,h1,h2,h3,h4,h5,h6,h7⟩:=h;exact k a0 a1 a2 a3 h0 h1 h2 h3 h4 h5 h6 h7
theorem T5{p0 p1 p2 p3 p4 p5 p6 p7:α0→α1→α2→α3→α4→Prop}(h:∃a0 a1 a2 a3,∃a4,p0 a0 a1 a2 a3 a4∧p1 a0 a1 a2 a3 a4∧p2 a0 a1 a2 a3 a4∧p3 a0 a1 a2 a3 a4∧p4 a0 a1 a2 a3 a4∧p5 a0 a1 a2 a3 a4∧p6 a0 a1 a2 a3 a4∧p7 a0 a1 a2 a3 a4)(k:∀a0 a1 a2 a3,∀a4,p0 a0 a1 a2 a3 a4→p1 a0 a1 a2 a3 a4→p2 a0 a1 a2 a3 a4→p3 a0 a1 a2 a3 a4→p4 a0 a1 a2 a3 a4→p5 a0 a1 a2 a3 a4→p6 a0 a1 a2 a3 a4→p7 a0 a1 a2 a3 a4→G):G:=by obtain⟨a0,a1,a2,a3,a4,h0,h1,h2,h3,h4,h5,h6,h7⟩:=h;exact k a0 a1 a2 a3 a4 h0 h1 h2 h3 h4 h5 h6 h7
theorem yAA(h0:p0)(h1:p1)(h2:p2):p0∧p1∧p2:=⟨h0,h1,h2⟩
theorem yAE{p1:α0→Prop}(h0:p0)(a0)(h1:p1 a0):p0∧∃a0,p1 a0:=⟨h0,a0,h1⟩
theorem yEA{p0 p1:α0→Prop}(a0)(h0:p0 a0)(h1:p1 a0):∃a0,p0 a0∧p1 a0:=⟨a0,h0,h1⟩
theorem yEE{p0:α0→α1→Prop}(a0)(a1)(h0:p0 a0 a1):∃a0 a1,p0 a0 a1:=⟨a0,a1,h0⟩
theorem QE(h0:p0)(h1:p1)(h2:p2)(h3:p3):p0∧p1∧p2∧p3:=⟨h0,h1,h2,h3⟩
theorem YN{p1 p2:α0→Prop}(h0:p0)(a0)(h1:p1 a0)(h2:p2 a0):p0∧∃a0,p1 a0∧p2 a0:=⟨h0,a0,h1,h2⟩
theorem M1{p0 p1 p2:α0→Prop}(a0)(h0:p0 a0)(h1:p1 a0)(h2:p2 a0):∃a0,p0 a0∧p1 a0∧p2 a0:=⟨a0,h0,h1,h2⟩
theorem Pi{p0 p1:α0→α1→Prop}(a0)(a1)(h0:p0 a0 a1)(h1:p1 a0 a1):∃a0 a1,p0 a0 a1∧p1 a0 a1:=⟨a0,a1,h0,h1⟩
theorem UE(h0:p0)(h1:p1)(h2:p2)(h3:p3)(h4:p4):p0∧p1∧p2∧p3∧p4:=⟨h0,h1,h2,h3,h4⟩
theorem XI{p1 p2 p3:α0→Prop}(h0:p0)(a0)(h1:p1 a0)(h2:p2 a0)(h3:p3 a0):p0∧∃a0,p1 a0∧p2 a0∧p3 a0:=⟨h0,a0,h1,h2,h3⟩
theorem NT{p0 p1 p2 p3:α0→Prop}(a0)(h0:p0 a0)(h1:p1 a0)(h2:p2 a0)(h3:p3 a0):∃a0,p0 a0∧p1 a0∧p2 a0∧p3 a0:=⟨a0,h0,h1,h2,h3⟩
theorem QB{p0 p1:α0→Prop}{p2:α0→α1→Prop}(a0)(h0:p0 a0)(h1:p1 a0)(a1)(h2:p2 a0 a1):∃a0,p0 a0∧p1 a0∧∃a1,p2 a0 a1:=⟨a0,h0,h1,a1,h2⟩
theorem MN{p0 p1 p2:α0→α1→Prop}(a0)(a1)(h0:p0 a0 a1)(h1:p1 a0 a1)(h2:p2 a0 a1):∃a0 a1,p0 a0 a1∧p1 a0 a1∧p2 a0 a1:=⟨a0,a1,h0,h1,h2⟩
theorem RZ{p0 p1:α0→α1→α2→Prop}(a0)(a1)(a2)(h0:p0 a0 a1 a2)(h1:p1 a0 a1 a2):∃a0 a1 a2,p0 a0 a1 a2∧p1 a0 a1 a2:=⟨a0,a1,a2,h0,h1⟩
theorem yA5(h0:p0)(h1:p1)(h2:p2)(h3:p3)(h4:p4)(h5:p5):p0∧p1∧p2∧p3∧p4∧p5:=⟨h0,h1,h2,h3,h4,h5⟩
theorem XG{p0 p1 p2 p3 p4:α0→Prop}(a0)(h0:p0 a0)(h1:p1 a0)(h2:p2 a0)(h3:p3 a0)(h4:p4 a0):∃a0,p0 a0∧p1 a0∧p2 a0∧p3 a0∧p4 a0:=⟨a0,h0,h1,h2,h3,h4⟩
theorem OJ{p0:α0→Prop}{p1 p2:α0→α1→α2→Prop}(a0)(h0:p0 a0)(a1)(a2)(h1:p1 a0 a1 a2)(h2:p2 a0 a1 a2):∃a0,p0 a0∧∃a1 a2,p1 a0 a1 a2∧p2 a0 a1 a2:=⟨a0,h0,a1,a2,h1,h2⟩
theorem Pj{p0 p1 p2 p3:α0→α1→Prop}(a0)(a1)(h0:p0 a0 a1)(h1:p1 a0 a1)(h2:p2 a0 a1)(h3:p3 a0 a1):∃a0 a1,p0 a0 a1∧p1 a0 a1∧p2 a0 a1∧p3 a0 a1:=⟨a0,a1,h0,h1,h2,h3⟩
theorem PX{p0 p1 p2:α0→α1→α2→Prop}(a0)(a1)(a2)(h0:p0 a0 a1 a2)(h1:p1 a0 a1 a2)(h2:p2 a0 a1 a2):∃a0 a1 a2,p0 a0 a1 a2∧p1 a0 a1 a2∧p2 a0 a1 a2:=⟨a0,a1,a2,h0,h1,h2⟩
theorem XH{p0 p1:α0→α1→α2→α3→Prop}(a0)(a1)(a2)(a3)(h0:p0 a0 a1 a2 a3)(h1:p1 a0 a1 a2 a3):∃a0 a1 a2 a3,p0 a0 a1 a2 a3∧p1 a0 a1 a2 a3:=⟨a0,a1,a2,a3,h0,h1⟩
theorem QA{p0:α0→Prop}{p1 p2 p3:α0→α1→α2→Prop}(a0)(h0:p0 a0)(a1)(a2)(h1:p1 a0 a1 a2)(h2:p2 a0 a1 a2)(h3:p3 a0 a1 a2):∃a0,p0 a0∧∃a1 a2,p1 a0 a1 a2∧p2 a0 a1 a2∧p3 a0 a1 a2:=⟨a0,h0,a1,a2,h1,h2,h3⟩
theorem T2{p0 p1 p2 p3:α0→α1→α2→Prop}(a0)(a1)(a2)(h0:p0 a0 a1 a2)(h1:p1 a0 a1 a2)(h2:p2 a0 a1 a2)(h3:p3 a0 a1 a2):∃a0 a1 a2,p0 a0 a1 a2∧p1 a0 a1 a2∧p2 a0 a1 a2∧p3 a0 a1 a2:=⟨a0,a1,a2,h0,h1,h2,h3⟩
theorem VJ{p0 p1 p2 p3 p4 p5:α0→α1→Prop}(a0)(a1)(h0:p0 a0 a1)(h1:p1 a0 a1)(h2:p2 a0 a1)(h3:p3 a0 a1)(h4:p4 a0 a1)(h5:p5 a0 a1):∃a0 a1,p0 a0 a1∧p1 a0 a1∧p2 a0 a1∧p3 a0 a1∧p4 a0 a1∧p5 a0 a1:=⟨a0,a1,h0,h1,h2,h3,h4,h5⟩
theorem WM{p1 p2 p3 p4:α0→α1→α2→α3→Prop}(h0:p0)(a0)(a1)(a2)(a3)(h1:p1 a0 a1 a2 a3)(h2:p2 a0 a1 a2 a3)(h3:p3 a0 a1 a2 a3)(h4:p4 a0 a1 a2 a3):p0∧∃a0 a1 a2 a3,p1 a0 a1 a2 a3∧p2 a0 a1 a2 a3∧p3 a0 a1 a2 a3∧p4 a0 a1 a2 a3:=⟨h0,a0,a1,a2,a3,h1,h2,h3,h4⟩
theorem QD{p0 p1 p2 p3 p4 p5:α0→α1→α2→Prop}(a0)(a1)(a2)(h0:p0 a0 a1 a2)(h1:p1 a0 a1 a2)(h2:p2 a0 a1 a2)(h3:p3 a0 a1 a2)(h4:p4 a0 a1 a2)(h5:p5 a0 a1 a2):∃a0 a1 a2,p0 a0 a1 a2∧p1 a0 a1 a2∧p2 a0 a1 a2∧p3 a0 a1 a2∧p4 a0 a1 a2∧p5 a0 a1 a2:=⟨a0,a1,a2,h0,h1,h2,h3,h4,h5⟩
theorem VI{p0 p1 p2 p3 p4:α0→α1→α2→α3→Prop}(a0)(a1)(a2)(a3)(h0:p0 a0 a1 a2 a3)(h1:p1 a0 a1 a2 a3)(h2:p2 a0 a1 a2 a3)(h3:p3 a0 a1 a2 a3)(h4:p4 a0 a1 a2 a3):∃a0 a1 a2 a3,p0 a0 a1 a2 a3∧p1 a0 a1 a2 a3∧p2 a0 a1 a2 a3∧p3 a0 a1 a2 a3∧p4 a0 a1 a2 a3:=⟨a0,a1,a2,a3,h0,h1,h2,h3,h4⟩
theorem QC{p0 p1 p2 p3 p4 p5 p6 p7:α0→α1→α2→α3→Prop}(a0)(a1)(a2)(a3)(h0:p0 a0 a1 a2 a3)(h1:p1 a0 a1 a2 a3)(h2:p2 a0 a1 a2 a3)(h3:p3 a0 a1 a2 a3)(h4:p4 a0 a1 a2 a3)(h5:p5 a0 a1 a2 a3)(h6:p6 a0 a1 a2 a3)(h7:p7 a0 a1 a2 a3):∃a0 a1 a2 a3,p0 a0 a1 a2 a3∧p1 a0 a1 a2 a3∧p2 a0 a1 a2 a3∧p3 a0 a1 a2 a3∧p4 a0 a1 a2 a3∧p5 a0 a1 a2 a3∧p6 a0 a1 a2 a3∧p7 a0 a1 a2 a3:=⟨a0,a1,a2,a3,h0,h1,h2,h3,h4,h5,h6,h7⟩
theorem Vw{p1 p2 p3 p4:α0→α1→α2→α3→Prop}(h:p0∧∃a0 a1 a2 a3,p1 a0 a1 a2 a3∧p2 a0 a1 a2 a3∧p3 a0 a1 a2 a3∧p4 a0 a1 a2 a3)(k:p0→∀a0 a1 a2 a3,p1 a0 a1 a2 a3→p2 a0 a1 a2 a3→p3 a0 a1 a2 a3→p4 a0 a1 a2 a3→G):G:=by obtain⟨h0,a0,a1,a2,a3,h1,h2,h3,h4⟩:=h;exact k h0 a0 a1 a2 a3 h1 h2 h3 h4
theorem WQ{p1 p2 p3 p4 p5:α0→α1→Prop}(h:p0∧∃a0 a1,p1 a0 a1∧p2 a0 a1∧p3 a0 a1∧p4 a0 a1∧p5 a0 a1)(k:p0→∀a0 a1,p1 a0 a1→p2 a0 a1→p3 a0 a1→p4 a0 a1→p5 a0 a1→G):G:=by obtain⟨h0,a0,a1,h1,h2,h3,h4,h5⟩:=h;exact k h0 a0 a1 h1 h2 h3 h4 h5
theorem noo{α β:Type _}{f:α→Option β}{a a':α}{b:β}{P:Prop}(q:a=a')(n:f a'=none)(h:f a=some b):P:=by
 subst q;exact nomatch n.symm.trans h
theorem nos{β:Type _}{o:Option β}{b:β}{P:Prop}(n:o=none)(h:o=some b):P:=nomatch n.symm.trans h
theorem Ky{α:Type _}{o:Option α}(h:∀y,o=some y→False):o=none:=by
 cases e:o with
 | none=>rfl
 | some y=>exact (h y e).elim
theorem nop{α β:Type _}{f:α→Option β}{a a':α}{b:β}{P:Prop}(q:a=a')(n:f a'=some b)(h:f a=none):P:=by
 subst q;exact nomatch n.symm.trans h
noncomputable def epz{α:Type}(d:α)(F:α→Prop):α:=@Classical.epsilon α ⟨d⟩ fun x=>¬F x
noncomputable def unz{α β:Type}(f:α→β→Prop)(x:α×β):Prop:=f x.1 x.2
theorem KB{α:Type}{d:α}{F:α→Prop}{k:α}(hk:k=epz d F)(h:F k)(x:α):F x:=De fun hn=>(hk▸@Classical.epsilon_spec_aux α ⟨d⟩ (fun x=>¬F x) ⟨x,hn⟩:¬F k) h
end
end
section
section
variable{a b c d e f g h i j k q u v w x y z:Nat}
theorem n1(h:a≤c)(d:autoParam (c≤e) au2._auto_1):a≤e:=A0 h d
theorem n2(h:a=b)(k:b≤c)(d:autoParam (c≤e) au2._auto_1):a≤e:=A0 (Aa h) (A0 k d)
theorem n3:(0:Int)≤(a:Int):=D4 a
theorem n5{e:Int}(h:a<b)(k:b≤c)(d:autoParam ((c:Int)≤e) au2._auto_1):(a:Int)<e:=El (DJ.mpr (Ac h k)) d
theorem n7(k:b≤c)(h:a≤b)(d:autoParam (c≤e) au2._auto_1):a≤e:=A0 h (A0 k d)
theorem n8(h:a=b+x)(k:b≤c)(d:autoParam (c+x≤e) au2._auto_1):a≤e:=A0 (Aa h) (A0 (AU k x) d)
theorem n9(h:a+x≤y)(d:autoParam (u+y<v+x) au2._auto_1):a+u<v:=Nat.lt_of_add_lt_add_right (n:=x) (An (A0 (Aa ((congrArg (·+x) (C1 a u)).trans (E1 u a x))) (AP h u)) d)
theorem n10(h:a+x≤y)(d:autoParam (u+w+y<v+x) au2._auto_1):a+u+w<v:=An (Aa (E1 a u w)) (n9 h d)
theorem n11(d:autoParam (x≤y) au2._auto_1):x≤a+y:=A0 d (D7 y a)
theorem n12(h:a≤x)(d:autoParam (x<y) au2._auto_1):a<y:=An h d
theorem n13(h:a≤x)(d:autoParam (x+u≤v) au2._auto_1):a+u≤v:=A0 (AU h u) d
theorem n14(h:a=x)(d:autoParam (y≤x) au2._auto_1):y≤a:=A0 d (Aa h.symm)
theorem n15{e:Int}(h:a<b)(q:b=c)(k:c≤x)(d:autoParam ((x:Int)≤e) au2._auto_1):(a:Int)<e:=n5 h (A0 (Aa q) k) d
theorem Y2{e:Int}(h:a<b)(q:c=b)(k:c≤x)(d:autoParam ((x:Int)≤e) au2._auto_1):(a:Int)<e:=n5 h (A0 (Aa q.symm) k) d
theorem n16{e:Int}(h:a≤x)(d:autoParam ((x:Int)<e) au2._auto_1):(a:Int)<e:=FT (CN.mpr h) d
theorem Y1{e:Int}(h:a≤x)(d:autoParam ((x:Int)≤e) au2._auto_1):(a:Int)≤e:=HO (CN.mpr h) d
theorem n17(q:b=c)(h:a=b)(k:c≤x)(d:autoParam (x≤e) au2._auto_1):a≤e:=n2 (h.trans q) k d
theorem n18(h:x≤a)(d:autoParam (y<x) au2._auto_1):y<a:=Ac d h
theorem n19(h:x≤a)(d:autoParam (y≤x) au2._auto_1):y≤a:=A0 d h
theorem n20(h:a=x)(d:autoParam (x≤y) au2._auto_1):a≤y:=A0 (Aa h) d
theorem n21(h:a<x)(d:autoParam (x≤y+1) au2._auto_1):a≤y:=AH (Ac h d)
theorem n22(h:b<x)(q:a=b)(d:autoParam (x≤y+1) au2._auto_1):a≤y:=n21 (An (Aa q) h) d
theorem n23(q:a=b)(k:c≤x)(h:b≤c)(d:autoParam (x≤y) au2._auto_1):a≤y:=n2 q h (A0 k d)
theorem n24(h:a≤x)(k:b≤y)(d:autoParam (x+y≤z) au2._auto_1):a+b≤z:=A0 (Bn h k) d
theorem n25:¬((a:Int)<0):=fun h=>absurd (D4 a) (Int.not_le.mpr h)
theorem n26(h:b=a+x)(k:b≤c)(d:autoParam (c≤e+x) au2._auto_1):a≤e:=Nat.le_of_add_le_add_right (A0 (Aa h.symm) (A0 k d))
theorem n27(d:autoParam (x≤y) au2._auto_1):a+x≤a+y:=AP d a
theorem n28(h:a≤x+b)(k:b≤y)(d:autoParam (x+y≤z) au2._auto_1):a≤z:=A0 h (A0 (AP k x) d)
theorem n29(d:autoParam (x<y) au2._auto_1):x<a+y:=Ac d (D7 y a)
theorem n31(h:b<c)(k:c≤x)(q:a≤b)(d:autoParam (x≤y+1) au2._auto_1):a≤y:=n21 (An q h) (A0 k d)
theorem n32(h:a<b)(k:b≤x)(d:autoParam (x≤y) au2._auto_1):a<y:=Ac h (A0 k d)
theorem n34{a x y:Int}(h:a<x)(d:autoParam (x≤y) au2._auto_1):a<y:=El h d
theorem o0(h0:c*5<b*3)(h1:a=c):a≤b:=Bf fun q=>B3 _ (Ac h0 (A0 (CM 3 (B1 (Ac q (Aa h1)))) (B5 c (by decide))))
theorem o1(h0:a=b+1):a≤b+1:=Aa h0
theorem o2:0+a=a:=Ga a
theorem o3:a≤a+1:=Cj a
theorem o4(h0:a+1<b):a<b:=DH h0
theorem o5(h0:a<c)(h1:b=c):a<b:=Ac h0 (Aa h1.symm)
theorem o6(h0:b<(a - 1)):1≤(a - (b+1)):=Da (I4 h0)
theorem o7(h0:1≤a)(h1:a≤(b - (c+1))):a≤b:=A0 h1 (Dy _ _)
theorem o8(h0:a<(b - c)):a+1≤b:=Ac h0 (Dy _ _)
theorem o9(h0:a≤b)(h1:¬(a<b)):a=b:=AY h0 (Bf h1)
theorem o10(h0:b<a):((a+1) - (b+1))<((a+1) - b):=Nat.sub_lt_sub_left (AA h0) (AS b)
theorem o11(h0:¬(a=b)):¬((a:Int)=(b:Int)):=fun h=>h0 (Ch.mp h)
theorem o12(h0:b<a):(0:Int)≤(a:Int):=D4 a
theorem o13(h0:a<c)(h1:c<d)(h2:d=e)(h3:b=e):a<b:=Ac (Ct h0 h1) (Aa (h2.trans h3.symm))
theorem o14(h0:a<b):¬(a=b):=Az h0
theorem o15(h0:a<b):a≠b:=Az h0
theorem o16:(((((a+1):Nat):Int) - 1):Int)=(a:Int):=Int.add_sub_cancel (a:Int) 1
theorem o17(h0:a<b):¬((a:Int)=(b:Int)):=fun h=>Az h0 (Ch.mp h)
theorem o18(h0:b=a+1):a<b:=Ac (AS a) (Aa h0.symm)
theorem o19(h0:a<c)(h1:b=c+1):a<b:=Ac (AA h0) (Aa h1.symm)
theorem o20(h0:a≤b):a≤b+1:=Db h0
theorem o21(h0:b=a+1):a≤b:=B1 (o18 h0)
theorem o22(h0:a=b):a≤b:=Aa h0
theorem o23(h0:a<b):a<b:=h0
theorem o24(h0:0<a):(a:Int)≠0:=fun h=>Cs h0 (Ch.mp h)
theorem o25(h0:¬(b<a)):a≤b:=Bf h0
theorem o26(h0:(a+(b+1))≤9900):a+1+b≤9900:=A0 (Aa (CL a b)) h0
theorem o27(h0:(a+(b+1))≤1000):a+1+b≤1000:=A0 (Aa (CL a b)) h0
theorem o28(h0:592<a)(h1:a=1):False:=absurd (Ac h0 (Aa h1)) (by decide)
theorem o29(h0:a≠b):min a b<max a b:=(Nat.lt_or_gt_of_ne h0).elim (fun h=>An (E9 a b) (Ac h (IX a b))) (fun h=>An (IW a b) (Ac h (J5 a b)))
theorem o30(h0:a+1≤b):a≤b:=II h0
theorem o31(h0:a≤4+b):a≤(4+(b+1)):=Db h0
theorem o32(h0:a≤b):a≤b:=h0
theorem o33(h0:c≤b)(h1:a≤c):a≤b:=A0 h1 h0
theorem o34(h0:a≤4+c)(h1:c≤b):a≤4+b:=A0 h0 (AP h1 4)
theorem o35:((a+b+c)+1)=(a+b+(c+1)):=rfl
theorem o36(h0:1+a<c)(h1:c≤b):1+a<b:=Ac h0 h1
theorem o37(h0:a≤5):(a - (1+b))≤5:=A0 (Dy _ _) h0
theorem o38(h0:¬(a=0)):0<a:=Nat.pos_of_ne_zero h0
theorem o39(h0:b=1)(h1:¬(a<b)):1≤a:=A0 (Aa h0.symm) (Bf h1)
theorem o40(h0:b=a):a=b:=h0.symm
theorem o41(h0:2≤a)(h1:a<64):0<a:=Ac (by decide) h0
theorem o42(h0:a<b+1)(h1:a≥b):a=b:=AY (AH h0) h1
theorem o43(h0:a<c)(h1:c<d)(h2:b=d):a<b:=o5 (Ct h0 h1) h2
theorem o44(h0:a=b):a=b:=h0
theorem o45(h0:a<b):a≤b:=B1 h0
theorem o46(h0:a<c)(h1:c<b):a<b:=Ct h0 h1
theorem o47(h0:b<a):¬(a=b):=Cs h0
theorem o48(h0:a<4):(Bt ((6+(a:Int)) - ((0:Nat):Int)))≤20:=(by decide:∀a:Nat,a<4→Bt ((6+(a:Int)) - ((0:Nat):Int))≤20) a h0
theorem o49(h0:a=c)(h1:c≤((10*(b+1))+1)):a≤((10*(b+1))+1):=A0 (Aa h0) h1
theorem o50(h0:a≤((10*b)+2)):a≤((10*(b+1))+1):=A0 h0 (AP (by decide:2≤11) (10*b))
theorem o51(h0:¬((a:Int)<0)):((max 0 (min (a:Int) (b:Int))):Int)=(((min a b):Nat):Int):=(BI a b).elim (fun h=>by rw[Bh h,J7 (CN.mpr h)];exact J0 (D4 _)) (fun h=>by rw[BK h,Int.min_eq_right (CN.mpr h)];exact J0 (D4 _))
theorem o52(h0:(a - b)=c+1)(h1:b<a):(a - (b+1))=c:=show Nat.pred (a - b)=c from congrArg Nat.pred h0
theorem o53(h0:(b - a)=c+1)(h1:a≤b):a<b:=Nat.lt_of_sub_eq_succ h0
theorem o54(h0:(b - a)=0)(h1:a≤b):a=b:=AY h1 (F0 h0)
theorem o55:(0:Int)≤(((1+a):Nat):Int):=D4 _
theorem o56(h0:a<c)(h1:b=c):a<b+1:=AA (o5 h0 h1)
theorem o57(h0:¬(a≤5)):6≤a:=EE h0
theorem o58:a<a+1:=AS a
theorem o59(h0:a≤b):(a+(b - a))=b:=Dc h0
theorem o60(h0:(a+(c+1))=b):a<b:=Ac (CV (BL c)) (Aa h0)
theorem o61(h0:(a+(b+1))=c):a+1+b=c:=(CL a b).trans h0
theorem o62(h0:a+0=b):a=b:=h0
theorem o63(h0:a<b):a+1≤b:=h0
theorem o64(h0:c<c):a=b:=absurd h0 (B3 c)
theorem o65(h0:a<b+1):a≤b:=AH h0
theorem o66:¬(a<a):=B3 a
theorem o67(h0:a<b):(a+((b - a) - 1))=(b - 1):=(Nat.add_sub_assoc (Da h0) a).symm.trans (congrArg (· - 1) (Dc (B1 h0)))
theorem o68(h0:b<a):(a - b)=(((a - b) - 1)+1):=(CA (Da h0)).symm
theorem o69(h0:b<a):¬(a<b):=Nat.lt_asymm h0
theorem o70(h0:c<b)(h1:a=c):a≤b:=B1 (An (Aa h1) h0)
theorem o71(h0:a≤b):min a b=a:=Bh h0
theorem o72(h0:a<c)(h1:c≤b):a<b:=Ac h0 h1
theorem o73:(a+(b+1))=a+1+b:=(CL a b).symm
theorem o74:(a+(b+1))=a+b+1:=rfl
theorem o75(h0:¬(0<a)):a=0:=Nat.eq_zero_of_not_pos h0
theorem o76(h0:a≤b)(h1:¬((a:Int)<0)):((max 0 (min (a:Int) (b:Int))):Int)=(a:Int):=(o51 h1).trans (congrArg (fun x:Nat=>(x:Int)) (Bh h0))
theorem o77(h0:a+c≤b):a≤b:=A0 (Bm a c) h0
theorem o78(h0:a<b):a<b+1:=AA h0
theorem o79(h0:a≤b):a<b+1:=Cm h0
theorem o80(h0:(c≤b)∧((b≤d)∧(b≤c+9)))(h1:a<((b+1) - c)):a≤(b - c):=AH (Ac h1 (Aa (HH h0.1)))
theorem o81(h0:b≤a)(h1:b≥a):a=b:=AY h1 h0
theorem o82(h0:a<b)(h1:a≤b):a+1≤b:=h0
theorem o83(h0:a<b)(h1:b≤a):False:=B3 _ (Ac h0 h1)
theorem o84:((1+(a:Int)):Int)=(((1+a):Nat):Int):=rfl
theorem o85(h0:b=c)(h1:a=b)(h2:c≤2):1+a≤16000:=A0 (AP (A0 (Aa (h1.trans h0)) h2) 1) (by decide)
theorem o86:¬(a+1=a):=Dm a
theorem o87(h0:a<c+1)(h1:c=b)(h2:a≥c):a=b:=(o42 h0 h2).trans h1
theorem o88(h0:a<a):False:=B3 _ h0
theorem o89(h0:b<c)(h1:a≤b)(h2:¬(a=b)):a<b:=C5 h1 h2
theorem o90(h0:a=b):a<b+1:=Cm (Aa h0)
theorem o91(h0:1≤a):a=((a - 1)+1):=(CA h0).symm
theorem Ra(h:a<b):a≤(a+b) / 2:=by omega
theorem R9(h:a<b):(a+b) / 2<b:=by omega
theorem Pm(h:1+b<a):a - (1+b)<a:=GX (An (Bi _) h) (Ac Ev (Bm 1 b))
theorem t1(a b:Nat):Bt (((((a:Nat):Int) - (((b+1):Nat):Int))+2) - ((1:Nat):Int))=a - b:=(congrArg Bt (show _=(a:Int) - (b:Int) by omega)).trans (Ju a b)
theorem t2(h:b<2):Bt ((1+((b:Nat):Int)) - ((0:Nat):Int))≤3:=AP (B1 h) 1
theorem aq1(h0:c=b+1):(Bt ((((a:Int) - (((b+1):Nat):Int))+2) - ((1:Nat):Int)))=(a - b):=t1 a b
theorem aq3(h0:((b+a) / 2)<d)(h1:(a - b)≤c+1)(h2:b<a):(a - (((b+a) / 2)+1))≤c:=A0 (Fx (Bk (Ra h2)) a) (Nat.pred_le_pred h1)
theorem aq4(h0:((a+b) / 2)<d)(h1:(b - a)≤c+1)(h2:a<b):(((a+b) / 2) - a)≤c:=AH (Ac (I2 (Ra h2) (R9 h2)) h1)
theorem aq6(h0:(d≤c)∧((c≤e)∧(c≤d+9)))(h1:f<((c+1) - d))(h2:a<b+f)(h3:b≤a):(a - b)≤(c - d):=A0 (B1 (En h3 h2)) (AH (Ac h1 (Aa (HH h0.1))))
theorem aq7(h0:(d≤c)∧((c≤e)∧(c≤d+9)))(h1:a<((b+(c - d))+1))(h2:b≤a):(a - b)<((c+1) - d):=Ac (En h2 h1) (Aa (HH h0.1).symm)
theorem aq8(h0:(a≤b)∧((b≤c)∧(b≤a+9))):(a+(b - a))≤c:=A0 (Aa (Dc h0.1)) h0.2.1
theorem aq9(h0:a<b)(h1:¬(a<c))(h2:¬(a=c)):(a - 1)<(b - 1):=I2 (An (Bi c) (C5 (Bf h1) (B9 h2))) h0
theorem aq10(h0:a<(b - 1)):(a+1+(b - (a+1)))=b:=Dc (Ac h0 (Dy b 1))
theorem aq11(h0:c+1≤(a - b)):0<((a - b) - c):=Da h0
theorem aq12:(((a:Int)=(b:Int))∧(((c:Int)=(d:Int))∧((e:Int)=(f:Int))))↔((b=a)∧((d=c)∧(f=e))):=⟨fun h=>⟨(Ch.mp h.1).symm,(Ch.mp h.2.1).symm,(Ch.mp h.2.2).symm⟩,fun h=>⟨congrArg (fun x:Nat=>(x:Int)) h.1.symm,congrArg (fun x:Nat=>(x:Int)) h.2.1.symm,congrArg (fun x:Nat=>(x:Int)) h.2.2.symm⟩⟩
theorem aq13(h0:a<(Bt ((((b:Int) - (c:Int))+2) - ((1:Nat):Int))))(h1:c=d+1):1+a≤b:=A0 (Aa (C1 1 a)) (Ac (by subst h1;exact t1 b d▸h0) (Dy b d))
theorem aq14(h0:d+e=a)(h1:e<c+1)(h2:b<a)(h3:d≤b):(a - (b+1))<c:=by subst h0;exact Ac (I1 _ _ h2) (A0 (Fx h3 _) (A0 (Aa (Hv ..)) (AH h1)))
theorem aq15(h0:((b+c+d)+(26*e))≤27*f)(h1:g+e=f)(h2:a=h+b+i)(h3:h=f)(h4:i≤j+g)(h5:f≤13)(h6:j≤50):a≤2000:=A0 (Aa h2) (A0 (Bn (Bn (A0 (Aa h3) h5) (A0 (A0 (BP (BP (Bm b c))) h0) (B5 27 h5))) (A0 h4 (Bn h6 (A0 (A0 (Bm g e) (Aa h1)) h5)))) (by decide))
theorem aq16(h0:((b+c+d)+(26*e))≤27*f)(h1:g+e=f)(h2:a=h+b+i)(h3:h=f)(h4:i≤j+g)(h5:f≤13)(h6:j≤50):a≤1000:=A0 (Aa h2) (A0 (Bn (Bn (A0 (Aa h3) h5) (A0 (A0 (BP (BP (Bm b c))) h0) (B5 27 h5))) (A0 h4 (Bn h6 (A0 (A0 (Bm g e) (Aa h1)) h5)))) (by decide))
theorem aq17(h0:1+b<a):((3*(a - (1+b)))+150)≤((3*a)+147):=AU (B5 3 (Pm h0)) 147
theorem aq18(h0:(b=a)∨(b=d))(h1:(c=a)∨(c=d))(h2:(a=b)∨(a=c))(h3:(d=b)∨(d=c))(h4:a≤d):a=min b c:=AY (Iv.mpr ⟨h0.elim (fun e=>Aa e.symm) (fun e=>A0 h4 (Aa e.symm)),h1.elim (fun e=>Aa e.symm) (fun e=>A0 h4 (Aa e.symm))⟩) (h2.elim (fun e=>A0 (E9 b c) (Aa e.symm)) (fun e=>A0 (IW b c) (Aa e.symm)))
theorem aq19(h0:((b+a+c)+(26*d))≤27*e)(h1:e≤13):a≤1000:=A0 (A0 (BP (BP (D7 a b))) h0) (A0 (B5 27 h1) (by decide))
theorem aq20(h0:d+c=a)(h1:b<a)(h2:d≤b):(a - (b+1))<c:=by subst h0;exact Ac (I1 _ _ h1) (A0 (Fx h2 _) (Aa (Hv ..)))
theorem aq21:0<100000:=by decide
theorem aq22(h0:b≤2*c)(h1:d≤b+2)(h2:c≤12)(h3:a≤d):a≤26:=A0 h3 (A0 h1 (AU (A0 h0 (B5 2 h2)) 2))
theorem aq23(h0:b<(Bt ((1+(c:Int)) - ((0:Nat):Int))))(h1:c<2)(h2:a=d+b)(h3:d≤((10*e)+2))(h4:e≤8):a≤1000:=A0 (Aa h2) (A0 (Bn (A0 h3 (AU (B5 10 h4) 2)) (A0 (B1 h0) (t2 h1))) (by decide))
theorem aq24(h0:b=c)(h1:a≤c+d)(h2:e≤2)(h3:d≤e):a+0≤b+2:=A0 h1 (Bn (Aa h0.symm) (A0 h3 h2))
theorem aq25(h0:1+b≤a):(((a:Int) - (((1+b):Nat):Int)):Int)=(((a - (1+b)):Nat):Int):=(FJ h0).symm
theorem aq26(h0:d<c)(h1:e<c)(h2:f=max g h)(h3:a≤d)(h4:b≤e):max a b<c:=GY.mpr ⟨An h3 h0,An h4 h1⟩
theorem aq27(h0:max a b=c)(h1:min a b=d)(h2:¬(a=b)):min a b<max a b:=o29 h2
theorem aq28(h0:¬(a≤b)):(a - b)=((a - (b+1))+1):=(CA (Da (EE h0))).symm
theorem aq29(h0:1+b<a):((a - (1+b))+7)≤a+6:=AU (Pm h0) 6
theorem aq30(h0:1+b<a):(((a:Int) - (((1+b):Nat):Int)):Int)=(((a - (1+b)):Nat):Int):=(FJ (B1 h0)).symm
theorem aq32(h0:1+b≤a)(h1:c=b)(h2:a≤5):(a - (1+b))≤5:=A0 (Dy _ _) h2
theorem aq34(h0:c<2)(h1:d=(e+(Bt ((1+(c:Int)) - ((0:Nat):Int)))))(h2:a=d)(h3:e≤((10*b)+2)):a≤((10*(b+1))+1):=A0 (Aa (h2.trans h1)) (A0 (Bn h3 (t2 h0)) (AP (by decide:5≤11) (10*b)))
theorem aq35(h0:c<2)(h1:a=(d+(Bt ((1+(c:Int)) - ((0:Nat):Int)))))(h2:d≤((10*b)+2)):a≤((10*(b+1))+1):=A0 (Aa h1) (A0 (Bn h2 (t2 h0)) (AP (by decide:5≤11) (10*b)))
theorem aq36(h0:a<((b+(c - d))+1)):(a - b)≤(c - d):=HJ.mpr (AH h0)
theorem aq37(h0:(b≤a)∧((a≤c)∧(a≤b+9))):0<((a+1) - b):=Da (Cm h0.1)
theorem aq38(h0:0<c)(h1:a≤b)(h2:¬(a<c)):(a - 1)<b:=Nat.sub_one_lt_of_le (Ac h0 (Bf h2)) h1
theorem aq39(h0:1+b<a)(h1:a≤c):(a - (1+b))<c:=Ac (Pm h0) h1
theorem aq40(h0:((a+b+d)+(26*g))≤27*f)(h1:e+1+1=g+1)(h2:c≤26):(((a+(b+c))+d)+(26*e))≤27*f:=by obtain rfl:=GP h1;exact A0 (Aa (((congrArg (·+d+26*e) (E1 a b c).symm).trans (congrArg (·+26*e) (C6 (a+b) c d))).trans (C6 (a+b+d) c (26*e)))) (A0 (AP h2 _) h0)
theorem aq41(h0:c<a)(h1:¬(b<a))(h2:¬(b=a)):a≤(b - 1):=I3 (C5 (Bf h1) (B9 h2))
theorem aq42(h0:(c≤b)∧((b≤e)∧(b≤c+9)))(h1:a≤10*d):((a+(b - c))+1)≤(10*(d+1)):=Bk (Bn h1 (HJ.mpr h0.2.2))
theorem aq43(h0:a<b+1)(h1:b=c)(h2:a≠c):a<b:=C5 (AH h0) (fun e=>h2 (e.trans h1))
theorem aq44(h0:0<b)(h1:¬(a<b)):(((a:Int) - 1):Int)=(((a - 1):Nat):Int):=(FJ (Ac h0 (Bf h1))).symm
theorem aq45(h0:d<e)(h1:f<e)(h2:g=e)(h3:b≤d)(h4:c≤f)(h5:a≥g):¬(a=max b c):=fun q=>B3 a (Ac (An (Aa q) (GY.mpr ⟨An h3 h0,An h4 h1⟩)) (A0 (Aa h2.symm) h5))
theorem aq46(h0:a<min b c)(h1:a<d)(h2:a≤b):a<b:=(Nat.lt_min.mp h0).1
theorem aq48(h0:0<b)(h1:¬(a<b)):((3*(a - 1))+150)≤((3*a)+147):=AU (B5 3 (GX (Ac h0 (Bf h1)) Ev)) 147
theorem aq50(h0:(b=d)∨(b=a))(h1:(c=d)∨(c=a))(h2:(d=b)∨(d=c))(h3:(a=b)∨(a=c))(h4:d=min b c)(h5:d≤a):a=max b c:=AY (h3.elim (fun e=>A0 (Aa e) (J5 b c)) (fun e=>A0 (Aa e) (IX b c))) (Nat.max_le.mpr ⟨h0.elim (fun e=>A0 (Aa e) h5) Aa,h1.elim (fun e=>A0 (Aa e) h5) Aa⟩)
theorem aq51(h0:a+b=f+0)(h1:f+c=d+e):a+b+c=d+e:=(congrArg (·+c) h0).trans h1
theorem aq52:(a - 0)=a:=rfl
theorem aq53(h0:0<b)(h1:¬(a<b)):((a - 1)+7)≤a+6:=AU (GX (Ac h0 (Bf h1)) Ev) 6
theorem aq54(h0:c<a)(h1:a≤b+1):(a - 1)≤b:=Nat.sub_le_of_le_add h1
theorem aq55(h0:0<b)(h1:¬(a<b)):(a - 1)<a:=GX (Ac h0 (Bf h1)) Ev
theorem aq56(h0:c<b)(h1:c=a):a≤(b - 1):=I3 (An (Aa h1.symm) h0)
theorem aq57(h0:a<b):(a+1+(b - (a+1)))=b:=Dc h0
theorem aq58(h0:0<b)(h1:a≤5)(h2:¬(a<b)):(a - 1)≤5:=A0 (Dy _ _) h1
theorem aq59(h0:a<b+1):(a - b)=0:=EZ (AH h0)
theorem aq60(h0:2≤b)(h1:a<(Bt ((b:Int) - ((1:Nat):Int)))):1+a<b:=An (Aa (C1 1 a)) (I4 (Ac h1 (Aa (Ju b 1))))
theorem aq61(h0:1+b<a):(a - (1+b))<a:=Pm h0
theorem aq62(h0:b=c+1)(h1:a≤5):(Bt ((((a:Int) - (b:Int))+2) - ((1:Nat):Int)))≤16000:=by subst h0;exact A0 (Aa (t1 a c)) (A0 (Dy _ _) (A0 h1 (by decide)))
theorem aq63(h0:c≤(13*(5*b)))(h1:a≤c):a≤b*65:=A0 h1 (A0 h0 (Aa ((Nat.mul_assoc 13 5 b).symm.trans (Nat.mul_comm 65 b))))
theorem aq64(h0:a+b≤c)(h1:0<b):(a+1+(b - 1))≤c:=A0 (Aa ((C6 a 1 (b - 1)).trans (congrArg (a+·) (CA h1)))) h0
theorem aq65(h0:a≤c+1)(h1:c≤b):a≤b+1:=A0 h0 (Bk h1)
theorem aq66(h0:a≤c)(h1:b≤d):a+b≤c+d:=Bn h0 h1
theorem aq67(h0:max a b=d)(h1:a<c)(h2:b<c):max a b<c:=GY.mpr ⟨h1,h2⟩
theorem aq68(h0:d+1+1=e+1)(h1:c+e=f)(h2:a≤g+c)(h3:g≤b):a+1≤(b+(c+1)):=Bk (A0 h2 (AU h3 c))
theorem aq70(h0:a<c)(h1:b=c):a<b:=o5 h0 h1
theorem aq71(h0:max c d=a)(h1:c<b)(h2:d<b):a<b:=An (Aa h0.symm) (GY.mpr ⟨h1,h2⟩)
theorem aq72(h0:0<b)(h1:a≤(b - 1)):a+1≤b:=Nat.add_le_of_le_sub h0 h1
theorem aq73(h0:a<min c b):a<b:=(Nat.lt_min.mp h0).2
theorem aq74(h0:min c d=a)(h1:c<b):a<b:=An (A0 (Aa h0.symm) (E9 c d)) h1
theorem aq75(h0:((b+1)*5)≥c*3)(h1:b*5<c*3)(h2:a=b+1)(h3:c=7):a≤b+1:=Aa h2
theorem aq76(h0:b+1<a):a=((a - 1)+1):=(CA (An (Bi _) h0)).symm
theorem aq78(h0:a≤b):(a - b)=0:=EZ h0
theorem aq79(h0:a≤b):((min a b)+((b - a)+1))=b+1:=(congrArg (·+((b - a)+1)) (Bh h0)).trans (congrArg (·+1) (Dc h0))
theorem aq80(h0:a<(Bt ((6+(b:Int)) - ((0:Nat):Int))))(h1:b<4):a≤8:=AH (Ac (show a<6+b from h0) (AP (AH h1) 6))
theorem aq81(h0:a<b+c)(h1:b≤a):(a - b)<c:=En h1 h0
theorem aq82(h0:a<b)(h1:a≤b)(h2:b≤c):((a+b) / 2)<c:=Ac (R9 h0) h2
theorem aq83(h0:b<2)(h1:a=(Bt ((1+(b:Int)) - ((0:Nat):Int)))):1+a≤16000:=A0 (AP (A0 (Aa h1) (t2 h0)) 1) (by decide)
theorem aq84(h0:b≥a):a≤min b a:=Iv.mpr ⟨h0,At a⟩
theorem aq85(h0:a<(b - 1)):a+1≤b:=A0 h0 (Dy b 1)
theorem aq86(h0:b<a):a=((a - 1)+1):=(CA (An (Bi _) h0)).symm
theorem aq87(h0:((a+1)*5)≥b*3)(h1:a*5<b*3)(h2:b=7):((a+1)*5)<31*3:=An (Aa (JL a 5)) (Ac (Nat.add_lt_add_right h1 5) (by rw[h2];decide))
theorem aq88(h0:a+c=d+1)(h1:d≤b):a≤b+1:=A0 (Bm a c) (A0 (Aa h0) (Bk h1))
theorem aq89(h0:b<2)(h1:a=(Bt ((1+(b:Int)) - ((0:Nat):Int)))):a≤16000:=A0 (Aa h1) (A0 (t2 h0) (by decide))
theorem aq90(h0:b<2)(h1:a=(Bt ((1+(b:Int)) - ((0:Nat):Int)))):a≤15999:=A0 (Aa h1) (A0 (t2 h0) (by decide))
theorem aq91(h0:c+1≤b)(h1:a≤c):a≤b:=A0 h1 (II h0)
theorem aq92(h0:a≤b):(a - (b+1))=0:=EZ (Db h0)
theorem aq93(h0:a+c+d=(e+(d+c)))(h1:e≤2*b):a≤2*b:=A0 (Aa (Nat.add_right_cancel ((E1 a c d).symm.trans (h0.trans (congrArg (e+·) (C1 d c)))))) h1
theorem aq95(h0:b<a):¬(((a+1) - (b+1))=0):=Nat.sub_ne_zero_of_lt (Nat.succ_lt_succ h0)
theorem aq96(h0:(c+(d+1))=e)(h1:f=a+g)(h2:f≤b):a≤b:=A0 (Bm a g) (A0 (Aa h1.symm) h2)
theorem aq97(h0:a≤c)(h1:a≤b)(h2:a≥min b c):a=min b c:=AY (Iv.mpr ⟨h1,h0⟩) h2
theorem aq98(h0:b≤a):(((a:Int) - (b:Int)):Int)=(((a - b):Nat):Int):=(FJ h0).symm
theorem aq99(h0:c=a)(h1:b≤a)(h2:c≤b):a=b:=AY (A0 (Aa h0.symm) h2) h1
theorem aq100(h0:c=b)(h1:b≤a)(h2:a≤c):a=b:=AY (A0 h2 (Aa h0)) h1
theorem aq101(h0:¬(a<b)):(a:Int)=(((max a b):Nat):Int):=congrArg (fun x:Nat=>(x:Int)) (BJ (Bf h0)).symm
theorem aq102(h0:c+1+1=d+1)(h1:b≤26):(a+b+(30*c))≤(a+(30*d)):=by obtain rfl:=GP h0;exact A0 (Aa (C6 a b (30*c))) (AP (A0 h1 (by decide:26≤30)) _)
theorem aq103(h0:((a+1)*5)≥b*3)(h1:a*5<b*3)(h2:b=7):a+1≤b:=EE fun q=>B3 _ (Ac h1 (A0 (CM 3 q) (B5 a (by decide))))
theorem aq104(h0:0<a):a=((a - 1)+1):=(CA h0).symm
theorem aq106(h0:a<b)(h1:a≤b):(((a+b) / 2)+1)≤b:=R9 h0
theorem aq107(h0:c≤2*b)(h1:a≤c+2):a≤(2*(b+1)):=A0 h1 (AU h0 2)
theorem aq108(h0:a+c=d+f)(h1:b=e):a+b+c=d+e+f:=by subst h1;exact (C6 a b c).trans ((congrArg (·+b) h0).trans (C6 d f b))
theorem aq109(h0:((a+b+c)+(26*d))≤27*e)(h1:e≤13):a≤1000:=A0 (A0 (BP (BP (Bm a b))) h0) (A0 (B5 27 h1) (by decide))
theorem aq110(h0:a≤d)(h1:b≤c):a+b≤c+d:=A0 (Bn h0 h1) (Aa (C1 d c))
theorem aq111(h0:c+1=b)(h1:a≤c):a<b:=Ac (Cm h1) (Aa h0)
theorem aq113(h0:b<c)(h1:a<b)(h2:c=d)(h3:d≤13):(a:Int)<(2^63):=n5 (Ct h1 h0) (A0 (Aa h2) h3) (by decide)
theorem aq114(h0:a<2):(Bt ((1+(a:Int)) - ((0:Nat):Int)))≤16000:=A0 (t2 h0) (by decide)
theorem aq115(h0:((a+1)*5)≥b*3)(h1:a*5<b*3)(h2:b=7):a+1≤31+1:=A0 (A0 (Bk (Hu a (by decide:0<5))) h1) (by rw[h2];decide)
theorem aq116(h0:((a+1)*5)≥b*3)(h1:a*5<b*3)(h2:b=7):a+1≤16777216:=A0 (A0 (Bk (Hu a (by decide:0<5))) h1) (by rw[h2];decide)
theorem aq117(h0:a+12<b):((a+1+1)+3)<b:=An (AP (by decide:5≤12) a) h0
theorem aq118(h0:(b - a)≤0)(h1:a≤b):a=b:=AY h1 (F0 (Fs.mp h0))
theorem aq119(h0:(a - b)=0)(h1:a≥b):a=b:=AY (F0 h0) h1
theorem aq120(h0:a<b):a≤((a+b) / 2):=Ra h0
theorem aq121(h0:a=b):min 50 a≤50:=E9 50 a
theorem aq122{a:Int}(h0:(a:Int)<1000):(Bt a)<1000:=(Int.toNat_lt' (by decide)).mpr h0
theorem aq124(h0:a+3<b):a+1+1<b:=DH h0
theorem aq125(h0:((a+1)*5)≥b*3)(h1:a*5<b*3)(h2:b=7):a=4:=AY (AH (GZ (a:=5) (Ac h1 (by rw[h2];decide:b*3≤5*5)))) (AH (GZ (a:=5) (Ac (by rw[h2];decide:4*5<b*3) h0)))
theorem aq126(h0:b+c=d)(h1:a≤e+b)(h2:d≤13)(h3:e≤50):a≤100:=A0 h1 (A0 (Bn h3 (A0 (Bm b c) (A0 (Aa h0) h2))) (by decide))
theorem aq127{a:Int}(h0:((-(2^62)):Int)<a)(h1:(a:Int)<(2^62)):(((-(2^63)):Int)≤(a+(1 - 1)))∧(((a+(1 - 1)):Int)<(2^63)):=by rw[Int.sub_self,JQ];exact⟨HO (by decide) (Int.le_of_lt h0),HN h1 (by decide)⟩
theorem aq128(h0:b<c)(h1:c=d)(h2:a=e)(h3:d≤13)(h4:e≤b):a≤16000:=A0 (Aa h2) (A0 h4 (A0 (B1 h0) (A0 (Aa h1) (A0 h3 (by decide)))))
theorem aq129(h0:((a+b+1)+(26*c))≤27*d):(a+b+(26*c))≤27*d:=A0 (AU (Cj _) _) h0
theorem aq131(h0:a<c)(h1:b≤d)(h2:a≤c):a+b<c+d:=Nat.add_lt_add_of_lt_of_le h0 h1
theorem aq132(h0:((c+d) / 2)<e)(h1:f<b)(h2:¬(f<a)):a≤b:=A0 (Bf h2) (B1 h1)
theorem aq134(h0:a<b)(h1:c=min a b):min a b=a:=Bh (B1 h0)
theorem aq135(h0:(a+b+(26*c))≤27*d):((a+b+1)+(26*(c+1)))≤(27*(d+1)):=A0 (Aa (C6 (a+b) 1 (26*(c+1)))) (AU h0 27)
theorem aq136(h0:((a+b+1)+(26*c))≤27*d):((a+1+b)+(26*c))≤27*d:=A0 (Aa (congrArg (·+26*c) (C6 a 1 b))) h0
theorem aq137(h0:a<d)(h1:b=e)(h2:d=b)(h3:c=a):min a b=c:=(Bh (B1 (Ac h0 (Aa h2)))).trans h3.symm
theorem aq138(h0:c+a=d)(h1:d<10*b):a<10*b:=An (D7 a c) (An (Aa h0) h1)
theorem aq139(h0:¬(((a+1)*5)≥b*3)):((a+1)*5)<b*3:=EE h0
theorem aq140(h0:a<min b c)(h1:b<c)(h2:a=b):False:=B3 a (Ac h0 (A0 (E9 b c) (Aa h2.symm)))
theorem aq141(h0:b+1+1=d+1)(h1:a+d=c):a+1+b=c:=(CL a b).trans ((congrArg (a+·) (GP h0)).trans h1)
theorem aq145(h0:1+a≤b)(h1:b≤5):((((1+a):Nat):Int):Int)<(2^63):=FT (CN.mpr (A0 h0 h1)) (by decide)
theorem aq146(h0:1<a):0<a:=DH h0
theorem aq147(h0:b<d)(h1:a≤c):a+b<c+d:=Nat.add_lt_add_of_le_of_lt h1 h0
theorem aq148(h0:(a+((3*b)+147))≤9900):a+1+1<9900:=Ac (CU (Ac (by decide:2<147) (D7 147 (3*b))) a) h0
theorem aq149(h0:a≤10*c)(h1:c≤13+b):a<(10*(b+15)):=An h0 (An (B5 10 h1) (An (Aa (congrArg (10*·) (C1 13 b))) (CU (by decide:130<150) (10*b))))
theorem aq150(h0:a<c)(h1:b=d)(h2:c=d):a<b:=Ac h0 (Aa (h2.trans h1.symm))
theorem aq151(h0:1+a<b):((3*(1+a))+150)≤((3*b)+147):=AU (B5 3 h0) 147
theorem aq152(h0:a<(Bt (6 - ((1:Nat):Int))))(h1:b=6):1+a<b:=Ac (CU (show a<5 from h0) 1) (Aa h1.symm)
theorem aq154(h0:(a+(c+1))≤b):a<b:=Ac (CV (BL c)) h0
theorem aq156(h0:b<c)(h1:c=d)(h2:d≤13)(h3:a≤b):a≤16000:=A0 h3 (A0 (B1 h0) (A0 (Aa h1) (A0 h2 (by decide))))
theorem aq157(h0:b=c):((min a b)+((b - a)+1))=((min a c)+((c - a)+1)):=by rw[h0]
theorem aq159(h0:a<c)(h1:c=d)(h2:b=c):a≤b:=B1 (Ac h0 (Aa h2.symm))
theorem aq161(h0:b+c=d)(h1:a=b)(h2:d≤13):a≤100:=A0 (Aa h1) (A0 (Bm b c) (A0 (Aa h0) (A0 h2 (by decide))))
theorem aq162(h0:a<c)(h1:c=b+1)(h2:a≥b):a=b:=AY (AH (Ac h0 (Aa h1))) h2
theorem aq163(h0:a<b+1)(h1:a=c)(h2:a≥b)(h3:¬(c=b)):a<b:=absurd (h1.symm.trans (AY (AH h0) h2)) h3
theorem aq164(h0:a<c)(h1:c=d)(h2:b=d):a<b:=Ac h0 (Aa (h1.trans h2.symm))
theorem aq165(h0:(a+(b+1))≤1000):a<1000:=Ac (CV (BL b)) h0
theorem aq167(h0:c<b+1)(h1:a≤c):a≤b:=A0 h1 (AH h0)
theorem aq168(h0:b=c+a):a≤b:=A0 (D7 a c) (Aa h0.symm)
theorem aq171(h0:b<c+1)(h1:a=c)(h2:b≥c):a≤b:=A0 (Aa h1) h2
theorem aq172(h0:7≤b)(h1:a≤2):((a+1)*5)<b*3:=An (CM 5 (Bk h1)) (Ac (by decide:(2+1)*5<7*3) (CM 3 h0))
theorem aq173(h0:c=b)(h1:d=a)(h2:c≤a)(h3:d≤b):a=b:=AY (A0 (Aa h1.symm) h3) (A0 (Aa h0.symm) h2)
theorem aq174(h0:a<b):(a:Int)=(((min b a):Nat):Int):=congrArg (fun x:Nat=>(x:Int)) (BK (B1 h0)).symm
theorem aq175(h0:c<a)(h1:¬(c<b)):¬(a<b):=fun h=>h1 (Ct h0 h)
theorem aq176(h0:b<a):(a:Int)=(((max b a):Nat):Int):=congrArg (fun x:Nat=>(x:Int)) (BB (B1 h0)).symm
theorem aq177(h0:c<a)(h1:¬(c<b)):¬(a=b):=fun e=>h1 (Ac h0 (Aa e))
theorem aq178{a:Int}(h0:(0:Int)≤a):((((Bt a):Nat):Int):Int)=a:=Int.toNat_of_nonneg h0
theorem aq179(h0:a=c)(h1:c≤4+b):a≤(4+(b+1)):=Db (A0 (Aa h0) h1)
theorem aq180(h0:b=c+1)(h1:a=c):a<b:=Ac (Cm (Aa h1)) (Aa h0.symm)
theorem aq181(h0:a<64):a≤16777216+1:=A0 (B1 h0) (by decide)
theorem aq182(h0:a<(Bt (6 - ((1:Nat):Int)))):((((1+a):Nat):Int):Int)<(2^63):=El (DJ.mpr (CU (show a<5 from h0) 1)) (by decide)
theorem aq183(h0:a<b+1)(h1:b=c)(h2:a≥b):a=b:=AY (AH h0) h2
theorem aq184(h0:1+a<b):1+a+7≤b+6:=AU h0 6
theorem aq185(h0:a<b+1+c):a<(b+(c+1)):=Ac h0 (Aa (CL b c))
theorem aq186(h0:1+a≤b)(h1:b≤5):1+a<6:=Cm (A0 h0 h1)
theorem aq187(h0:a+c≤1000)(h1:b≤c):a+b≤1000:=A0 (AP h1 a) h0
theorem aq188(h0:a+c≤9900)(h1:b≤c):a+b≤9900:=A0 (AP h1 a) h0
theorem aq189(h0:c<d)(h1:a<c)(h2:c≤b):a≤b:=A0 (B1 h1) h2
theorem aq190(h0:a<(b+(c+1))):a<b+1+c:=Ac h0 (Aa (CL b c).symm)
theorem aq191(h0:a<6)(h1:¬(a<4))(h2:¬(a=5)):¬((a:Int)=5):=fun e=>h2 (Ch.mp e)
theorem aq192(h0:b=c+1)(h1:a≤c):a<b:=Ac (Cm h1) (Aa h0.symm)
theorem aq193(h0:(a+((3*b)+100))≤9900):a+64<9900:=Ac (CU (Ac (by decide:64<100) (D7 100 (3*b))) a) h0
theorem aq194(h0:a<b+1)(h1:c=b)(h2:c≤a):a=b:=AY (AH h0) (A0 (Aa h1.symm) h2)
theorem aq195(h0:a<c)(h1:¬(b<c)):¬(a=b):=fun e=>h1 (An (Aa e.symm) h0)
theorem aq197(h0:a*5<b*3):a≤b:=o0 h0 rfl
theorem aq198(h0:b=c)(h1:c≤13)(h2:a≤b):a≤13:=A0 h2 (A0 (Aa h0) h1)
theorem aq199(h0:a=c)(h1:c≤((10*b)+4)):a≤((10*(b+1))+1):=A0 (Aa h0) (A0 h1 (AP (by decide:4≤11) (10*b)))
theorem aq200(h0:b=c+1)(h1:a=c)(h2:b≤100):a≤16000:=A0 (Aa h1) (A0 (Cj c) (A0 (Aa h0.symm) (A0 h2 (by decide))))
theorem aq201(h0:b=c+1)(h1:a=c)(h2:b≤2000):a≤16000:=A0 (Aa h1) (A0 (Cj c) (A0 (Aa h0.symm) (A0 h2 (by decide))))
theorem aq202(h0:a<b+1)(h1:a≠b):a<b:=C5 (AH h0) h1
theorem aq205(h0:a+b≤2*c)(h1:c≤13):a+b≤26:=A0 h0 (B5 2 h1)
theorem aq206(h0:b≤(65^5))(h1:a≤b):a<(2^60):=An (A0 h1 h0) (by decide)
theorem aq207(h0:1+a<b)(h1:b≤5):1+a≤5:=A0 (B1 h0) h1
theorem aq208(h0:1+a<b+1):a<b:=HK (An (Aa (C1 a 1)) h0)
theorem aq209(h0:b<c)(h1:a=b)(h2:c≤16000):a≤16777216:=A0 (Aa h1) (A0 (B1 h0) (A0 h2 (by decide)))
theorem aq210(h0:a<(Bt (6 - ((1:Nat):Int)))):((3*(1+a))+170)≤247:=A0 (AU (B5 3 (AP (AH (show a<5 from h0)) 1)) 170) (by decide)
theorem aq212(h0:7≤b)(h1:a=c)(h2:c≤2):a≤b:=A0 (Aa h1) (A0 h2 (A0 (by decide) h0))
theorem aq213(h0:7≤b)(h1:a=c)(h2:c≤3):a≤b:=A0 (Aa h1) (A0 h2 (A0 (by decide) h0))
theorem aq214(h0:(a+(b+1))≤c+1):a+1+b≤c+1:=A0 (Aa (CL a b)) h0
theorem aq217(h0:a<b+1)(h1:¬(a=b)):a<b:=C5 (AH h0) h1
theorem aq218(h0:a+b=c)(h1:c≤13):a≤13:=A0 (Bm a b) (A0 (Aa h0) h1)
theorem aq219(h0:(a+(b+1))≤c):a+1+b≤c:=A0 (Aa (CL a b)) h0
theorem aq220(h0:a<b)(h1:a=b):False:=Az h0 h1
theorem aq221(h0:((a+(c - d))+1)≤b):a≤b:=A0 (Db (Bm a _)) h0
theorem aq222(h0:a≤13+b):a<(0+(b+15)):=An (A0 h0 (Aa (C1 13 b))) (Ac (CU (by decide:13<15) b) (Aa (Ga _).symm))
theorem aq224(h0:b<2)(h1:a=1+b):a≤2:=A0 (Aa h1) (AP (AH h0) 1)
theorem aq225(h0:a≤b+c):a+1≤b+1+c:=A0 (Bk h0) (Aa (CL b c).symm)
theorem aq226(h0:a<(((b+c) / 2)+1))(h1:a≥((b+c) / 2)):a=((b+c) / 2):=AY (AH h0) h1
theorem aq227(h0:a<b)(h1:b<c)(h2:a=c):False:=Az (Ct h0 h1) h2
theorem aq228(h0:¬(a<b)):¬(a+1<b):=fun h=>h0 (DH h)
theorem aq229(h0:b=c+1)(h1:b≤5)(h2:a≤c):a≤5:=A0 h2 (A0 (Cj c) (A0 (Aa h0.symm) h1))
theorem aq230(h0:(a+(c+1))≤b+1):a≤b:=A0 (Bm a c) (HL h0)
theorem aq231(h0:a≤26)(h1:b≤26):a+b≤100:=A0 (Bn h0 h1) (by decide)
theorem aq232(h0:¬(b<a)):(a:Int)=(((min a b):Nat):Int):=congrArg (fun x:Nat=>(x:Int)) (Bh (Bf h0)).symm
theorem aq233(h0:a<d)(h1:e<f)(h2:f≤e):a=min b c:=absurd h1 (IV h2)
theorem aq235(h0:a=b+1)(h1:b≤2)(h2:b≤3):a≤3:=A0 (Aa h0) (Bk h1)
theorem aq236(h0:a+1<b+1):a<b:=HK h0
theorem aq237(h0:b=c)(h1:d=b)(h2:a=d)(h3:c≤13):a≤10000:=A0 (Aa (h2.trans (h1.trans h0))) (A0 h3 (by decide))
theorem aq238(h0:c<b)(h1:a≤c):a≤b:=A0 h1 (B1 h0)
theorem aq239(h0:a<c)(h1:c≤b):a≤b:=A0 (B1 h0) h1
theorem aq240(h0:b<c)(h1:a≤b)(h2:¬(a=b)):¬((a:Int)=(b:Int)):=fun e=>h2 (Ch.mp e)
theorem aq241(h0:a=c)(h1:c≤b)(h2:b≤a):a=b:=AY (A0 (Aa h0) h1) h2
theorem aq242(h0:a=c)(h1:b≤c)(h2:a≤b):a=b:=AY h2 (A0 h1 (Aa h0.symm))
theorem aq243(h0:a<c)(h1:d<e)(h2:e≤d):a=b:=absurd h1 (IV h2)
theorem aq245(h0:a<b)(h1:c=b)(h2:c≤a):False:=B3 _ (Ac h0 (A0 (Aa h1.symm) h2))
theorem aq246:3≤5:=by decide
theorem aq247:100≤197:=by decide
theorem aq249(h0:a<(2^60)):(a:Int)<(2^64):=HN (DJ.mpr h0) (by decide)
theorem aq250(h0:a+1≤5)(h1:¬(b≤5)):¬(a+1=b):=fun e=>h1 (A0 (Aa e.symm) h0)
theorem aq251(h0:b=a+1):¬((((a:Int)+1):Int)=0):=fun e=>Nat.succ_ne_zero a (Ch.mp e)
theorem aq252(h0:a<2):(a=0)∨(a=1):=(D3 a).imp_right fun h=>AY (AH h0) h
theorem aq253(h0:b<c)(h1:a≥c):¬(a=b):=fun e=>B3 _ (Ac h0 (A0 h1 (Aa e)))
theorem aq254(h0:b≠a)(h1:a≤b):a<b:=C5 h1 (B9 h0)
theorem aq255(h0:a=c)(h1:b≥c):a≤b:=A0 (Aa h0) h1
theorem aq256(h0:max b c=a)(h1:b=c):a=b:=h0.symm.trans ((congrArg (max b) h1.symm).trans (Nat.max_self b))
theorem aq257(h0:a<100000):(a:Int)<(2^63):=HN (DJ.mpr h0) (by decide)
theorem aq258(h0:(a+(b+3))≤9900):a+3+b≤9900:=A0 (Aa (C6 a 3 b)) h0
theorem aq259(h0:a<2):(a:Int)<2:=DJ.mpr h0
theorem aq260(h0:a<4):(a:Int)<4:=DJ.mpr h0
theorem aq261(h0:1≤a):((min 1 (a:Int)):Int)=1:=J7 (CN.mpr h0)
theorem aq262(h0:a<(Bt (6 - ((1:Nat):Int)))):1+a+9≤15:=AU (AP (B1 (show a<5 from h0)) 1) 9
theorem aq263(h0:a<4):min a 4=a:=Bh (B1 h0)
theorem aq264(h0:min b c=a)(h1:b=c):a=b:=h0.symm.trans ((congrArg (min b) h1.symm).trans (Nat.min_self b))
theorem aq265(h0:c<a)(h1:c=b):¬(a=b):=fun e=>B3 _ (Ac h0 (Aa (e.trans h1.symm)))
theorem aq267(h0:¬(a<2)):(2:Int)≤(a:Int):=CN.mpr (Bf h0)
theorem aq268(h0:¬(a<4)):(4:Int)≤(a:Int):=CN.mpr (Bf h0)
theorem aq269:1≤5:=by decide
theorem aq270:60≤197:=by decide
theorem aq271(h0:((b+c) / 2)≤a)(h1:((b+c) / 2)≥a):a=((b+c) / 2):=AY h1 h0
theorem aq272(h0:¬(a<b)):¬(a+1=b):=fun e=>h0 (Ac (AS a) (Aa e))
theorem aq273(h0:a≤((10*b)+1))(h1:b≤8):a≤1000:=A0 h0 (A0 (AU (B5 10 h1) 1) (by decide))
theorem aq274(h0:b≤1000)(h1:a≤4000):a+b≤16000:=A0 (Bn h1 h0) (by decide)
theorem aq275(h0:a≤((10*b)+2))(h1:b≤8):a≤1000:=A0 h0 (A0 (AU (B5 10 h1) 2) (by decide))
theorem aq276(h0:a≤((10*b)+3))(h1:b≤8):a≤1000:=A0 h0 (A0 (AU (B5 10 h1) 3) (by decide))
theorem aq277(h0:4≤b)(h1:a=b):4≤a:=A0 h0 (Aa h1.symm)
theorem aq278(h0:0<b)(h1:a=b):0<a:=Ac h0 (Aa h1.symm)
theorem aq279(h0:a=b)(h1:b≤100):1+a≤16000:=A0 (AP (A0 (Aa h0) h1) 1) (by decide)
theorem aq280(h0:b=a):(a:Int)<((b:Int)+1):=DJ.mpr (Cm (Aa h0.symm))
theorem aq282(h0:b=a+1)(h1:b≤5):a+1≤5:=A0 (Aa h0.symm) h1
theorem aq283(h0:a=b)(h1:b≤2):a≤16000:=A0 (Aa h0) (A0 h1 (by decide))
theorem aq284(h0:7≤b)(h1:a≤2):a+1≤b:=A0 (Bk h1) (A0 (by decide) h0)
theorem aq285(h0:a≤b):a≤5*b:=A0 h0 (Nat.le_mul_of_pos_left b (by decide))
theorem aq286(h0:0<a)(h1:a≤2)(h2:¬(a=1)):¬((a:Int)=1):=fun e=>h2 (Ch.mp e)
theorem aq287{a:Int}(h0:(a:Int)≤100000):(a:Int)<(2^62):=FT h0 (by decide)
theorem aq288(h0:a≤((10*b)+1)):a+1≤((10*b)+2):=Bk h0
theorem aq289(h0:a≤((10*b)+2)):a+1≤((10*b)+3):=Bk h0
theorem aq290(h0:a≤((10*b)+3)):a+1≤((10*b)+4):=Bk h0
theorem aq291(h0:a≤8):0+a<1000:=An (A0 (Aa (Ga a)) h0) (by decide)
theorem aq292(h0:a+147≤9900):a<9900:=Ac (CV (by decide)) h0
theorem aq293(h0:a+597≤9900):a<9900:=Ac (CV (by decide)) h0
theorem aq294(h0:7≤b)(h1:a≤2):a≤b:=A0 h1 (A0 (by decide) h0)
theorem aq297{a:Int}(h0:((-100000):Int)≤a):((-(2^62)):Int)<a:=El (by decide) h0
theorem aq298(h0:a=b+c):a+1=(b+(c+1)):=congrArg (·+1) h0
theorem aq300(h0:a≤b+1)(h1:b≤8):a≤50:=A0 h0 (A0 (Bk h1) (by decide))
theorem aq301(h0:a<b)(h1:c=a)(h2:c=b):False:=Az h0 (h1.symm.trans h2)
theorem aq303(h0:a≠b)(h1:a≤b):a+1≤b:=C5 h1 h0
theorem aq304(h0:a<c)(h1:b=c):a≠b:=fun e=>Az h0 (e.trans h1)
theorem aq305(h0:a≤b+1)(h1:¬(a=b+1)):a≤b:=AH (C5 h0 h1)
theorem aq308(h0:a<(Bt (6 - ((1:Nat):Int)))):1+a≤5:=A0 (Aa (C1 1 a)) h0
theorem aq309(h0:a≤b):13+a≤13+b:=AP h0 13
theorem aq310(h0:a+b≤16000):a≤16777216:=A0 (Bm a b) (A0 h0 (by decide))
theorem aq311(h0:¬(a=max b c)):¬((a:Int)=(((max b c):Nat):Int)):=fun e=>h0 (Ch.mp e)
theorem aq312(h0:a≤2):((3*a)+100)≤167:=A0 (AU (B5 3 h0) 100) (by decide)
theorem aq313(h0:a+b=c):(a+(b+1))=c+1:=congrArg (·+1) h0
theorem aq314(h0:b=c)(h1:d=b)(h2:a=d):a=b:=h2.trans h1
theorem aq315(h0:a≤900):((((a+1):Nat):Int):Int)≤100000:=HO (CN.mpr (Bk h0)) (by decide)
end
end
section
noncomputable abbrev PG:Program:=Jk
noncomputable abbrev MD(w:Bo):Model:=model PG w
theorem Kr{α:Type}{l:List α}{a:α}(i:Nat)(h:l[i]?=some a):a∈l:=Av h
noncomputable def XD:List Stmt→Nat→Option Stmt
 | [],_=>none
 | x::_,0=>some x
 | _::l,n+1=>XD l n
noncomputable def Re(i:Nat):Option Stmt:=XD PG.main.body i
noncomputable def KP(i j:Nat):Option Stmt:=match XD PG.main.body i with
 | some (.ClassDef _ _ _ body _ _ _ _ _ _ _)=>XD body j
 | _=>none
noncomputable def M0(st:Option Stmt)(qual md:A9)(t:Tok)(cd:Addr)(cl:List (A9×Addr))(ct:Value):Obj:=match st with
 | some (.FunctionDef name args body _ _ _ scope _ _ _)=>{cls:=.type "function",dict:=none,data:=.func {name,qualname:=qual,params:=args,body:=.stmts body,scope,globals:=3,closure:=cl,defaults:=.none,kwdefaults:=.none,doc:=.none,pyModule:=.str md t,annotations:=none,code:=.ref cd,closureTuple:=ct,builtins:=0},slots:=#[]}
 | _=>default
noncomputable def PM:List (Addr×Obj):=[
 (79,M0 (Re 6) "is_op" "alikeheap.terms" 266 78 [] .none),
 (93,M0 (KP 7 0) "Bank.__init__" "alikeheap.terms" 266 92 [] .none),
 (100,M0 (KP 7 1) "Bank.size" "alikeheap.terms" 266 99 [] .none),
 (105,M0 (KP 7 2) "Bank.take" "alikeheap.terms" 266 104 [] .none),
 (112,M0 (KP 7 3) "Bank.require" "alikeheap.terms" 266 111 [] .none),
 (133,M0 (KP 7 6) "Bank.cut" "alikeheap.terms" 266 132 [] .none),
 (140,M0 (KP 7 7) "Bank.op" "alikeheap.terms" 266 139 [] .none),
 (147,M0 (KP 7 8) "Bank.kids" "alikeheap.terms" 266 146 [] .none),
 (201,M0 (KP 10 0) "Counts.__init__" "alikeheap.counting" 405 200 [] .none),
 (208,M0 (KP 10 1) "Counts.renewed" "alikeheap.counting" 405 207 [] .none),
 (215,M0 (KP 10 2) "Counts.many" "alikeheap.counting" 405 214 [] .none),
 (227,M0 (KP 10 4) "Counts.rows" "alikeheap.counting" 405 226 [] .none),
 (290,M0 (KP 12 0) "Unions.__init__" "alikeheap.unions" 526 289 [] .none),
 (297,M0 (KP 12 1) "Unions.make" "alikeheap.unions" 526 296 [] .none),
 (304,M0 (KP 12 2) "Unions.size" "alikeheap.unions" 526 303 [] .none),
 (311,M0 (KP 12 3) "Unions.find" "alikeheap.unions" 526 310 [] .none),
 (318,M0 (KP 12 4) "Unions.merge" "alikeheap.unions" 526 317 [] .none),
 (325,M0 (KP 12 5) "Unions.members" "alikeheap.unions" 526 324 [] .none),
 (344,M0 (KP 12 8) "Unions.back" "alikeheap.unions" 526 343 [] .none),
 (351,M0 (KP 12 9) "Unions.cut" "alikeheap.unions" 526 350 [] .none),
 (372,M0 (KP 14 0) "Heap.__init__" "alikeheap.heap" 631 371 [] .none),
 (379,M0 (KP 14 1) "Heap.size" "alikeheap.heap" 631 378 [] .none),
 (384,M0 (KP 14 2) "Heap.node" "alikeheap.heap" 631 383 [] .none),
 (389,M0 (KP 14 3) "Heap.add" "alikeheap.heap" 631 388 [] .none),
 (403,M0 (KP 14 5) "Heap.look_at" "alikeheap.heap" 631 402 [] .none),
 (410,M0 (KP 14 6) "Heap.find" "alikeheap.heap" 631 409 [] .none),
 (424,M0 (KP 14 8) "Heap.merge" "alikeheap.heap" 631 423 [] .none),
 (431,M0 (KP 14 9) "Heap.join" "alikeheap.heap" 631 430 [] .none),
 (438,M0 (KP 14 10) "Heap.settle" "alikeheap.heap" 631 437 [] .none),
 (459,M0 (KP 14 13) "Heap.members" "alikeheap.heap" 631 458 [] .none),
 (464,M0 (KP 14 14) "Heap.nodes_of" "alikeheap.heap" 631 463 [] .none),
 (506,M0 (KP 16 0) "Levels.__init__" "alikeheap.levels" 800 505 [("__class__",494)] (.ref 499)),
 (513,M0 (KP 16 1) "Levels.depth" "alikeheap.levels" 800 512 [] .none),
 (520,M0 (KP 16 2) "Levels.push" "alikeheap.levels" 800 519 [] .none),
 (527,M0 (KP 16 3) "Levels.pop" "alikeheap.levels" 800 526 [] .none),
 (535,M0 (KP 16 4) "Levels.look_at" "alikeheap.levels" 800 534 [("__class__",494)] (.ref 528)),
 (543,M0 (KP 16 5) "Levels.join" "alikeheap.levels" 800 542 [("__class__",494)] (.ref 536)),
 (548,M0 (KP 16 6) "Levels.unmake" "alikeheap.levels" 800 547 [] .none),
 (555,M0 (KP 16 7) "Levels.unjoin" "alikeheap.levels" 800 554 [] .none),
 (567,M0 (Re 18) "_law_card" "law_pq0030_01" 898 566 [] .none),
 (572,M0 (Re 19) "_law_homes" "law_pq0030_01" 898 571 [] .none),
 (577,M0 (Re 20) "_law_ways" "law_pq0030_01" 898 576 [] .none),
 (582,M0 (Re 21) "_law_table" "law_pq0030_01" 898 581 [] .none),
 (587,M0 (Re 22) "_law_is_counted" "law_pq0030_01" 898 586 [] .none),
 (592,M0 (Re 23) "law" "law_pq0030_01" 898 591 [] .none)]
noncomputable def KD(K:IA)(C:Addr)(name:A9):Bool:=plainGet K C name && hasDictIn K C && (match Gp K (.ref C) name with | some a=>noGet K a | none=>false)
noncomputable def KE(K:IA)(C:Addr)(name:A9)(f:Addr):Bool:=
 plainGet K C name && Gp K (.ref C) name == some (some (.ref f)) && isFn K (.ref f) && Eh K (.ref f)
noncomputable def KH(K:IA)(C:Addr)(name:A9):Bool:=
 Gp K (.ref C) "__setattr__" == some (some (.builtin "object.__setattr__")) && plainOver K C && takerIn K C name == some none && hasDictIn K C
noncomputable def Wm:Option (Option Value)→Bool | some (some (.int i _))=>i == 200 | _=>false
noncomputable def Xd:List (Addr×A9):=[(183,"nodes"),(183,"numbers"),(183,"weights"),(183,"depths"),(354,"above"),(354,"lots"),(354,"merged"),(558,"bank"),(558,"unions"),(558,"edges"),(558,"forest"),(558,"known"),(558,"above"),(558,"waiting"),(558,"backs"),(558,"changes"),(558,"marks"),(558,"made"),(272,"heap"),(272,"mark"),(272,"known")]
noncomputable def XZ:List (Addr×A9×Addr):=[(183,"size",100),(183,"take",105),(183,"require",112),(183,"cut",133),(183,"op",140),(183,"kids",147),(354,"make",297),(354,"size",304),(354,"find",311),(354,"merge",318),(354,"members",325),(354,"back",344),(354,"cut",351),(558,"depth",513),(558,"push",520),(558,"pop",527),(558,"look_at",535),(558,"join",543),(558,"unmake",548),(558,"unjoin",555),(558,"size",379),(558,"node",384),(558,"add",389),(558,"find",410),(558,"merge",424),(558,"settle",438),(558,"members",459),(558,"nodes_of",464),(272,"renewed",208),(272,"many",215),(272,"rows",227)]
noncomputable def Y0:List A9:=["len","sorted","sum","max","min","set","tuple","list","range","enumerate","dict","int","abs","str","super"]
noncomputable def Yo:List (A9×Addr):=[("Bank",183),("Unions",354),("Levels",558),("Counts",272),("law",592),("_law_ways",577),("_law_card",567),("_law_homes",572),("_law_table",582),("_law_is_counted",587),("is_op",79)]
noncomputable def Yc:List Addr:=[183,354,558,272,577,567,572,582,587,79]
noncomputable def Y7:List Addr:=[183,354,558,272]
noncomputable def Yx:List (Addr×Addr):=[(183,93),(354,290),(558,506),(272,201)]
noncomputable def Yh:List Addr:=[93,290,506,201]
noncomputable def Xv(K:IA)(o:Obj):Bool:=match o.data with | .func fd=>Iq K fd.code fd.qualname | _=>true
noncomputable def LP(K:IA)(a:Addr):Bool:=match K.lookup a with
 | some ⟨_,_,.fields vs,_⟩=>(match (vs[2]?:Option Value)with | some (.str f _)=>PG.main.file == f | _=>false)
 | _=>false
noncomputable def Ou(K:IA)(a D:Addr):Bool:=match K.lookup a with
 | some ⟨_,_,.cell (some (.ref d)),_⟩=>d == D
 | _=>false
theorem Rh{K:IA}{a:Addr}(h:LP K a=true):∃ccl cdd vs ccs file tf,K.lookup a=some ⟨ccl,cdd,.fields vs,ccs⟩∧vs[2]?=some (.str file tf)∧((PG.main.file:A9) == file)=true:=by
 unfold LP at h;split at h
 ·split at h
  ·exact⟨_,_,_,_,_,_,by assumption,by assumption,h⟩
  ·cases h
 ·cases h
theorem SR{K:IA}{a D:Addr}(h:Ou K a D=true):∃cl cld csl,K.lookup a=some ⟨cl,cld,.cell (some (.ref D)),csl⟩:=by
 unfold Ou at h;split at h
 ·rename_i e;have:=beq_iff_eq.mp h;subst this;exact⟨_,_,_,e⟩
 ·cases h
structure Lk(K:IA):Prop where
 fn:∀x∈PM,K.lookup x.1=some x.2
 cd:∀x∈PM,Xv K x.2=true
 pa:∀x∈Xd,KD K x.1 x.2=true
 ps:∀x∈Xd,KH K x.1 x.2=true
 om:∀x∈XZ,KE K x.1 x.2.1 x.2.2=true
 nn:∀x∈Y0,Dl K AO x=some none
 gn:∀x∈Yo,Dl K AO x.1=some (some (.ref x.2))
 kp:∀x∈Yc,Eh K (.ref x)=true
 mkc:∀x∈Y7,Ht K x=true
 fi:∀x∈Yx,Gp K (.ref x.1) "__init__" = some (some (.ref x.2))
 isf:∀x∈Yh,isFn K (.ref x)=true
 gn_most0:Wm (Dl K AO "MOST_SIZE")=true
 lo_law:(K.lookup 592).isSome=true
 si_join:DF K 558 558 "join" = some (some (.ref 431))
 si_look:DF K 558 558 "look_at" = some (some (.ref 403))
 si_init:DF K 558 558 "__init__" = some (some (.ref 372))
 si_any:Dl K cStatics "thirdparty.any" = some none
 si_mro:mroIn K 558 (.ref 558)=some true
 si_fn_join:JE K 431=true
 si_fn_look:JE K 403=true
 si_fn_init:JE K 372=true
 si_ty_join:HB K (.ref 431)=some (.type "function")
 si_ty_look:HB K (.ref 403)=some (.type "function")
 si_ty_init:HB K (.ref 372)=some (.type "function")
 cf_init:LP K 505=true
 cf_look:LP K 534=true
 cf_join:LP K 542=true
 ce_lv:Ou K 494 558=true
 cs_lv:(clsIn K 558).isSome=true
structure Cd where
 w:Bo
 mg:A9→Option Value
 mb:A9→Option Value
 H0:AE
 K:IA
 q:Program
 loose:List A9
structure Cx extends Cd where
 X:K.In H0
 T:TopRead q loose mg mb H0
 L:Lk K
noncomputable def Ext(h h':AE):Prop:=∀b o,h.get? b=some o→h'.get? b=some o
structure Rm(A:Aq)(d u:Nat):Prop where
 d:A.depth+d≤1000
 u:A.units+u≤9900
 h:A.handled=none
noncomputable def Ru(c:Cx):Prop:=∀(A:Aq) (s:A4) (E Q:Value→A4→Prop) (l:Addr) (vs:List Value) (ns:List Int),Rm A 26 600→Ext c.H0 s.heap→s.heap.IsList l vs.toArray→Iz vs ns→ns.length≤63→
 (∀s':A4,Ext c.H0 s'.heap→s'.gens=s.gens→s'.os=s.os→Q (.bool true) s')→A8 (MD c.w) A (call (.ref 592) [.ref l]) Q E s
noncomputable def NE:Prop:=∃c:Cx,¬Ru c
open Classical in
noncomputable def c:Cd:=if h:NE then h.choose.toCd else⟨⟨fun _ _=>0,{strHash:=fun _=>0,shareClass:=fun _=>0,mergeTok:=id,idOf:=fun _=>0,idOfShared:=fun _ _=>0,followText:=fun _=>false,idOfImm:=fun _=>0}⟩,fun _=>none,fun _=>none,default,[],PG,[]⟩
theorem XF(ne:NE):∃k:Cx,k.toCd=c∧¬Ru k:=⟨ne.choose,by unfold c;rw[dif_pos ne],ne.choose_spec⟩
theorem cX(ne:NE):c.K.In c.H0:=by obtain⟨k,e,_⟩:=XF ne;rw[←e];exact k.X
theorem cT(ne:NE):TopRead c.q c.loose c.mg c.mb c.H0:=by obtain⟨k,e,_⟩:=XF ne;rw[←e];exact k.T
theorem cL(ne:NE):Lk c.K:=by obtain⟨k,e,_⟩:=XF ne;rw[←e];exact k.L
theorem Qn{l:List (Addr×Obj)}{a:Addr}{o:Obj}(h:l.lookup a=some o):(a,o)∈l:=by
 induction l with
 | nil=>cases h
 | cons p l ih=>
  rw[Dk]at h
  by_cases e:(a == p.1)=true
  ·rw[e]at h;have e:=beq_iff_eq.mp e
   cases h;subst e;exact Aj
  ·rw[DR]at e;rw[e]at h;exact Ao _ (ih h)
theorem Ud(ne:NE){a:Addr}{o:Obj}(h:PM.lookup a=some o):c.K.lookup a=some o:=(cL ne).fn _ (Qn h)
theorem Vm(ne:NE){a:Addr}{oc:Value}{od:Option Addr}{fd:FuncData}{osl:Array (Option Value)}(h:PM.lookup a=some ⟨oc,od,.func fd,osl⟩):Iq c.K fd.code fd.qualname=true:=(cL ne).cd _ (Qn h)
theorem Y6(ne:NE):Ht c.K 183=true:=(cL ne).mkc _ (Kr 0 rfl)
theorem Yg(ne:NE):Eh c.K (.ref 183)=true:=(cL ne).kp _ (Kr 0 rfl)
theorem Yw(ne:NE):Gp c.K (.ref 183) "__init__" = some (some (.ref 93)):=(cL ne).fi _ (Kr 0 rfl)
theorem Ys(ne:NE):isFn c.K (.ref 93)=true:=(cL ne).isf _ (Kr 0 rfl)
theorem Yn(ne:NE):Dl c.K AO "Bank" = some (some (.ref 183)):=(cL ne).gn _ (Kr 0 rfl)
theorem Y3(ne:NE):Ht c.K 354=true:=(cL ne).mkc _ (Kr 1 rfl)
theorem Yd(ne:NE):Eh c.K (.ref 354)=true:=(cL ne).kp _ (Kr 1 rfl)
theorem Yt(ne:NE):Gp c.K (.ref 354) "__init__" = some (some (.ref 290)):=(cL ne).fi _ (Kr 1 rfl)
theorem Yp(ne:NE):isFn c.K (.ref 290)=true:=(cL ne).isf _ (Kr 1 rfl)
theorem Yk(ne:NE):Dl c.K AO "Unions" = some (some (.ref 354)):=(cL ne).gn _ (Kr 1 rfl)
theorem Y4(ne:NE):Ht c.K 558=true:=(cL ne).mkc _ (Kr 2 rfl)
theorem Ye(ne:NE):Eh c.K (.ref 558)=true:=(cL ne).kp _ (Kr 2 rfl)
theorem Yu(ne:NE):Gp c.K (.ref 558) "__init__" = some (some (.ref 506)):=(cL ne).fi _ (Kr 2 rfl)
theorem Yq(ne:NE):isFn c.K (.ref 506)=true:=(cL ne).isf _ (Kr 2 rfl)
theorem Yl(ne:NE):Dl c.K AO "Levels" = some (some (.ref 558)):=(cL ne).gn _ (Kr 2 rfl)
theorem Y5(ne:NE):Ht c.K 272=true:=(cL ne).mkc _ (Kr 3 rfl)
theorem Yf(ne:NE):Eh c.K (.ref 272)=true:=(cL ne).kp _ (Kr 3 rfl)
theorem Yv(ne:NE):Gp c.K (.ref 272) "__init__" = some (some (.ref 201)):=(cL ne).fi _ (Kr 3 rfl)
theorem Yr(ne:NE):isFn c.K (.ref 201)=true:=(cL ne).isf _ (Kr 3 rfl)
theorem Ym(ne:NE):Dl c.K AO "Counts" = some (some (.ref 272)):=(cL ne).gn _ (Kr 3 rfl)
theorem TZ(ne:NE):Dl c.K AO "_law_ways" = some (some (.ref 577)):=(cL ne).gn _ (Kr 5 rfl)
theorem Ua(ne:NE):Eh c.K (.ref 577)=true:=(cL ne).kp _ (Kr 4 rfl)
theorem Oj(ne:NE):Dl c.K AO "_law_card" = some (some (.ref 567)):=(cL ne).gn _ (Kr 6 rfl)
theorem Ol(ne:NE):Eh c.K (.ref 567)=true:=(cL ne).kp _ (Kr 5 rfl)
theorem Vd(ne:NE):Dl c.K AO "_law_homes" = some (some (.ref 572)):=(cL ne).gn _ (Kr 7 rfl)
theorem Vg(ne:NE):Eh c.K (.ref 572)=true:=(cL ne).kp _ (Kr 6 rfl)
theorem Vb(ne:NE):Dl c.K AO "_law_table" = some (some (.ref 582)):=(cL ne).gn _ (Kr 8 rfl)
theorem Ve(ne:NE):Eh c.K (.ref 582)=true:=(cL ne).kp _ (Kr 7 rfl)
theorem U0(ne:NE):Dl c.K AO "_law_is_counted" = some (some (.ref 587)):=(cL ne).gn _ (Kr 9 rfl)
theorem Ub(ne:NE):Eh c.K (.ref 587)=true:=(cL ne).kp _ (Kr 8 rfl)
theorem Vc(ne:NE):Dl c.K AO "is_op" = some (some (.ref 79)):=(cL ne).gn _ (Kr 10 rfl)
theorem Vf(ne:NE):Eh c.K (.ref 79)=true:=(cL ne).kp _ (Kr 9 rfl)
theorem L1(ne:NE):KD c.K 183 "nodes" = true:=(cL ne).pa _ (Kr 0 rfl)
theorem QU(ne:NE):KH c.K 183 "nodes" = true:=(cL ne).ps _ (Kr 0 rfl)
theorem LN(ne:NE):KD c.K 183 "numbers" = true:=(cL ne).pa _ (Kr 1 rfl)
theorem Ps(ne:NE):KH c.K 183 "numbers" = true:=(cL ne).ps _ (Kr 1 rfl)
theorem Mj(ne:NE):KD c.K 183 "weights" = true:=(cL ne).pa _ (Kr 2 rfl)
theorem Pr(ne:NE):KH c.K 183 "weights" = true:=(cL ne).ps _ (Kr 2 rfl)
theorem Mw(ne:NE):KD c.K 183 "depths" = true:=(cL ne).pa _ (Kr 3 rfl)
theorem Qe(ne:NE):KH c.K 183 "depths" = true:=(cL ne).ps _ (Kr 3 rfl)
theorem Sm(ne:NE):KE c.K 183 "size" 100=true:=(cL ne).om _ (Kr 0 rfl)
theorem Sl(ne:NE):KE c.K 183 "take" 105=true:=(cL ne).om _ (Kr 1 rfl)
theorem Px(ne:NE):KE c.K 183 "require" 112=true:=(cL ne).om _ (Kr 2 rfl)
theorem Ts(ne:NE):KE c.K 183 "cut" 133=true:=(cL ne).om _ (Kr 3 rfl)
theorem UY(ne:NE):KE c.K 183 "op" 140=true:=(cL ne).om _ (Kr 4 rfl)
theorem OU(ne:NE):KE c.K 183 "kids" 147=true:=(cL ne).om _ (Kr 5 rfl)
theorem KZ(ne:NE):KD c.K 354 "above" = true:=(cL ne).pa _ (Kr 4 rfl)
theorem QP(ne:NE):KH c.K 354 "above" = true:=(cL ne).ps _ (Kr 4 rfl)
theorem Lc(ne:NE):KD c.K 354 "lots" = true:=(cL ne).pa _ (Kr 5 rfl)
theorem Sa(ne:NE):KH c.K 354 "lots" = true:=(cL ne).ps _ (Kr 5 rfl)
theorem LC(ne:NE):KD c.K 354 "merged" = true:=(cL ne).pa _ (Kr 6 rfl)
theorem Qa(ne:NE):KH c.K 354 "merged" = true:=(cL ne).ps _ (Kr 6 rfl)
theorem Sg(ne:NE):KE c.K 354 "make" 297=true:=(cL ne).om _ (Kr 6 rfl)
theorem OR(ne:NE):KE c.K 354 "size" 304=true:=(cL ne).om _ (Kr 7 rfl)
theorem OS(ne:NE):KE c.K 354 "find" 311=true:=(cL ne).om _ (Kr 8 rfl)
theorem QW(ne:NE):KE c.K 354 "merge" 318=true:=(cL ne).om _ (Kr 9 rfl)
theorem Nb(ne:NE):KE c.K 354 "members" 325=true:=(cL ne).om _ (Kr 10 rfl)
theorem Sh(ne:NE):KE c.K 354 "back" 344=true:=(cL ne).om _ (Kr 11 rfl)
theorem Tq(ne:NE):KE c.K 354 "cut" 351=true:=(cL ne).om _ (Kr 12 rfl)
theorem LQ(ne:NE):KD c.K 558 "bank" = true:=(cL ne).pa _ (Kr 7 rfl)
theorem Sb(ne:NE):KH c.K 558 "bank" = true:=(cL ne).ps _ (Kr 7 rfl)
theorem KY(ne:NE):KD c.K 558 "unions" = true:=(cL ne).pa _ (Kr 8 rfl)
theorem Qc(ne:NE):KH c.K 558 "unions" = true:=(cL ne).ps _ (Kr 8 rfl)
theorem LU(ne:NE):KD c.K 558 "edges" = true:=(cL ne).pa _ (Kr 9 rfl)
theorem QS(ne:NE):KH c.K 558 "edges" = true:=(cL ne).ps _ (Kr 9 rfl)
theorem NN(ne:NE):KD c.K 558 "forest" = true:=(cL ne).pa _ (Kr 10 rfl)
theorem Qd(ne:NE):KH c.K 558 "forest" = true:=(cL ne).ps _ (Kr 10 rfl)
theorem MP(ne:NE):KD c.K 558 "known" = true:=(cL ne).pa _ (Kr 11 rfl)
theorem QR(ne:NE):KH c.K 558 "known" = true:=(cL ne).ps _ (Kr 11 rfl)
theorem KQ(ne:NE):KD c.K 558 "above" = true:=(cL ne).pa _ (Kr 12 rfl)
theorem QT(ne:NE):KH c.K 558 "above" = true:=(cL ne).ps _ (Kr 12 rfl)
theorem LM(ne:NE):KD c.K 558 "waiting" = true:=(cL ne).pa _ (Kr 13 rfl)
theorem N9(ne:NE):KH c.K 558 "waiting" = true:=(cL ne).ps _ (Kr 13 rfl)
theorem Oc(ne:NE):KD c.K 558 "backs" = true:=(cL ne).pa _ (Kr 14 rfl)
theorem O9(ne:NE):KH c.K 558 "backs" = true:=(cL ne).ps _ (Kr 14 rfl)
theorem Ld(ne:NE):KD c.K 558 "changes" = true:=(cL ne).pa _ (Kr 15 rfl)
theorem Pp(ne:NE):KH c.K 558 "changes" = true:=(cL ne).ps _ (Kr 15 rfl)
theorem Mi(ne:NE):KD c.K 558 "marks" = true:=(cL ne).pa _ (Kr 16 rfl)
theorem QQ(ne:NE):KH c.K 558 "marks" = true:=(cL ne).ps _ (Kr 16 rfl)
theorem Se(ne:NE):KD c.K 558 "made" = true:=(cL ne).pa _ (Kr 17 rfl)
theorem Nv(ne:NE):KH c.K 558 "made" = true:=(cL ne).ps _ (Kr 17 rfl)
theorem QY(ne:NE):KE c.K 558 "depth" 513=true:=(cL ne).om _ (Kr 13 rfl)
theorem Sj(ne:NE):KE c.K 558 "push" 520=true:=(cL ne).om _ (Kr 14 rfl)
theorem Tr(ne:NE):KE c.K 558 "pop" 527=true:=(cL ne).om _ (Kr 15 rfl)
theorem Nc(ne:NE):KE c.K 558 "look_at" 535=true:=(cL ne).om _ (Kr 16 rfl)
theorem OT(ne:NE):KE c.K 558 "join" 543=true:=(cL ne).om _ (Kr 17 rfl)
theorem Qi(ne:NE):KE c.K 558 "unmake" 548=true:=(cL ne).om _ (Kr 18 rfl)
theorem NO(ne:NE):KE c.K 558 "unjoin" 555=true:=(cL ne).om _ (Kr 19 rfl)
theorem Si(ne:NE):KE c.K 558 "size" 379=true:=(cL ne).om _ (Kr 20 rfl)
theorem Nw(ne:NE):KE c.K 558 "node" 384=true:=(cL ne).om _ (Kr 21 rfl)
theorem Qk(ne:NE):KE c.K 558 "add" 389=true:=(cL ne).om _ (Kr 22 rfl)
theorem Ma(ne:NE):KE c.K 558 "find" 410=true:=(cL ne).om _ (Kr 23 rfl)
theorem QX(ne:NE):KE c.K 558 "merge" 424=true:=(cL ne).om _ (Kr 24 rfl)
theorem Qj(ne:NE):KE c.K 558 "settle" 438=true:=(cL ne).om _ (Kr 25 rfl)
theorem Pv(ne:NE):KE c.K 558 "members" 459=true:=(cL ne).om _ (Kr 26 rfl)
theorem OC(ne:NE):KE c.K 558 "nodes_of" 464=true:=(cL ne).om _ (Kr 27 rfl)
theorem M9(ne:NE):KD c.K 272 "heap" = true:=(cL ne).pa _ (Kr 18 rfl)
theorem Sc(ne:NE):KH c.K 272 "heap" = true:=(cL ne).ps _ (Kr 18 rfl)
theorem Sf(ne:NE):KD c.K 272 "mark" = true:=(cL ne).pa _ (Kr 19 rfl)
theorem OQ(ne:NE):KH c.K 272 "mark" = true:=(cL ne).ps _ (Kr 19 rfl)
theorem MQ(ne:NE):KD c.K 272 "known" = true:=(cL ne).pa _ (Kr 20 rfl)
theorem Oa(ne:NE):KH c.K 272 "known" = true:=(cL ne).ps _ (Kr 20 rfl)
theorem Pw(ne:NE):KE c.K 272 "renewed" 208=true:=(cL ne).om _ (Kr 28 rfl)
theorem Sk(ne:NE):KE c.K 272 "many" 215=true:=(cL ne).om _ (Kr 29 rfl)
theorem MB(ne:NE):KE c.K 272 "rows" 227=true:=(cL ne).om _ (Kr 30 rfl)
theorem KL(ne:NE):Dl c.K AO "len" = some none:=(cL ne).nn _ (Kr 0 rfl)
theorem Mb(ne:NE):Dl c.K AO "sorted" = some none:=(cL ne).nn _ (Kr 1 rfl)
theorem Tw(ne:NE):Dl c.K AO "sum" = some none:=(cL ne).nn _ (Kr 2 rfl)
theorem Of(ne:NE):Dl c.K AO "max" = some none:=(cL ne).nn _ (Kr 3 rfl)
theorem Xg(ne:NE):Dl c.K AO "min" = some none:=(cL ne).nn _ (Kr 4 rfl)
theorem RI(ne:NE):Dl c.K AO "set" = some none:=(cL ne).nn _ (Kr 5 rfl)
theorem Nd(ne:NE):Dl c.K AO "tuple" = some none:=(cL ne).nn _ (Kr 6 rfl)
theorem QZ(ne:NE):Dl c.K AO "list" = some none:=(cL ne).nn _ (Kr 7 rfl)
theorem LO(ne:NE):Dl c.K AO "range" = some none:=(cL ne).nn _ (Kr 8 rfl)
theorem NP(ne:NE):Dl c.K AO "enumerate" = some none:=(cL ne).nn _ (Kr 9 rfl)
theorem Wc(ne:NE):Dl c.K AO "dict" = some none:=(cL ne).nn _ (Kr 10 rfl)
theorem Xh(ne:NE):Dl c.K AO "int" = some none:=(cL ne).nn _ (Kr 11 rfl)
theorem Xi(ne:NE):Dl c.K AO "abs" = some none:=(cL ne).nn _ (Kr 12 rfl)
theorem Xf(ne:NE):Dl c.K AO "str" = some none:=(cL ne).nn _ (Kr 13 rfl)
theorem V0(ne:NE):Dl c.K AO "super" = some none:=(cL ne).nn _ (Kr 14 rfl)
theorem gn_most0(ne:NE):Wm (Dl c.K AO "MOST_SIZE")=true:=(cL ne).gn_most0
theorem lo_law(ne:NE):(c.K.lookup 592).isSome=true:=(cL ne).lo_law
theorem si_join(ne:NE):DF c.K 558 558 "join" = some (some (.ref 431)):=(cL ne).si_join
theorem si_look(ne:NE):DF c.K 558 558 "look_at" = some (some (.ref 403)):=(cL ne).si_look
theorem si_init(ne:NE):DF c.K 558 558 "__init__" = some (some (.ref 372)):=(cL ne).si_init
theorem si_any(ne:NE):Dl c.K cStatics "thirdparty.any" = some none:=(cL ne).si_any
theorem si_mro(ne:NE):mroIn c.K 558 (.ref 558)=some true:=(cL ne).si_mro
theorem si_fn_join(ne:NE):JE c.K 431=true:=(cL ne).si_fn_join
theorem si_fn_look(ne:NE):JE c.K 403=true:=(cL ne).si_fn_look
theorem si_fn_init(ne:NE):JE c.K 372=true:=(cL ne).si_fn_init
theorem si_ty_join(ne:NE):HB c.K (.ref 431)=some (.type "function"):=(cL ne).si_ty_join
theorem si_ty_look(ne:NE):HB c.K (.ref 403)=some (.type "function"):=(cL ne).si_ty_look
theorem si_ty_init(ne:NE):HB c.K (.ref 372)=some (.type "function"):=(cL ne).si_ty_init
theorem cf_init(ne:NE):LP c.K 505=true:=(cL ne).cf_init
theorem cf_look(ne:NE):LP c.K 534=true:=(cL ne).cf_look
theorem cf_join(ne:NE):LP c.K 542=true:=(cL ne).cf_join
theorem ce_lv(ne:NE):Ou c.K 494 558=true:=(cL ne).ce_lv
theorem cs_lv(ne:NE):(clsIn c.K 558).isSome=true:=(cL ne).cs_lv
end
section
theorem Ext.refl(h:AE):Ext h h:=fun _ _ e=>e
theorem Ext.trans{a b c:AE}(x:Ext a b)(y:Ext b c):Ext a c:=fun _ _ e=>y _ _ (x _ _ e)
structure Bs(h:AE):Prop where
 ne:NE
 ext:Ext c.H0 h
theorem Bs.trans(b:Bs h)(e:Ext h h'):Bs h':=⟨b.ne,b.ext.trans e⟩
theorem Ext.push(h:AE)(o:Obj):Ext h (h.push o):=fun _ _ e=>Ak _ e
theorem Ext.same(x:Ext H h)(n:H.get? a=none)(s:BZ a h h'):Ext H h':=fun b o e=>by
 have hb:b≠a:=fun q=>by exact noo q n e
 rw[s.2 b hb];exact x _ _ e
structure Pu(s s':A4):Prop where
 ext:Ext s.heap s'.heap
 gens:s'.gens=s.gens
 os:s'.os=s.os
theorem Pu.refl(s:A4):Pu s s:=⟨Ext.refl _,rfl,rfl⟩
theorem Pu.trans{a b c:A4}(x:Pu a b)(y:Pu b c):Pu a c:=⟨x.ext.trans y.ext,y.gens.trans x.gens,y.os.trans x.os⟩
theorem Pu.tok(s:A4)(t:Nat):Pu s {s with toks:=t}:=⟨Ext.refl _,rfl,rfl⟩
theorem Pu.push(s:A4)(o:Obj):Pu s {s with heap:=s.heap.push o}:=⟨Ext.push _ _,rfl,rfl⟩
noncomputable def L3(o:Obj):Bool:=match o.data with | .seq _ _=>o.cls == .type "list" | .dict _ _=>true | .set _ _ _=>true | .fields _=>true | _=>false
noncomputable def Li(o:Obj):Bool:=match o.data with | .cell _=>false | _=>true
theorem Nx(h:L3 o=true):Li o=true:=by
 unfold L3 at h;unfold Li;split
 ·rename_i e;rw[e]at h;exact nomatch h
 ·rfl
noncomputable abbrev ZN(Z:List (Addr×Obj)):Prop:=∀p∈Z,Li p.2=true
noncomputable def ND(h:AE):List (Addr×Obj)→AE
 | []=>h
 | p::Z=>if L3 p.2=true then (ND h Z).hide p.1 else ND h Z
theorem RH:(ND h Z).get? b=some o→h.get? b=some o:=by
 induction Z with
 | nil=>exact id
 | cons p Z ih=>
  unfold ND;split
  ·exact fun e=>ih (FX e)
  ·exact ih
theorem NZ:(∀p∈Z,L3 p.2=true→p.1≠b)→(ND h Z).get? b=h.get? b:=by
 induction Z with
 | nil=>exact fun _=>rfl
 | cons p Z ih=>
  intro n;unfold ND;split
  ·rename_i hm;exact (CJ _ (fun q=>n p Aj hm q.symm)).trans (ih fun p' hp=>n p' (Ao _ hp))
  ·exact ih fun p' hp=>n p' (Ao _ hp)
theorem RS:p∈Z→L3 p.2=true→(ND h Z).get? p.1=none:=by
 induction Z with
 | nil=>intro hp;exact absurd hp Ah
 | cons q Z ih=>
  intro hp hm
  have sub:∀g:AE,(g.get? p.1=none)→(g.hide q.1).get? p.1=none:=fun g hg=>by
   by_cases e:p.1=q.1
   ·rw[e];exact Ef _ _
   ·exact (CJ _ e).trans hg
  rcases As.mp hp with rfl | hp
  ·unfold ND;rw[if_pos hm];exact Ef _ _
  ·unfold ND;split
   ·exact sub _ (ih hp hm)
   ·exact ih hp hm
structure Fm(s0:A4)(H:AE)(Z:List (Addr×Obj))(L:Addr)(m:A9→Option Value)(s:A4):Prop where
 base:Bs H
 keep:Ext H s.heap
 noL:H.get? L=none
 ns:s.heap.Ns L m
 zs:∀p∈Z,s.heap.get? p.1=some p.2∧p.1≠L∧(L3 p.2=true→H.get? p.1=none)
 gens:s.gens=s0.gens
 os:s.os=s0.os
structure Kp(S:Addr→Prop)(s s':A4):Prop where
 keep:∀b o,¬S b→s.heap.get? b=some o→s'.heap.get? b=some o
 gens:s'.gens=s.gens
 os:s'.os=s.os
theorem Pu.kp(p:Pu s s')(S:Addr→Prop):Kp S s s':=⟨fun b o _ e=>p.ext b o e,p.gens,p.os⟩
theorem Kp.trans{S S':Addr→Prop}{a b c:A4}(x:Kp S a b)(y:Kp S' b c)(h:∀q o,S' q→a.heap.get? q=some o→S q):Kp S a c:=
 ⟨fun q o n e=>y.keep q o (fun s=>n (h q o s e)) (x.keep q o n e),y.gens.trans x.gens,y.os.trans x.os⟩
namespace Fm
variable{s0 s s':A4}{H:AE}{Z:List (Addr×Obj)}{L:Addr}{m:A9→Option Value}
theorem pu(F:Fm s0 H Z L m s)(p:Pu s s'):Fm s0 H Z L m s':=
 ⟨F.base,F.keep.trans p.ext,F.noL,F.ns.keeps p.ext,fun z hz=>xA (F.zs z hz) fun a b=>⟨p.ext _ _ a,b⟩,p.gens.trans F.gens,p.os.trans F.os⟩
theorem tok(F:Fm s0 H Z L m s)(t:Nat):Fm s0 H Z L m {s with toks:=t}:=F.pu (Pu.tok s t)
theorem st(F:Fm s0 H Z L m s)(n:h.Ns L m')(e:BZ L s.heap h):Fm s0 H Z L m' {s with heap:=h,toks:=t}:=
 ⟨F.base,F.keep.same F.noL e,F.noL,n,fun z hz=>xAA (F.zs z hz) fun a b r=>(yAA ((e.2 _ b).trans a) b r),F.gens,F.os⟩
theorem X(F:Fm s0 H Z L m s):c.K.In s.heap:=(cX F.base.ne).keeps (F.base.ext.trans F.keep)
theorem ne(F:Fm s0 H Z L m s):NE:=F.base.ne
theorem T(F:Fm s0 H Z L m s):TopRead c.q c.loose c.mg c.mb s.heap:=(cT F.base.ne).keeps (F.base.ext.trans F.keep)
theorem less(F:Fm s0 H Z L m s)(h:∀p∈Z',p∈Z):Fm s0 H Z' L m s:=⟨F.base,F.keep,F.noL,F.ns,fun p hp=>F.zs p (h p hp),F.gens,F.os⟩
theorem rest(F:Fm s0 H Z L m s):∀b o,H.get? b=some o→((ND s.heap Z).hide L).get? b=some o:=fun b o e=>
 (CJ _ (fun q=>noo q F.noL e)).trans ((NZ (fun p hp hm q=>by rw[←q,(F.zs p hp).2.2 hm]at e;exact nomatch e)).trans (F.keep _ _ e))
theorem rebase(F:Fm s0 H Z L m s):∃H',Ext H H'∧Fm s0 H' Z L m s∧∀b o,b≠L→(∀p∈Z,L3 p.2=true→p.1≠b)→s.heap.get? b=some o→H'.get? b=some o:=by
 refine (M1 ((ND s.heap Z).hide L) F.rest ⟨F.base.trans F.rest,fun b o e=>RH (FX e),Ef _ _,F.ns,fun p hp=>?_,F.gens,F.os⟩ (fun b o hb hz e=>(CJ _ hb).trans ((NZ hz).trans e)));refine xAA (F.zs p hp) fun a b _=>?_;exact (yAA a b (fun hm=>by rw[CJ _ b];exact RS hp hm))
theorem kp(F:Fm s0 H Z L m s)(K:Kp S s s')(hS:∀b,S b→∃o,H.get? b=some o∧L3 o=true)(h0:∀b,S b→c.H0.get? b=none):∃H',Fm s0 H' Z L m s'∧(∀b o,¬S b→H.get? b=some o→H'.get? b=some o)∧∀b o,b≠L→(∀p∈Z,L3 p.2=true→p.1≠b)→s'.heap.get? b=some o→H'.get? b=some o:=by
 have hL:¬S L:=fun h=>by refine xEA (hS _ h) fun o e _=>?_;exact nos F.noL e
 have zS:∀p∈Z,¬S p.1:=fun p hp h=>by
  refine xEA (hS _ h) fun o e hm=>?_;have e2:=F.keep _ _ e;rw[(F.zs p hp).1]at e2;obtain rfl:=Ag e2;rw[(F.zs p hp).2.2 hm]at e;exact nomatch e
 have up:∀b o,¬S b→H.get? b=some o→((ND s'.heap Z).hide L).get? b=some o:=fun b o n e=>
  (CJ _ (fun q=>noo q F.noL e)).trans ((NZ (fun p hp hm q=>by rw[←q,(F.zs p hp).2.2 hm]at e;exact nomatch e)).trans (K.keep _ _ n (F.keep _ _ e)))
 refine (M1 ((ND s'.heap Z).hide L) ⟨⟨F.base.ne,fun b o e=>up b o (fun q=>by exact nos (h0 b q) e) (F.base.ext _ _ e)⟩,fun b o e=>RH (FX e),Ef _ _,?_,fun p hp=>?_,K.gens.trans F.gens,K.os.trans F.os⟩ up (fun b o hb hz e=>(CJ _ hb).trans ((NZ hz).trans e)))
 ·refine T3 F.ns fun o es ep e r=>?_;exact (RZ o es ep (K.keep _ _ hL e) r)
 ·refine xAA (F.zs p hp) fun a b _=>?_;exact (yAA (K.keep _ _ (zS p hp) a) b (fun hm=>by rw[CJ _ b];exact RS hp hm))
theorem imm_apart(F:Fm s0 H Z L m s)(e:s.heap.get? b=some o)(hm:L3 o=false):b≠L∧∀p∈Z,L3 p.2=true→p.1≠b:=by
 refine⟨fun q=>?_,fun p hp hm' q=>?_⟩
 ·refine O1 F.ns fun o' es ep e' hd _=>?_;rw[←q,e]at e';obtain rfl:=Ag e';unfold L3 at hm;rw[hd]at hm;exact nomatch hm
 ·rw[←q,(F.zs p hp).1]at e;obtain rfl:=Ag e;rw[hm]at hm';exact nomatch hm'
end Fm
namespace Rm
variable{A:Aq}{d u d' u':Nat}
theorem mono(r:Rm A d u)(hd:d'≤d)(hu:u'≤u):Rm A d' u':=⟨by have:=r.d;exact aq187 this hd,by have:=r.u;exact aq188 this hu,r.h⟩
theorem deeper(r:Rm A (d+1) (u+3))(env:Env):Rm (A.deeper env) d u:=⟨by have:=r.d;show A.depth+1+d≤1000;exact o27 this,by have:=r.u;show A.units+3+u≤9900;exact aq258 this,r.h⟩
theorem room(r:Rm A (d+1) u):A.depth<recursionLimit:=by have:=r.d;show A.depth<1000;exact aq165 this
end Rm
noncomputable abbrev NoE:Value→A4→Prop:=fun _ _=>False
noncomputable abbrev W4:DB→Value | .ret v=>v | _=>.none
noncomputable abbrev rtK(Q:Value→A4→Prop):DB→A4→Prop:=fun f s=>Q (W4 f) s
section
variable{A:Aq}{s:A4}{E Q:Value→A4→Prop}{f:Addr}{args:List Value}{oc:Value}{od:Option Addr}{osl:Array (Option Value)}
 {name qual:A9} {params:Arguments} {body:List Stmt} {scope:GK} {cl:List (A9×Addr)} {dV kV doc pm cdv ct:Value} {an:Option Addr}
noncomputable def eX(q:A9)(sc:GK)(f:Addr)(cdv:Value)(cl:List (A9×Addr))(L:Addr):Env:=envX q sc L f cdv cl
noncomputable def eC(q:A9)(sc:GK)(f:Addr)(cdv:Value)(L:Addr):Env:=envOfC q sc L f cdv
theorem LG(hf:PM.lookup f=some ⟨oc,od,.func (fnX name qual params body scope cl dV kV doc pm an cdv ct),osl⟩)(rm:Rm A (d+1) (u+3))(B:Bs s.heap)(hbind:IU (fnX name qual params body scope cl dV kV doc pm an cdv ct) ⟨args,[]⟩=pure ((params.args.map (·.arg)).zip args))(hloc:∀y∈(params.args.map (·.arg)).zip args,scope.names.lookup y.1=some .local)(hcell:∀x∈scope.names,x.2≠.cell)(hco:scope.isCoroutine=false)(hgen:scope.isGenerator=false)(hk:scope.kind=.function)(h:∀A' L s1,Rm A' d u→Fm s s.heap [] L (fun y=>((params.args.map (·.arg)).zip args).reverse.lookup y) s1→
   A8 (MD c.w) A' (execs body (eX qual scope f cdv cl L)) (rtK Q) NoE s1):A8 (MD c.w) A (call (.ref f) args) Q E s:=by
 have X:=(cX B.ne).keeps B.ext;have T:=(cT B.ne).keeps B.ext;have ho:=Ud B.ne hf;have hcd:Iq c.K cdv qual=true:=Vm B.ne hf;refine Fh ?_;refine JG (fd:=fnX name qual params body scope cl dV kV doc pm an cdv ct) (body:=body) rm.room (X _ _ ho) rfl T.nolimit (codeRec_of X hcd) rfl (Ff hbind) hcell hloc (fun h₀ hns hk₀=>?_) hco hgen hk;refine Al (h _ s.heap.objs.size _ (rm.deeper _) ⟨B,hk₀,?_,hns,(fun _ h=>by exact absurd h Ah),rfl,rfl⟩) (fun fl s' hq=>?_) (fun _ _ x=>x.elim)
 ·exact Ky fun o e=>by exact absurd (AM e) (B3 _)
 ·induction fl<;>exact hq
theorem Mo(hf:PM.lookup f=some ⟨oc,od,.func (fnX name qual params body scope [] dV kV doc pm an cdv ct),osl⟩)(rm:Rm A (d+1) (u+3))(B:Bs s.heap)(hbind:IU (fnX name qual params body scope [] dV kV doc pm an cdv ct) ⟨args,[]⟩=pure ((params.args.map (·.arg)).zip args))(hkind:(((params.args.map (·.arg)).zip args).all fun y=>scope.names.lookup y.1 == some .local || scope.names.lookup y.1 == some .cell)=true)(hco:scope.isCoroutine=false)(hgen:scope.isGenerator=false)(hk:scope.kind=.function)(h:∀A' L H s1,Rm A' d u→Ext s.heap H→Fm s H [] L (bindL (eC qual scope f cdv L).kindOf ((params.args.map (·.arg)).zip args) fun _=>none) s1→
   (∀n a,(cellsFrom (L+1) scope.names []).lookup n=some a→H.IsCell a (bindC (eC qual scope f cdv L).kindOf ((params.args.map (·.arg)).zip args) (fun _=>none) n)∧s.heap.get? a=none)→
   A8 (MD c.w) A' (execs body (eC qual scope f cdv L)) (rtK Q) NoE s1):A8 (MD c.w) A (call (.ref f) args) Q E s:=by
 have X:=(cX B.ne).keeps B.ext;have T:=(cT B.ne).keeps B.ext;have ho:=Ud B.ne hf;have hcd:Iq c.K cdv qual=true:=Vm B.ne hf;refine Fh ?_;refine codeAny_call_function rm.room (X _ _ ho) rfl hco hgen rfl (codeRec_of X hcd) (Ff hbind _ _ _ _ ?_);refine wpAny_newFunctionEnv_cells hk (kindsX hkind _) fun env' he s' x=>?_;subst he;refine⟨T.nolimit.keeps x.toInCall.keep,codeAny_func ?_⟩;refine MG x.done ?_;rintro h₁ tk rfl _;have hk₁:=x.toInCall.keep
 have fresh:∀a,s.heap.objs.size≤a→s.heap.get? a=none:=fun a ha=>by
  exact Ky fun o e=>by exact absurd (AM e) (Ek.mpr ha)
 have k:Ext s.heap (h₁.hide s.heap.objs.size):=fun b o e=>(CJ _ (Az (AM e))).trans (hk₁ _ _ e);refine Al (h _ s.heap.objs.size (h₁.hide s.heap.objs.size) _ (rm.deeper _) k ⟨B.trans k,fun b o e=>FX e,Ef _ _,x.toInCall.ns,(fun _ h=>by exact absurd h Ah),rfl,rfl⟩ (fun n a e=>?_)) (fun fl s' hq=>?_) (fun _ _ x=>x.elim)
 ·have hL:=x.above n a (mem_of_lookup e);refine xEA (x.cell n a e) fun o ho' hd'=>?_;exact⟨(yEA o ((CJ _ (Cs hL)).trans ho') hd'),fresh a (B1 hL)⟩
 ·induction fl<;>exact hq
end
end
section
noncomputable def Lst(h:AE)(l:Addr)(vs:List Value):Prop:=∃n,IsL h l vs.toArray n
noncomputable def Tpl(h:AE)(l:Addr)(vs:List Value):Prop:=∃n,h.get? l=some {cls:=.type "tuple",dict:=none,data:=.seq vs.toArray n,slots:=#[]}
theorem Lst.ext(x:Lst h l vs)(e:Ext h h'):Lst h' l vs:=xE x fun n y=>⟨n,e _ _ y⟩
theorem Tpl.ext(x:Tpl h l vs)(e:Ext h h'):Tpl h' l vs:=xE x fun n y=>⟨n,e _ _ y⟩
theorem Lst.isList(x:Lst h l vs):h.IsList l vs.toArray:=xE x fun _ y=>y.isList
theorem Lst.plain(x:Lst h l vs):h.PlainList l vs.toArray:=xE x fun n y=>⟨n,y⟩
theorem Lst.of_plain(x:h.PlainList l a):Lst h l a.toList:=xE x fun n y=>⟨n,y⟩
theorem Tpl.isTup(x:Tpl h l vs):IsTup h l vs.toArray:=xE x fun n y=>(QB _ y rfl n rfl)
theorem Lst.new(h:AE)(vs:List Value):Lst (h.push {cls:=.type "list",data:=.seq vs.toArray}) h.objs.size vs:=⟨0,AB _ rfl⟩
theorem Tpl.new(h:AE)(vs:List Value):Tpl (h.push {cls:=.type "tuple",data:=.seq vs.toArray}) h.objs.size vs:=⟨0,AB _ rfl⟩
theorem KM(h:AE):h.get? h.objs.size=none:=by
 exact Ky fun o e=>by exact absurd (AM e) (B3 _)
noncomputable abbrev Ins(h:AE)(x C dx:Addr):Prop:=h.get? x=some (DX C dx)
noncomputable def Fld(h:AE)(dx:Addr)(mp:A9→Option Value)(k:Nat):Prop:=
 ∃es ep,h.get? dx=some {cls:=.type "dict",dict:=none,data:=.dict es ep,slots:=#[]}∧StrKeys es∧(∀n,nsFind es n=mp n)∧es.size≤k
theorem Fld.ext{mp k}(x:Fld h l mp k)(e:Ext h h'):Fld h' l mp k:=MG x fun es ep y z=>(Pi es ep (e _ _ y) z)
theorem Fld.look{mp k}(x:Fld h l mp k):∃od,h.get? l=some od∧∀n,lookIn n od=some (mp n):=by
 refine PY x ?_;clear x;intro es ep y z u _;refine (yEA _ y (fun n=>?_));rw[←u n];unfold lookIn nsFind findBy;dsimp only;rw[←Array.find?_toList]
 cases e:es.toList.find? (·.key.isStr n)with
 | some en=>rfl
 | none=>
  have:es.toList.any (·.refKey)=false:=by
   rw[List.any_eq_false];intro e' he;refine xEE (z e' (Array.mem_toList_iff.mp he)) fun n' t h'=>?_;simp[HP,h']
  rw[this];rfl
theorem Ins.at(I:Ins h x C dx)(D:h.get? dx=some od):InstAt h x (DX C dx) C (some od):=⟨I,rfl,rfl,D⟩
theorem Qv{K:IA}(hp:KD K C name=true)(hl:lookIn name od=some (some v)):findObj K C (some od) name=some (.value v):=by
 unfold KD at hp;simp only[Ce]at hp;refine xA hp ?_;clear hp;rintro⟨_,hh⟩ hn;refine xEA (any_some hh) fun cd hc hd=>?_;split at hn
 ·rename_i attr ha;unfold findObj;rw[hc,Cb,ha,Cb]
  cases attr with
  | none=>
   simp only[Cb];unfold W.ownOf;rw[if_pos hd];simp only[hl,Cb]
  | some a=>
   have hg:specialIn K a "__get__" = some none:=by unfold noGet at hn;simpa using hn
   simp only[hg,Cb];unfold W.ownOf;rw[if_pos hd];simp only[hl,Cb]
 ·exact nomatch hn
section
variable{A:Aq}{s0 s:A4}{H:AE}{Z:List (Addr×Obj)}{L:Addr}{m:A9→Option Value}{E:Value→A4→Prop}{env:Env}
theorem Kv(F:Fm s0 H Z L m s)(hv:m x=some v)(h:Q v s)(hk:autoParam (env.scope.kind=.function) au1._auto_1)(hl:autoParam (env.kindOf x=some .local) au1._auto_1)(hL:autoParam (env.locals=L) au1._auto_1)(hd:autoParam ((x == ("__debug__" : A9))=false) au1._auto_1):A8 (MD c.w) A (AJ (.Name x pos) env) Q E s:=wpAny_Name (IM hk hl (hL▸F.ns) hv h) hd
theorem Ln(F:Fm s0 H Z L m s)(hv:H.IsCell a (some v))(h:Q v s)(hk:autoParam (env.scope.kind=.function) au1._auto_1)(hl:autoParam (env.kindOf x=some .cell) au1._auto_1)(hc:autoParam (env.cells.lookup x=some a) au1._auto_1)(hd:autoParam ((x == ("__debug__" : A9))=false) au1._auto_1):A8 (MD c.w) A (AJ (.Name x pos) env) Q E s:=wpAny_Name (wpAny_loadName_cell hk hl hc (hv.keeps F.keep) h) hd
theorem Yy(F:Fm s0 H Z L m s)(e:NE→Dl c.K AO x=some (some v))(h:Q v s)(hk:autoParam (env.scope.kind=.function) au1._auto_1)(hl:autoParam (env.kindOf x=some .globalImplicit) au1._auto_1)(hL:autoParam (env.globals=AO) au1._auto_1)(hd:autoParam ((x == ("__debug__" : A9))=false) au1._auto_1):A8 (MD c.w) A (AJ (.Name x pos) env) Q E s:=
 IY hk hl (loadGlobal_global (by rw[hL];exact F.T.g) (mg_of F.X F.T.g (e F.base.ne)) h) hd
theorem YU(F:Fm s0 H Z L m s)(e:NE→Dl c.K AO x=some none)(hv:GI x=some v)(hn:x≠"__name__")(h:Q v s)(hk:autoParam (env.scope.kind=.function) au1._auto_1)(hl:autoParam (env.kindOf x=some .globalImplicit) au1._auto_1)(hL:autoParam (env.globals=AO) au1._auto_1)(hB:autoParam (env.builtins=Jj) au1._auto_1)(hd:autoParam ((x == ("__debug__" : A9))=false) au1._auto_1):A8 (MD c.w) A (AJ (.Name x pos) env) Q E s:=
 IY hk hl (Je (by rw[hL];exact F.T.g) (mg_none_of F.X F.T.g (e F.base.ne)) (by rw[hB];exact F.T.b) ((F.T.builtins x hn).trans hv) h) hd
theorem ga(F:Fm s0 H Z L m s)(I:Ins H a C dx)(D:Fld H dx mp k)(hp:mp attr=some v)(hK:NE→KD c.K C attr=true)(hh:IS v=true)(h:∀s',Pu s s'→Fm s0 H Z L m s'→Q v s'):A8 (MD c.w) A (Ip (.ref a) attr ex) Q E s:=by
 refine xEA ((D.ext F.keep).look) fun od hd hl=>?_;have hK:=hK F.base.ne;have hK':=hK;unfold KD at hK;simp only[Ce]at hK;exact get_value F.X (Ins.at (F.keep _ _ I) hd) (IR hK.1.1).1 (Qv hK' ((hl attr).trans (by rw[hp]))) hh (h _ (Pu.tok s _) (F.tok _))
theorem RX(h:A8 (MD c.w) A (AJ e env) (fun o s₁=>A8 (MD c.w) A (Ip o attr true) Q E s₁) E s)(he:autoParam (AJ (.Attribute e attr pos) env=(do let o ←AJ e env;Em pos.atName;let r ←Di [o] (Ip o attr true);HC e o r;pure r)) au1._auto_1):A8 (MD c.w) A (AJ (.Attribute e attr pos) env) Q E s:=HQ h he
theorem L9(F:Fm s0 H Z L m s)(hv:m x=some (.ref a))(I:Ins H a C dx)(D:Fld H dx mp k)(hp:mp attr=some v)(hK:NE→KD c.K C attr=true)(hh:IS v=true)(h:∀s',Pu s s'→Fm s0 H Z L m s'→Q v s')(hk:autoParam (env.scope.kind=.function) au1._auto_1)(hl:autoParam (env.kindOf x=some .local) au1._auto_1)(hL:autoParam (env.locals=L) au1._auto_1)(hd:autoParam ((x == ("__debug__" : A9))=false) au1._auto_1)(he:autoParam (AJ (.Attribute (.Name x p1) attr p2) env=(do let o ←AJ (.Name x p1) env;Em p2.atName;let r ←Di [o] (Ip o attr true);HC (.Name x p1) o r;pure r)) au1._auto_1):A8 (MD c.w) A (AJ (.Attribute (.Name x p1) attr p2) env) Q E s:=
 HQ (Kv F hv (ga F I D hp hK hh h) hk hl hL hd) he
theorem NH(F:Fm s0 H Z L m s)(hv:H.IsCell q (some (.ref a)))(I:Ins H a C dx)(D:Fld H dx mp k)(hp:mp attr=some v)(hK:NE→KD c.K C attr=true)(hh:IS v=true)(h:∀s',Pu s s'→Fm s0 H Z L m s'→Q v s')(hk:autoParam (env.scope.kind=.function) au1._auto_1)(hl:autoParam (env.kindOf x=some .cell) au1._auto_1)(hc:autoParam (env.cells.lookup x=some q) au1._auto_1)(hd:autoParam ((x == ("__debug__" : A9))=false) au1._auto_1)(he:autoParam (AJ (.Attribute (.Name x p1) attr p2) env=(do let o ←AJ (.Name x p1) env;Em p2.atName;let r ←Di [o] (Ip o attr true);HC (.Name x p1) o r;pure r)) au1._auto_1):A8 (MD c.w) A (AJ (.Attribute (.Name x p1) attr p2) env) Q E s:=
 HQ (Ln F hv (ga F I D hp hK hh h) hk hl hc hd) he
theorem gm{pl:Sem Bool}(F:Fm s0 H Z L m s)(I:Ins H a C dx)(D:Fld H dx mp k)(hp:mp name=none)(hK:NE→KE c.K C name f=true)(h:Q (.ref f,[.ref a]) s):A8 (MD c.w) A (C3 (.ref a) name pl) Q E s:=by
 refine xEA ((D.ext F.keep).look) fun od hd hl=>?_;have hK:=hK F.base.ne;unfold KE at hK;simp only[Ce,beq_iff_eq]at hK;refine xA hK ?_;clear hK;rintro⟨⟨h1,h2⟩,h3⟩ _;exact method_fn F.X (Ins.at (F.keep _ _ I) hd) (IR h1).1 (IR h1).2 h2 (beq_iff_eq.mp h3) (by show (lookIn name od).map _=_;rw[hl,hp];rfl) h
theorem cw(ne:NE)(hK:NE→KE c.K C name f=true)(h:A8 (MD c.w) A (EH (BO pos (AG (e::rest) env))) (fun vs s₁=>c.K.In s₁.heap∧A8 (MD c.w) A (call (.ref f) (a::vs)) Q E s₁) E s)(he:autoParam (AG (e::rest) env=(false,AJ e env)::AG rest env) au1._auto_1)(hplain:autoParam ((BO pos (AG rest env)).any (·.1)=false) au1._auto_1):A8 (MD c.w) A (Cg pos (.ref f) [a] (BO pos (AG (e::rest) env)) []) Q E s:=by
 have hK:=hK ne;unfold KE at hK;simp only[Ce,beq_iff_eq]at hK;exact callWith_K (first:=[a]) (cX ne) hK.2 h he hplain
theorem cw0(F:Fm s0 H Z L m s)(hK:NE→KE c.K C name f=true)(h:A8 (MD c.w) A (call (.ref f) [a]) Q E s):A8 (MD c.w) A (Cg pos (.ref f) [a] (BO pos (AG [] env)) []) Q E s:=by
 have hK:=hK F.base.ne;unfold KE at hK;simp only[Ce,beq_iff_eq]at hK;exact callWith_K0 (first:=[a]) F.X hK.2 h
noncomputable def upd(m:A9→Option Value)(x:A9)(v:Value):A9→Option Value:=fun y=>if y=x then some v else m y
theorem L4{Q:Unit→A4→Prop}(F:Fm s0 H Z L m s)(h:∀s',Fm s0 H Z L (upd m x v) s'→Q () s')(hk:autoParam (env.scope.kind=.function) au1._auto_1)(hl:autoParam (env.kindOf x=some .local) au1._auto_1)(hL:autoParam (env.locals=L) au1._auto_1):A8 (MD c.w) A (Cq env x v) Q E s:=by
 subst hL;exact wpAny_storeName_local hl F.ns (fun h' hn hs=>h _ (F.st hn hs)) (by rw[hk];rfl)
end
end
section
section
variable{α β γ:Type}{R:α→β→Prop}
noncomputable def KJ(R:α→β→Prop)(xs:List α)(ys:List β):Prop:=xs.length=ys.length∧∀(i:Nat) (x:α) (y:β),xs[i]?=some x→ys[i]?=some y→R x y
theorem KJ.nil:KJ R [] []:=⟨rfl,fun i x y h=>by trivial⟩
theorem KJ.cons{x:α}{y:β}(h:R x y)(t:KJ R xs ys):KJ R (x::xs) (y::ys):=
 ⟨by simp[t.1],fun i a b ha hb=>by
  induction i with
  | zero=>simp at ha hb;subst ha hb;exact h
  | succ i=>simp at ha hb;exact t.2 i a b ha hb⟩
theorem KJ.get{xs:List α}{ys:List β}(h:KJ R xs ys){i:Nat}{y:β}(e:ys[i]?=some y):∃x,xs[i]?=some x∧R x y:=by
 have hi:i<xs.length:=by rw[h.1];exact (Af.mp e).1
 exact (yEA (xs[i]) (A7 hi) (h.2 i _ y (A7 hi) e))
theorem KJ.get'{xs:List α}{ys:List β}(h:KJ R xs ys){i:Nat}{x:α}(e:xs[i]?=some x):∃y,ys[i]?=some y∧R x y:=by
 have hi:i<ys.length:=by rw[←h.1];exact (Af.mp e).1
 exact (yEA (ys[i]) (A7 hi) (h.2 i x _ e (A7 hi)))
theorem KJ.uncons{x:α}(h:KJ R (x::xs) ys):∃y ys',ys=y::ys'∧R x y∧KJ R xs ys':=by
 induction ys with
 | nil=>have:=h.1;trivial
 | cons y ys'=>exact (Pj y ys' rfl (h.2 0 x y rfl rfl) (by have:=h.1;simpa using this) (fun i a b ha hb=>h.2 (i+1) a b ‹_› ‹_›))
theorem KJ.uncons'{y:β}(h:KJ R xs (y::ys)):∃x xs',xs=x::xs'∧R x y∧KJ R xs' ys:=by
 induction xs with
 | nil=>have:=h.1;trivial
 | cons x xs'=>refine LR h.uncons fun _ _ e r t=>?_;cases e;exact (MN x xs' rfl r t)
theorem KJ.unc{x:α}{xs:List α}{ys:List β}(h:KJ R (x::xs) ys){G:Prop}(k:∀y ys',ys=y::ys'→R x y→KJ R xs ys'→G):G:=LR h.uncons k
theorem KJ.unc'{y:β}{xs:List α}{ys:List β}(h:KJ R xs (y::ys)){G:Prop}(k:∀x xs',xs=x::xs'→R x y→KJ R xs' ys→G):G:=LR h.uncons' k
theorem KJ.append{xs xs':List α}{ys ys':List β}(h:KJ R xs ys)(h':KJ R xs' ys'):KJ R (xs++xs') (ys++ys'):=by
 induction xs generalizing ys with
 | nil=>
  induction ys with
  | nil=>exact h'
  | cons y ys=>have:=h.1;contradiction
 | cons x xs ih=>refine h.unc ?_;rintro y ys₁ rfl r t;exact KJ.cons r (ih t)
theorem KJ.snoc{x:α}{y:β}(h:KJ R xs ys)(r:R x y):KJ R (xs++[x]) (ys++[y]):=h.append (KJ.cons r KJ.nil)
theorem KJ.take(h:KJ R xs ys)(n:Nat):KJ R (xs.take n) (ys.take n):=
 ⟨by simp[h.1],fun i a b ha hb=>by
  rw[CY]at ha hb;split at ha<;>simp_all;exact h.2 i a b ha hb⟩
theorem KJ.drop(h:KJ R xs ys)(n:Nat):KJ R (xs.drop n) (ys.drop n):=
 ⟨by simp[h.1],fun i a b ha hb=>by rw[Ee]at ha hb;exact h.2 _ a b ha hb⟩
theorem KJ.set(h:KJ R xs ys)(n:Nat){x:α}{y:β}(r:R x y):KJ R (xs.set n x) (ys.set n y):=
 ⟨by simp[h.1],fun i a b ha hb=>by
  rw[BU]at ha hb;have:=h.1
  by_cases hn:n=i
  ·subst hn;simp at ha hb;refine xA ha ?_;clear ha;rintro _ rfl;refine xA hb ?_;clear hb;rintro _ rfl;exact r
  ·simp[hn]at ha hb;exact h.2 i a b ha hb⟩
theorem KJ.mono(h:KJ R xs ys)(k:∀x y,R x y→R' x y):KJ R' xs ys:=⟨h.1,fun i x y a b=>k _ _ (h.2 i x y a b)⟩
theorem KJ.last{y:β}(h:KJ R xs (ys++[y])):∃xs' x,xs=xs'++[x]∧KJ R xs' ys∧R x y:=by
 have hl:=h.1;rcases EU xs with rfl | ⟨xs',x,rfl⟩
 ·simp at hl
 ·simp only[Au,BN,Gy,EV]at hl h ⊢;have hl':xs'.length=ys.length:=by lia
  refine (MN xs' x rfl ⟨hl',fun i a b ha hb=>h.2 i a b ?_ ?_⟩ (h.2 xs'.length x y (by simp) (by rw[hl'];simp)))
  ·rw[Ar (Af.mp ha).1];exact ha
  ·rw[Ar (Af.mp hb).1];exact hb
end
noncomputable def MK(v:Value)(n:Nat):Prop:=∃t,v=.int n t
noncomputable abbrev LH(vs:List Value)(ns:List Nat):Prop:=KJ MK vs ns
section
variable{A:Aq}{s0 s:A4}{H:AE}{Z:List (Addr×Obj)}{L:Addr}{m:A9→Option Value}{E:Value→A4→Prop}{env:Env}
noncomputable abbrev exK{α:Type}(rest:List Stmt)(E:Value→A4→Prop)(Q:DB→A4→Prop)(env:Env)(A:Aq):α→A4→Prop:=fun _ s=>A8 (MD c.w) A (execs rest env) Q E s
noncomputable abbrev stK{α:Type}(x:A9)(E:Value→A4→Prop)(Q:Unit→A4→Prop)(env:Env)(A:Aq)(v:Value):α→A4→Prop:=fun _ s=>A8 (MD c.w) A (Cq env x v) Q E s
noncomputable abbrev asK(x:A9)(rest:List Stmt)(E:Value→A4→Prop)(Q:DB→A4→Prop)(env:Env)(A:Aq):Value→A4→Prop:=fun v s=>A8 (MD c.w) A (Cq env x v) (exK rest E Q env A) E s
noncomputable abbrev Z5(Q:DB→A4→Prop):Value→A4→Prop:=fun v s=>Q (.ret v) s
noncomputable abbrev sqK(P:A4→Prop):DB→A4→Prop:=fun f s=>f=.next∧P s
noncomputable abbrev evK{α:Type}(e:DL)(E:Value→A4→Prop)(Q:α→Value→A4→Prop)(env:Env)(A:Aq):α→A4→Prop:=fun v s=>A8 (MD c.w) A (AJ e env) (Q v) E s
noncomputable abbrev sbK(value:DL)(slice:DL)(E:Value→A4→Prop)(Q:Value→A4→Prop)(A:Aq)(o:Value):Value→A4→Prop:=fun i s=>A8 (MD c.w) A (BQ value slice o i) Q E s
noncomputable abbrev trK(E:Value→A4→Prop)(Q:Bool→A4→Prop)(A:Aq):Value→A4→Prop:=fun v s=>A8 (MD c.w) A (truthy v) Q E s
noncomputable abbrev cmK(op:CmpOp)(E:Value→A4→Prop)(Q:Value→A4→Prop)(A:Aq)(a:Value):Value→A4→Prop:=fun b s=>A8 (MD c.w) A (CB op a b) Q E s
noncomputable abbrev boK(op:Operator)(E:Value→A4→Prop)(Q:Value→A4→Prop)(A:Aq)(a:Value):Value→A4→Prop:=fun b s=>A8 (MD c.w) A (GJ op a b) Q E s
noncomputable abbrev Z8(x:DL)(y:DL)(E:Value→A4→Prop)(Q:Value→A4→Prop)(env:Env)(A:Aq):Bool→A4→Prop:=fun b s=>if b then A8 (MD c.w) A (AJ x env) Q E s else A8 (MD c.w) A (AJ y env) Q E s
noncomputable abbrev lsK(f:List Value→Sem Value)(A:Aq)(Q:Value→A4→Prop)(E:Value→A4→Prop):List Value→A4→Prop:=fun vs s=>A8 (MD c.w) A (f vs) Q E s
noncomputable abbrev ls1(Q:List Value→A4→Prop):Value→A4→Prop:=fun v s=>Q [v] s
noncomputable abbrev ls2(Q:List Value→A4→Prop)(v:Value):Value→A4→Prop:=fun v2 s=>Q [v,v2] s
noncomputable abbrev ls3(Q:List Value→A4→Prop)(v v2:Value):Value→A4→Prop:=fun v3 s=>Q [v,v2,v3] s
noncomputable abbrev caK(E:Value→A4→Prop)(Q:Value→A4→Prop)(A:Aq)(f:Value):List Value→A4→Prop:=fun vs s=>A8 (MD c.w) A (call f vs) Q E s
noncomputable abbrev cwK(pos:Pos)(args:List DL)(E:Value→A4→Prop)(Q:Value→A4→Prop)(env:Env)(A:Aq):Value×List Value→A4→Prop:=fun fx s=>A8 (MD c.w) A (Cg pos fx.1 fx.2 (BO pos (AG args env)) []) Q E s
noncomputable abbrev mtK(o:DL)(name:A9)(pos:Pos)(args:List DL)(E:Value→A4→Prop)(Q:Value→A4→Prop)(env:Env)(A:Aq):Value→A4→Prop:=fun ov s=>A8 (MD c.w) A (C3 ov name (do return (←BY o env).getD true)) (cwK pos args E Q env A) E s
theorem KI(hl:Lst s.heap l vs)(h0:0≤k)(hhi:k<2^63)(hx:vs[k.toNat]?=some v)(h:Q v s)(hs:autoParam (Cn slice false (.ref l) (.int k u)=DW [.ref l,.int k u] (Cr (.ref l) (.int k u))) au3._auto_1):A8 (MD c.w) A (BQ value slice (.ref l) (.int k u)) Q E s:=
 Dq hl.isList.typeIs slot_list_getitem.lookup (wpAny_getItem_list hl.isList h0 hhi (by simpa using hx) h) hs
noncomputable def nx(rest:List Stmt)(E:Value→A4→Prop)(Q:DB→A4→Prop)(env:Env)(A:Aq)(f:DB)(s:A4):Prop:=
 match f with | .next=>A8 (MD c.w) A (execs rest env) Q E s | f=>Q f s
section
variable{Q:DB→A4→Prop}{rest:List Stmt}
theorem Kw(h:A8 (MD c.w) A (execs rest env) Q E s):nx rest E Q env A .next s:=h
theorem Kt(h:Q .next s):A8 (MD c.w) A (execs [] env) Q E s:=Fu h
theorem LW{st:Stmt}(h:A8 (MD c.w) A (exec st env) (nx rest E Q env A) E s):A8 (MD c.w) A (execs (st::rest) env) Q E s:=
 Jz (Al h (fun f s' h'=>by induction f<;>exact h') fun _ _ x=>x)
theorem Nl{st:Stmt}{P:A4→Prop}(h:A8 (MD c.w) A (exec st env) (sqK P) E s)(k:∀s',P s'→A8 (MD c.w) A (execs rest env) Q E s'):A8 (MD c.w) A (execs (st::rest) env) Q E s:=
 Jz (Al h (fun f s' h'=>by refine xA h' ?_;clear h';rintro rfl h';exact k s' h') fun _ _ x=>x)
theorem Lw(h:A8 (MD c.w) A (AJ value env) (asK x rest E Q env A) E s)(hs:autoParam (Ep value (some (.Name x p)) pos.line env=pure false) au1._auto_1):A8 (MD c.w) A (execs (.Assign [.Name x p] value pos::rest) env) Q E s:=
 LW (wpAny_Assign_Name h hs)
theorem KS(h:A8 (MD c.w) A (AJ e env) (Z5 Q) E s):A8 (MD c.w) A (execs (.Return (some e) pos::rest) env) Q E s:=
 LW (wpAny_Return_some h)
noncomputable abbrev ifK(body:List Stmt)(orelse:List Stmt)(rest:List Stmt)(E:Value→A4→Prop)(Q:DB→A4→Prop)(env:Env)(A:Aq):Bool→A4→Prop:=fun b s=>if b then A8 (MD c.w) A (execs body env) (nx rest E Q env A) E s else A8 (MD c.w) A (execs orelse env) (nx rest E Q env A) E s
theorem L7(h:A8 (MD c.w) A (EO test env (AJ test env)) (ifK body orelse rest E Q env A) E s):A8 (MD c.w) A (execs (.If test body orelse pos::rest) env) Q E s:=LW (IP h)
end
inductive WhT(I:Nat→A4→Prop)(n:Nat)(f:DB)(s:A4):Prop
 | mk(e:f=.next)(m:Nat)(h:m<n)(i:I m s)
noncomputable abbrev whK(body:List Stmt)(env:Env)(A:Aq)(I:Nat→A4→Prop)(n:Nat)(P:A4→Prop):Bool→A4→Prop:=fun b s=>
 if b then A8 (MD c.w) A (execs body env) (WhT I n) NoE s else P s
theorem OK(I:Nat→A4→Prop)(turn:∀n s,I n s→A8 (MD c.w) A (EO test env (AJ test env)) (whK body env A I n P) NoE s)(n:Nat)(h:I n s):A8 (MD c.w) A (exec (.While test body [] pos) env) (sqK P) E s:=by
 refine wpAny_While ?_;refine (codeAny_whileLoop I (fun n s hI=>?_) n h);refine Al (turn n s hI) (fun b s₂ h₂=>?_) (fun _ _ x=>x.elim)
 induction b with
 | false=>exact Fu ⟨rfl,h₂⟩
 | true=>exact Al h₂ (fun f s₃ h₃=>by obtain⟨rfl,m,h,i⟩:=h₃;exact (yEA m h i)) (fun _ _ x=>x.elim)
section
variable{Qb:Bool→A4→Prop}{Q:Value→A4→Prop}
theorem Subscript_(h:A8 (MD c.w) A (AJ value env) (evK slice E (sbK value slice E Q A) env A) E s):A8 (MD c.w) A (AJ (.Subscript value slice pos) env) Q E s:=Kc h
theorem wpAny_isTrue_Compare1{op:CmpOp}{whole:Sem Value}(h:A8 (MD c.w) A (AJ l env) (evK r E (cmK op E (trK E Qb A) A) env A) E s)(hm:autoParam (behindInMarks op r=false) au3._auto_1):A8 (MD c.w) A (EO (.Compare l [op] [r] pos) env whole) Qb E s:=PySem.wpAny_isTrue_Compare1 h hm
theorem wpAny_isTrue_value{whole:Sem Value}(h:A8 (MD c.w) A whole (trK E Qb A) E s)(he:autoParam (EO e env whole=(do let v ←whole;Em e.pos;Di [v] (truthy v))) au1._auto_1):A8 (MD c.w) A (EO e env whole) Qb E s:=PySem.wpAny_isTrue_value h he
theorem IfExp_(h:A8 (MD c.w) A (EO test env (AJ test env)) (Z8 body orelse E Q env A) E s):A8 (MD c.w) A (AJ (.IfExp test body orelse pos) env) Q E s:=Kd h
end
theorem KC{b:Bool}{P Q:Prop}(hb:b=true)(h:P):if b=true then P else Q:=by rw[if_pos hb];exact h
theorem Ks{b:Bool}{P Q:Prop}(hb:b=false)(h:Q):if b=true then P else Q:=by rw[hb,if_neg Cz];exact h
end
end
section
noncomputable abbrev Mt(l:Addr)(s s':A4):Prop:=Kp (fun b=>b=l) s s'
theorem Mt.mk'(e:BZ l s.heap h):Mt l s {s with heap:=h,toks:=t}:=⟨fun b o hb q=>(e.2 b hb).trans q,rfl,rfl⟩
theorem Mt.up:Mt l s {s with heap:=s.heap.update l f}:=Mt.mk' (Ba ..)
noncomputable def But(l:Addr)(H H':AE):Prop:=∀b o,b≠l→H.get? b=some o→H'.get? b=some o
section
variable{A:Aq}{s0 s s':A4}{H:AE}{Z:List (Addr×Obj)}{L:Addr}{m:A9→Option Value}{E:Value→A4→Prop}{env:Env}
theorem Fm.mt(F:Fm s0 H Z L m s)(M:Mt l s s')(hl:H.get? l=some o)(hm:L3 o=true)(h0:c.H0.get? l=none):∃H',Fm s0 H' Z L m s'∧But l H H'∧∀b o,b≠L→(∀p∈Z,L3 p.2=true→p.1≠b)→s'.heap.get? b=some o→H'.get? b=some o:=
 F.kp M (fun b q=>(yEA o (q▸hl) hm)) fun b q=>q▸h0
theorem Fm.apart(F:Fm s0 H Z L m s)(e:s.heap.get? b=none):H.get? b=none∧b≠L∧∀z∈Z,z.1≠b:=by
 refine (yAA ?_ (fun q=>?_) (fun z hz q=>?_))
 ·cases e':H.get? b with
  | none=>rfl
  | some o=>rw[F.keep _ _ e']at e;exact nomatch e
 ·refine T3 F.ns fun o _ _ e' _=>?_;exact nop q e' e
 ·rw[←q,(F.zs z hz).1]at e;exact nomatch e
theorem Fm.take(F:Fm s0 H Z L m s)(p:Pu s s'):∃H',Ext H H'∧Fm s0 H' Z L m s'∧(∀b o,s.heap.get? b=none→s'.heap.get? b=some o→H'.get? b=some o)∧(∀b o,L3 o=false→s'.heap.get? b=some o→H'.get? b=some o):=by
 have F':=F.pu p;refine LY F'.rebase fun H' k F'' k'=>?_;refine (NT H' k F'' (fun b o hn e=>?_) (fun b o hm e=>?_))
 ·refine xAA (F.apart hn) fun _ hL hZ=>?_;exact k' b o hL (fun z hz _=>hZ z hz) e
 ·refine xA (F'.imm_apart e hm) fun hL hZ=>?_;exact k' b o hL hZ e
theorem Fm.takeK(F:Fm s0 H Z L m s)(p:Pu s s'){G:Prop}(k:∀H',Ext H H'→Fm s0 H' Z L m s'→(∀b o,s.heap.get? b=none→s'.heap.get? b=some o→H'.get? b=some o)→(∀b o,L3 o=false→s'.heap.get? b=some o→H'.get? b=some o)→G):G:=LZ (F.take p) k
theorem LA(F:Fm s0 H Z L m s)(hz:vs.length≤16000)(h:∀s' a,Pu s s'→Fm s0 H Z L m s'→Lst s'.heap a vs→s.heap.get? a=none→Q (.ref a) s'):A8 (MD c.w) A (Fk vs) Q E s:=
 Bw (h _ _ (Pu.push _ _) (F.pu (Pu.push _ _)) (Lst.new _ _) (KM _)) (by show vs.toArray.size≤sizeLine;rw[Ay,AT];exact n1 hz)
theorem KA(F:Fm s0 H Z L m s)(hz:vs.length≤16000)(h:∀s' a,Pu s s'→Fm s0 H Z L m s'→Tpl s'.heap a vs→s.heap.get? a=none→Q (.ref a) s'):A8 (MD c.w) A (FP vs) Q E s:=
 Bw (h _ _ (Pu.push _ _) (F.pu (Pu.push _ _)) (Tpl.new _ _) (KM _)) (by show vs.toArray.size≤sizeLine;rw[Ay,AT];exact n1 hz)
theorem Qp(F:Fm s0 H Z L m s)(h:∀s' a,Pu s s'→Fm s0 H Z L m s'→Lst s'.heap a []→s.heap.get? a=none→Q (.ref a) s'):A8 (MD c.w) A (AJ (.List [] pos) env) Q E s:=List_ (BR (LA F (by simp) h))
theorem sp1(h:A8 (MD c.w) A (AJ e env) (ls1 Q) E s)(he:autoParam (AG [e] env=[(false,AJ e env)]) au1._auto_1):A8 (MD c.w) A (EH (BO pos (AG [e] env))) Q E s:=by
 rw[he];exact AK (Al h (fun _ _ h'=>BR h') fun _ _ x=>x)
theorem sp2(h:A8 (MD c.w) A (AJ e env) (evK e2 E (ls2 Q) env A) E s)(he:autoParam (AG [e,e2] env=[(false,AJ e env),(false,AJ e2 env)]) au1._auto_1):A8 (MD c.w) A (EH (BO pos (AG [e,e2] env))) Q E s:=by
 rw[he];exact AK (Al h (fun _ _ h'=>AK (Al h' (fun _ _ h''=>BR h'') fun _ _ x=>x)) fun _ _ x=>x)
theorem sp3(h:A8 (MD c.w) A (AJ e env) (evK e2 E (fun v=>evK e3 E (ls3 Q v) env A) env A) E s)(he:autoParam (AG [e,e2,e3] env=[(false,AJ e env),(false,AJ e2 env),(false,AJ e3 env)]) au1._auto_1):A8 (MD c.w) A (EH (BO pos (AG [e,e2,e3] env))) Q E s:=by
 rw[he];exact AK (Al h (fun _ _ h'=>AK (Al h' (fun _ _ h''=>AK (Al h'' (fun _ _ h3=>BR h3) fun _ _ x=>x)) fun _ _ x=>x)) fun _ _ x=>x)
theorem KN{id:String}(F:Fm s0 H Z L m s)(e:NE→Dl c.K AO x=some none)(hv:GI x=some (.builtin id))(hn:x≠"__name__")(h:A8 (MD c.w) A (EH (BO pos (AG (e1::rest) env))) (caK E Q A (.builtin id)) E s)(hk:autoParam (env.scope.kind=.function) au1._auto_1)(hl:autoParam (env.kindOf x=some .globalImplicit) au1._auto_1)(hL:autoParam (env.globals=AO) au1._auto_1)(hB:autoParam (env.builtins=Jj) au1._auto_1)(hd:autoParam ((x == ("__debug__" : A9))=false) au1._auto_1)(he:autoParam (AG (e1::rest) env=(false,AJ e1 env)::AG rest env) au1._auto_1)(hplain:autoParam ((BO pos (AG rest env)).any (·.1)=false) au1._auto_1):A8 (MD c.w) A (AJ (.Call (.Name x p) (e1::rest) [] pos) env) Q E s:=
 JR rfl (YU F e hv hn (callWith_builtin1 h he hplain) hk hl hL hB hd)
theorem LB{T:String}(F:Fm s0 H Z L m s)(e:NE→Dl c.K AO x=some none)(hv:GI x=some (.type T))(hn:x≠"__name__")(h:A8 (MD c.w) A (EH (BO pos (AG (e1::rest) env))) (caK E Q A (.type T)) E s)(hk:autoParam (env.scope.kind=.function) au1._auto_1)(hl:autoParam (env.kindOf x=some .globalImplicit) au1._auto_1)(hL:autoParam (env.globals=AO) au1._auto_1)(hB:autoParam (env.builtins=Jj) au1._auto_1)(hd:autoParam ((x == ("__debug__" : A9))=false) au1._auto_1)(he:autoParam (AG (e1::rest) env=(false,AJ e1 env)::AG rest env) au1._auto_1)(hplain:autoParam ((BO pos (AG rest env)).any (·.1)=false) au1._auto_1):A8 (MD c.w) A (AJ (.Call (.Name x p) (e1::rest) [] pos) env) Q E s:=
 JR rfl (YU F e hv hn (Ka h he hplain) hk hl hL hB hd)
theorem Lj(F:Fm s0 H Z L m s)(hl:Lst s.heap l vs)(hz:vs.length≤16000)(h:∀s' t,Pu s s'→Fm s0 H Z L m s'→Q (.int (vs.length:Nat) t) s'):A8 (MD c.w) A (call (.builtin "len") [.ref l]) Q E s:=
 K4 hl.isList (by rw[Ay];exact n16 hz) (by rw[Ay];exact h _ _ (Pu.tok _ _) (F.tok _))
theorem La(h:A8 (MD c.w) A (AJ o env) (mtK o name pos args E Q env A) E s)(he:autoParam (AJ (.Call (.Attribute o name apos) args [] pos) env=(do let ov ←AJ o env;Em apos.atName;let (f,first) ←Di [ov] (C3 ov name (do return (←BY o env).getD true));Cg pos f first (BO pos (AG args env)) [])) au1._auto_1):A8 (MD c.w) A (AJ (.Call (.Attribute o name apos) args [] pos) env) Q E s:=MethodCall_ h he
theorem Wj{id:String}{pl:Sem Bool}(slot:Slot "list" name id)(hty:typeOf (.builtin id)=pure (.type "method_descriptor"))(hl:Lst s.heap l vs)(h:Q (.builtin id,[.ref l]) s):A8 (MD c.w) A (C3 (.ref l) name pl) Q E s:=
 getMethod_list_of slot hty hl.isList (by refine xE hl ?_;clear hl;intro n hl;exact (yEA _ hl rfl)) h
inductive ApK(l:Addr)(Q:Value→A4→Prop)(v:Value)(s:A4):Prop
 | mk(vs:List Value)(hl:Lst s.heap l vs)(hz:vs.length≤16000)(k:∀s',Mt l s s'→Lst s'.heap l (vs++[v])→Q .none s')
inductive XtK(l:Addr)(Q:Value→A4→Prop)(v:Value)(s:A4):Prop
 | mk(b:Addr)(vs us:List Value)(e:v=.ref b)(hl:Lst s.heap l vs)(hb:Lst s.heap b us)(hz:vs.length+us.length≤16000)(k:∀s',Mt l s s'→Lst s'.heap l (vs++us)→Q .none s')
theorem Rq(hl:Lst s.heap l vs)(h:A8 (MD c.w) A (AJ e env) (ApK l Q) E s)(he:autoParam (AG [e] env=[(false,AJ e env)]) au1._auto_1):A8 (MD c.w) A (C3 (.ref l) (Bc "append") (do return (←BY o env).getD true)) (cwK pos [e] E Q env A) E s:=by
 refine Wj F.slot_list_append F.type_list_append hl ?_;show A8 (MD c.w) A (Cg pos (.builtin "list.append") [.ref l] (BO pos (AG [e] env)) []) Q E s;rw[he];refine P.append_list (Al h (fun v s₁ h₁=>?_) fun _ _ x=>x);obtain⟨vs,⟨n,hl⟩,hz,hq⟩:=h₁;have q:=hl.update (fun xs=>xs.push v);rw[show vs.toArray.push v=(vs++[v]).toArray by simp]at q;exact (MN vs.toArray n (by rw[Ay,AT];exact n1 hz) hl (hq _ Mt.up ⟨_,q⟩))
theorem SY(hl:Lst s.heap l (vs++[v]))(hz:vs.length≤16000)(h:∀s',Mt l s s'→Lst s'.heap l vs→Q v s'):A8 (MD c.w) A (C3 (.ref l) (Bc "pop") (do return (←BY o env).getD true)) (cwK pos [] E Q env A) E s:=by
 refine Wj F.slot_list_pop F.type_list_pop hl ?_;refine xE hl ?_;clear hl;intro n hl;show A8 (MD c.w) A (Cg pos (.builtin "list.pop") [.ref l] [] []) Q E s;have q:=hl.update (fun xs=>xs.eraseIdxIfInBounds ((vs++[v]).toArray.size - 1))
 have e:((vs++[v]).toArray.eraseIdxIfInBounds ((vs++[v]).toArray.size - 1))=vs.toArray:=by
  simp[He,FR]
 rw[e]at q;exact P.pop_list hl (y:=v) (by simp) (h _ Mt.up ⟨_,q⟩) (by rw[AT];simp;exact n1 hz)
theorem YT(hl:Lst s.heap l vs)(h:A8 (MD c.w) A (AJ e env) (XtK l Q) E s)(he:autoParam (AG [e] env=[(false,AJ e env)]) au1._auto_1):A8 (MD c.w) A (C3 (.ref l) (Bc "extend") (do return (←BY o env).getD true)) (cwK pos [e] E Q env A) E s:=by
 refine Wj F.slot_list_extend F.type_list_extend hl ?_;show A8 (MD c.w) A (Cg pos (.builtin "list.extend") [.ref l] (BO pos (AG [e] env)) []) Q E s;rw[he];refine P.extend_list (Al h (fun v s₁ h₁=>?_) fun _ _ x=>x);obtain⟨b,vs,us,rfl,⟨n,hl⟩,⟨n2,hb⟩,hz,hq⟩:=h₁;have q:=hl.update (fun xs=>xs++us.toArray);rw[show vs.toArray++us.toArray=(vs++us).toArray by simp]at q;refine⟨b,vs.toArray,us.toArray,n,n2,by rw[Ay,AT];exact aq310 hz,by rw[Ay,Ay,AT];exact A0 ‹_› (by decide),?_,rfl,hl,hb,hq _ Mt.up ⟨_,q⟩⟩;simp[Kj,AT];intro _;exact n1 hz
end
end
section
open Builtin Builtin.ObjectAttr
theorem Tu{M:Model}{Q:Unit→A4→Prop}(D:Fld s.heap dx mp k)(hQ:∀s',Mt dx s s'→Fld s'.heap dx (fun x=>if x=name then some v else mp x) (k+if (mp name).isSome then 0 else 1)→Q () s'):A8 M A (nsSet dx name v) Q E s:=by
 refine PY D ?_;clear D;intro es ep ho hk hm hsz;intro Γ p hΓ;simp only[nsSet,strHash,HG,Sem.wp_cmd_ask,JJ,Sem.wp_cmd_mkText];rw[Sem.wp_loadPart_of M Γ _ p {s with toks:=s.toks+1} _ ho]
 have hany:es.any (·.refKey)=false:=by
  rw[Array.any_eq_false'];intro e he;refine xEE (hk e he) fun n t h=>?_;simp[HP,h]
 simp only[aRefKeyMayBeTheName_eq,aRefKeyMayBeTheNameByArray,hany,Fe,Ax,if_false,Sem.wp_cmd_updatePart];refine⟨by rw[ho];rfl,hQ _ (Mt.mk' (Ba ..)) ?_⟩
 have hsome:(mp name).isSome=(es.findIdx? (·.key.isStr name)).isSome:=by
  rw[←hm name];unfold nsFind;rw[findBy_of_findIdx?]
  cases hi:es.findIdx? (·.key.isStr name)with
  | none=>rfl
  | some i=>
   have:=(Array.findIdx?_eq_some_iff_getElem.mp hi).1;simp[this]
 cases hi:es.findIdx? (·.key.isStr name)with
 | some i=>
  rw[hi]at hsome;refine (Pj _ ep (Bl _ ho (by simp only[Fp,Ej,hi];rfl) |>.trans (by simp only[Fp,Ej,hi];rfl)) (hk.modify _ _) (fun x=>?_) ?_)
  ·show _=if x=name then some v else mp x;rw[←hm];exact findBy_modify (fun n v=>v.isStr n) Value.isStr_inj es name x v i hi
  ·rw[hsome];simpa using hsz
 | none=>
  rw[hi]at hsome;refine (Pj _ (ep+1) (Bl _ ho (by simp only[Fp,Ej,hi];rfl) |>.trans (by simp only[Fp,Ej,hi];rfl)) (hk.push _ _ _ _) (fun x=>?_) ?_)
  ·show _=if x=name then some v else mp x;rw[←hm]
   exact findBy_push (fun n v=>v.isStr n) es name x _ _ v (fun y=>by
    show (name == y)=decide (y=name)
    by_cases h:y=name
    ·subst h;rfl
    ·have:¬name=y:=fun e=>h e.symm;simp[h,this]) hi
  ·rw[hsome];simp;exact o32 hsz
section
variable{A:Aq}{s0 s s':A4}{H:AE}{Z:List (Addr×Obj)}{L:Addr}{m:A9→Option Value}{E:Value→A4→Prop}{env:Env}
theorem sa{Q:Unit→A4→Prop}(ne:NE)(X:c.K.In s.heap)(I:Ins s.heap x C dx)(D:Fld s.heap dx mp k)(hK:NE→KH c.K C name=true)(hz:k≤1000)(h:∀s',Mt dx s s'→Fld s'.heap dx (fun y=>if y=name then some v else mp y) (k+if (mp name).isSome then 0 else 1)→Q () s'):A8 (MD c.w) A (setAttr (.ref x) name v) Q E s:=by
 have hK:=hK ne;unfold KH at hK;simp only[Ce,beq_iff_eq]at hK;refine xA hK ?_;clear hK;rintro⟨⟨h1,h2⟩,h3⟩ h4;refine xEA (any_some h4) fun cd hc hd'=>?_;have hx:=I;refine xEA D.look fun od hod hl=>?_;have I':=Ins.at I hod;refine set_plain X I' h1 (osa_open (s:={s with toks:=s.toks+1}) X I' h2 h3 fun b=>?_);unfold storeInOwnDict;show A8 (MD c.w) A.in1 _ _ _ _;refine A5 (Ae (A5 (A5 (wpAny_loadPart hx (A5 (looks_clsIn X hc _ _ _ _ (fun _ _ e=>e) ?_))))));rw[hd'];refine Ae (a:=some dx) (A5 (Ae (A5 ?_)));refine Tu (s:={s with toks:=s.toks+1}) D fun s' M D'=>?_;have D'':=D';refine PY D' ?_;clear D';intro es ep ho _ _ hsz;refine A5 (wpAny_lookBehind ho (pastItsLine_dict (by rw[AT];split at hsz<;>lia)) ?_);exact Ae (h _ ⟨M.keep,M.gens,M.os⟩ D'')
noncomputable abbrev saK(attr:A9)(rest:List Stmt)(E:Value→A4→Prop)(Q:DB→A4→Prop)(env:Env)(A:Aq)(v:Value):Value→A4→Prop:=fun o s=>A8 (MD c.w) A (setAttr o attr v) (exK rest E Q env A) E s
noncomputable abbrev siK(rest:List Stmt)(E:Value→A4→Prop)(Q:DB→A4→Prop)(env:Env)(A:Aq)(v:Value)(o:Value):Value→A4→Prop:=fun i s=>A8 (MD c.w) A (FU o i v) (exK rest E Q env A) E s
noncomputable abbrev dxK(rest:List Stmt)(E:Value→A4→Prop)(Q:DB→A4→Prop)(env:Env)(A:Aq):Value→A4→Prop:=fun v s=>match v with | .ref _=>False | _=>A8 (MD c.w) A (execs rest env) Q E s
noncomputable abbrev aoK(elts:List Expr)(rest:List Stmt)(E:Value→A4→Prop)(Q:DB→A4→Prop)(env:Env)(A:Aq):List Value→A4→Prop:=fun vs s=>A8 (MD c.w) A (Eb ((Fl elts env).map (·.2)) vs) (exK rest E Q env A) E s
noncomputable abbrev unK(elts:List Expr)(rest:List Stmt)(E:Value→A4→Prop)(Q:DB→A4→Prop)(env:Env)(A:Aq):Value→A4→Prop:=fun v s=>A8 (MD c.w) A (BX v (Fl elts env).length none) (aoK elts rest E Q env A) E s
theorem NG(h:A8 (MD c.w) A (AJ value env) (evK o E (saK attr rest E Q env A) env A) E s)(hs:autoParam (Ep value (some (.Attribute o attr p)) pos.line env=pure false) au1._auto_1):A8 (MD c.w) A (execs (.Assign [.Attribute o attr p] value pos::rest) env) Q E s:=LW (plainObj_wpAny_Assign_Attribute h hs)
theorem OF(h:A8 (MD c.w) A (AJ value env) (evK o E (fun v=>evK i E (siK rest E Q env A v) env A) env A) E s)(hs:autoParam (Ep value (some (.Subscript o i p)) pos.line env=pure false) au1._auto_1):A8 (MD c.w) A (execs (.Assign [.Subscript o i p] value pos::rest) env) Q E s:=LW (wpAny_Assign_Subscript h hs)
theorem L8(h:A8 (MD c.w) A (AJ e env) (dxK rest E Q env A) E s)(hi:autoParam (interactive env=false) au1._auto_1)(hs:autoParam (Ep e none pos.line env=pure false) au1._auto_1):A8 (MD c.w) A (execs (.Expr e pos::rest) env) Q E s:=LW (wpAny_Expr h hi hs)
namespace U2
noncomputable def pP(A:Aq)(s:A4)(E:Value→A4→Prop)(l:Addr)(vs:List Value)(t:Tok):Prop:=∀{k:Int}{v:Value}{Q:Unit→A4→Prop}(hl:Lst s.heap l vs)(hf:Kk k=true)(h0:0≤k)(hn:k.toNat<vs.length)(h:∀s',Mt l s s'→Lst s'.heap l (vs.set k.toNat v)→Q () s'),A8 (MD c.w) A (FU (.ref l) (.int k t) v) Q E s
noncomputable def fF:=unz fun A=>unz fun s=>unz fun E=>unz fun l=>unz fun vs=>pP A s E l vs
noncomputable def kK:=epz ({},{},default) fF
noncomputable def s_:=kK.2.1
noncomputable def l_:=kK.2.2.2.1
noncomputable def vs_:=kK.2.2.2.2.1
noncomputable def t_:=kK.2.2.2.2.2
theorem tT:pP kK.1 s_ kK.2.2.1 l_ vs_ t_:=by
 intro k v Q hl hf h0 hn h;refine xE hl ?_;clear hl;intro n hl;have hT:=hl.isList.typeIs;unfold FU
 try with_reducible refine B7 ?_
 first | refine A5 (Ae ?_) | skip
 refine A5 (EF hT (by decide) ?_)
 refine A5 (Cp (name:=Bc "__setitem__") hT Jn
  (BS Jn hT entry_list_setitem ?_ (args_list_setitem _ _ _)))
 show A8 _ _ (DK (.int k t_) >>= _) _ _ s_;refine A5 (wpAny_listSubscript_int hf ?_);clear hf;refine xE (Int.eq_ofNat_of_zero_le h0) ?_;rintro j rfl;have q:=hl.update (fun xs=>xs.setIfInBounds j v);rw[show vs_.toArray.setIfInBounds j v=(vs_.set j v).toArray by exact if_pos ‹_›]at q;have hj:j<vs_.toArray.size:=by rw[Ay];assumption
 have hx':vs_.toArray[j]?=some vs_.toArray[j]:=B0 hj;show A8 _ _ ((seqItemAt l_ j >>= fun r=>pure (r.map (j,·))) >>= _) _ _ s_;refine A5 (A5 (wpAny_seqItemAt hl rfl (Ae ?_)));rw[hx'];show A8 _ _ (setSeqItemAt l_ j v >>= _) _ _ s_;refine A5 (wpAny_setSeqItemAt hl rfl ?_)
 first
  | exact A5 (Ae (Ae ⟨.none,rfl,Ae (h _ Mt.up ⟨_,q⟩)⟩))
  | exact Ae ⟨.none,rfl,Ae (h _ Mt.up ⟨_,q⟩)⟩
end U2
theorem XV{A s E l vs t}:U2.pP A s E l vs t:=@KB _ _ U2.fF U2.kK rfl U2.tT (A,s,E,l,vs,t)
theorem XW{Q:Unit→A4→Prop}(hl:Lst s.heap l vs)(hz:vs.length≤16000)(hn:j<vs.length)(h:∀s',Mt l s s'→Lst s'.heap l (vs.set j v)→Q () s'):A8 (MD c.w) A (FU (.ref l) (.int (j:Nat) t) v) Q E s:=
 XV hl (fitsIndex_of (by exact n3) (by exact n5 hn hz)) (by exact n3) (by simpa using hn) ‹_›
theorem VF(hne:l≠it):∀(n i:Nat) (s:A4) (Q:List Value→A4→Prop),s.heap.IsListIter it l i→s.heap.IsList l items→i+n≤items.size→
  (∀h',h'.IsListIter it l (i+n)→BZ it s.heap h'→Q ((items.toList.drop i).take n) {s with heap:=h' })→A8 (MD c.w) A (draw (.ref it) n) Q E s
 | 0,i,s,Q,hit,_,_,hQ=>by
  show A8 _ _ (pure []) Q E s;exact Ae (by simpa using hQ s.heap hit (Ki ..))
 | n+1,i,s,Q,hit,ht,hle,hQ=>by
  have hlt:i<items.size:=by exact aq154 hle
  show A8 _ _ (Gm (.ref it) >>= _) Q E s;refine A5 (Fg hit ht (x:=items[i]) (by simp[hlt]) fun h₁ hit₁ hs₁=>?_);refine A5 (B7 (VF hne n (i+1) _ _ hit₁ (ht.extBut hs₁.extBut hne) (by exact aq219 hle) fun h₂ hit₂ hs₂=>Ae ?_));have hd:items.toList.drop i=items[i]::items.toList.drop (i+1):=by simp[Do,hlt]
  have:=hQ h₂ (by rw[show i+(n+1)=i+1+n by exact o73];exact hit₂) (hs₁.trans hs₂);rw[hd,List.take_succ_cons]at this;exact this
namespace U1
noncomputable def pP(A:Aq)(s0 s:A4)(H:AE)(Z:List (Addr×Obj))(L:Addr)(m:A9→Option Value)(E:Value→A4→Prop)(l:Addr)(vs:List Value)(Q:List Value→A4→Prop):Prop:=∀(hh:A.handled=none)(Fm':Fm s0 H Z L m s)(hl:Lst s.heap l vs)(h:∀s',Pu s s'→Fm s0 H Z L m s'→Q vs s'),A8 (MD c.w) A (BX (.ref l) vs.length none) Q E s
noncomputable def fF:=unz fun A=>unz fun s0=>unz fun s=>unz fun H=>unz fun Z=>unz fun L=>unz fun m=>unz fun E=>unz fun l=>unz fun vs=>pP A s0 s H Z L m E l vs
noncomputable def kK:=epz ({},{},{},default) fF
noncomputable def s_:=kK.2.2.1
noncomputable def l_:=kK.2.2.2.2.2.2.2.2.1
noncomputable def vs_:=kK.2.2.2.2.2.2.2.2.2.1
noncomputable def Q_:=kK.2.2.2.2.2.2.2.2.2.2
theorem tT:pP kK.1 kK.2.1 s_ kK.2.2.2.1 kK.2.2.2.2.1 kK.2.2.2.2.2.1 kK.2.2.2.2.2.2.1 kK.2.2.2.2.2.2.2.1 l_ vs_ Q_:=by
 intro hh Fm' hl h;have ht:=hl.isList;have hlt:l_≠s_.heap.objs.size:=by refine xEA ht ?_;clear ht;intro o ho _;exact Az (AM ho)
 have up:∀h',HW s_.heap.objs.size s_.heap h'→Q_ vs_ {s_ with heap:=h' }:=fun h' e=>
  have e':Ext s_.heap h':=fun b o q=>e b o (Az (AM q)) q
  h _ ⟨e',rfl,rfl⟩ (Fm'.pu ⟨e',rfl,rfl⟩)
 unfold BX;refine A5 ?_;unfold notIterableAtAll;refine A5 (CP ht.typeIs slot_list_iter.lookup ?_);refine Ae ?_;simp only[Ax,if_false];refine A5 (B7 (DU ht ?_));refine A5 (B7 (VF hlt vs_.length 0 _ _ (M1 _ (AB _ rfl) rfl rfl) (ht.push _) (by simp) fun h₁ hit₁ hs₁=>?_));have hall:List.take vs_.length (List.drop 0 vs_.toArray.toList)=vs_:=by simp
 rw[hall];rw[if_neg (by simp)];have ht₁:h₁.IsList l_ vs_.toArray:=(ht.push _).extBut hs₁.extBut hlt;refine A5 (B7 (Fw hh hit₁ ht₁ (by simp) fun h₂ he₂=>?_));simp only[Option.isSome_none,Ax,if_false];exact Ae (up h₂ fun b o hb e=>he₂ b o hb (hs₁.extBut b o hb (Ak _ e)))
end U1
theorem MZ{A s0 s H Z L m E l vs Q}:U1.pP A s0 s H Z L m E l vs Q:=@KB _ _ U1.fF U1.kK rfl U1.tT (A,s0,s,H,Z,L,m,E,l,vs,Q)
theorem KR(hh:A.handled=none)(Fm':Fm s0 H Z L m s)(hl:Tpl s.heap l vs)(h:∀s',Pu s s'→Fm s0 H Z L m s'→Q vs s'):A8 (MD c.w) A (BX (.ref l) vs.length none) Q E s:=by
 have:=wpAny_unpackItems_tuple (prog:=PG) (w:=c.w) (E:=E) (Q:=Q) hh hl.isTup (fun h' e=>h _ ⟨fun b o q=>e b o (Az (AM q)) q,rfl,rfl⟩ (Fm'.pu ⟨fun b o q=>e b o (Az (AM q)) q,rfl,rfl⟩))
 rwa [Ay]at this
theorem Oq(h:A8 (MD c.w) A (AJ value env) (unK elts rest E Q env A) E s)(hstar:autoParam ((Fl elts env).findIdx? (·.1)=none) au1._auto_1)(hs:autoParam (swapsWithSole [.Tuple elts k tpos] value pos.line env=pure false) au1._auto_1)(hsw:autoParam (swappedStores [.Tuple elts k tpos] value env=pure none) au1._auto_1):A8 (MD c.w) A (execs (.Assign [.Tuple elts k tpos] value pos::rest) env) Q E s:=by
 refine LW (Assign_Tuple (Al h (fun v s₁ h₁=>?_) fun _ _ x=>x) hs hsw);rw[arm_assign_Tuple];refine A5 (HX ?_);unfold unpack;rw[hstar];exact A5 (B7 h₁)
theorem VH{Q:Unit→A4→Prop}(h:A8 (MD c.w) A (Cq env x a) (stK y E Q env A b) E s):A8 (MD c.w) A (Eb ((Fl [.Name x p,.Name y q] env).map (·.2)) [a,b]) Q E s:=by
 show A8 _ _ (do Di [b] (Dx (.Name x p) env a);(do Di [] (Dx (.Name y q) env b);pure ())) Q E s;exact A5 (B7 (Aw (Al h (fun _ _ h'=>A5 (B7 (Aw (Al h' (fun _ _ h''=>Ae h'') fun _ _ e=>e)))) fun _ _ e=>e)))
end
end
section
section
variable{A:Aq}{s0 s s':A4}{H:AE}{Z:List (Addr×Obj)}{L:Addr}{m:A9→Option Value}{E:Value→A4→Prop}{env:Env}
noncomputable def OV(h:AE)(wr:List Addr):List (Addr×Obj):=wr.filterMap fun b=>(h.get? b).map fun o=>(b,o)
theorem Le:p∈OV h wr↔p.1∈wr∧h.get? p.1=some p.2:=by
 unfold OV;rw[Dv];constructor
 ·rintro⟨b,hb,e⟩
  cases e':h.get? b with
  | none=>rw[e']at e;exact nomatch e
  | some o=>rw[e']at e;obtain rfl:=Ag e;exact⟨hb,e'⟩
 ·rintro⟨h1,h2⟩;exact (yEA p.1 h1 (by rw[h2];rfl))
noncomputable def Ow(s0:A4)(Zi Z:List (Addr×Obj))(L:Addr)(lo:List (Addr×Obj))(I:AE→(A9→Option Value)→Prop)(s':A4):Prop:=
 ∃H' m',Fm s0 H' (Zi++Z) L m' s'∧I H' m'∧∀p∈lo,s'.heap.get? p.1=some p.2
theorem Fm.aside(F:Fm s0 H Z L m s)(hw:∀b∈wr,H.get? b=none∧b≠L∧∀z∈Z,z.1≠b)(hk:∀b o,b∉wr→s.heap.get? b=some o→h.get? b=some o):Fm s0 H (OV h wr++Z) L m {s with heap:=h,toks:=tk}:=by
 refine⟨F.base,fun b o e=>hk b o (fun q=>by rw[(hw b q).1]at e;exact nomatch e) (F.keep _ _ e),F.noL,F.ns.at' fun o e=>hk _ o (fun q=>(hw L q).2.1 rfl) e,fun p hp=>?_,F.gens,F.os⟩;rcases Am.mp hp with hp | hp
 ·refine xA (Le.mp hp) fun h1 h2=>?_;refine xAA (hw _ h1) fun a b d=>?_;exact (yAA h2 b (fun _=>a))
 ·refine xA (F.zs p hp) fun a b=>?_;exact⟨hk _ _ (fun q=>(hw _ q).2.2 p hp rfl) a,b⟩
theorem Fm.past{wr:List Addr}{h:AE}{tk:Nat}(F:Fm s0 H Z L m s)(hw:∀b∈wr,H.get? b=none∧b≠L∧∀z∈Z,z.1≠b)(hk:∀b o,b∉wr→s.heap.get? b=some o→h.get? b=some o):Fm s0 H Z L m {s with heap:=h,toks:=tk}:=
 ⟨F.base,fun b o e=>hk b o (fun q=>by rw[(hw b q).1]at e;exact nomatch e) (F.keep _ _ e),F.noL,F.ns.at' fun o e=>hk _ o (fun q=>(hw L q).2.1 rfl) e,
  fun p hp=>xA (F.zs p hp) fun a b=>⟨hk _ _ (fun q=>(hw _ q).2.2 p hp rfl) a,b⟩,F.gens,F.os⟩
namespace U4
noncomputable def pP(A:Aq)(s0 s:A4)(H:AE)(Z:List (Addr×Obj))(L:Addr)(m:A9→Option Value)(E:Value→A4→Prop)(env:Env)(target:Expr)(body:List Stmt)(it:Addr)(fp wr:List Addr)(n:Nat)(P Md:Nat→Value→AE→Prop)(St:Nat→AE→Prop)(R:DB→A4→Prop):Prop:=∀(W:DI PG c.w A target it fp wr n P Md St)(live:∀i h,St i h→∀b∈wr,∃o,h.get? b=some o∧L3 o=true)(lo:List (Addr×Obj))(hfp:∀b∈fp,b∈wr∨∃p∈lo,p.1=b)(hlo:∀p∈lo,p.1∉wr)(I:Nat→AE→(A9→Option Value)→Prop)(turn:∀i v H m s Zi,i<n→Fm s0 H (Zi++Z) L m s→(∀p∈lo,s.heap.get? p.1=some p.2)→(∀p∈Zi,p.1∈wr∧Li p.2=true)→P i v s.heap→I i H m→
   A8 (MD c.w) A (Dx target env v) (fun _ s2=>A8 (MD c.w) A (execs body env) (fun f s'=>match f with
    | .next | .cont=>Ow s0 Zi Z L lo (I (i+1)) s'
    | .brk=>False
    | .ret v=>R (.ret v) s') NoE s2) NoE s)(done:∀H m s,Fm s0 H Z L m s→I n H m→(∀p∈lo,s.heap.get? p.1=some p.2)→R .next s)(F:Fm s0 H Z L m s)(hw:∀b∈wr,H.get? b=none∧b≠L∧∀z∈Z,z.1≠b)(hst:St 0 s.heap)(hl:∀p∈lo,s.heap.get? p.1=some p.2)(h0:I 0 H m),BM (MD c.w) A (.forLoop target (.ref it) body [] env) (fun r s'=>match r with | .ok f=>R f s' | .error e=>cameBackBy (MD c.w) A env E e s') s
noncomputable def fF:=unz fun A=>unz fun s0=>unz fun s=>unz fun H=>unz fun Z=>unz fun L=>unz fun m=>unz fun E=>unz fun env=>unz fun target=>unz fun body=>unz fun it=>unz fun fp=>unz fun wr=>unz fun n=>unz fun P=>unz fun Md=>unz fun St=>pP A s0 s H Z L m E env target body it fp wr n P Md St
noncomputable def kK:=epz ({},{},{},default) fF
noncomputable def s0_:=kK.2.1
noncomputable def H_:=kK.2.2.2.1
noncomputable def Z_:=kK.2.2.2.2.1
noncomputable def L_:=kK.2.2.2.2.2.1
noncomputable def m_:=kK.2.2.2.2.2.2.1
noncomputable def wr_:=kK.2.2.2.2.2.2.2.2.2.2.2.2.2.1
noncomputable def n_:=kK.2.2.2.2.2.2.2.2.2.2.2.2.2.2.1
noncomputable def St_:=kK.2.2.2.2.2.2.2.2.2.2.2.2.2.2.2.2.2.1
theorem tT:pP kK.1 s0_ kK.2.2.1 H_ Z_ L_ m_ kK.2.2.2.2.2.2.2.1 kK.2.2.2.2.2.2.2.2.1 kK.2.2.2.2.2.2.2.2.2.1 kK.2.2.2.2.2.2.2.2.2.2.1 kK.2.2.2.2.2.2.2.2.2.2.2.1 kK.2.2.2.2.2.2.2.2.2.2.2.2.1 wr_ n_ kK.2.2.2.2.2.2.2.2.2.2.2.2.2.2.2.1 kK.2.2.2.2.2.2.2.2.2.2.2.2.2.2.2.2.1 St_ kK.2.2.2.2.2.2.2.2.2.2.2.2.2.2.2.2.2.2:=by
 intro W live lo hfp hlo I turn done F hw hst hl h0
 refine codeAny_forLoop_any (fun k s'=>∃i H_ m_,k=n_+1 - i∧i≤n_∧St_ i s'.heap∧Fm s0_ H_ Z_ L_ m_ s'∧(∀b∈wr_,H_.get? b=none∧b≠L_∧∀z∈Z_,z.1≠b)∧I i H_ m_∧∀p∈lo,s'.heap.get? p.1=some p.2) ?_ (n_+1)
  ⟨0,H_,m_,rfl,Bi _,hst,F,hw,h0,hl⟩
 rintro k s1 ⟨i,H_,m_,rfl,hi,hst,F,hw,hI,hl⟩
 by_cases hlt:i<n_
 ·refine W.item i _ _ _ hlt hst fun v h₁ tk₁ hMd hk₁=>?_;refine W.go i v _ _ _ hMd fun h₂ hP hst₂ hk₂=>?_;have hk:∀b o,b∉wr_→s1.heap.get? b=some o→h₂.get? b=some o:=fun b o hb e=>hk₂ b o hb (hk₁ b o hb e);have F₂:=F.aside (h:=h₂) (tk:=tk₁) hw hk;have hl₂:∀p∈lo,h₂.get? p.1=some p.2:=fun p hp=>hk _ _ (hlo p hp) (hl p hp)
  refine Al (turn i v H_ m_ _ (OV h₂ wr_) hlt F₂ hl₂ (fun p hp=>⟨(Le.mp hp).1,by
   refine xEA (live _ _ hst₂ p.1 (Le.mp hp).1) fun o1 e1 h1=>?_;have e2:=(Le.mp hp).2;rw[e1]at e2;obtain rfl:=Ag e2;exact Nx h1⟩) hP hI) (fun _ s₂ h₂'=>Al h₂' (fun f s₃ h₃=>?_) fun _ _ e=>e.elim) fun _ _ e=>e.elim
  have fin:Ow s0_ (OV h₂ wr_) Z_ L_ lo (I (i+1)) s₃→∃k',k'<n_+1 - i∧∃i H_ m_,k'=n_+1 - i∧i≤n_∧St_ i s₃.heap∧Fm s0_ H_ Z_ L_ m_ s₃∧(∀b∈wr_,H_.get? b=none∧b≠L_∧∀z∈Z_,z.1≠b)∧I i H_ m_∧∀p∈lo,s₃.heap.get? p.1=some p.2:=by
   rintro⟨H',m',F₃,hI₃,hl₃⟩;refine⟨n_+1 - (i+1),by exact o10 hlt,i+1,H',m',rfl,hlt,?_,F₃.less fun p hp=>AL _ hp,fun b hb=>⟨?_,(hw b hb).2⟩,hI₃,hl₃⟩
   ·refine W.frame _ _ _ hst₂ fun b hb o e=>?_;rcases hfp b hb with hb | ⟨p,hp,rfl⟩
    ·exact (F₃.zs (b,o) (AD _ (Le.mpr ⟨hb,e⟩))).1
    ·have:=hl₂ p hp;rw[e]at this;obtain rfl:=Ag this;exact hl₃ p hp
   ·refine xEA (live _ _ hst₂ b hb) fun o1 e1 h1=>?_;exact (F₃.zs (b,o1) (AD _ (Le.mpr ⟨hb,e1⟩))).2.2 h1
  induction f with
  | ret v=>exact h₃
  | brk=>exact h₃.elim
  | cont=>exact fin h₃
  | next=>exact fin h₃
 ·have hin:i=n_:=by exact o9 hi hlt
  subst hin;refine W.done _ _ _ hst fun h₁ tk₁ hk₁=>Fu ?_;exact done H_ m_ _ (F.past (h:=h₁) (tk:=tk₁) hw hk₁) hI fun p hp=>hk₁ _ _ (hlo p hp) (hl p hp)
end U4
theorem PL{A s0 s H Z L m E env target body it fp wr n P Md St R}:U4.pP A s0 s H Z L m E env target body it fp wr n P Md St R:=@KB _ _ U4.fF U4.kK rfl U4.tT (A,s0,s,H,Z,L,m,E,env,target,body,it,fp,wr,n,P,Md,St,R)
namespace U3
noncomputable def pP(A:Aq)(s0 s:A4)(H:AE)(Z:List (Addr×Obj))(L:Addr)(m:A9→Option Value)(E:Value→A4→Prop)(env:Env)(elt iter target:Expr)(scope:GK)(cl:List (A9×Addr))(pos:Pos)(it:Addr)(fp wr:List Addr)(n:Nat)(P Md:Nat→Value→AE→Prop)(St:Nat→AE→Prop):Prop:=∀{RR:Value→Addr→EP→A4→Prop}(W:DI PG c.w A target it fp wr n P Md St)(live:∀i h,St i h→∀b∈wr,∃o,h.get? b=some o∧L3 o=true)(lo:List (Addr×Obj))(hfp:∀b∈fp,b∈wr∨∃p∈lo,p.1=b)(hlo:∀p∈lo,p.1∉wr)(hself:∀(s:A4) (Q:Value→A4→Prop) (E:Value→A4→Prop),St 0 s.heap→Q (.ref it) s→A8 (MD c.w) A (Dr (.ref it)) Q E s)(hcell:∀y∈scope.names,y.2≠.cell)(hkind:scope.kind=.function)(hz:n≤16000)(I:Nat→List Value→AE→Prop)(turn:∀C i ys v H m s Z',i<n→ys.length=i→(∀p∈Z,p∈Z')→Fm s0 H Z' C m s→(∀p∈lo,s.heap.get? p.1=some p.2)→P i v s.heap→I i ys H→
   A8 (MD c.w) A (Dx target (D1 scope cl C env) v) (fun _ s2=>A8 (MD c.w) A (AJ elt (D1 scope cl C env)) (fun y s'=>
    ∃H' m',Fm s0 H' Z' C m' s'∧I (i+1) (ys++[y]) H'∧∀p∈lo,s'.heap.get? p.1=some p.2) NoE s2) NoE s)(done:∀C D ys H s1 m',Fm s0 H Z L m s1→I n ys H→ys.length=n→s1.heap.Ns C m'→C≠L→H.get? C=none→(∀z∈Z,z.1≠C)→C≠D→(∀p∈lo,p.1≠C)→(∀p∈lo,s1.heap.get? p.1=some p.2)→Lst s1.heap D ys→H.get? D=none→s.heap.get? D=none→RR (.ref D) C (.ok .next) s1)(F:Fm s0 H Z L m s)(hw:∀b∈wr,H.get? b=none∧b≠L∧∀z∈Z,z.1≠b)(hst:St 0 s.heap)(hwl:∀b∈wr,b<s.heap.objs.size)(hl:∀p∈lo,s.heap.get? p.1=some p.2)(h0:I 0 [] H),A8 (MD c.w) A (Fk []) (fun acc s₃=>A8 (MD c.w) A (FQ scope env.globals cl [] env.qual none .none (some env)) (fun cenv s₄=>
   BM (MD c.w) A (.compStart (.ListComp elt [⟨target,iter,[],0⟩] scope pos) 0 (.ref it) acc {cenv with scope:=Jo scope env}) (RR acc cenv.locals) s₄) E s₃) E s
noncomputable def fF:=unz fun A=>unz fun s0=>unz fun s=>unz fun H=>unz fun Z=>unz fun L=>unz fun m=>unz fun E=>unz fun env=>unz fun elt=>unz fun iter=>unz fun target=>unz fun scope=>unz fun cl=>unz fun pos=>unz fun it=>unz fun fp=>unz fun wr=>unz fun n=>unz fun P=>unz fun Md=>pP A s0 s H Z L m E env elt iter target scope cl pos it fp wr n P Md
noncomputable def kK:=epz ({},{},{},default) fF
noncomputable def A_:=kK.1
noncomputable def s0_:=kK.2.1
noncomputable def s_:=kK.2.2.1
noncomputable def H_:=kK.2.2.2.1
noncomputable def Z_:=kK.2.2.2.2.1
noncomputable def L_:=kK.2.2.2.2.2.1
noncomputable def env_:=kK.2.2.2.2.2.2.2.2.1
noncomputable def elt_:=kK.2.2.2.2.2.2.2.2.2.1
noncomputable def iter_:=kK.2.2.2.2.2.2.2.2.2.2.1
noncomputable def target_:=kK.2.2.2.2.2.2.2.2.2.2.2.1
noncomputable def scope_:=kK.2.2.2.2.2.2.2.2.2.2.2.2.1
noncomputable def cl_:=kK.2.2.2.2.2.2.2.2.2.2.2.2.2.1
noncomputable def pos_:=kK.2.2.2.2.2.2.2.2.2.2.2.2.2.2.1
noncomputable def it_:=kK.2.2.2.2.2.2.2.2.2.2.2.2.2.2.2.1
noncomputable def wr_:=kK.2.2.2.2.2.2.2.2.2.2.2.2.2.2.2.2.2.1
noncomputable def n_:=kK.2.2.2.2.2.2.2.2.2.2.2.2.2.2.2.2.2.2.1
noncomputable def St_:=kK.2.2.2.2.2.2.2.2.2.2.2.2.2.2.2.2.2.2.2.2.2
theorem tT:pP A_ s0_ s_ H_ Z_ L_ kK.2.2.2.2.2.2.1 kK.2.2.2.2.2.2.2.1 env_ elt_ iter_ target_ scope_ cl_ pos_ it_ kK.2.2.2.2.2.2.2.2.2.2.2.2.2.2.2.2.1 wr_ n_ kK.2.2.2.2.2.2.2.2.2.2.2.2.2.2.2.2.2.2.2.1 kK.2.2.2.2.2.2.2.2.2.2.2.2.2.2.2.2.2.2.2.2.1 St_:=by
 intro RR W live lo hfp hlo hself hcell hkind hz I turn done F hw hst hwl hl h0;refine Bw (IL hcell (by intro y hy;simp at hy) (fun h₁ hns₁ hsb₁=>?_) hkind);dsimp only at hns₁ hsb₁ ⊢;generalize hH2:s_.heap.push {cls:=.type "list",dict:=none,data:=.seq ([]:List Value).toArray}=H2 at hns₁ hsb₁ ⊢;have hC:H2.objs.size=s_.heap.objs.size+1:=by rw[←hH2,Bu]
 have hDC:s_.heap.objs.size≠H2.objs.size:=by rw[hC];exact Az (AS _)
 have below0:∀b:Addr,b<s_.heap.objs.size→b≠H2.objs.size∧b≠s_.heap.objs.size:=fun b hb=>⟨by rw[hC];exact Az (AA hb),Az hb⟩;have hwC:∀b∈wr_,b≠H2.objs.size∧b≠s_.heap.objs.size:=fun b hb=>below0 b (hwl b hb);have below:∀b o,s_.heap.get? b=some o→b≠H2.objs.size∧b≠s_.heap.objs.size:=fun b o e=>below0 b (AM e);generalize hD:s_.heap.objs.size=D at hDC hC hwC below;generalize hCC:H2.objs.size=C at hDC hC hns₁ hsb₁ hwC below ⊢;have old:∀b o,s_.heap.get? b=some o→h₁.get? b=some o:=fun b o e=>hsb₁.extBut b o (below b o e).1 (Ak _ (hH2▸Ak _ e));obtain⟨oD,haccD⟩:∃oD,h₁.get? D=some oD∧oD={cls:=.type "list",dict:=none,data:=.seq ([]:List Value).toArray}:=(yEA _ (hsb₁.extBut _ _ hDC (Ak _ (hH2▸hD▸AB _ rfl))) rfl)
 have freshD:∀G:AE,(∀b o,G.get? b=some o→s_.heap.get? b=some o)→G.get? D=none∧G.get? C=none:=fun G k=>by
  constructor
  ·exact Ky fun o e=>by exact absurd rfl (below _ _ (k _ _ e)).2
  ·exact Ky fun o e=>by exact absurd rfl (below _ _ (k _ _ e)).1
 refine O1 F.ns fun oL esL epL hoL hdL hrL=>?_;have hLlt:=below _ _ hoL;have hst₁:St_ 0 h₁:=W.frame _ _ _ hst fun b _ o e=>old b o e
 have loop:∀s₃:A4,s₃={s_ with heap:=h₁,toks:=s_.toks+([]:List (A9×Value)).length}→
   BM (MD c.w) A_ (.compLoop (.ListComp elt_ [⟨target_,iter_,[],0⟩] scope_ pos_) 0 (.ref it_) (.ref D) (D1 scope_ cl_ C env_)) (RR (.ref D) C) s₃:=by
  rintro s₃ rfl
  refine kcp_loop (fun k s'=>∃i ys H_ mC,k=n_+1 - i∧i≤n_∧ys.length=i∧St_ i s'.heap∧Lst s'.heap D ys∧Fm s0_ H_ ((L_,oL)::Z_) C mC s'∧H_.get? D=none∧(∀b∈wr_,H_.get? b=none)∧I i ys H_∧∀p∈lo,s'.heap.get? p.1=some p.2) ?_ (n_+1)
   ⟨0,[],H_,_,rfl,Bi _,rfl,hst₁,⟨0,by show h₁.get? D=_;rw[haccD.1,haccD.2]⟩,⟨F.base,fun b o e=>old _ _ (F.keep _ _ e),(freshD H_ F.keep).2,hns₁,?_,F.gens,F.os⟩,(freshD H_ F.keep).1,fun b hb=>(hw b hb).1,h0,fun p hp=>old _ _ (hl p hp)⟩
  ·rintro k s1 ⟨i,ys,H_,mC,rfl,hi,hlen,hst,hacc,F1,hHD,hwH,hI,hl1⟩
   have hCwr:∀b∈wr_,H_.get? b=none∧b≠C∧∀z∈((L_,oL)::Z_),z.1≠b:=fun b hb=>(yAA (hwH b hb) ((hwC b hb).1) (fun z hz=>by
    rcases As.mp hz with rfl | hz
    ·exact fun q=>(hw b hb).2.1 q.symm
    ·exact (hw b hb).2.2 z hz))
   have hDwr:D∉wr_:=fun q=>(hwC D q).2 rfl
   by_cases hlt:i<n_
   ·refine W.item i _ _ _ hlt hst fun v h₂ tk₂ hMd hk₂=>?_;refine W.go i v _ _ _ hMd fun h₃ hP hst₃ hk₃=>?_;have hk:∀b o,b∉wr_→s1.heap.get? b=some o→h₃.get? b=some o:=fun b o hb e=>hk₃ b o hb (hk₂ b o hb e);refine xE hacc ?_;clear hacc;intro nD haccD';have haccD3:=hk _ _ hDwr haccD';have hlD:∀p∈lo,p.1≠D:=fun p hp=>(below _ _ (hl p hp)).2;have F₂:=F1.aside (h:=h₃) (tk:=tk₂) hCwr hk
    have F₃:Fm s0_ H_ ((D,_)::(OV h₃ wr_++((L_,oL)::Z_))) C mC {s1 with heap:=h₃,toks:=tk₂}:=
     ⟨F₂.base,F₂.keep,F₂.noL,F₂.ns,fun p hp=>by
      rcases As.mp hp with rfl | hp
      ·exact (yAA haccD3 hDC (fun _=>hHD))
      ·exact F₂.zs p hp,F₂.gens,F₂.os⟩
    refine Al (turn C i ys v H_ mC _ _ hlt hlen (fun p hp=>Ao _ (AL _ (Ao _ hp))) F₃ (fun p hp=>hk _ _ (hlo p hp) (hl1 p hp)) hP hI) (fun _ s₂ h₂'=>Al h₂' (fun y s₄ h₄=>?_) fun _ _ e=>e.elim) fun _ _ e=>e.elim;refine LR h₄ ?_;clear h₄;intro H' m' F₄ hI' hl4;have hD4:Lst s₄.heap D ys:=⟨_,(F₄.zs _ Aj).1⟩;have hD4H:=(F₄.zs _ Aj).2.2 rfl;refine wpAny_list_append_plain (hsz:=by rw[Ay,AT];exact aq209 hlt hlen hz) hD4.plain fun h₅ hl₅ hs₅=>?_;have hl₅':Lst h₅ D (ys++[y]):=by have:=Lst.of_plain hl₅;simpa using this
    have keep5:∀b o,b≠D→s₄.heap.get? b=some o→h₅.get? b=some o:=fun b o hb e=>hs₅.extBut b o hb e;refine⟨n_+1 - (i+1),by exact o10 hlt,i+1,ys++[y],H',m',rfl,hlt,by simp[hlen],?_,hl₅',⟨F₄.base,fun b o e=>keep5 b o (fun q=>noo q hD4H e) (F₄.keep _ _ e),F₄.noL,F₄.ns.at' fun o e=>keep5 _ o (B9 hDC) e,fun p hp=>?_,F₄.gens,F₄.os⟩,hD4H,fun b hb=>?_,hI',fun p hp=>keep5 _ _ (hlD p hp) (hl4 p hp)⟩
    ·refine W.frame _ _ _ hst₃ fun b hb o e=>?_;rcases hfp b hb with hb | ⟨p,hp,rfl⟩
     ·exact keep5 _ _ (hwC b hb).2 (F₄.zs (b,o) (Ao _ (AD _ (Le.mpr ⟨hb,e⟩)))).1
     ·have:=hk _ _ (hlo p hp) (hl1 p hp);rw[e]at this;obtain rfl:=Ag this;exact keep5 _ _ (hlD p hp) (hl4 p hp)
    ·refine xA (F₄.zs p (Ao _ (AL _ hp))) fun a r=>?_;refine⟨keep5 _ _ ?_ a,r⟩;rcases As.mp hp with rfl | hp
     ·exact hLlt.2
     ·exact (below _ _ (F.zs p hp).1).2
    ·refine xEA (live _ _ hst₃ b hb) fun o1 e1 h1=>?_;exact (F₄.zs (b,o1) (Ao _ (AD _ (Le.mpr ⟨hb,e1⟩)))).2.2 h1
   ·have hin:i=n_:=by exact o9 hi hlt
    subst hin;refine W.done _ _ _ hst fun h₂ tk₂ hk₂=>?_;have F₂:=F1.past (h:=h₂) (tk:=tk₂) hCwr hk₂;refine xAA (F₂.zs (L_,oL) Aj) fun aL bL cL'=>?_;have cL:=cL' (by show L3 oL=true;unfold L3;rw[hdL]);refine done C D ys H_ _ mC ⟨F₂.base,F₂.keep,cL,(PX oL esL epL aL hdL hrL),fun p hp=>?_,F₂.gens,F₂.os⟩ hI hlen F₂.ns (B9 bL) F₂.noL (fun z hz=>(F₂.zs z (Ao _ hz)).2.1) (B9 hDC) (fun p hp=>(below _ _ (hl p hp)).1) (fun p hp=>hk₂ _ _ (hlo p hp) (hl1 p hp)) ?_ hHD (freshD _ fun _ _ e=>e).1
    ·refine xAA (F₂.zs p (Ao _ hp)) fun a _ r=>?_;exact (yAA a ((F.zs p hp).2.1) r)
    ·refine xE hacc ?_;clear hacc;intro nD haccD';exact⟨nD,hk₂ _ _ hDwr haccD'⟩
  ·intro p hp;rcases As.mp hp with rfl | hp
   ·exact (yAA (old _ _ hoL) hLlt.1 (fun _=>F.noL))
   ·refine xAA (F.zs p hp) fun a _ r=>?_;exact (yAA (old _ _ a) ((below _ _ a).1) r)
 subst hCC;subst hD;exact Is (loop _ rfl) (hself _ _ _ hst₁ (loop _ rfl))
end U3
theorem Pc{A s0 s H Z L m E env elt iter target scope cl pos it fp wr n P Md St}:U3.pP A s0 s H Z L m E env elt iter target scope cl pos it fp wr n P Md St:=@KB _ _ U3.fF U3.kK rfl U3.tT (A,s0,s,H,Z,L,m,E,env,elt,iter,target,scope,cl,pos,it,fp,wr,n,P,Md,St)
end
end
section
noncomputable def NS(A:Aq)(target:Expr)(it:Addr)(n:Nat)(P:Nat→Value→AE→Prop)(lo:List (Addr×Obj))(sb s':A4):Prop:=
 ∃(fp wr:List Addr) (Md:Nat→Value→AE→Prop) (St:Nat→AE→Prop) (Y:List (Addr×Obj)),DI PG c.w A target it fp wr n P Md St∧(∀i h,St i h→∀b∈wr,∃o,h.get? b=some o∧L3 o=true)∧(∀b∈fp,b∈wr∨∃p∈lo++Y,p.1=b)∧(∀p∈lo++Y,p.1∉wr)∧(∀p∈Y,s'.heap.get? p.1=some p.2∧L3 p.2=false∧Li p.2=true)∧
   (∀(s:A4) (Q:Value→A4→Prop) (E:Value→A4→Prop),St 0 s.heap→Q (.ref it) s→A8 (MD c.w) A (Dr (.ref it)) Q E s)∧St 0 s'.heap∧(∀b∈wr,sb.heap.get? b=none∧b<s'.heap.objs.size)
noncomputable def Src(A:Aq)(target:Expr)(v:Value)(n:Nat)(P:Nat→Value→AE→Prop)(lo:List (Addr×Obj))(sb s:A4):Prop:=
 ∀(Q:Value→A4→Prop) (E:Value→A4→Prop),(∀s' it,Pu s s'→NS A target it n P lo sb s'→Q (.ref it) s')→A8 (MD c.w) A (Dr v) Q E s
theorem Src.of{A:Aq}{target:Expr}{v:Value}{n:Nat}{P:Nat→Value→AE→Prop}{lo:List (Addr×Obj)}{sb s:A4}(h:∀(Q:Value→A4→Prop) (E:Value→A4→Prop),
   (∀s' it fp wr Md St,Pu s s'→DI PG c.w A target it fp wr n P Md St→(∀i h,St i h→∀b∈wr,∃o,h.get? b=some o∧L3 o=true)→(∀b∈fp,b∈wr∨∃p∈lo,p.1=b)→(∀p∈lo,p.1∉wr)→
    (∀(s:A4) (Q:Value→A4→Prop) (E:Value→A4→Prop),St 0 s.heap→Q (.ref it) s→A8 (MD c.w) A (Dr (.ref it)) Q E s)→St 0 s'.heap→(∀b∈wr,sb.heap.get? b=none∧b<s'.heap.objs.size)→Q (.ref it) s')→
   A8 (MD c.w) A (Dr v) Q E s):Src A target v n P lo sb s:=
 fun Q E k=>h Q E fun s' it fp wr Md St p W l a b c d e=>k s' it p ⟨fp,wr,Md,St,[],W,l,(by simpa using a),(by simpa using b),(by simp),c,d,e⟩
theorem DI.to{prog:Program}{w:Bo}{A:Aq}{target:Expr}{I:Addr}{fp wr:List Addr}{n:Nat}{P P' Md:Nat→Value→AE→Prop}{St:Nat→AE→Prop}(W:DI prog w A target I fp wr n P Md St)(k:∀i v h,P i v h→P' i v h):DI prog w A target I fp wr n P' Md St:=
 ⟨W.sub,W.frame,W.item,fun i v s Q E hm hQ=>W.go i v s Q E hm fun h' hP st hk=>hQ h' (k _ _ _ hP) st hk,W.done⟩
theorem DI.n_eq{prog:Program}{w:Bo}{A:Aq}{target:Expr}{I:Addr}{fp wr:List Addr}{n n':Nat}{P Md:Nat→Value→AE→Prop}{St:Nat→AE→Prop}(W:DI prog w A target I fp wr n P Md St)(k:n=n'):DI prog w A target I fp wr n' P Md St:=k▸W
section
variable{A:Aq}{s0 s s' sb:A4}{H:AE}{Z:List (Addr×Obj)}{L:Addr}{m:A9→Option Value}{E:Value→A4→Prop}{env:Env}
theorem Src.list{target:Expr}{l:Addr}{vs:List Value}{n:Nat}(hh:A.handled=none)(hl:IsL s.heap l vs.toArray n)(p:Pu sb s):Src A target (.ref l) vs.length (fun i v _=>vs[i]?=some v) [(l,{cls:=.type "list",dict:=none,data:=.seq vs.toArray n,slots:=#[]})] sb s:=Src.of fun Q E h=>by
 have hl':=hl.isList;refine DU hl' ?_;have hlt:l<s.heap.objs.size:=AM hl;have hne:l≠s.heap.objs.size:=Az hlt;have W:=EW (target:=target) (JI (prog:=PG) (w:=c.w) hh s.heap.objs.size l hne vs.toArray) (fun i v s Q E st hQ=>letGo_listiter st.1 hQ);have W':=DI.n_eq (DI.to W (P':=fun i v _=>vs[i]?=some v) (fun i v h e=>by simpa using e)) (Ay (as:=vs));refine h _ _ _ _ _ _ (Pu.push _ _) W' (fun i h st b hb=>?_) (fun b hb=>?_) (fun p hp=>?_) (fun s Q E st hQ=>wpAny_pyIter_listiter st.1 hQ) ⟨(M1 _ (AB _ rfl) rfl rfl),hl'.push _⟩ (fun b hb=>?_)
 ·rw[Ab]at hb;subst hb;refine xA st ?_;clear st;rintro⟨o,e,_,d⟩ _;exact (yEA o e (by unfold L3;rw[d]))
 ·rcases As.mp hb with rfl | hb
  ·exact .inl Aj
  ·rw[Ab]at hb;exact .inr (yEA _ Aj hb.symm)
 ·rw[Ab]at hp;subst hp;rw[Ab];exact hne
 ·rw[Ab]at hb;subst hb;refine⟨?_,by rw[Bu];exact AS _⟩;exact Ky fun o e=>by exact absurd (AM (p.ext _ _ e)) (B3 _)
theorem Src.tuple{target:Expr}{l:Addr}{vs:List Value}{n:Nat}(hh:A.handled=none)(hl:s.heap.get? l=some {cls:=.type "tuple",dict:=none,data:=.seq vs.toArray n,slots:=#[]})(p:Pu sb s):Src A target (.ref l) vs.length (fun i v _=>vs[i]?=some v) [(l,{cls:=.type "tuple",dict:=none,data:=.seq vs.toArray n,slots:=#[]})] sb s:=Src.of fun Q E h=>by
 have hl':s.heap.IsTuple l vs.toArray:=(QB _ hl rfl n rfl);refine J9 hl' ?_;have hlt:l<s.heap.objs.size:=AM hl;have hne:l≠s.heap.objs.size:=Az hlt;have W:=EW (target:=target) (Jr (prog:=PG) (w:=c.w) hh s.heap.objs.size l hne vs.toArray) (fun i v s Q E st hQ=>letGo_tupleiter st.1 hQ);have W':=DI.n_eq (DI.to W (P':=fun i v _=>vs[i]?=some v) (fun i v h e=>by simpa using e)) (Ay (as:=vs));refine h _ _ _ _ _ _ (Pu.push _ _) W' (fun i h st b hb=>?_) (fun b hb=>?_) (fun p hp=>?_) (fun s Q E st hQ=>wpAny_pyIter_tupleiter st.1 hQ) ⟨(M1 _ (AB _ rfl) rfl rfl),hl'.at fun o e=>Ak _ e⟩ (fun b hb=>?_)
 ·rw[Ab]at hb;subst hb;refine xA st ?_;clear st;rintro⟨o,e,_,d⟩ _;exact (yEA o e (by unfold L3;rw[d]))
 ·rcases As.mp hb with rfl | hb
  ·exact .inl Aj
  ·rw[Ab]at hb;exact .inr (yEA _ Aj hb.symm)
 ·rw[Ab]at hp;subst hp;rw[Ab];exact hne
 ·rw[Ab]at hb;subst hb;refine⟨?_,by rw[Bu];exact AS _⟩;exact Ky fun o e=>by exact absurd (AM (p.ext _ _ e)) (B3 _)
theorem Su{M:Model}{Q:Unit→A4→Prop}(h:Q () s):A8 M A (Hp (.Name x pos) it v) Q E s:=Ae h
theorem Mv(ha:0≤a)(ha':a<2^62)(hb : -2^62<b)(hb':b<2^62):GC a b 1=true:=by
 unfold GC;rw[I0];simp only[JU,Ce,decide_eq_true_eq,Bool.or_eq_true,beq_iff_eq];refine⟨⟨(yAA (yAA ⟨by lia,by exact n34 ha'⟩ (by lia) (by exact n34 hb')) (by decide) (by decide)),?_⟩,.inr ?_⟩
 ·split<;>lia
 ·rw[if_pos (by decide)];simp only[Ce,decide_eq_true_eq];exact aq127 hb hb'
theorem Src.range{x:A9}{pos:Pos}{r:Addr}{a:Nat}{b:Int}{t u w:Tok}(hh:A.handled=none)(hr:Jt s.heap r (a:Int) b 1 t u w)(p:Pu sb s)(ha:a≤100000)(hb:b≤100000)(hb' : -100000≤b):Src A (.Name x pos) (.ref r) (b - a).toNat (fun i v _=>MK v (a+i)) [] sb s:=Src.of fun Q E h=>by
 refine wpAny_pyIter_range hr (Mv (by exact n3) (by exact n16 ha) (by exact aq297 hb') (by exact aq287 hb)) ?_;have W:=EW (target:=.Name x pos) (Walks.range (prog:=PG) (w:=c.w) (A:=A) hh s.heap.objs.size (a:Int) 1 (b - a).toNat) (fun i v s Q E st hQ=>Su hQ);have W':=DI.to W (P':=fun i v _=>MK v (a+i)) (fun i v h hP=>by refine xE hP ?_;clear hP;rintro t rfl;exact⟨t,by simp⟩);refine h _ _ _ _ _ _ (Pu.push _ _) W' (fun i h st b hb=>?_) (fun b hb=>.inl hb) (fun p hp=>by exact absurd hp Ah) (fun s Q E st hQ=>wpAny_pyIter_rangeiter st hQ) ?_ (fun b hb=>?_)
 ·rw[Ab]at hb;subst hb;exact (yEA _ st rfl)
 ·have:JT (a:Int) b 1=((b - a).toNat:Int):=by rw[I0];split<;>lia
  rw[this];show IsRangeIter _ _ _ _ _;simp only[Int.natCast_zero,Int.zero_mul,JQ,Int.sub_zero];exact AB _ rfl
 ·rw[Ab]at hb;subst hb;refine⟨?_,by rw[Bu];exact AS _⟩;exact Ky fun o e=>by exact absurd (AM (p.ext _ _ e)) (B3 _)
theorem Xr{elts:List Expr}{k:Nat}{pos:Pos}{l:Addr}{vs:List Value}{n:Nat}{Q:Value→A4→Prop}(hh:A.handled=none)(hl:IsL s.heap l vs.toArray n)(h:∀e s',Pu s s'→Src A (.Tuple elts k pos) (.ref e) vs.length (fun i v h=>∃T x t,v=.ref T∧vs[i]?=some x∧h.IsTuple T #[.int i t,x]) [(l,{cls:=.type "list",dict:=none,data:=.seq vs.toArray n,slots:=#[]})] s s'→Q (.ref e) s'):A8 (MD c.w) A (call (.type "enumerate") [.ref l]) Q E s:=by
 refine call_enumerate_1 hl fun h' he hit hsz hk=>?_;have P:Pu s {s with heap:=h' }:=⟨hk,rfl,rfl⟩;have hlt:l<s.heap.objs.size:=AM hl;refine h _ _ P (Src.of fun Q E hq=>Jm he ?_);have W:=KTurns.ofWalksU (elts:=elts) (k:=k) (pos:=pos) (WalksT.enumerate (prog:=PG) (w:=c.w) (A:=A) hh (s.heap.objs.size+1) s.heap.objs.size l (Dm _) (Az (AA hlt)) (Az hlt) vs.toArray).toU
 have W':=DI.n_eq (DI.to W (P':=fun i v h=>∃T x t,v=.ref T∧vs[i]?=some x∧h.IsTuple T #[.int i t,x]) (fun i v h hP=>by
  refine LR hP ?_;clear hP;rintro T vals rfl ⟨t,x,hx,rfl⟩ hT;exact (PX T x t rfl (by simpa using hx) hT))) (Ay (as:=vs))
 refine hq _ _ _ _ _ _ (Pu.refl _) W' (fun i h st b hb=>?_) (fun b hb=>?_) (fun p hp=>?_) (fun s Q E st hQ=>by refine xA st ?_;clear st;rintro⟨old,he⟩ _;exact Jm he hQ) (yAA ⟨_,he⟩ hit (QB _ (hk _ _ hl) rfl n rfl)) (fun b hb=>?_)
 ·refine xAA st ?_;clear st;rintro⟨old,he⟩ ⟨o,e,_,d⟩ _;rcases As.mp hb with rfl | hb
  ·exact (yEA _ he rfl)
  ·rw[Ab]at hb;subst hb;exact (yEA o e (by unfold L3;rw[d]))
 ·rcases As.mp hb with rfl | hb
  ·exact .inl Aj
  ·rcases As.mp hb with rfl | hb
   ·exact .inl (Ao _ Aj)
   ·rw[Ab]at hb;exact .inr (yEA _ Aj hb.symm)
 ·rw[Ab]at hp;subst hp;intro hq;rcases As.mp hq with hq | hq
  ·exact Az (AA hlt) hq
  ·rw[Ab]at hq;exact Az hlt hq
 ·have fr:∀a,s.heap.objs.size≤a→s.heap.get? a=none:=fun a ha=>by
   exact Ky fun o e=>by exact absurd (AM e) (Ek.mpr ha)
  rcases As.mp hb with rfl | hb
  ·exact⟨fr _ (Cj _),by show _<h'.objs.size;rw[hsz];exact AS _⟩
  ·rw[Ab]at hb;subst hb;exact⟨fr _ (At _),by show _<h'.objs.size;rw[hsz];exact AA (AS _)⟩
inductive TuK(s0:A4)(Z:List (Addr×Obj))(L:Addr)(J:AE→(A9→Option Value)→Prop)(s:A4):Prop
 | mk(H':AE)(m':A9→Option Value)(F:Fm s0 H' Z L m' s)(h:J H' m')
noncomputable abbrev foK(s0:A4)(Z:List (Addr×Obj))(L:Addr)(J:AE→(A9→Option Value)→Prop)(R:DB→A4→Prop):DB→A4→Prop:=fun f s=>match f with
 | .next | .cont=>TuK s0 Z L J s
 | .brk=>False
 | .ret v=>R (.ret v) s
noncomputable abbrev loK(E:Value→A4→Prop)(R:DB→A4→Prop)(env:Env)(A:Aq):EP→A4→Prop:=fun r s=>match r with | .ok f=>R f s | .error e=>cameBackBy (MD c.w) A env E e s
noncomputable abbrev itK(target:Expr)(body:List Stmt)(E:Value→A4→Prop)(R:DB→A4→Prop)(env:Env)(A:Aq):Value→A4→Prop:=fun it s=>BM (MD c.w) A (.forLoop target it body [] env) (loK E R env A) s
noncomputable abbrev piK(E:Value→A4→Prop)(Q:Value→A4→Prop)(A:Aq):Value→A4→Prop:=fun v s=>A8 (MD c.w) A (Dr v) Q E s
inductive CtK(s0:A4)(Z:List (Addr×Obj))(C:Addr)(J:List Value→AE→Prop)(ys:List Value)(y:Value)(s:A4):Prop
 | mk(H':AE)(m':A9→Option Value)(F:Fm s0 H' Z C m' s)(h:J (ys++[y]) H')
noncomputable abbrev elK(elt:Expr)(Q:Value→A4→Prop)(env:Env)(A:Aq):Unit→A4→Prop:=fun _ s=>A8 (MD c.w) A (AJ elt env) Q NoE s
theorem Rc{target:Expr}{body:List Stmt}{n:Nat}{P:Nat→Value→AE→Prop}{lo:List (Addr×Obj)}{R:DB→A4→Prop}{it:Addr}(X:NS A target it n P lo sb s')(Fb:Fm s0 H Z L m sb)(p:Pu sb s)(p':Pu s s')(hlo:∀p∈lo,s.heap.get? p.1=some p.2∧p.1≠L∧(L3 p.2=true→H.get? p.1=none))(I:Nat→AE→(A9→Option Value)→Prop)(h0:I 0 H m)(turn:∀i v H m s Z',i<n→((∀p∈lo,Li p.2=true)→ZN Z→ZN Z')→Fm s0 H Z' L m s→(∀p∈lo,s.heap.get? p.1=some p.2)→P i v s.heap→I i H m→
   A8 (MD c.w) A (Dx target env v) (exK body NoE (foK s0 Z' L (I (i+1)) R) env A) NoE s)(done:∀H m s,Fm s0 H Z L m s→I n H m→R .next s):BM (MD c.w) A (.forLoop target (.ref it) body [] env) (loK E R env A) s':=by
 refine T5 X ?_;clear X;intro fp wr Md St Y W live hfp hlo' hY hself hst hwr
 have Fz:Fm s0 H ((lo++Y)++Z) L m s':=by
  have F:=(Fb.pu p).pu p';refine⟨F.base,F.keep,F.noL,F.ns,fun z hz=>?_,F.gens,F.os⟩;rcases Am.mp hz with hz | hz
  ·rcases Am.mp hz with hz | hz
   ·refine xA (hlo z hz) fun a r=>?_;exact⟨p'.ext _ _ a,r⟩
   ·refine xAA (hY z hz) fun a b _=>?_;exact (yAA a ((F.imm_apart a b).1) (fun q=>by rw[b]at q;exact nomatch q))
  ·exact F.zs z hz
 have hloY:∀p∈lo++Y,s'.heap.get? p.1=some p.2:=fun p hp=>(Fz.zs p (AD _ hp)).1;refine PL W live (lo++Y) hfp hlo' I (fun i v H m s Zi hi F hl hZi hP hI=>?_) (fun H m s F hI _=>done H m s (F.less fun p hp=>AL _ hp) hI) Fz (fun b hb=>?_) hst hloY h0
 ·refine Al (turn i v H m s _ hi (fun n1 n2 p hp=>by
   rcases Am.mp hp with hp | hp
   ·exact (hZi p hp).2
   ·rcases Am.mp hp with hp | hp
    ·rcases Am.mp hp with hp | hp
     ·exact n1 p hp
     ·exact (hY p hp).2.2
    ·exact n2 p hp) F (fun p hp=>hl p (AD _ hp)) hP hI) (fun _ s2 h2=>Al h2 (fun f s3 h3=>?_) fun _ _ e=>e) fun _ _ e=>e
  have fin:TuK s0 (Zi++((lo++Y)++Z)) L (I (i+1)) s3→Ow s0 Zi ((lo++Y)++Z) L (lo++Y) (I (i+1)) s3:=fun⟨H',m',F',hI'⟩=>
   (MN H' m' F' hI' (fun p hp=>(F'.zs p (AL _ (AD _ hp))).1))
  induction f with
  | ret v=>exact h3
  | brk=>exact h3
  | cont=>exact fin h3
  | next=>exact fin h3
 ·refine xAA (Fb.apart (hwr b hb).1) fun a b1 c1=>?_;refine (yAA a b1 (fun z hz=>?_));rcases Am.mp hz with hz | hz
  ·exact fun q=>hlo' z hz (q▸hb)
  ·exact c1 z hz
theorem SH{target:Expr}{body:List Stmt}{n:Nat}{P:Nat→Value→AE→Prop}{lo:List (Addr×Obj)}{R:DB→A4→Prop}{it:Addr}(X:NS A target it n P lo sb s')(Fb:Fm s0 H Z L m sb)(p:Pu sb s)(p':Pu s s')(hlo:∀p∈lo,s.heap.get? p.1=some p.2∧p.1≠L∧(L3 p.2=true→H.get? p.1=none))(I:Nat→AE→(A9→Option Value)→Prop)(h0:I 0 H m)(turn:∀i v H m s Z',i<n→Fm s0 H Z' L m s→(∀p∈lo,s.heap.get? p.1=some p.2)→P i v s.heap→I i H m→
   A8 (MD c.w) A (Dx target env v) (exK body NoE (foK s0 Z' L (I (i+1)) R) env A) NoE s)(done:∀H m s,Fm s0 H Z L m s→I n H m→R .next s):BM (MD c.w) A (.forLoop target (.ref it) body [] env) (loK E R env A) s':=
 Rc X Fb p p' hlo I h0 (fun i v H m s Z' hi _ F hl hP hI=>turn i v H m s Z' hi F hl hP hI) done
theorem On{target:Expr}{body:List Stmt}{v:Value}{n:Nat}{P:Nat→Value→AE→Prop}{lo:List (Addr×Obj)}{R:DB→A4→Prop}(S:Src A target v n P lo sb s)(Fb:Fm s0 H Z L m sb)(p:Pu sb s)(hlo:∀p∈lo,s.heap.get? p.1=some p.2∧p.1≠L∧(L3 p.2=true→H.get? p.1=none))(I:Nat→AE→(A9→Option Value)→Prop)(h0:I 0 H m)(turn:∀i v H m s Z',i<n→Fm s0 H Z' L m s→(∀p∈lo,s.heap.get? p.1=some p.2)→P i v s.heap→I i H m→
   A8 (MD c.w) A (Dx target env v) (exK body NoE (foK s0 Z' L (I (i+1)) R) env A) NoE s)(done:∀H m s,Fm s0 H Z L m s→I n H m→R .next s):A8 (MD c.w) A (Dr v) (itK target body E R env A) E s:=
 S _ _ fun s' it p' X=>SH X Fb p p' hlo I h0 turn done
theorem Qt{target:Expr}{body:List Stmt}{n:Nat}{P:Nat→Value→AE→Prop}{lo:List (Addr×Obj)}{R:DB→A4→Prop}{it:Addr}(X:NS A target it n P lo sb s')(Fb:Fm s0 H Z L m sb)(p:Pu sb s)(p':Pu s s')(I:Nat→AE→(A9→Option Value)→Prop)(hlo:∀i H m,I i H m→∀p∈lo,H.get? p.1=some p.2)(h0:I 0 H m)(turn:∀i v H m s Z',i<n→Fm s0 H Z' L m s→P i v s.heap→I i H m→
   A8 (MD c.w) A (Dx target env v) (exK body NoE (foK s0 Z' L (I (i+1)) R) env A) NoE s)(done:∀H m s,Fm s0 H Z L m s→I n H m→R .next s):BM (MD c.w) A (.forLoop target (.ref it) body [] env) (loK E R env A) s':=by
 refine T5 X ?_;clear X;intro fp wr Md St Y W live hfp hlo' hY hself hst hwr
 have Fz:Fm s0 H (Y++Z) L m s':=by
  have F:=(Fb.pu p).pu p';refine⟨F.base,F.keep,F.noL,F.ns,fun z hz=>?_,F.gens,F.os⟩;rcases Am.mp hz with hz | hz
  ·refine xAA (hY z hz) fun a b _=>?_;exact (yAA a ((F.imm_apart a b).1) (fun q=>by rw[b]at q;exact nomatch q))
  ·exact F.zs z hz
 have wrY:∀b∈wr,∀z∈Y++Z,z.1≠b:=fun b hb z hz=>by
  rcases Am.mp hz with hz | hz
  ·exact fun q=>hlo' z (AL _ hz) (q▸hb)
  ·exact (Fb.apart (hwr b hb).1).2.2 z hz
 have loY:∀s H m i,Fm s0 H (Y++Z) L m s→I i H m→∀p∈lo++Y,s.heap.get? p.1=some p.2:=fun s H m i F hI p hp=>by
  rcases Am.mp hp with hp | hp
  ·exact F.keep _ _ (hlo _ _ _ hI p hp)
  ·exact (F.zs p (AD _ hp)).1
 refine PL W live (lo++Y) hfp hlo' I (fun i v H m s Zi hi F hl hZi hP hI=>?_) (fun H m s F hI _=>done H m s (F.less fun p hp=>AL _ hp) hI) Fz (fun b hb=>(yAA ((Fb.apart (hwr b hb).1).1) ((Fb.apart (hwr b hb).1).2.1) (wrY b hb))) hst (loY _ _ _ _ Fz h0) h0;refine Al (turn i v H m s _ hi F hP hI) (fun _ s2 h2=>Al h2 (fun f s3 h3=>?_) fun _ _ e=>e) fun _ _ e=>e
 have fin:TuK s0 (Zi++(Y++Z)) L (I (i+1)) s3→Ow s0 Zi (Y++Z) L (lo++Y) (I (i+1)) s3:=fun⟨H',m',F',hI'⟩=>
  (MN H' m' F' hI' (loY _ _ _ _ (F'.less fun p hp=>AL _ hp) hI'))
 induction f with
 | ret v=>exact h3
 | brk=>exact h3
 | cont=>exact fin h3
 | next=>exact fin h3
theorem Xo{target:Expr}{body:List Stmt}{v:Value}{n:Nat}{P:Nat→Value→AE→Prop}{lo:List (Addr×Obj)}{R:DB→A4→Prop}(S:Src A target v n P lo sb s)(Fb:Fm s0 H Z L m sb)(p:Pu sb s)(I:Nat→AE→(A9→Option Value)→Prop)(hlo:∀i H m,I i H m→∀p∈lo,H.get? p.1=some p.2)(h0:I 0 H m)(turn:∀i v H m s Z',i<n→Fm s0 H Z' L m s→P i v s.heap→I i H m→
   A8 (MD c.w) A (Dx target env v) (exK body NoE (foK s0 Z' L (I (i+1)) R) env A) NoE s)(done:∀H m s,Fm s0 H Z L m s→I n H m→R .next s):A8 (MD c.w) A (Dr v) (itK target body E R env A) E s:=
 S _ _ fun s' it p' X=>Qt X Fb p p' I hlo h0 turn done
theorem Mp(h:A8 (MD c.w) A (AJ iter env) (piK E (itK target body E (nx rest E Q env A) env A) A) E s)(hs:autoParam (∀x,GG iter env x=pure x) au5._auto_1):A8 (MD c.w) A (execs (.For target iter body [] pos::rest) env) Q E s:=LW (wpAny_For h hs)
noncomputable abbrev Qz(target:Expr)(elt:Expr)(iter:Expr)(pos:Pos)(E:Value→A4→Prop)(env:Env)(A:Aq)(scope:GK)(cl:List (A9×Addr))(RR:Value→Addr→EP→A4→Prop)(it:Value)(s:A4):Prop:=
 A8 (MD c.w) A (Fk []) (fun acc s₃=>A8 (MD c.w) A (FQ scope env.globals cl [] env.qual none .none (some env)) (fun cenv s₄=>
   BM (MD c.w) A (.compStart (.ListComp elt [⟨target,iter,[],0⟩] scope pos) 0 it acc {cenv with scope:=Jo scope env}) (RR acc cenv.locals) s₄) E s₃) E s
structure MW(s0:A4)(H:AE)(Z:List (Addr×Obj))(L:Addr)(m:A9→Option Value)(C D:Addr)(ys:List Value)(s:A4):Prop where
 F:Fm s0 H Z L m s
 ns:∃m',s.heap.Ns C m'
 cL:C≠L
 hC:H.get? C=none
 cZ:∀z∈Z,z.1≠C
 cD:C≠D
 lst:Lst s.heap D ys
 hD:H.get? D=none
theorem Rf{elt iter target:Expr}{scope:GK}{cl:List (A9×Addr)}{pos:Pos}{n:Nat}{P:Nat→Value→AE→Prop}{lo:List (Addr×Obj)}{RR:Value→Addr→EP→A4→Prop}{it:Addr}(X:NS A target it n P lo sb s')(Fb:Fm s0 H Z L m sb)(p:Pu sb s)(p':Pu s s')(hlo:∀p∈lo,s.heap.get? p.1=some p.2∧p.1≠L∧(L3 p.2=true→H.get? p.1=none))(hz:n≤16000)(I:Nat→List Value→AE→Prop)(h0:I 0 [] H)(turn:∀C i ys v H m s Z',i<n→ys.length=i→Fm s0 H Z' C m s→(∀p∈lo,s.heap.get? p.1=some p.2)→P i v s.heap→I i ys H→
   A8 (MD c.w) A (Dx target (D1 scope cl C env) v) (elK elt (CtK s0 Z' C (I (i+1)) ys) (D1 scope cl C env) A) NoE s)(done:∀C D ys H s1,MW s0 H Z L m C D ys s1→I n ys H→ys.length=n→s.heap.get? D=none→RR (.ref D) C (.ok .next) s1)(hcell:autoParam (∀y∈scope.names,y.2≠.cell) au2._auto_1)(hkind:autoParam (scope.kind=.function) au1._auto_1):Qz target elt iter pos E env A scope cl RR (.ref it) s':=by
 refine T5 X ?_;clear X;intro fp wr Md St Y W live hfp hlo' hY hself hst hwr
 have Fz:Fm s0 H ((lo++Y)++Z) L m s':=by
  have F:=(Fb.pu p).pu p';refine⟨F.base,F.keep,F.noL,F.ns,fun z hz=>?_,F.gens,F.os⟩;rcases Am.mp hz with hz | hz
  ·rcases Am.mp hz with hz | hz
   ·refine xA (hlo z hz) fun a r=>?_;exact⟨p'.ext _ _ a,r⟩
   ·refine xAA (hY z hz) fun a b _=>?_;exact (yAA a ((F.imm_apart a b).1) (fun q=>by rw[b]at q;exact nomatch q))
  ·exact F.zs z hz
 have hloY:∀p∈lo++Y,s'.heap.get? p.1=some p.2:=fun p hp=>(Fz.zs p (AD _ hp)).1;refine Pc W live (lo++Y) hfp hlo' hself hcell hkind hz I (fun C i ys v H m s Z' hi hy hZ F hl hP hI=>?_) (fun C D ys H s1 m' F hI hlen hns hCL hC hCZ hCD hCl hl hD hHD hsD=>?_) Fz (fun b hb=>?_) hst (fun b hb=>(hwr b hb).2) hloY h0
 ·exact Al (turn C i ys v H m s Z' hi hy F (fun p hp=>hl p (AD _ hp)) hP hI) (fun _ s2 h2=>Al h2 (fun y s3 ⟨H',m',F',hI'⟩=>(MN H' m' F' hI' (fun p hp=>(F'.zs p (hZ p (AD _ hp))).1))) fun _ _ e=>e) fun _ _ e=>e
 ·exact done C D ys H s1 ⟨F.less fun p hp=>AL _ hp,⟨m',hns⟩,hCL,hC,fun z hz=>hCZ z (AL _ hz),hCD,hD,hHD⟩ hI hlen
   (by exact Ky fun o e=>by rw[p'.ext _ _ e]at hsD;exact nomatch hsD)
 ·refine xAA (Fb.apart (hwr b hb).1) fun a b1 c1=>?_;refine (yAA a b1 (fun z hz=>?_));rcases Am.mp hz with hz | hz
  ·exact fun q=>hlo' z hz (q▸hb)
  ·exact c1 z hz
theorem Lv{elt iter target:Expr}{scope:GK}{cl:List (A9×Addr)}{pos:Pos}{v:Value}{n:Nat}{P:Nat→Value→AE→Prop}{lo:List (Addr×Obj)}{RR:Value→Addr→EP→A4→Prop}(S:Src A target v n P lo sb s)(Fb:Fm s0 H Z L m sb)(p:Pu sb s)(hlo:∀p∈lo,s.heap.get? p.1=some p.2∧p.1≠L∧(L3 p.2=true→H.get? p.1=none))(hz:n≤16000)(I:Nat→List Value→AE→Prop)(h0:I 0 [] H)(turn:∀C i ys v H m s Z',i<n→ys.length=i→Fm s0 H Z' C m s→(∀p∈lo,s.heap.get? p.1=some p.2)→P i v s.heap→I i ys H→
   A8 (MD c.w) A (Dx target (D1 scope cl C env) v) (elK elt (CtK s0 Z' C (I (i+1)) ys) (D1 scope cl C env) A) NoE s)(done:∀C D ys H s1,MW s0 H Z L m C D ys s1→I n ys H→ys.length=n→s.heap.get? D=none→RR (.ref D) C (.ok .next) s1)(hcell:autoParam (∀y∈scope.names,y.2≠.cell) au2._auto_1)(hkind:autoParam (scope.kind=.function) au1._auto_1):A8 (MD c.w) A (Dr v) (Qz target elt iter pos E env A scope cl RR) E s:=
 S _ _ fun s' it p' X=>Rf X Fb p p' hlo hz I h0 turn done hcell hkind
theorem SP{elt iter target:Expr}{scope:GK}{cl:List (A9×Addr)}{pos:Pos}{n:Nat}{P:Nat→Value→AE→Prop}{lo:List (Addr×Obj)}{RR:Value→Addr→EP→A4→Prop}{it:Addr}(X:NS A target it n P lo sb s')(Fb:Fm s0 H Z L m sb)(p:Pu sb s)(p':Pu s s')(hz:n≤16000)(I:Nat→List Value→AE→Prop)(hlo:∀i ys H,I i ys H→∀p∈lo,H.get? p.1=some p.2)(h0:I 0 [] H)(turn:∀C i ys v H m s Z',i<n→ys.length=i→Fm s0 H Z' C m s→P i v s.heap→I i ys H→
   A8 (MD c.w) A (Dx target (D1 scope cl C env) v) (elK elt (CtK s0 Z' C (I (i+1)) ys) (D1 scope cl C env) A) NoE s)(done:∀C D ys H s1,MW s0 H Z L m C D ys s1→I n ys H→ys.length=n→s.heap.get? D=none→RR (.ref D) C (.ok .next) s1)(hcell:autoParam (∀y∈scope.names,y.2≠.cell) au2._auto_1)(hkind:autoParam (scope.kind=.function) au1._auto_1):Qz target elt iter pos E env A scope cl RR (.ref it) s':=by
 refine T5 X ?_;clear X;intro fp wr Md St Y W live hfp hlo' hY hself hst hwr
 have Fz:Fm s0 H (Y++Z) L m s':=by
  have F:=(Fb.pu p).pu p';refine⟨F.base,F.keep,F.noL,F.ns,fun z hz=>?_,F.gens,F.os⟩;rcases Am.mp hz with hz | hz
  ·refine xAA (hY z hz) fun a b _=>?_;exact (yAA a ((F.imm_apart a b).1) (fun q=>by rw[b]at q;exact nomatch q))
  ·exact F.zs z hz
 have wrY:∀b∈wr,∀z∈Y++Z,z.1≠b:=fun b hb z hz=>by
  rcases Am.mp hz with hz | hz
  ·exact fun q=>hlo' z (AL _ hz) (q▸hb)
  ·exact (Fb.apart (hwr b hb).1).2.2 z hz
 refine Pc W live (lo++Y) hfp hlo' hself hcell hkind hz I (fun C i ys v H m s Z' hi hy hZ F hl hP hI=>?_) (fun C D ys H s1 m' F hI hlen hns hCL hC hCZ hCD hCl hl hD hHD hsD=>?_) Fz (fun b hb=>(yAA ((Fb.apart (hwr b hb).1).1) ((Fb.apart (hwr b hb).1).2.1) (wrY b hb))) hst (fun b hb=>(hwr b hb).2) (fun p hp=>by
  rcases Am.mp hp with hp | hp
  ·exact Fz.keep _ _ (hlo _ _ _ h0 p hp)
  ·exact (Fz.zs p (AD _ hp)).1) h0
 ·exact Al (turn C i ys v H m s Z' hi hy F hP hI) (fun _ s2 h2=>Al h2 (fun y s3 ⟨H',m',F',hI'⟩=>(MN H' m' F' hI' (fun p hp=>by
   rcases Am.mp hp with hp | hp
   ·exact F'.keep _ _ (hlo _ _ _ hI' p hp)
   ·exact (F'.zs p (hZ p (AD _ hp))).1))) fun _ _ e=>e) fun _ _ e=>e
 ·exact done C D ys H s1 ⟨F.less fun p hp=>AL _ hp,⟨m',hns⟩,hCL,hC,fun z hz=>hCZ z (AL _ hz),hCD,hD,hHD⟩ hI hlen
   (by exact Ky fun o e=>by rw[p'.ext _ _ e]at hsD;exact nomatch hsD)
theorem Os{elt iter target:Expr}{scope:GK}{cl:List (A9×Addr)}{pos:Pos}{v:Value}{n:Nat}{P:Nat→Value→AE→Prop}{lo:List (Addr×Obj)}{RR:Value→Addr→EP→A4→Prop}(S:Src A target v n P lo sb s)(Fb:Fm s0 H Z L m sb)(p:Pu sb s)(hz:n≤16000)(I:Nat→List Value→AE→Prop)(hlo:∀i ys H,I i ys H→∀p∈lo,H.get? p.1=some p.2)(h0:I 0 [] H)(turn:∀C i ys v H m s Z',i<n→ys.length=i→Fm s0 H Z' C m s→P i v s.heap→I i ys H→
   A8 (MD c.w) A (Dx target (D1 scope cl C env) v) (elK elt (CtK s0 Z' C (I (i+1)) ys) (D1 scope cl C env) A) NoE s)(done:∀C D ys H s1,MW s0 H Z L m C D ys s1→I n ys H→ys.length=n→s.heap.get? D=none→RR (.ref D) C (.ok .next) s1)(hcell:autoParam (∀y∈scope.names,y.2≠.cell) au2._auto_1)(hkind:autoParam (scope.kind=.function) au1._auto_1):A8 (MD c.w) A (Dr v) (Qz target elt iter pos E env A scope cl RR) E s:=
 S _ _ fun s' it p' X=>SP X Fb p p' hz I hlo h0 turn done hcell hkind
theorem MW.post(K:MW s0 H Z L m C D ys s)(h:∀s',Fm s0 H Z L m s'→Lst s'.heap D ys→(∀b o,b≠C→s.heap.get? b=some o→s'.heap.get? b=some o)→Q (.ref D) s'):compPost (MD c.w) A E none Q (.ref D) C (.ok .next) s:=by
 refine xE K.ns fun m' hns=>?_;refine (yEA m' hns (fun h' hs=>h _ ?_ ?_ fun b o hb e=>hs.extBut b o hb e))
 ·exact K.F.past (wr:=[C]) (h:=h') (tk:=s.toks) (fun b hb=>by rw[Ab]at hb;subst hb;exact (yAA K.hC K.cL K.cZ)) fun b o hb e=>hs.extBut b o (fun q=>hb (by rw[q];exact Aj)) e
 ·refine xE K.lst fun n l=>?_;exact⟨n,hs.extBut _ _ (B9 K.cD) l⟩
theorem MJ(h:A8 (MD c.w) A (AJ iter env) (piK E (Qz target elt iter pos E env A scope cl (compPost (MD c.w) A E none Q)) A) E s)(hclos:autoParam (closureFor scope env=pure cl) au1._auto_1)(hkind:autoParam (scope.kind=.function) au1._auto_1)(hnames:autoParam (∀x∈scope.names,x.2=.local→scope.names.lookup x.1=some .local) au2._auto_1)(hs:autoParam (∀x,GG iter env x=pure x) au5._auto_1):A8 (MD c.w) A (AJ (.ListComp elt [⟨target,iter,[],0⟩] scope pos) env) Q E s:=by
 rw[eval_ListComp];exact HZ (use:=none) rfl hs hclos hkind hnames (Al h (fun v s1 h1=>Al h1 (fun it s2 h2=>h2) fun _ _ e=>e) fun _ _ e=>e)
end
end
section
section
variable{w:Bo}{A:Aq}{s:A4}{E:Value→A4→Prop}
noncomputable def KU(w:Bo)(A:Aq)(s:A4)(v:Value)(hd:Int×Nat):Prop:=
 ∀(tk:Nat) (Q:Int→A4→Prop) (E:Value→A4→Prop),Q hd.1 {s with toks:=tk+hd.2}→A8 (MD w) A (pyHash v) Q E {s with toks:=tk}
theorem KU.int(n:Int)(t:Tok):KU w A s (.int n t) (hashInt n,1):=fun tk Q E h=>(Dt PG w).pyHash (k:=n) (by exact if_pos rfl) h
theorem KU.str(x:A9)(t:Tok):KU w A s (.str x t) (hashStr w x,1):=fun tk Q E h=>(DO PG w).pyHash (k:=x) (by exact if_pos rfl) h
noncomputable def Np(hs:List (Int×Nat)):Int×Nat:=(reduceHash (C7 (hs.map (·.1))),(hs.map (·.2)).sum+1)
namespace U5
noncomputable def pP(w:Bo)(A:Aq)(s:A4)(a:Addr)(vs:List Value):Prop:=∀{hs:List (Int×Nat)}(hu:A.units<cLine)(hk:Tpl s.heap a vs)(hi:KJ (KU w A.in1 s) vs hs),KU w A s (.ref a) (Np hs)
noncomputable def fF:=unz fun w=>unz fun A=>unz fun s=>unz fun a=>pP w A s a
noncomputable def kK:=epz (c.w,{},{},default) fF
noncomputable def w_:=kK.1
noncomputable def A_:=kK.2.1
noncomputable def s_:=kK.2.2.1
noncomputable def a_:=kK.2.2.2.1
theorem tT:pP w_ A_ s_ a_ kK.2.2.2.2:=by
 intro hs hu hk hi;intro tk Q E h;refine xE hk ?_;clear hk;intro n ho;have hT:Fn {s_ with toks:=tk} (.ref a_) "tuple":=(yEA _ ho rfl);unfold pyHash;refine A5 (wpAny_cRoomFor_or (.inr hu) ?_);refine A5 (CP hT DN.lookup ?_);show A8 _ _ (if (some (GU "tuple.__hash__") == some Df)=true then _ else _) Q E _;rw[if_neg (by rw[JH];exact Cz)];refine A5 (CP hT DN.lookup ?_);show A8 _ _ (callSpecialIfBoundUnlessNone? (.ref a_) "__hash__" _ >>= _) Q E _;refine A5 (wpAny_callSpecialIfBoundUnlessNone?_slot hT DN (BS DN hT F.entry_tuple_hash ?_ (F.args_tuple_hash_1 _)));show A8 _ _ (Fy (.ref a_) >>= _) _ _ _;refine A5 (Gl (s:={s_ with toks:=tk}) ho rfl ?_);refine A5 ?_;rw[←Ed]
 refine Ds _
  (fun rest (b:Array Int) s'=>∃done left,hs=done++left∧KJ (KU w_ A_.in1 s_) rest left∧b.toList=done.map (·.1)∧s'={s_ with toks:=tk+(done.map (·.2)).sum})
  _ ?_ ?_ _ _ (Pj [] hs rfl hi rfl rfl)
 ·rintro x rest b s' ⟨done,left,rfl,hl,hb,rfl⟩;refine hl.unc ?_;rintro k ks' rfl h1 hl';refine A5 (h1 _ _ _ ?_)
  first
   | exact Ae ⟨done++[k],ks',by simp,hl',by simp[hb],by simp[E1]⟩
   | exact A5 (Ae (Ae ⟨done++[k],ks',by simp,hl',by simp[hb],by simp[E1]⟩))
 ·rintro b s' ⟨done,left,rfl,hl,hb,rfl⟩;have:left=[]:=AX.mp (by have:=hl.1;simpa using this.symm);subst this;rw[List.append_nil]at h;show A8 _ _ (retInt (C7 b.toList)) _ _ _;rw[hb];refine wpAny_ret_mkInt ?_;show A8 _ _ (if (decide (-(2:Int)^63≤C7 (done.map (·.1))) && decide (C7 (done.map (·.1))<2^63))=true then _ else _) Q E _;unfold Np reduceHash at h
  by_cases hr:(decide (-(2:Int)^63≤C7 (done.map (·.1))) && decide (C7 (done.map (·.1))<2^63))=true
  ·rw[if_pos hr];rw[if_pos hr]at h;exact Ae ‹_›
  ·rw[if_neg hr];rw[if_neg hr]at h;exact A5 (E5 (Ae ‹_›))
end U5
theorem KU.tup{w A s a vs}:U5.pP w A s a vs:=@KB _ _ U5.fF U5.kK rfl U5.tT (w,A,s,a,vs)
structure MF(w:Bo)(s:A4)(n:Nat)(v:Value):Prop where
 quiet:∀(A:Aq) (Q:Bool→A4→Prop) (E:Value→A4→Prop),Q true s→A8 (MD w) A (eqIsQuiet n v) Q E s
 noCls:∀(A:Aq) (Q:Bool→A4→Prop) (E:Value→A4→Prop),Q false s→A8 (MD w) A (Jp n v) Q E s
 hbv:∀(A:Aq) (Q:Bool→A4→Prop) (E:Value→A4→Prop),(∀b,Q b s)→A8 (MD w) A (hashByValue n v) Q E s
theorem MF.int(n:Nat)(k:Int)(t:Tok):MF w s n (.int k t) where
 quiet:=fun A Q E h=>by rw[Jq n (by rfl)];exact Ae h
 noCls:=fun A Q E h=>by induction n<;>exact Ae h
 hbv:=fun A Q E h=>by induction n<;>exact Ae (h _)
theorem MF.str(n:Nat)(k:A9)(t:Tok):MF w s n (.str k t) where
 quiet:=fun A Q E h=>by rw[Jq n (by rfl)];exact Ae h
 noCls:=fun A Q E h=>by induction n<;>exact Ae h
 hbv:=fun A Q E h=>by induction n<;>exact Ae (h _)
namespace U6
noncomputable def pP(w:Bo)(s:A4)(n:Nat)(a:Addr)(vs:List Value):Prop:=∀(hk:Tpl s.heap a vs)(hi:∀v∈vs,MF w s n v),MF w s (n+1) (.ref a)
noncomputable def fF:=unz fun w=>unz fun s=>unz fun n=>unz fun a=>pP w s n a
noncomputable def kK:=epz (c.w,{},default) fF
noncomputable def w_:=kK.1
noncomputable def s_:=kK.2.1
noncomputable def n_:=kK.2.2.1
noncomputable def a_:=kK.2.2.2.1
noncomputable def vs_:=kK.2.2.2.2
theorem tT:pP w_ s_ n_ a_ vs_:=by
 intro hk hi;refine xE hk ?_;clear hk;intro nn ho;have hT:Fn s_ (.ref a_) "tuple":=(yEA _ ho rfl);refine⟨fun A Q E h=>?_,fun A Q E h=>?_,fun A Q E h=>?_⟩
 ·unfold eqIsQuiet;refine A5 (CP hT Hc.lookup ?_);show A8 _ _ (Jg (.ref a_) (.type "tuple") >>= _) _ _ s_;refine A5 (CZ hT IF ?_);simp only[CO,Ax,if_false];refine A5 (Ex ho rfl ?_);refine A5 ?_;show A8 _ _ (forIn vs_.toArray _ _) _ _ s_;rw[←Ed];refine Ds _ (fun rest r s'=>r.1=none∧s'=s_∧∀v∈rest,MF w_ s_ n_ v) _ ?_ ?_ _ _ (yAA rfl rfl (by simpa using hi))
  ·rintro v rest r s' ⟨hr,rfl,hall⟩;refine A5 ((hall v Aj).quiet _ _ _ ?_);simp only[CO,Ax,if_false];exact Ae (yAA rfl rfl (fun u hu'=>hall u (Ao _ hu')))
  ·rintro⟨r1,r2⟩ s' ⟨hr,rfl,_⟩;simp only at hr;subst hr;exact Ae h
 ·unfold Jp;refine A5 (DS hT ?_)
  show A8 _ _ (do
   let underTuple ←if ("tuple" == "tuple")=true then pure true else isSubtype (.type "tuple") (.type "tuple")
   if (!underTuple)=true then pure false
   else _) Q E s_
  refine A5 (Ae ?_);simp only[CO,Ax,if_false];refine A5 (Ex ho rfl ?_);refine A5 ?_;show A8 _ _ (forIn vs_.toArray _ _) _ _ s_;rw[←Ed];refine Ds _ (fun rest r s'=>r.1=none∧s'=s_∧∀v∈rest,MF w_ s_ n_ v) _ ?_ ?_ _ _ (yAA rfl rfl (by simpa using hi))
  ·rintro v rest r s' ⟨hr,rfl,hall⟩;refine A5 ((hall v Aj).noCls _ _ _ ?_);simp only[Ax,if_false];exact Ae (yAA rfl rfl (fun u hu'=>hall u (Ao _ hu')))
  ·rintro⟨r1,r2⟩ s' ⟨hr,rfl,_⟩;simp only at hr;subst hr;exact Ae h
 ·unfold hashByValue;refine A5 (CP hT DN.lookup ?_);dsimp only;refine A5 (Ex ho rfl ?_);refine A5 ?_;show A8 _ _ (forIn vs_.toArray _ _) _ _ s_;rw[←Ed];refine Ds _ (fun rest r s'=>s'=s_∧∀v∈rest,MF w_ s_ n_ v) _ ?_ ?_ _ _ ⟨rfl,by simpa using hi⟩
  ·rintro v rest r s' ⟨rfl,hall⟩;refine A5 ((hall v Aj).hbv _ _ _ fun b=>?_)
   cases b
   ·exact Ae (Ae (h _))
   ·exact Ae ⟨rfl,fun u hu'=>hall u (Ao _ hu')⟩
  ·rintro⟨r1,r2⟩ s' ⟨rfl,_⟩
   induction r1<;>exact Ae (h _)
end U6
theorem MF.tup{w s n a vs}:U6.pP w s n a vs:=@KB _ _ U6.fF U6.kK rfl U6.tT (w,s,n,a,vs)
noncomputable def ML(w:Bo)(A:Aq)(s:A4)(u v:Value)(b:Bool):Prop:=∀(Q:Bool→A4→Prop) (E:Value→A4→Prop),Q b s→A8 (MD w) A (eqBool u v) Q E s
theorem ML.int(n k:Int)(t t':Tok):ML w A s (.int n t) (.int k t') (decide (n=k)):=fun Q E h=>JA (by rwa [show (n == k)=decide (n=k) by by_cases e:n=k<;>rfl])
theorem ML.str(n k:A9)(t t':Tok):ML w A s (.str n t) (.str k t') (decide (n=k)):=fun Q E h=>wpAny_eqBool_str h
inductive EqL(w:Bo)(A:Aq)(s:A4):List Value→List Value→Bool→Prop
 | nn:EqL w A s [] [] true
 | nc (y ys):EqL w A s [] (y::ys) false
 | cn (x xs):EqL w A s (x::xs) [] false
 | yes {x y xs ys b}:ML w A s x y true→EqL w A s xs ys b→EqL w A s (x::xs) (y::ys) b
 | no {x y xs ys}:ML w A s x y false→EqL w A s (x::xs) (y::ys) false
theorem ML.tree{P:Fin→A4→Prop}(ha:Tpl s.heap a xs)(hb:Tpl s.heap b ys)(hl:EqL w A s xs ys e)(h:P (.done (.ret (.bool e))) s):A8 (MD w) A (CT.«tuple.__eq__» ⟨[.ref a,.ref b],[]⟩) P E s:=by
 refine xE ha ?_;clear ha;intro na hoa;refine xE hb ?_;clear hb;intro nb hob;show A8 _ _ (Jg (.ref b) (.type "tuple") >>= _) _ _ s;refine A5 (CZ (yEA _ hob rfl) IF ?_);simp only[CO,Ax,if_false];refine A5 (Gl hoa rfl ?_);refine A5 (Gl hob rfl ?_);refine A5 ?_
 refine Ds _
  (fun rest r s'=>r.1=none∧s'=s∧∃xs' ys',rest=Bj xs' ys'∧EqL w A s xs' ys' e∧(xs'.length == ys'.length)=(xs.toArray.size == ys.toArray.size))
  _ ?_ ?_ _ _ ⟨rfl,rfl,xs,ys,by simp,hl,by rfl⟩
 ·rintro⟨u,v⟩ rest r s' ⟨hr,rfl,xs',ys',hz,hl',hlen⟩
  cases hl' with
  | nn=>trivial
  | nc=>trivial
  | cn=>trivial
  | yes h1 h2=>
   simp only[Ig,DM,Ei]at hz;refine xA hz ?_;clear hz;rintro⟨rfl,rfl⟩ rfl;refine A5 (h1 _ _ ?_);simp only[CO,Ax,if_false];exact Ae ⟨rfl,rfl,_,_,rfl,h2,by simpa using hlen⟩
  | no h1=>
   simp only[Ig,DM,Ei]at hz;refine xA hz ?_;clear hz;rintro⟨rfl,rfl⟩ rfl;refine A5 (h1 _ _ ?_);simp only[Eg,if_true];exact A5 (Ae (Ae (Ae h)))
 ·rintro⟨r1,r2⟩ s' ⟨hr,rfl,xs',ys',hz,hl',hlen⟩;simp only at hr;subst hr;refine Ae ?_
  have hfin:(xs.toArray.size == ys.toArray.size)=e:=by
   rw[←hlen]
   cases hl'<;>simp at hz ⊢
  show P (.done (.ret (.bool (xs.toArray.size == ys.toArray.size)))) s';rw[hfin];exact h
theorem ML.tup(hu:A.units<cLine)(ha:Tpl s.heap a xs)(hb:Tpl s.heap b ys)(hl:EqL w A.in1 s xs ys e)(hself:a=b→e=true):ML w A s (.ref a) (.ref b) e:=by
 intro Q E h;have hTa:s.TypeIs (.ref a) "tuple":=xE ha fun _ o=>(yEA _ o rfl);have hTb:s.TypeIs (.ref b) "tuple":=xE hb fun _ o=>(yEA _ o rfl);unfold eqBool
 try with_reducible refine B7 ?_
 show A8 _ _ (if (AN a == AN b)=true then _ else _) Q E s
 by_cases hab:(AN a == AN b)=true
 ·rw[if_pos hab];have e':a=b:=by have:=eq_of_beq hab;injection this
  rw[hself e']at h;exact A5 (E5 (Ae h))
 ·rw[if_neg hab]
  exact A5 (Hs (op:=.Eq) hTa hTb Hc
   (BS Hc hTa F.entry_tuple_eq (ML.tree ha hb hl (M1 _ rfl (fun e=>nomatch e) (Ai h))) (F.args_tuple_eq_2 _ _)) hu)
theorem EqL.ints(hx:LH xs ns)(hy:LH ys ks):EqL w A s xs ys (decide (ns=ks)):=by
 induction xs generalizing ys ns ks with
 | nil=>
  have:ns=[]:=AX.mp hx.1.symm;subst this
  induction ys with
  | nil=>have:ks=[]:=AX.mp hy.1.symm;subst this;exact .nn
  | cons y ys=>refine hy.unc ?_;rintro k ks' rfl _ _;exact .nc _ _
 | cons x xs ih=>
  refine hx.unc ?_;rintro n ns' rfl ⟨t,rfl⟩ hx'
  induction ys with
  | nil=>have:ks=[]:=AX.mp hy.1.symm;subst this;exact .cn _ _
  | cons y ys=>
   refine hy.unc ?_;rintro k ks' rfl ⟨t',rfl⟩ hy'
   by_cases e:n=k
   ·subst e;have:=ih hx' hy';rw[show decide (n::ns'=n::ks')=decide (ns'=ks') by simp];refine .yes ?_ this;have:=ML.int (w:=w) (A:=A) (s:=s) n n t t';simpa using this
   ·rw[show decide (n::ns'=k::ks')=false by simp[e]];refine .no ?_;have:=ML.int (w:=w) (A:=A) (s:=s) n k t t'
    rwa [show decide ((n:Int)=(k:Int))=false from decide_eq_false (fun q=>e (DE q))]at this
end
noncomputable abbrev Row:=A9×List Nat
noncomputable def L2(h:AE)(a:Addr)(r:Row):Prop:=∃t ks,Tpl h a (.str r.1 t::ks)∧LH ks r.2
noncomputable def LK(h:AE)(a:Addr)(k:List Nat×Nat):Prop:=∃b ks n,Tpl h a [.ref b,n]∧Tpl h b ks∧LH ks k.1∧MK n k.2
noncomputable def OA(h:AE)(a:Addr)(k:Nat×Row):Prop:=∃n b,Tpl h a [n,.ref b]∧MK n k.1∧L2 h b k.2
noncomputable def Im(h h':AE):Prop:=∀b o,L3 o=false→h.get? b=some o→h'.get? b=some o
theorem Ext.im(e:Ext h h'):Im h h':=fun b o _ x=>e b o x
theorem Im.refl(h:AE):Im h h:=fun _ _ _ e=>e
theorem Im.trans{a b c:AE}(x:Im a b)(y:Im b c):Im a c:=fun b o m e=>y b o m (x b o m e)
theorem Im.same(hl:h.get? l=some o)(hm:L3 o=true)(s:BZ l h h'):Im h h':=fun b o' m e=>by
 have:b≠l:=fun q=>by rw[q,hl]at e;obtain rfl:=Ag e;rw[hm]at m;exact nomatch m
 exact (s.2 b this).trans e
theorem Tpl.im(x:Tpl h l vs)(e:Im h h'):Tpl h' l vs:=xE x fun n y=>⟨n,e _ _ rfl y⟩
theorem Ins.im(i:Ins h x C dx)(e:Im h h'):Ins h' x C dx:=e _ _ rfl i
theorem KF(x:h.IsCell a v)(e:Im h h'):h'.IsCell a v:=xEA x fun o y d=>(yEA o (e _ _ (by unfold L3;rw[d]) y) d)
theorem L2.im(x:L2 h a r)(e:Im h h'):L2 h' a r:=MG x fun t ks y z=>(Pi t ks (y.im e) z)
theorem LK.im{r}(x:LK h a r)(e:Im h h'):LK h' a r:=O1 x fun b ks n y y' z=>(PX b ks n (y.im e) (y'.im e) z)
theorem OA.im{r}(x:OA h a r)(e:Im h h'):OA h' a r:=LR x fun n b y z r=>(MN n b (y.im e) z (r.im e))
theorem Tpl.inj(x:Tpl h a xs)(y:Tpl h a ys):xs=ys:=by
 refine xE x ?_;clear x;intro n x;refine xE y ?_;clear y;intro k y;rw[x]at y;simp only[EY,Obj.mk.injEq,Data.seq.injEq,true_and,and_true]at y;simpa using y.1
theorem LH.inj(x:LH vs ns)(y:LH vs ks):ns=ks:=by
 induction vs generalizing ns ks with
 | nil=>
  have h1:ns=[]:=AX.mp x.1.symm;have h2:ks=[]:=AX.mp y.1.symm;rw[h1,h2]
 | cons v vs ih=>
  refine x.unc ?_;rintro n ns' rfl ⟨t,rfl⟩ x';refine y.unc ?_;rintro k ks' rfl ⟨t',e⟩ y';have:(n:Int)=k:=by injection e
  rw[ih x' y',DE this]
theorem L2.inj(hx:L2 h a x)(hy:L2 h a y):x=y:=by
 refine MG hx ?_;clear hx;intro t ks a1 a2;refine MG hy ?_;clear hy;intro t' ks' b1 b2;have:=a1.inj b1;simp only[DM,Value.str.injEq]at this;refine xA this ?_;clear this;rintro⟨e1,_⟩ rfl;exact GN e1 (a2.inj b2)
theorem MK.inj(x:MK v n)(y:MK v k):n=k:=by
 refine xE x ?_;clear x;rintro t rfl;refine xE y ?_;clear y;intro t' e;have:(n:Int)=k:=by injection e
 exact DE this
theorem LK.inj(hx:LK h a x)(hy:LK h a y):x=y:=by
 refine QF hx ?_;clear hx;intro b ks n a1 a2 a3 a4;refine QF hy ?_;clear hy;intro b' ks' n' b1 b2 b3 b4;have:=a1.inj b1;simp only[DM,HR,and_true]at this;refine xA this ?_;clear this;rintro rfl rfl;have:=a2.inj b2;subst this;exact GN (a3.inj b3) (a4.inj b4)
theorem OA.inj(hx:OA h a x)(hy:OA h a y):x=y:=by
 refine LR hx ?_;clear hx;intro n b a1 a2 a3;refine LR hy ?_;clear hy;intro n' b' b1 b2 b3;have:=a1.inj b1;simp only[DM,HR,and_true]at this;refine xA this ?_;clear this;rintro rfl rfl;exact GN (a2.inj b2) (a3.inj b3)
noncomputable def Nh(ns:List Nat):List (Int×Nat):=ns.map fun n:Nat=>(hashInt (n:Int),1)
noncomputable def O8(w:Bo)(r:Row):Int×Nat:=Np ((hashStr w r.1,1)::Nh r.2)
noncomputable def Ri(k:List Nat×Nat):Int×Nat:=Np [Np (Nh k.1),(hashInt k.2,1)]
noncomputable def TW(w:Bo)(k:Nat×Row):Int×Nat:=Np [(hashInt k.1,1),O8 w k.2]
section
variable{w:Bo}{A:Aq}{s:A4}{E:Value→A4→Prop}
theorem KU.ints(h:LH vs ns):KJ (KU w A s) vs (Nh ns):=
 ⟨by simp[Nh,h.1],fun i x y hx hy=>by
  unfold Nh at hy;rw[B4]at hy
  cases e:ns[i]? with
  | none=>rw[e]at hy;exact nomatch hy
  | some n=>
   rw[e]at hy;obtain rfl:=Ag hy;refine xE (h.2 i x n hx e) ?_;rintro t rfl;exact KU.int _ _⟩
theorem KU.row(hu:A.units<cLine)(h:L2 s.heap a r):KU w A s (.ref a) (O8 w r):=by
 refine MG h ?_;clear h;intro t ks h1 h2;exact KU.tup hu h1 (.cons (KU.str _ _) (KU.ints h2))
theorem Ni(hu:A.units+1<cLine):A.in1.units<cLine:=hu
theorem KU.cnt(hu:A.units+1<cLine)(h:LK s.heap a r):KU w A s (.ref a) (Ri r):=by
 refine QF h ?_;clear h;rintro b ks n h1 h2 h3 ⟨t,rfl⟩;exact KU.tup (by exact o4 hu) h1 (.cons (KU.tup (Ni hu) h2 (KU.ints h3)) (.cons (KU.int _ _) .nil))
theorem KU.hom(hu:A.units+1<cLine)(h:OA s.heap a r):KU w A s (.ref a) (TW w r):=by
 refine LR h ?_;clear h;rintro n b h1 ⟨t,rfl⟩ h3;exact KU.tup (by exact o4 hu) h1 (.cons (KU.int _ _) (.cons (KU.row (Ni hu) h3) .nil))
theorem ML.row(hu:A.units<cLine)(hx:L2 s.heap a x)(hy:L2 s.heap b y):ML w A s (.ref a) (.ref b) (decide (x=y)):=by
 have self:a=b→decide (x=y)=true:=fun e=>by subst e;simp[hx.inj hy]
 refine MG hx ?_;clear hx;intro t ks h1 h2;refine MG hy ?_;clear hy;intro t' ks' h1' h2';refine ML.tup hu h1 h1' ?_ self;obtain⟨x1,x2⟩:=x;obtain⟨y1,y2⟩:=y
 by_cases e:x1=y1
 ·subst e;rw[show decide ((x1,x2)=(x1,y2))=decide (x2=y2) by simp];refine .yes ?_ (EqL.ints h2 h2');have:=ML.str (w:=w) (A:=A.in1) (s:=s) x1 x1 t t';simpa using this
 ·rw[show decide ((x1,x2)=(y1,y2))=false by simp[e]];refine .no ?_;have:=ML.str (w:=w) (A:=A.in1) (s:=s) x1 y1 t t'
  rwa [show decide (x1=y1)=false by exact decide_eq_false ‹_›]at this
theorem ML.cnt(hu:A.units+1<cLine)(hx:LK s.heap a x)(hy:LK s.heap b y):ML w A s (.ref a) (.ref b) (decide (x=y)):=by
 have self:a=b→decide (x=y)=true:=fun e=>by subst e;simp[hx.inj hy]
 refine QF hx ?_;clear hx;intro c ks n h1 h2 h3 h4;refine QF hy ?_;clear hy;intro c' ks' n' h1' h2' h3' h4';refine ML.tup (by exact o4 hu) h1 h1' ?_ self;obtain⟨x1,x2⟩:=x;obtain⟨y1,y2⟩:=y;have sub:ML w A.in1 s (.ref c) (.ref c') (decide (x1=y1)):=ML.tup (Ni hu) h2 h2' (EqL.ints h3 h3') (fun e=>by subst e;have:=h2.inj h2';subst this;exact decide_eq_true (h3.inj h3'));refine xE h4 ?_;clear h4;rintro t rfl;refine xE h4' ?_;clear h4';rintro t' rfl
 by_cases e:x1=y1
 ·subst e;rw[show decide ((x1,x2)=(x1,y2))=decide ([x2]=[y2]) by simp];refine .yes (by simpa using sub) (EqL.ints (.cons ⟨_,rfl⟩ .nil) (.cons ⟨_,rfl⟩ .nil))
 ·rw[show decide ((x1,x2)=(y1,y2))=false by simp[e]];exact .no (by simpa [e]using sub)
theorem ML.hom(hu:A.units+1<cLine)(hx:OA s.heap a x)(hy:OA s.heap b y):ML w A s (.ref a) (.ref b) (decide (x=y)):=by
 have self:a=b→decide (x=y)=true:=fun e=>by subst e;simp[hx.inj hy]
 refine LR hx ?_;clear hx;rintro n c h1 ⟨t,rfl⟩ h3;refine LR hy ?_;clear hy;rintro n' c' h1' ⟨t',rfl⟩ h3';refine ML.tup (by exact o4 hu) h1 h1' ?_ self;obtain⟨x1,x2⟩:=x;obtain⟨y1,y2⟩:=y;have sub:ML w A.in1 s (.ref c) (.ref c') (decide (x2=y2)):=ML.row (Ni hu) h3 h3';have hd:=ML.int (w:=w) (A:=A.in1) (s:=s) x1 y1 t t'
 by_cases e:x1=y1
 ·subst e;rw[show decide ((x1,x2)=(x1,y2))=decide (x2=y2) by simp];refine .yes (by simpa using hd) ?_
  by_cases e2:x2=y2
  ·rw[decide_eq_true e2]at sub ⊢;exact .yes sub .nn
  ·rw[decide_eq_false e2]at sub ⊢;exact .no sub
 ·rw[show decide ((x1,x2)=(y1,y2))=false by simp[e]];rw[show decide ((x1:Int)=(y1:Int))=false from decide_eq_false (fun q=>e (DE q))]at hd;exact .no hd
theorem MF.ints(h:LH vs ns):∀v∈vs,MF w s n v:=fun v hv=>by
 refine xE (BV.mp hv) fun i hi=>?_;refine xEA (h.get' hi) ?_;rintro y _ ⟨t,rfl⟩;exact MF.int _ _ _
theorem MF.row(h:L2 s.heap a r):MF w s (n+1) (.ref a):=by
 refine MG h ?_;clear h;intro t ks h1 h2;refine MF.tup h1 fun v hv=>?_;rcases As.mp hv with rfl | hv
 ·exact MF.str _ _ _
 ·exact MF.ints h2 v hv
theorem MF.cnt(h:LK s.heap a r):MF w s (n+2) (.ref a):=by
 refine QF h ?_;clear h;rintro b ks k h1 h2 h3 ⟨t,rfl⟩;refine MF.tup h1 fun v hv=>?_;rcases As.mp hv with rfl | hv
 ·exact MF.tup h2 (MF.ints h3)
 ·rw[Ab]at hv;subst hv;exact MF.int _ _ _
theorem MF.hom(h:OA s.heap a r):MF w s (n+2) (.ref a):=by
 refine LR h ?_;clear h;rintro k b h1 ⟨t,rfl⟩ h3;refine MF.tup h1 fun v hv=>?_;rcases As.mp hv with rfl | hv
 ·exact MF.int _ _ _
 ·rw[Ab]at hv;subst hv;exact MF.row h3
end
theorem TU{es ep}(hd:h.get? d=some o)(ho:o.data=.dict es ep)(s:BZ d h h'):Im h h':=Im.same hd (by unfold L3;rw[ho]) s
noncomputable def OB(w:Bo):Cy PG w Row where
 is:=fun h r a=>L2 h a r
 hash:=fun r=>(O8 w r).1
 draws:=fun r=>(O8 w r).2
 room:=fun A=>A.units+1<cLine
 inj:=fun hx hy=>hx.inj hy
 keeps:=fun x ho hd hs=>x.im (TU ho hd hs)
 pyHash:=fun {A E s k a Q} hu hk h=>KU.row (by exact o4 hu) hk s.toks Q E h
 eqBool:=fun hu hx hy h=>ML.row (by exact o4 hu) hx hy _ _ h
 quiet:=fun hk h=>(MF.row (n:=7) hk).quiet _ _ _ h
noncomputable def SZ(w:Bo):Cy PG w (List Nat×Nat) where
 is:=fun h r a=>LK h a r
 hash:=fun r=>(Ri r).1
 draws:=fun r=>(Ri r).2
 room:=fun A=>A.units+1<cLine
 inj:=fun hx hy=>hx.inj hy
 keeps:=fun x ho hd hs=>x.im (TU ho hd hs)
 pyHash:=fun {A E s k a Q} hu hk h=>KU.cnt hu hk s.toks Q E h
 eqBool:=fun hu hx hy h=>ML.cnt hu hx hy _ _ h
 quiet:=fun hk h=>(MF.cnt (n:=6) hk).quiet _ _ _ h
end
section
section
variable{w:Bo}{A:Aq}{s:A4}{E:Value→A4→Prop}{K:Type}[DecidableEq K]{knd:Cy PG w K}{d a a0:Addr}{k:K}{v dflt:Value}{xs ys:List (K×Addr×Value)}
theorem NK{Q:Option DictEntry→A4→Prop}(hu:knd.room A)(hkey:knd.is s.heap k a)(hm:s.heap.DictOfH knd d (ys++[(k,a0,v)]))(hz:ys.length≤16000)(h:∀h' tk,h'.DictOfH knd d ys→BZ d s.heap h'→∀e:DictEntry,e.val=v→Q (some e) {s with heap:=h',toks:=tk}):A8 (MD w) A (Ew d (.ref a)) Q E s:=by
 refine T8 hm ?_;clear hm;intro o es ep ho hc hd he his hn;have hsz:es.size=ys.length+1:=by rw[Ho he];simp
 have hes:es.size≤sizeLine:=by rw[hsz,AT];exact n13 hz
 have hlast:(ys++[(k,a0,v)])[ys.length]?=some (k,a0,v):=by simp
 unfold Ew
 try with_reducible refine B7 ?_
 refine A5 (knd.pyHash hu hkey ?_);refine A5 (G7 (s:={s with toks:=s.toks+knd.draws k}) hu hkey ho hd he his hn (fun hno=>absurd hlast (hno _ _)) fun j p hj=>?_);have hj':j=ys.length:=idxH_unique hn hj hlast;subst hj';rw[hlast]at hj;cases hj;refine A5 (GE (s:={s with toks:=s.toks+knd.draws k}) ho hd ?_);rw[entry_at he,hlast];refine A5 (IK (hz:=hes) (s:={s with toks:=s.toks+knd.draws k}) ho hd (Ae (h _ _ (QD _ _ (ep+1) (Bl _ ho (Ie (E2 hd _))) (hc.mapDictKeys _) (E2 hd _) ?_ ?_ ?_) (Ba ..) _ rfl)))
 ·have:(es.eraseIdxIfInBounds ys.length).toList=es.toList.eraseIdx ys.length:=by
   simp[He,hsz]
  rw[this,he,B6,List.map_singleton];rw[FR (by simp)];simp
 ·exact fun x hx=>knd.keeps (his x (AD _ hx)) ho hd (Ba ..)
 ·rw[B6,Ck]at hn;exact hn.1
theorem QL(hu:knd.room A)(hkey:knd.is s.heap k a)(hm:s.heap.DictOfH knd d xs)(hp:Fv xs k=some p)(h:Q p.2 {s with toks:=s.toks+knd.draws k}):A8 (MD w) A (EA d (.ref a) dflt) Q E s:=by
 refine T8 hm ?_;clear hm;intro o es ep ho hc hd he his hn;unfold EA
 try with_reducible refine B7 ?_
 refine A5 (knd.pyHash hu hkey ?_);refine A5 (G7 (s:={s with toks:=s.toks+knd.draws k}) hu hkey ho hd he his hn (fun hno=>by rw[atKey_none_of_get hno]at hp;exact nomatch hp) fun j q hj=>?_);rw[atKey_of_get hn hj]at hp;obtain rfl:=Ag hp;dsimp only;refine A5 (GE (s:={s with toks:=s.toks+knd.draws k}) ho hd ?_);rw[entry_at he j,hj];exact A5 (E5 (Ae h))
theorem QM(hu:knd.room A)(hkey:knd.is s.heap k a)(hm:s.heap.DictOfH knd d xs)(hp:Fv xs k=none)(hz:xs.length≤16000)(h:∀h' tk,h'.DictOfH knd d (xs++[(k,a,dflt)])→BZ d s.heap h'→Q dflt {s with heap:=h',toks:=tk}):A8 (MD w) A (EA d (.ref a) dflt) Q E s:=by
 refine T8 hm ?_;clear hm;intro o es ep ho hc hd he his hn;unfold EA
 try with_reducible refine B7 ?_
 refine A5 (knd.pyHash hu hkey ?_);refine A5 (G7 (s:={s with toks:=s.toks+knd.draws k}) hu hkey ho hd he his hn (fun hno=>?_) fun j q hj=>by rw[atKey_of_get hn hj]at hp;exact nomatch hp);have hnot:k∉xs.map (·.1):=not_mem_keys_of_get hno;refine A5 (E5 (A5 (IK (hz:=by have e:=Ho he;rw[e,AT];exact n1 hz) (s:={s with toks:=s.toks+knd.draws k}) ho hd (Ae (h _ _ (QD _ _ (ep+1) (Bl _ ho (Ie (E2 hd _))) (hc.mapDictKeys _) (E2 hd _) ?_ ?_ ?_) (Ba ..))))))
 ·simp[he,entryOfKey]
 ·intro x hx;rcases Am.mp hx with hx | hx
  ·exact knd.keeps (his x hx) ho hd (Ba ..)
  ·simp only[Ab]at hx;subst hx;exact knd.keeps hkey ho hd (Ba ..)
 ·rw[B6,Ck];refine (yAA hn (by simp) ?_);intro x hx y hy;simp only[Cu,FW,Ab]at hy;subst hy;exact fun e=>hnot (e▸hx)
theorem Wu{id:String}{pl:Sem Bool}(slot:Slot "dict" name id)(hty:typeOf (.builtin id)=pure (.type "method_descriptor"))(ho:s.heap.get? d=some o)(hx:o.ExactDict)(h:Q (.builtin id,[.ref d]) s):A8 (MD w) A (C3 (.ref d) name pl) Q E s:=
 getMethod_builtin (yEA o ho hx.1) PySem.F.plainAttrs_dict slot hty (fun a e=>by cases e;exact (yEA o ho hx.2.1)) h
theorem So(d a:Addr)(knd:Cy PG w K):MeetsIn PG w (CT.«dict.pop» ⟨[.ref d,.ref a],[]⟩) (fun A R s=>knd.room A.in1∧∃k ys a0 v,knd.is s.heap k a∧s.heap.DictOfH knd d (ys++[(k,a0,v)])∧ys.length≤16000∧
   ∀h' tk,h'.DictOfH knd d ys→BZ d s.heap h'→R (.ok (.ret v)) {s with heap:=h',toks:=tk}):=
 .of_wp fun A R s q=>Vw q fun hu k ys a0 v hkey hm hz h=>by
  unfold CT.«dict.pop»;refine A5 ?_;unfold FK;refine A5 (E4 hm.typeIs ?_);show A8 _ _ (pure (d,AN a,none)) _ _ s;refine Ae ?_;show A8 _ _ (_ >>= _) _ _ s;refine T8 (id hm) fun o es ep ho hc hd he his hn=>?_;have hsz:es.size=ys.length+1:=by rw[Ho he];simp
  refine A5 (GE ho hd (A5 (Ae ?_)));have hemp:es.isEmpty=false:=by rw[Array.isEmpty_eq_false_iff];intro e;rw[e]at hsz;trivial
  rw[hemp];simp only[Ax,if_false];refine A5 (NK hu hkey hm hz fun h' tk hm' hs' e he=>?_);simp only[Option.isNone_some,Ax,if_false];exact A5 (IN (Ae (yEA e.val rfl (by rw[he];exact h h' tk hm' hs'))))
theorem Sp(d a:Addr)(knd:Cy PG w K):MeetsIn PG w (CT.«dict.__delitem__» ⟨[.ref d,.ref a],[]⟩) (fun A R s=>knd.room A.in1∧∃k ys a0 v,knd.is s.heap k a∧s.heap.DictOfH knd d (ys++[(k,a0,v)])∧ys.length≤16000∧
   ∀h' tk,h'.DictOfH knd d ys→BZ d s.heap h'→R (.ok (.ret .none)) {s with heap:=h',toks:=tk}):=
 .of_wp fun A R s q=>Vw q fun hu k ys a0 v hkey hm hz h=>by
  unfold CT.«dict.__delitem__»;refine A5 ?_;unfold Ko;refine A5 (E4 hm.typeIs ?_);show A8 _ _ (pure (AN d,AN a)) _ _ s;refine Ae ?_;show A8 _ _ (Ew d (.ref a) >>= _) _ _ s;refine A5 (NK hu hkey hm hz fun h' tk hm' hs' e he=>?_);exact A5 (IN (Ae (yEA .none rfl (h h' tk hm' hs'))))
theorem Ny(d a:Addr)(knd:Cy PG w K)(dflt:Value)(hsys:(d == Bp)=false):MeetsIn PG w (CT.«dict.setdefault» ⟨[.ref d,.ref a,dflt],[]⟩) (fun A R s=>knd.room A.in1∧∃k xs,knd.is s.heap k a∧s.heap.DictOfH knd d xs∧xs.length≤16000∧
   (∀p,Fv xs k=some p→∀tk,R (.ok (.ret p.2)) {s with toks:=tk})∧
   (Fv xs k=none→∀h' tk,h'.DictOfH knd d (xs++[(k,a,dflt)])→BZ d s.heap h'→R (.ok (.ret dflt)) {s with heap:=h',toks:=tk})):=
 .of_wp fun A R s q=>WQ q fun hu k xs hkey hm hz h1 h2=>by
  unfold CT.«dict.setdefault»;refine A5 ?_;unfold FK;refine A5 (E4 hm.typeIs ?_);show A8 _ _ (pure (d,AN a,some dflt)) _ _ s;refine Ae ?_;show A8 _ _ (if (d == Bp)=true then _ else (EA d (.ref a) dflt >>= _)) _ _ s;rw[if_neg (by rw[hsys];exact Cz)]
  cases e:Fv xs k with
  | some p=>exact A5 (QL hu hkey hm e (Ae (yEA _ rfl (h1 p e _))))
  | none=>exact A5 (QM hu hkey hm e hz fun h' tk hm' hs'=>Ae (yEA dflt rfl (h2 e h' tk hm' hs')))
theorem YB(ho:s.heap.get? d=some o)(hx:o.ExactDict)(h:A8 (MD w) A (AJ e env) (fun key s₁=>∃a k ys a0 v,key=.ref a∧knd.room A.in1∧knd.is s₁.heap k a∧s₁.heap.DictOfH knd d (ys++[(k,a0,v)])∧ys.length≤16000∧∀s',Mt d s₁ s'→s'.heap.DictOfH knd d ys→Q v s') E s)(he:autoParam (AG [e] env=[(false,AJ e env)]) au1._auto_1):A8 (MD w) A (C3 (.ref d) (Bc "pop") (do return (←BY o' env).getD true)) (fun fx s₂=>A8 (MD w) A (Cg pos fx.1 fx.2 (BO pos (AG [e] env)) []) Q E s₂) E s:=by
 refine Wu DD Hi ho hx ?_;rw[he];refine JX DD GV (Al h (fun key s₁ h₁=>?_) fun _ _ e=>e);refine XK h₁ ?_;clear h₁;rintro a k ys a0 v rfl hu hk hm hz hq;exact⟨hm.typeIs,GM _ _,_,So d a knd,hu,k,ys,a0,v,hk,hm,hz,fun h' tk hm' hs=>hq _ (Mt.mk' hs) hm'⟩
theorem Yz(hsys:(d == Bp)=false)(ho:s.heap.get? d=some o)(hx:o.ExactDict)(h:A8 (MD w) A (AJ e env) (fun key s₁=>A8 (MD w) A (AJ e2 env) (fun dflt s₂=>∃a k xs,key=.ref a∧knd.room A.in1∧knd.is s₂.heap k a∧s₂.heap.DictOfH knd d xs∧xs.length≤16000∧
   (∀p,Fv xs k=some p→∀s',Pu s₂ s'→Q p.2 s')∧
   (Fv xs k=none→∀s',Mt d s₂ s'→s'.heap.DictOfH knd d (xs++[(k,a,dflt)])→Q dflt s')) E s₁) E s)(he:autoParam (AG [e,e2] env=[(false,AJ e env),(false,AJ e2 env)]) au1._auto_1):A8 (MD w) A (C3 (.ref d) (Bc "setdefault") (do return (←BY o' env).getD true)) (fun fx s₂=>A8 (MD w) A (Cg pos fx.1 fx.2 (BO pos (AG [e,e2] env)) []) Q E s₂) E s:=by
 refine Wu G9 PySem.F.type_dict_setdefault ho hx ?_;rw[he];refine method2_meetsIn G9 PySem.F.entry_dict_setdefault (Al h (fun key s₁ h₁=>Al h₁ (fun dflt s₂ h₂=>?_) fun _ _ e=>e) fun _ _ e=>e);refine XN h₂ ?_;clear h₂;rintro a k xs rfl hu hk hm hz h1 h2;exact⟨hm.typeIs,PySem.F.args_dict_setdefault_3 _ _ _,_,Ny d a knd dflt hsys,hu,k,xs,hk,hm,hz,fun p hp tk=>h1 p hp _ (Pu.tok _ _),fun hn h' tk hm' hs=>h2 hn _ (Mt.mk' hs) hm'⟩
theorem YE{Q:Unit→A4→Prop}(hu:knd.room A.in1)(hk:knd.is s.heap k a)(hm:s.heap.DictOfH knd d (ys++[(k,a0,v)]))(hz:ys.length≤16000)(h:∀s',Mt d s s'→s'.heap.DictOfH knd d ys→Q () s'):A8 (MD w) A (GH (.ref d) (.ref a)) Q E s:=by
 unfold GH
 try with_reducible refine B7 ?_
 refine A5 (EF hm.typeIs (by decide) ?_)
 refine A5 (Cp (name:=Bc "__delitem__") hm.typeIs Dh
  (call_meetsIn Dh hm.typeIs Gq (Gh _ _) (Sp d a knd) (WM hu k ys a0 v hk hm hz (fun h' tk hm' hs=>?_))))
 exact Ae (h _ (Mt.mk' hs) hm')
theorem Z9{knd:Cy PG c.w K}(F:Fm s0 H Z L m s)(hu:knd.room A.in1)(hkey:knd.is s.heap k a)(hd:(d == Bp)=false)(hm:s.heap.DictOfH knd d xs)(h:∀s',Pu s s'→Fm s0 H Z L m s'→Q (.bool (Fv xs k).isSome) s'):A8 (MD c.w) A (CB .In (.ref a) (.ref d)) Q E s:=
 wpAny_in_heap hu hkey hd hm (h _ (Pu.tok _ _) (F.tok _))
theorem YD{knd:Cy PG c.w K}(F:Fm s0 H Z L m s)(hu:knd.room A.in1)(hkey:knd.is s.heap k a)(hm:s.heap.DictOfH knd d xs)(hp:Fv xs k=some p)(h:∀s',Pu s s'→Fm s0 H Z L m s'→Q p.2 s'):A8 (MD c.w) A (Cr (.ref d) (.ref a)) Q E s:=
 wpAny_getItem_heap hu hkey hm hp (h _ (Pu.tok _ _) (F.tok _))
theorem YA{Q:Unit→A4→Prop}(hu:knd.room A.in1)(hkey:knd.is s.heap k a)(hm:s.heap.DictOfH knd d xs)(hz:xs.length≤16000)(h:∀s',Mt d s s'→s'.heap.DictOfH knd d (storedH xs k a v)→Q () s'):A8 (MD w) A (FU (.ref d) (.ref a) v) Q E s:=
 wpAny_setItem_heap hu hkey hm (fun h' hm' hs=>h _ (Mt.mk' hs) hm') (by rw[AT];exact n1 hz)
noncomputable abbrev deK(rest:List Stmt)(E:Value→A4→Prop)(Q:DB→A4→Prop)(env:Env)(A:Aq)(o:Value):Value→A4→Prop:=fun i s=>A8 (MD c.w) A (GH o i) (exK rest E Q env A) E s
theorem Qx(h:A8 (MD c.w) A (AJ o env) (evK i E (deK rest E Q env A) env A) E s):A8 (MD c.w) A (execs (.Delete [.Subscript o i p] pos::rest) env) Q E s:=by
 refine LW (wpAny_Delete ?_);show A8 _ _ (do delete (.Subscript o i p) env;deleteEach [] env) _ _ _;exact A5 (delete_Subscript (Al h (fun _ _ h1=>Al h1 (fun _ _ h2=>Al h2 (fun _ _ h3=>Ae h3) fun _ _ e=>e) fun _ _ e=>e) fun _ _ e=>e))
end
end
section
namespace Tab
open SetTable
noncomputable def tb(mask:Nat):SetTable:={mask:=mask,place:=#[],dummies:=#[],finger:=0,led:=true,moves:=0,plain:=true}
noncomputable def adv(mask:Nat)(p:Probe):Probe:=(tb mask).advance p
noncomputable def st(mask:Nat)(h:Int):Nat→Probe
 | 0=>(tb mask).probeStart h
 | n+1=>adv mask (st mask h n)
theorem start_eq(t:SetTable)(h:Int):t.probeStart h=st t.mask h 0:=rfl
theorem PQ{mask:Nat}{p:Probe}(h:0<p.more):adv mask p={p with j:=p.j+1,more:=p.more - 1}:=by
 unfold adv HS;rw[if_pos h]
theorem PR{mask:Nat}{p:Probe}(h:p.more=0):adv mask p={p with j:=(leap mask p.i p.perturb).1,more:=runEnd mask (leap mask p.i p.perturb).1 - (leap mask p.i p.perturb).1,i:=(leap mask p.i p.perturb).1,perturb:=(leap mask p.i p.perturb).2}:=by
 unfold adv HS;rw[if_neg (by lia)];rfl
theorem Us(mask:Nat)(p:Probe):(adv mask p).dummy=p.dummy:=by
 by_cases h:0<p.more
 ·rw[PQ h]
 ·rw[PR (by exact o75 h)]
theorem UO(mask:Nat)(h:Int)(n:Nat):(st mask h n).dummy=none:=by
 induction n with
 | zero=>rfl
 | succ n ih=>rw[st,Us,ih]
theorem N7{mask i:Nat}(h:i≤mask):i≤runEnd mask i∧runEnd mask i≤mask∧runEnd mask i≤i+9:=by
 unfold runEnd;split<;>lia
theorem TK(mask i p:Nat):(leap mask i p).1≤mask:=by
 unfold leap;have:=ER (i*5+1+p / 32) (show 0<mask+1 by exact n29);simp only;exact o65 this
theorem VV(mask:Nat)(h:Int)(n:Nat):(st mask h n).j+(st mask h n).more≤mask:=by
 induction n with
 | zero=>
  show bits h % (mask+1)+(runEnd mask (bits h % (mask+1)) - bits h % (mask+1))≤mask;have:=ER (bits h) (show 0<mask+1 by exact n29);have:=N7 (mask:=mask) (i:=bits h % (mask+1)) (by exact o65 this);exact aq8 this
 | succ n ih=>
  rw[st]
  by_cases hm:0<(st mask h n).more
  ·rw[PQ hm];simp only;exact aq64 ih hm
  ·rw[PR (by exact o75 hm)];simp only;have:=N7 (TK mask (st mask h n).i (st mask h n).perturb);exact aq8 this
noncomputable def bl(mask:Nat)(h:Int):Nat→Nat×Nat
 | 0=>(bits h % (mask+1),bits h)
 | k+1=>leap mask (bl mask h k).1 (bl mask h k).2
noncomputable def bp(mask:Nat)(b:Nat×Nat):Probe:={j:=b.1,more:=runEnd mask b.1 - b.1,i:=b.1,perturb:=b.2,dummy:=none}
theorem Ww(mask:Nat)(h:Int)(k:Nat):(bl mask h k).1≤mask:=by
 induction k with
 | zero=>have:=ER (bits h) (show 0<mask+1 by exact n29);show bits h % (mask+1)≤mask;exact o65 this
 | succ k=>exact TK _ _ _
theorem RP{mask:Nat}{h:Int}{n:Nat}{b:Nat×Nat}(e:st mask h n=bp mask b):∀q,q≤runEnd mask b.1 - b.1→st mask h (n+q)={bp mask b with j:=b.1+q,more:=runEnd mask b.1 - b.1 - q}:=by
 intro q
 induction q with
 | zero=>intro _;rw[JN,e];rfl
 | succ q ih=>
  intro hq;rw[show n+(q+1)=n+q+1 by exact o74,st,ih (by exact B1 ‹_›),PQ (by simp only;exact aq11 hq)];simp only[bp,Probe.mk.injEq,true_and,and_true]
  trivial
theorem OW{mask:Nat}{h:Int}{n:Nat}{b:Nat×Nat}(e:st mask h n=bp mask b):st mask h (n+(runEnd mask b.1 - b.1)+1)=bp mask (leap mask b.1 b.2):=by
 rw[st,RP e _ (At _),PR (by exact Nat.sub_self _)]
 rfl
theorem Vn(mask:Nat)(h:Int)(k:Nat):∃n,n≤10*k∧st mask h n=bp mask (bl mask h k):=by
 induction k with
 | zero=>exact (yEA 0 (by omega) rfl)
 | succ k ih=>
  refine xEA ih ?_;clear ih;intro n hn e;have:=N7 (Ww mask h k);exact (yEA _ (by exact aq42 this hn) (OW e))
theorem SU(mask:Nat)(h:Int)(k:Nat):(bl mask h k).2=bits h / 32^k:=by
 induction k with
 | zero=>simp[bl]
 | succ k ih=>show (bl mask h k).2 / 32=_;rw[ih,Nat.div_div_eq_div_mul,JM]
theorem Wy(h:Int):bits h<2^64:=by
 unfold bits;have h1:=Int.emod_nonneg h (show (2^64:Int)≠0 by decide);have h2:=Int.emod_lt_of_pos h (show (0:Int)<2^64 by decide)
 lia
theorem Wx(mask:Nat)(h:Int)(k:Nat)(hk:13≤k):(bl mask h k).2=0:=by
 rw[SU];refine Nat.div_eq_of_lt (Ac (Wy h) ?_);have:(32:Nat)^13≤32^k:=Fq (by decide) hk;have e:(2:Nat)^64≤32^13:=by decide
 exact Ac ‹_› ‹_›
noncomputable def cyc(mask:Nat):Nat→Nat→Nat
 | i,0=>i
 | i,n+1=>cyc mask ((i*5+1) % (mask+1)) n
theorem Xw(mask:Nat)(h:Int)(n:Nat):∀k,13≤k→(bl mask h (k+n)).1=cyc mask (bl mask h k).1 n:=by
 induction n with
 | zero=>intro k _;rfl
 | succ n ih=>
  intro k hk;rw[show k+(n+1)=(k+1)+n by exact o73,ih (k+1) (by exact AA ‹_›)];show cyc mask (leap mask (bl mask h k).1 (bl mask h k).2).1 n=cyc mask (((bl mask h k).1*5+1) % (mask+1)) n
  congr 1
  unfold leap;rw[Wx mask h k hk]
theorem Za:∀i,i≤7→∀j,j≤7→∃n,n≤7∧cyc 7 i n=j:=by decide +kernel
theorem YF:∀i,i≤31→∀j,j≤31→∃n,n≤31∧cyc 31 i n=j:=by decide +kernel
noncomputable def Ok(mask:Nat):Prop:=mask=7∨mask=31
theorem Xt{mask:Nat}(hm:Ok mask){i j:Nat}(hi:i≤mask)(hj:j≤mask):∃n,n≤mask∧cyc mask i n=j:=by
 rcases hm with rfl | rfl
 ·exact Za i hi j hj
 ·exact YF i hi j hj
theorem Uo{mask:Nat}(hm:Ok mask)(h:Int){j:Nat}(hj:j≤mask):∃k,k≤13+mask∧(bl mask h k).1=j:=by
 refine xEA (Xt hm (Ww mask h 13) hj) fun n hn e=>?_;exact (yEA (13+n) (by exact aq309 hn) (by rw[Xw mask h n 13 (At _),e]))
theorem VW{mask:Nat}(hm:Ok mask)(h:Int){j:Nat}(hj:j≤mask):∃n,n<10*turns mask∧(st mask h n).j=j:=by
 refine xEA (Uo hm h hj) fun k hk e=>?_;refine xEA (Vn mask h k) fun n hn e'=>?_;refine (yEA n ?_ (by rw[e'];exact e));unfold turns;exact aq149 hn hk
theorem SL{mask:Nat}(hm:Ok mask)(f:Nat→Bool)(h:Int){j:Nat}(hj:j≤mask)(hf:f j=false):∃n,n<10*turns mask∧f (st mask h n).j=false∧∀m,m<n→f (st mask h m).j=true:=by
 refine xEA (VW hm h hj) fun n hn e=>?_
 have key:∀n,f (st mask h n).j=false→∃k,k≤n∧f (st mask h k).j=false∧∀m,m<k→f (st mask h m).j=true:=by
  intro n
  induction n using CG with
  | _ n ih=>
   intro hn
   by_cases hall:∀m,m<n→f (st mask h m).j=true
   ·exact (M1 n (At _) hn hall)
   ·simp only[Classical.not_forall]at hall;obtain⟨m,hm1,hm2⟩:=hall;refine xEA (ih m hm1 (by simpa using hm2)) fun k hk r=>?_;exact (yEA k (by exact aq238 hm1 hk) r)
 refine xEA (key n (by rw[e];exact hf)) fun k hk r=>?_;exact (yEA k (by exact An ‹_› ‹_›) r)
noncomputable def Inc(xs:List Nat):Prop:=∀(i j:Nat) (x y:Nat),i<j→xs[i]?=some x→xs[j]?=some y→x<y
theorem below_spec(hs:Inc xs.toList)(j:Nat):below xs j≤xs.size∧(∀i x,i<below xs j→xs[i]?=some x→x<j)∧(∀i x,below xs j≤i→xs[i]?=some x→j≤x):=by
 have inc:∀(i k:Nat) (x y:Nat),i<k→xs[i]?=some x→xs[k]?=some y→x<y:=fun i k x y h1 h2 h3=>hs i k x y h1 (by simpa using h2) (by simpa using h3)
 have go:∀fuel lo hi,lo≤hi→hi≤xs.size→hi - lo≤fuel→(∀i x,i<lo→xs[i]?=some x→x<j)→(∀i x,hi≤i→xs[i]?=some x→j≤x)→
   below.go xs j fuel lo hi≤xs.size∧(∀i x,i<below.go xs j fuel lo hi→xs[i]?=some x→x<j)∧(∀i x,below.go xs j fuel lo hi≤i→xs[i]?=some x→j≤x):=by
  intro fuel
  induction fuel with
  | zero=>
   intro lo hi h1 h2 h3 h4 h5;unfold below.go;have:lo=hi:=by exact aq118 h3 h1
   subst this;exact (yAA h2 h4 h5)
  | succ fuel ih=>
   intro lo hi h1 h2 h3 h4 h5;unfold below.go
   by_cases hlt:lo<hi
   ·rw[if_pos hlt];have hmid:(lo+hi) / 2<xs.size:=by exact aq82 hlt h1 h2
    have hx:xs[(lo+hi) / 2]?=some xs[(lo+hi) / 2]:=B0 hmid;have hg:xs.getD ((lo+hi) / 2) j=xs[(lo+hi) / 2]:=by simp[Du,hmid]
    simp only[hg]
    by_cases hc:xs[(lo+hi) / 2]<j
    ·rw[if_pos hc];refine ih _ _ (by exact aq106 hlt h1) h2 (by exact aq3 hmid h3 hlt) (fun i x hi' hxi=>?_) h5;rcases B8 i ((lo+hi) / 2)with h | h
     ·have:=inc _ _ _ _ h hxi hx;exact Ct ‹_› ‹_›
     ·have:i=(lo+hi) / 2:=by exact aq226 hi' h
      subst this;rw[hx]at hxi;obtain rfl:=Ag hxi;exact hc
    ·rw[if_neg hc];refine ih _ _ (by exact aq120 hlt) (by exact B1 ‹_›) (by exact aq4 hmid h3 hlt) h4 (fun i x hi' hxi=>?_);rcases B8 ((lo+hi) / 2) i with h | h
     ·have:=inc _ _ _ _ h hx hxi;exact aq132 hmid this hc
     ·have:i=(lo+hi) / 2:=by exact aq271 hi' h
      subst this;rw[hx]at hxi;obtain rfl:=Ag hxi;exact Bf ‹_›
   ·rw[if_neg hlt];have:lo=hi:=by exact o9 h1 hlt
    subst this;exact (yAA h2 h4 h5)
 exact go xs.size 0 xs.size (Bi _) (At _) (by exact At _) (fun i x h=>by lia) (fun i x h hx=>by rw[DC h]at hx;exact nomatch hx)
theorem slot_live{t:SetTable}(hs:Inc t.place.toList)(hd:t.dummies=#[]){i j:Nat}(h:t.place[i]?=some j):t.slot j=.live i:=by
 refine xAA (below_spec hs j) fun h1 h2 h3=>?_
 have:below t.place j=i:=by
  rcases Bv (below t.place j) i with h' | h' | h'
  ·refine xE (Bz.mp h) fun hi e=>?_;have hb:below t.place j<t.place.size:=by exact Ct ‹_› ‹_›
   have hx:t.place[below t.place j]?=some t.place[below t.place j]:=B0 hb;have a:=h3 _ _ (At _) hx;have b:=hs _ _ _ _ h' (by rw[AC];exact hx) (by rw[AC];exact h);exact aq243 hb b a
  ·exact h'
  ·have:=h2 _ _ h' h;exact o64 this
 unfold It;simp only[this,h,beq_self_eq_true,if_true]
theorem S7{t:SetTable}(hs:Inc t.place.toList)(hd:t.dummies=#[]){j:Nat}(h:∀i:Nat,t.place[i]?≠some j):t.slot j=.empty:=by
 unfold It
 have e1:(t.place[below t.place j]? == some j)=false:=by
  rw[beq_eq_false_iff_ne];exact h _
 simp only[e1,Ax,if_false];unfold IH;rw[hd]
 rfl
theorem Sz(hs:Inc xs.toList)(h:∀i:Nat,xs[i]?≠some j):Inc (insertAt xs (below xs j) j).toList:=by
 refine xAA (below_spec hs j) fun h1 h2 h3=>?_;rw[toList_insertAt];generalize below xs j=p at h1 h2 h3
 have get:∀k,(xs.toList.take p++j::xs.toList.drop p)[k]?=if k<p then xs[k]? else if k=p then some j else xs[k - 1]?:=by
  intro k;have hl:(xs.toList.take p).length=p:=by rw[Cc];simp;exact o71 h1
  rcases Bv k p with hk | hk | hk
  ·rw[Ar (by exact o5 hk hl),CY,if_pos hk,if_pos hk];simp
  ·subst hk;rw[BA (by exact o22 hl),hl];simp
  ·rw[BA (by exact o70 hk hl),hl,if_neg (by exact o69 hk),if_neg (by exact o47 hk),show k - p=(k - p - 1)+1 by exact o68 hk,Dz,Ee,show p+(k - p - 1)=k - 1 by exact o67 hk];simp
 intro a b x y hab hx hy;rw[get]at hx hy
 by_cases ha:a<p
 ·rw[if_pos ha]at hx
  by_cases hb:b<p
  ·rw[if_pos hb]at hy;exact hs a b x y hab (by simpa using hx) (by simpa using hy)
  ·rw[if_neg hb]at hy;have hxj:=h2 a x ha hx
   by_cases hb':b=p
   ·rw[if_pos hb']at hy;obtain rfl:=Ag hy;exact hxj
   ·rw[if_neg hb']at hy;have:=h3 (b - 1) y (by exact aq41 ha hb hb') hy;exact o72 hxj this
 ·rw[if_neg ha]at hx;rw[if_neg (by exact aq175 hab ha)]at hy
  by_cases ha':a=p
  ·rw[if_pos ha']at hx;obtain rfl:=Ag hx;rw[if_neg (by exact aq265 hab ha')]at hy;have hle:=h3 (b - 1) y (by exact aq56 hab ha') hy;have:y≠j:=fun e=>h (b - 1) (e▸hy);exact aq254 this hle
  ·rw[if_neg ha']at hx;rw[if_neg (by exact aq177 hab ha)]at hy;exact hs (a - 1) (b - 1) x y (by exact aq9 hab ha ha') (by simpa using hx) (by simpa using hy)
theorem Lz{α:Type}{xs:Array α}{p:Nat}(hp:p≤xs.size)(x:α)(k:Nat):(insertAt xs p x)[k]?=if k<p then xs[k]? else if k=p then some x else xs[k - 1]?:=by
 rw[←AC,toList_insertAt];have hl:(xs.toList.take p).length=p:=by rw[Cc];simp;exact o71 hp
 rcases Bv k p with hk | hk | hk
 ·rw[Ar (by exact o5 hk hl),CY,if_pos hk,if_pos hk];simp
 ·subst hk;rw[BA (by exact o22 hl),hl];simp
 ·rw[BA (by exact o70 hk hl),hl,if_neg (by exact o69 hk),if_neg (by exact o47 hk),show k - p=(k - p - 1)+1 by exact o68 hk,Dz,Ee,show p+(k - p - 1)=k - 1 by exact o67 hk];simp
theorem P0{α:Type}{xs:Array α}{p:Nat}(hp:p≤xs.size)(x y:α):(∃k:Nat,(insertAt xs p x)[k]?=some y)↔y=x∨∃k:Nat,xs[k]?=some y:=by
 constructor
 ·rintro⟨k,hk⟩;rw[Lz hp]at hk
  by_cases h1:k<p
  ·rw[if_pos h1]at hk;exact .inr ⟨k,hk⟩
  ·rw[if_neg h1]at hk
   by_cases h2:k=p
   ·rw[if_pos h2]at hk;obtain rfl:=Ag hk;exact .inl rfl
   ·rw[if_neg h2]at hk;exact .inr ⟨_,hk⟩
 ·rintro (rfl | ⟨k,hk⟩)
  ·exact⟨p,by rw[Lz hp,if_neg (by exact o66),if_pos rfl]⟩
  ·by_cases h1:k<p
   ·exact⟨k,by rw[Lz hp,if_pos h1];exact hk⟩
   ·exact⟨k+1,by rw[Lz hp,if_neg (by exact aq228 h1),if_neg (by exact aq272 h1)];exact hk⟩
end Tab
end
section
namespace Tab
open SetTable
structure Fit(t:SetTable)(hs:List Int):Prop where
 ok:Ok t.mask
 inc:Inc t.place.toList
 dum:t.dummies=#[]
 size:t.place.size=hs.length
 le:∀(i j:Nat),t.place[i]?=some j→j≤t.mask
 reach:∀(i:Nat) (h:Int),hs[i]?=some h→∃n,t.place[i]?=some (st t.mask h n).j∧∀m,m<n→∃i':Nat,t.place[i']?=some (st t.mask h m).j
theorem V9(hs:Inc xs)(h:∀j,j≤k→∃i:Nat,xs[i]?=some j):∀j,j≤k→xs[j]?=some j:=by
 intro j
 induction j using CG with
 | _ j ih=>
  intro hj;refine xE (h j hj) fun i hi=>?_;rcases Bv i j with h1 | h1 | h1
  ·have:=ih i h1 (by exact aq239 h1 hj);rw[this]at hi;obtain rfl:=Ag hi;omega
  ·subst h1;exact hi
  ·have hl:j<xs.length:=by have:=(Af.mp hi).1;exact o46 h1 this
   have e:xs[j]?=some xs[j]:=A7 hl;have lt:=hs j i _ _ h1 e hi;have e2:=ih xs[j] lt (by exact aq189 hl lt hj);have:=hs (xs[j]) j _ _ lt e2 e;exact absurd ‹_› (B3 _)
theorem Fit.free(F:Fit t hs)(hl:hs.length≤t.mask):∃j,j≤t.mask∧∀i:Nat,t.place[i]?≠some j:=by
 refine De fun hn=>?_
 have h:∀j,j≤t.mask→∃i:Nat,t.place.toList[i]?=some j:=fun j hj=>by
  refine De fun h'=>hn (yEA j hj (fun i e=>h' ⟨i,by rw[AC];exact e⟩))
 have:=V9 F.inc h t.mask (At _);have:=(Af.mp this).1;rw[Bb,F.size]at this;exact o83 this hl
theorem Fit.way(F:Fit t hs)(hl:hs.length≤t.mask)(h:Int):∃n,n<10*turns t.mask∧(∀i:Nat,t.place[i]?≠some (st t.mask h n).j)∧∀m,m<n→∃i:Nat,t.place[i]?=some (st t.mask h m).j:=by
 refine xEA (F.free hl) fun j hj hf=>?_
 have dec:∀j,t.place.toList.contains j=true↔∃i:Nat,t.place[i]?=some j:=fun j=>by
  rw[List.contains_iff_mem,BV];simp only[AC]
 refine LY (SL F.ok (fun j=>t.place.toList.contains j) h hj (by
  cases e:t.place.toList.contains j with
  | false=>rfl
  | true=>refine xE ((dec j).mp e) fun i hi=>?_;exact absurd hi (hf i))) fun n h1 h2 h3=>?_
 refine (M1 n h1 (fun i e=>?_) (fun m hm=>(dec _).mp (h3 m hm)));have:=(dec _).mpr ⟨i,e⟩;rw[h2]at this;exact nomatch this
namespace U7
noncomputable def pP(t:SetTable)(hs:List Int)(n:Nat):Prop:=∀(F:Fit t hs)(hashAt:Nat→Int)(h:Int)(he:∀i:Nat,t.place[i]?≠some (st t.mask h n).j),∀d m fuel,m+d=n→d<fuel→(∀k,m≤k→k<n→∃i:Nat,t.place[i]?=some (st t.mask h k).j)→
  (∃k i,m≤k∧k<n∧t.place[i]?=some (st t.mask h k).j∧hashAt i=h∧(∀k' i',m≤k'→k'<k→t.place[i']?=some (st t.mask h k').j→hashAt i'≠h)∧probe.go t hashAt h fuel (st t.mask h m)=some (.candidate (st t.mask h k).j i (st t.mask h (k+1))))∨
  ((∀k i,m≤k→k<n→t.place[i]?=some (st t.mask h k).j→hashAt i≠h)∧probe.go t hashAt h fuel (st t.mask h m)=some (.empty (st t.mask h n).j none))
noncomputable def fF:=unz fun t=>unz fun hs=>pP t hs
noncomputable def kK:=epz default fF
noncomputable def t_:=kK.1
noncomputable def n_:=kK.2.2
theorem tT:pP t_ kK.2.1 n_:=by
 intro F hashAt h he;intro d
 induction d with
 | zero=>
  intro m fuel hm hf _;obtain⟨fuel,rfl⟩:∃f,fuel=f+1:=⟨fuel - 1,by exact aq104 hf⟩;have:m=n_:=by exact o62 hm
  subst this;refine .inr ⟨fun k i h1 h2=>by lia,?_⟩;unfold probe.go;rw[S7 F.inc F.dum he,UO]
 | succ d ih=>
  intro m fuel hm hf hall;obtain⟨fuel,rfl⟩:∃f,fuel=f+1:=⟨fuel - 1,by exact aq76 hf⟩;refine xE (hall m (At _) (by exact o60 hm)) fun i hi=>?_
  have hgo:probe.go t_ hashAt h (fuel+1) (st t_.mask h m)=if hashAt i == h then some (.candidate (st t_.mask h m).j i (st t_.mask h (m+1)))else probe.go t_ hashAt h fuel (st t_.mask h (m+1)):=by
   conv=>lhs;unfold probe.go
   rw[slot_live F.inc F.dum hi]
   rfl
  have uniq:∀i',t_.place[i']?=some (st t_.mask h m).j→i'=i:=fun i' hi'=>by
   rcases Bv i' i with hlt | hlt | hlt
   ·have:=F.inc _ _ _ _ hlt (by rw[AC];exact hi') (by rw[AC];exact hi);exact o64 this
   ·exact hlt
   ·have:=F.inc _ _ _ _ hlt (by rw[AC];exact hi) (by rw[AC];exact hi');exact o64 this
  by_cases hh:hashAt i=h
  ·refine .inl (VJ m i (At _) (by exact o60 hm) hi hh (fun k' i' h1 h2=>by lia) ?_);rw[hgo,if_pos (by exact decide_eq_true ‹_›)]
  ·rw[hgo,if_neg (by simp[hh])];rcases ih (m+1) fuel (by exact o61 hm) (by exact aq236 hf) (fun k h1 h2=>hall k (by exact o30 h1) h2)with⟨k,i2,h1,h2,h3,h4,h5,h6⟩ | ⟨h1,h2⟩
   ·refine .inl (VJ k i2 (by exact o30 h1) h2 h3 h4 (fun k' i' q1 q2 q3=>?_) h6);rcases B8 m k' with q | q
    ·exact h5 k' i' (by exact o82 q q1) q2 q3
    ·have:k'=m:=by exact o81 q1 q
     subst this;rw[uniq i' q3];exact hh
   ·refine .inr ⟨fun k' i' q1 q2 q3=>?_,h2⟩;rcases B8 m k' with q | q
    ·exact h1 k' i' (by exact o82 q q1) q2 q3
    ·have:k'=m:=by exact o81 q1 q
     subst this;rw[uniq i' q3];exact hh
end U7
theorem go_spec{t hs n}:U7.pP t hs n:=@KB _ _ U7.fF U7.kK rfl U7.tT (t,hs,n)
namespace U8
noncomputable def pP(t:SetTable)(hs:List Int)(h:Int)(n:Nat):Prop:=∀(F:Fit t hs)(he:∀i:Nat,t.place[i]?≠some (st t.mask h n).j)(hall:∀m,m<n→∃i:Nat,t.place[i]?=some (st t.mask h m).j),∃p,(t.put (st t.mask h n).j).2=p∧p≤hs.length∧Fit (t.put (st t.mask h n).j).1 (hs.take p++h::hs.drop p)∧(t.put (st t.mask h n).j).1.mask=t.mask∧(t.put (st t.mask h n).j).1.plain=t.plain∧(t.put (st t.mask h n).j).1.led=t.led
noncomputable def fF:=unz fun t=>unz fun hs=>unz fun h=>pP t hs h
noncomputable def kK:=epz default fF
noncomputable def t_:=kK.1
noncomputable def hs_:=kK.2.1
noncomputable def h_:=kK.2.2.1
noncomputable def n_:=kK.2.2.2
theorem tT:pP t_ hs_ h_ n_:=by
 intro F he hall;refine xAA (below_spec F.inc (st t_.mask h_ n_).j) fun b1 b2 b3=>?_
 have hput:(t_.put (st t_.mask h_ n_).j)=({t_ with place:=insertAt t_.place (below t_.place (st t_.mask h_ n_).j) (st t_.mask h_ n_).j,dummies:=#[]},below t_.place (st t_.mask h_ n_).j):=by
  unfold SetTable.put;simp only[F.dum];rw[if_neg (by simp[IH])]
 rw[hput];generalize hp:below t_.place (st t_.mask h_ n_).j=p at b1 b2 b3;refine⟨p,rfl,by rw[←F.size];exact b1,⟨F.ok,by rw[←hp];exact Sz F.inc he,rfl,?_,?_,?_⟩,rfl,rfl,rfl⟩
 ·show (insertAt t_.place p (st t_.mask h_ n_).j).size=_;rw[←Bb,toList_insertAt];simp only[Au,Cc,BN,IJ,Bb];have:=F.size;exact aq157 this
 ·intro i j hij;rcases (P0 b1 (st t_.mask h_ n_).j j).mp ⟨i,hij⟩with rfl | ⟨k,hk⟩
  ·have:=VV t_.mask h_ n_;show (st t_.mask h_ n_).j≤t_.mask;exact o77 this
  ·exact F.le k j hk
 ·intro i h' hi;show ∃n',(insertAt t_.place p (st t_.mask h_ n_).j)[i]?=some (st t_.mask h' n').j∧∀m,m<n'→∃i':Nat,(insertAt t_.place p (st t_.mask h_ n_).j)[i']?=some (st t_.mask h' m).j;have hl:(hs_.take p).length=p:=by rw[Cc];have:=F.size;lia
  have old:∀j,(∃k:Nat,t_.place[k]?=some j)→∃i':Nat,(insertAt t_.place p (st t_.mask h_ n_).j)[i']?=some j:=fun j hj=>(P0 b1 _ j).mpr (.inr hj);rcases Bv i p with q | q | q
  ·rw[Ar (by exact o5 q hl),CY,if_pos q]at hi;refine xEA (F.reach i h' hi) fun n' e1 e2=>?_;exact (yEA n' (by rw[Lz b1,if_pos q];exact e1) (fun m hm=>old _ (e2 m hm)))
  ·subst q;rw[BA (by exact o22 hl),hl]at hi;simp at hi;subst hi;exact (yEA n_ (by rw[Lz b1,if_neg (by exact o66),if_pos rfl]) (fun m hm=>old _ (hall m hm)))
  ·rw[BA (by exact o70 q hl),hl,show i - p=(i - p - 1)+1 by exact o68 q,Dz,Ee,show p+(i - p - 1)=i - 1 by exact o67 q]at hi;refine xEA (F.reach (i - 1) h' hi) fun n' e1 e2=>?_;exact (yEA n' (by rw[Lz b1,if_neg (by exact o69 q),if_neg (by exact o47 q)];exact e1) (fun m hm=>old _ (e2 m hm)))
end U8
theorem Fit.put{t hs h n}:U8.pP t hs h n:=@KB _ _ U8.fF U8.kK rfl U8.tT (t,hs,h,n)
noncomputable def Op(owner:Array (Option Nat))(j:Nat):Bool:=(owner.getD j (some 0)).isSome
namespace U9
noncomputable def pP(mask:Nat):Prop:=∀(hm:Ok mask)(owner:Array (Option Nat))(h:Int),∀fuel k nk,st mask h nk=bp mask (bl mask h k)→(∃k',k≤k'∧k'<k+fuel∧Op owner (bl mask h k').1=false)→
   ∃n,nk≤n∧layClean.free mask owner fuel (bl mask h k).1 (bl mask h k).2=some (st mask h n).j∧Op owner (st mask h n).j=false∧∀q,nk≤q→q<n→Op owner (st mask h q).j=true
noncomputable def fF:=pP
noncomputable def kK:=epz default fF
noncomputable def mask_:=kK
theorem tT:pP mask_:=by
 intro hm owner h;intro fuel
 induction fuel with
 | zero=>intro k nk _ ⟨k',h1,h2,_⟩;grind
 | succ fuel ih=>
  intro k nk hb ⟨k',h1,h2,h3⟩;have hre:=N7 (Ww mask_ h k);have hin:=RP hb;unfold layClean.free
  cases e:(Ap (runEnd mask_ (bl mask_ h k).1+1 - (bl mask_ h k).1)).find? fun q=>(owner.getD ((bl mask_ h k).1+q) (some 0)).isNone with
  | some q=>
   rw[List.find?_range_eq_some]at e;refine xAA e ?_;clear e;intro e1 e2 e3;have hq:q<runEnd mask_ (bl mask_ h k).1+1 - (bl mask_ h k).1:=by simpa using e2
   refine (NT (nk+q) (by simp) ?_ ?_ (fun r hr1 hr2=>?_))
   ·rw[hin q (by exact o80 hre hq)]
   ·rw[hin q (by exact o80 hre hq)];show (owner.getD _ (some 0)).isSome=false;simpa using e1
   ·have:=e3 (r - nk) (by exact aq81 hr2 hr1);have hr:=hin (r - nk) (by exact aq6 hre hq hr2 hr1);rw[show nk+(r - nk)=r by exact o59 hr1]at hr;rw[hr];show (owner.getD _ (some 0)).isSome=true;simp only[IB,Gw]at this;exact this
  | none=>
   rw[List.find?_range_eq_none]at e
   have hfull:∀q,q<runEnd mask_ (bl mask_ h k).1+1 - (bl mask_ h k).1→Op owner ((bl mask_ h k).1+q)=true:=fun q hq=>by
    have:=e q hq;simp only[IB,Gw]at this;exact this
   have hne:k≠k':=by
    rintro rfl;have:=hfull 0 (by exact aq37 hre);rw[JN,h3]at this;exact nomatch this
   refine LZ (ih (k+1) _ (OW hb) (M1 k' (by exact aq303 hne h1) (by exact aq190 h2) h3)) fun n g1 g2 g3 g4=>?_;refine (NT n (by exact aq221 g1) g2 g3 (fun r hr1 hr2=>?_));rcases B8 r (nk+(runEnd mask_ (bl mask_ h k).1 - (bl mask_ h k).1)+1)with q | q
   ·have hr:=hin (r - nk) (by exact aq36 q);rw[show nk+(r - nk)=r by exact o59 hr1]at hr;rw[hr];exact hfull (r - nk) (by exact aq7 hre q hr1)
   ·exact g4 r q hr2
end U9
theorem Uc{mask}:U9.pP mask:=@KB _ _ U9.fF U9.kK rfl U9.tT (mask)
noncomputable def cnt:List (Option Nat)→Nat
 | []=>0
 | o::r=>(if o.isSome then 1 else 0)+cnt r
theorem Uk:∀(l:List (Option Nat)) (i k:Nat),l[i]?=some none→cnt (l.set i (some k))=cnt l+1
 | [],i,k,h=>by exact if_pos ‹_›
 | o::r,0,k,h=>by simp at h;subst h;simp[cnt];lia
 | o::r,i+1,k,h=>by
  simp only[Dz]at h;have:=Uk r i k h;simp only[List.set_cons_succ,cnt,this];exact o74
theorem RV:∀(l:List (Option Nat)),cnt l<l.length→∃i:Nat,l[i]?=some none
 | [],h=>by simp at h
 | none::r,h=>⟨0,rfl⟩
 | some x::r,h=>by
  simp only[cnt,Option.isSome_some,if_true,BN]at h;refine xE (RV r (by exact aq208 h)) fun i hi=>?_;exact⟨i+1,by simpa using hi⟩
theorem PP(n:Nat):cnt (List.replicate n none)=0:=by
 induction n with
 | zero=>rfl
 | succ n ih=>rw[List.replicate_succ];exact congrArg _ ‹_›
structure Own(mask:Nat)(owner:Array (Option Nat))(hs:List Int):Prop where
 size:owner.size=mask+1
 lt:∀j m:Nat,owner[j]?=some (some m)→m<hs.length
 inj:∀j j' m:Nat,owner[j]?=some (some m)→owner[j']?=some (some m)→j=j'
 cnt:cnt owner.toList=hs.length
 reach:∀(m:Nat) (h:Int),hs[m]?=some h→∃n,owner[(st mask h n).j]?=some (some m)∧∀q,q<n→∃m':Nat,owner[(st mask h q).j]?=some (some m')
theorem Own.empty(mask:Nat):Own mask (Array.replicate (mask+1) none) [] where
 size:=by simp
 lt:=fun j m h=>by rw[Hd]at h;split at h<;>cases h
 inj:=fun j j' m h=>by rw[Hd]at h;split at h<;>cases h
 cnt:=by rw[Array.toList_replicate,PP];rfl
 reach:=fun m h e=>by trivial
theorem Own.lt_len{mask:Nat}{owner:Array (Option Nat)}{hs:List Int}(O:Own mask owner hs)(hl:hs.length≤mask):Tab.cnt owner.toList<owner.toList.length:=by
 have h1:=O.cnt;have h2:owner.toList.length=mask+1:=by rw[Bb,O.size]
 rw[h1,h2];exact o79 hl
theorem Own.step{mask:Nat}(hm:Ok mask){owner:Array (Option Nat)}{hs:List Int}(O:Own mask owner hs)(hl:hs.length≤mask)(h:Int):∃j,layClean.free mask owner (turns mask) (bits h % (mask+1)) (bits h)=some j∧Own mask (owner.setIfInBounds j (some hs.length)) (hs++[h]):=by
 refine xE (RV owner.toList (O.lt_len hl)) fun j0 hj0=>?_;rw[AC]at hj0;have hj0l:j0≤mask:=by have:=(Bz.mp hj0).1;rw[O.size]at this;exact o65 this
 refine xEA (Uo hm h hj0l) fun k' hk' e=>?_
 have hfill:∀j,j≤mask→(Op owner j=true↔∃m:Nat,owner[j]?=some (some m)):=fun j hj=>by
  unfold Op;have:j<owner.size:=by rw[O.size];exact o79 hj
  rw[B0 this];simp only[Du,this,dif_pos]
  cases e:owner[j]with
  | none=>simp[e]
  | some m=>simp[e]
 refine LZ (Uc hm owner h (turns mask) 0 0 rfl (M1 k' (Bi _) (by unfold turns;exact aq222 hk') (by
  rw[e];cases q:Op owner j0 with
  | false=>rfl
  | true=>refine xE ((hfill j0 hj0l).mp q) fun m hm'=>?_;rw[hj0]at hm';cases hm'))) fun n _ hfree hn hb=>?_
 have hjl:(st mask h n).j≤mask:=by have:=VV mask h n;exact o77 this
 have hnone:owner[(st mask h n).j]?=some none:=by
  have hlt:(st mask h n).j<owner.size:=by rw[O.size];exact o79 hjl
  cases e2:owner[(st mask h n).j]with
  | none=>rw[B0 hlt,e2]
  | some m=>have:=(hfill _ hjl).mpr ⟨m,by rw[B0 hlt,e2]⟩;rw[hn]at this;exact nomatch this
 refine (yEA _ hfree ?_)
 have get:∀i,(owner.setIfInBounds (st mask h n).j (some hs.length))[i]?=if i=(st mask h n).j then some (some hs.length)else owner[i]?:=fun i=>by
  rw[Array.getElem?_setIfInBounds]
  by_cases q:(st mask h n).j=i
  ·rw[if_pos q,if_pos q.symm];have:(st mask h n).j<owner.size:=by rw[O.size];exact o79 hjl
   rw[if_pos this]
  ·rw[if_neg q,if_neg (fun q'=>q q'.symm)]
 refine⟨by simp[O.size],fun j m e=>?_,fun j j' m e1 e2=>?_,?_,fun m h' e=>?_⟩
 ·rw[get]at e;rw[Au,Bx];split at e
  ·obtain rfl:=Ag (Ag e);exact o58
  ·have:=O.lt j m e;exact o78 this
 ·rw[get]at e1 e2;split at e1<;>split at e2
  ·rename_i a b;rw[a,b]
  ·obtain rfl:=Ag (Ag e1);have:=O.lt _ _ e2;exact o64 this
  ·obtain rfl:=Ag (Ag e2);have:=O.lt _ _ e1;exact o64 this
  ·exact O.inj _ _ _ e1 e2
 ·rw[Array.toList_setIfInBounds,Uk _ _ _ (by rw[AC];exact hnone),O.cnt];simp
 ·have old:∀j:Nat,(∃m':Nat,owner[j]?=some (some m'))→∃m':Nat,(owner.setIfInBounds (st mask h n).j (some hs.length))[j]?=some (some m'):=fun j ⟨m',e⟩=>⟨m',by
   rw[get,if_neg (fun q=>by rw[q,hnone]at e;cases e)];exact e⟩
  rcases B8 m hs.length with q | q
  ·rw[Ar q]at e;refine xEA (O.reach m h' e) fun n' r1 r2=>?_;exact (yEA n' (by rw[get,if_neg (fun q=>by rw[q,hnone]at r1;cases r1)];exact r1) (fun q hq=>old _ (r2 q hq)))
  ·rw[BA q]at e
   have hm0:m=hs.length:=by
    have:=(Af.mp e).1;simp at this;exact aq119 this q
   subst hm0;simp at e;subst e;exact (yEA n (by rw[get,if_pos rfl]) (fun q hq=>old _ ((hfill _ (by have:=VV mask h q;exact o77 this)).mp (hb q (Bi _) hq))))
theorem PH{mask:Nat}(hm:Ok mask)(hs:List Int)(hl:hs.length≤mask+1):∃owner,layClean mask hs.toArray=some owner∧Own mask owner hs:=by
 have key:∀(rest done:List Int) (owner:Array (Option Nat)),Own mask owner done→done.length+rest.length≤mask+1→
   ∃owner',(rest.foldl (init:=some (owner,done.length)) fun acc h=>do
    let (owner,k) ←acc
    let j ←layClean.free mask owner (turns mask) (bits h % (mask+1)) (bits h)
    pure (owner.setIfInBounds j (some k),k+1))=some (owner',done.length+rest.length)∧Own mask owner' (done++rest):=by
  intro rest
  induction rest with
  | nil=>intro done owner O _;exact (yEA owner (by simp) (by simpa using O))
  | cons h rest ih=>
   intro done owner O hl;simp only[BN]at hl;refine xEA (O.step hm (by exact aq230 hl) h) fun j hj O'=>?_;refine xEA (ih (done++[h]) _ O' (by simp;exact aq214 hl)) fun owner' e O''=>?_;refine (yEA owner' ?_ (by simpa using O''));rw[Gz];simp only[Option.bind_eq_bind,Cb,hj,Option.pure_def]at e ⊢;have e1:(done++[h]).length=done.length+1:=by simp
   rw[e1]at e;rw[e]
   congr 2
   simp only[BN];lia
 refine xEA (key hs [] _ (Own.empty mask) (by simpa using hl)) fun owner e O=>?_;refine (yEA owner ?_ (by simpa using O));unfold layClean;rw[List.foldl_toArray];simp only[Gy]at e;rw[e]
 rfl
end Tab
end
section
namespace Tab
open SetTable
theorem laid_spec{mask finger moves:Nat}{led plain:Bool}(hm:Ok mask)(hs:List Int)(hl:hs.length≤mask+1):∃t' order,laid mask finger moves led plain hs.toArray=some (t',order)∧order.toList.Perm (Ap hs.length)∧Fit t' (order.toList.map fun m=>hs.getD m 0)∧t'.mask=mask∧t'.led=led∧t'.plain=plain:=by
 refine xEA (PH hm hs hl) fun owner ho O=>?_
 have hlive:laid mask finger moves led plain hs.toArray=some ({mask,place:=(((Ap (mask+1)).filterMap fun j=>(owner.getD j none).map (j,·)).map (·.1)).toArray,dummies:=#[],finger,led,moves,plain},(((Ap (mask+1)).filterMap fun j=>(owner.getD j none).map (j,·)).map (·.2)).toArray):=by
  unfold laid;rw[ho];rfl
 generalize hlv:((Ap (mask+1)).filterMap fun j=>(owner.getD j none).map (j,·))=live at hlive
 have mem:∀j m,(j,m)∈live↔owner[j]?=some (some m):=fun j m=>by
  rw[←hlv,Dv];constructor
  ·rintro⟨j',_,e⟩
   cases e':owner.getD j' none with
   | none=>rw[e']at e;exact nomatch e
   | some m'=>
    rw[e']at e;simp only[ED,EY,Ei]at e;refine xA e ?_;clear e;rintro rfl rfl
    by_cases hj:j'<owner.size
    ·simp only[Du,hj,dif_pos]at e';rw[B0 hj];exact congrArg some e'
    ·simp[Du,hj]at e'
  ·intro e;refine xE (Bz.mp e) fun hj e'=>?_;refine (yEA j (by rw[Be];rw[O.size]at hj;exact hj) ?_);simp[Du,hj,e']
 have sorted:live.Pairwise fun a b=>a.1<b.1:=by
  rw[←hlv];refine JP _ (fun a a' hlt b hb b' hb'=>?_) List.pairwise_lt_range
  cases e:owner.getD a none with
  | none=>rw[e]at hb;exact nomatch hb
  | some x=>
   cases e':owner.getD a' none with
   | none=>rw[e']at hb';exact nomatch hb'
   | some x'=>rw[e]at hb;rw[e']at hb';obtain rfl:=Ag hb;obtain rfl:=Ag hb';exact hlt
 have nodup:(live.map (·.2)).Nodup:=by
  rw[List.Nodup,FV];refine FS (fun {a b} ha hb hlt e=>?_) sorted;have h1:=(mem a.1 a.2).mp ha;have h2:=(mem b.1 b.2).mp hb;rw[←e]at h2;have:=O.inj _ _ _ h1 h2;exact aq220 hlt this
 have perm:(live.map (·.2)).Perm (Ap hs.length):=by
  rw[List.perm_ext_iff_of_nodup nodup List.nodup_range];intro m;rw[AR,Be];constructor
  ·rintro⟨p,hp,rfl⟩;exact O.lt _ _ ((mem p.1 p.2).mp hp)
  ·intro hlt;refine xEA (O.reach m (hs[m]) (A7 hlt)) fun n e _=>?_;exact (yEA (_,m) ((mem _ _).mpr e) rfl)
 refine (VJ _ _ hlive (by simpa using perm) ⟨hm,?_,rfl,by simp,?_,?_⟩ rfl rfl rfl)
 ·intro i j x y hij hx hy;simp only[B4]at hx hy
  cases ex:live[i]? with
  | none=>rw[ex]at hx;exact nomatch hx
  | some p=>
   cases ey:live[j]? with
   | none=>rw[ey]at hy;exact nomatch hy
   | some q=>
    rw[ex]at hx;rw[ey]at hy;obtain rfl:=Ag hx;obtain rfl:=Ag hy;refine xE (Af.mp ex) fun hi ei=>?_;refine xE (Af.mp ey) fun hj ej=>?_;have:=List.pairwise_iff_getElem.mp sorted i j hi hj hij;rw[ei,ej]at this;exact this
 ·intro i j h
  have:j∈live.map (·.1):=by
   rw[BV];exact⟨i,by simpa using h⟩
  refine xEA (AR.mp this) ?_;rintro p hp rfl;have:=(Bz.mp ((mem p.1 p.2).mp hp)).1;rw[O.size]at this;show p.1≤mask;exact o65 this
 ·intro i h hi;simp only[B4]at hi
  cases e:live[i]? with
  | none=>rw[e]at hi;exact nomatch hi
  | some p=>
   rw[e]at hi;simp only[ED,EY]at hi;have hp:=(mem p.1 p.2).mp (Av e);have hlt:=O.lt _ _ hp;have hh:hs[p.2]?=some h:=by rw[A7 hlt];rw[←hi,A6,A7 hlt];rfl
   refine xEA (O.reach _ _ hh) fun n e1 e2=>?_;have hj:=O.inj _ _ _ hp e1;refine (yEA n ?_ (fun q hq=>?_))
   ·show (live.map (·.1)).toArray[i]?=some (st mask h n).j;simp[e,hj]
   ·refine xE (e2 q hq) fun m' hm'=>?_;refine xE (BV.mp ((mem _ _).mpr hm')) fun i' hi'=>?_;refine⟨i',?_⟩;show (live.map (·.1)).toArray[i']?=some (st mask h q).j;simp[hi']
end Tab
structure SK(w:Bo)(K:Type)[DecidableEq K] where
 is:AE→K→Addr→Prop
 hash:K→Int×Nat
 inj:∀{h:AE} {a:Addr} {x y:K},is h x a→is h y a→x=y
 im:∀{h h':AE} {k:K} {a:Addr},is h k a→Im h h'→is h' k a
 hashIs:∀{A:Aq} {s:A4} {k:K} {a:Addr},A.units+1<cLine→is s.heap k a→KU w A s (.ref a) (hash k)
 eq:∀{A:Aq} {s:A4} {x y:K} {a b:Addr},A.units+1<cLine→is s.heap x a→is s.heap y b→ML w A s (.ref a) (.ref b) (decide (x=y))
 calm:∀{s:A4} {k:K} {a:Addr},is s.heap k a→MF w s 8 (.ref a)
noncomputable def W3(w:Bo):SK w Row where
 is:=fun h r a=>L2 h a r
 hash:=O8 w
 inj:=fun hx hy=>hx.inj hy
 im:=fun x e=>x.im e
 hashIs:=fun hu h=>KU.row (by exact o4 hu) h
 eq:=fun hu hx hy=>ML.row (by exact o4 hu) hx hy
 calm:=fun h=>MF.row (n:=7) h
noncomputable def R8(w:Bo):SK w (Nat×Row) where
 is:=fun h r a=>OA h a r
 hash:=TW w
 inj:=fun hx hy=>hx.inj hy
 im:=fun x e=>x.im e
 hashIs:=fun hu h=>KU.hom hu h
 eq:=fun hu hx hy=>ML.hom hu hx hy
 calm:=fun h=>MF.hom (n:=6) h
section
variable{w:Bo}{K:Type}[DecidableEq K](sk:SK w K)
noncomputable def WH(h:AE)(e:Int×Value)(k:K):Prop:=∃b,e=((sk.hash k).1,.ref b)∧sk.is h k b
noncomputable def PS(h:AE)(a:Addr)(ks:List K):Prop:=
 ∃o es ep t,h.get? a=some o∧o.ExactSet∧o.data=.set es ep t∧Tab.Fit t (ks.map fun k=>(sk.hash k).1)∧KJ (WH sk h) es.toList ks∧ks.Nodup∧ks.length*5<t.mask*3∧(w.params.followText "set-order" = false→t.led=true)
variable{sk}{A:Aq}{E:Value→A4→Prop}{s:A4}
theorem Nk(F:Tab.Fit t hs)(hn:hs.length=n)(hl:n≤t.mask):t.fits n=true:=by
 unfold Iu EX;simp[F.size,F.dum,hn];exact o32 hl
theorem Rd{ks:List K}(x:KJ (WH sk h) es ks)(i:Im h h'):KJ (WH sk h') es ks:=x.mono fun e k z=>xEA z fun b e1 e2=>(yEA b e1 (sk.im e2 i))
theorem Sx{M:Model}(h:Q true s):A8 M A (isSame (.ref b) (.ref b)) Q E s:=by
 show A8 M A (ite ((b == b)=true) (pure true) _) Q E s;rw[if_pos (beq_self_eq_true b)];exact Ae h
namespace U10
noncomputable def pP(w:Bo)(A:Aq)(E:Value→A4→Prop)(a b:Addr)(o:Obj)(es:Array (Int×Value))(ep:Nat)(t:SetTable)(n:Nat):Prop:=∀{K:Type}[DecidableEq K]{sk:SK w K}{s:A4}{ks:List K}{k:K}{Q:SetFound→A4→Prop}(hu:A.units+1<cLine)(ho:s.heap.get? a=some o)(hd:o.data=.set es ep t)(F:Tab.Fit t (ks.map fun k=>(sk.hash k).1))(he:KJ (WH sk s.heap) es.toList ks)(hl:ks.length≤t.mask)(hk:sk.is s.heap k b)(hn:n<10*EL t.mask)(hempty:∀i:Nat,t.place[i]?≠some (Tab.st t.mask (sk.hash k).1 n).j)(hall:∀m,m<n→∃i:Nat,t.place[i]?=some (Tab.st t.mask (sk.hash k).1 m).j),∀d m fuel stand,m+d=n→d<fuel→stand.getD (t.probeStart (sk.hash k).1)=Tab.st t.mask (sk.hash k).1 m→
   ((∃q i:Nat,m≤q∧q<n∧t.place[i]?=some (Tab.st t.mask (sk.hash k).1 q).j∧ks[i]?=some k)→Q (.there none) s)→
   ((∀q i:Nat,m≤q→q<n→t.place[i]?=some (Tab.st t.mask (sk.hash k).1 q).j→ks[i]?≠some k)→Q (.free (Tab.st t.mask (sk.hash k).1 n).j false) s)→
   A8 (MD w) A (setSearchFrom a (.ref b) (sk.hash k).1 true fuel stand) Q E s
noncomputable def fF:=unz fun w=>unz fun A=>unz fun E=>unz fun a=>unz fun b=>unz fun o=>unz fun es=>unz fun ep=>unz fun t=>pP w A E a b o es ep t
noncomputable def kK:=epz (c.w,{},default) fF
noncomputable def w_:=kK.1
noncomputable def A_:=kK.2.1
noncomputable def E_:=kK.2.2.1
noncomputable def b_:=kK.2.2.2.2.1
noncomputable def es_:=kK.2.2.2.2.2.2.1
noncomputable def t_:=kK.2.2.2.2.2.2.2.2.1
noncomputable def n_:=kK.2.2.2.2.2.2.2.2.2
theorem tT:pP w_ A_ E_ kK.2.2.2.1 b_ kK.2.2.2.2.2.1 es_ kK.2.2.2.2.2.2.2.1 t_ n_:=by
 intro K _ sk s ks k Q hu ho hd F he hl hk hn hempty hall;intro d
 induction d using CG with
 | _ d ih=>
  intro m fuel stand hm hf hst h1 h2;obtain⟨fuel,rfl⟩:∃f,fuel=f+1:=⟨fuel - 1,by exact aq86 hf⟩;have hfits:t_.fits es_.size=true:=Nk F (by simp;rw[←he.1,Bb]) (by rw[←Bb,he.1];exact hl)
  have hgw:t_.gaveWay=false:=by
   unfold SetTable.gaveWay;rcases F.ok with e | e<;>rw[e]<;>rfl
  refine A5 (BF ho hd hfits ?_);dsimp only;simp only[hgw,Ax,if_false,hst]
  show A8 _ _ (match t_.probe (fun i=>(es_[i]?.map (·.1)).getD 0) (sk.hash k).1 (Tab.st t_.mask (sk.hash k).1 m)with
   | some met=>_
   | x=>_) _ _ _
  have hat:∀(i:Nat) (k':K),ks[i]?=some k'→(es_[i]?.map (·.1)).getD 0=(sk.hash k').1:=fun i k' hi=>by
   refine xEA (he.get hi) ?_;rintro e h1 ⟨b',rfl,_⟩;rw[AC]at h1;rw[h1];rfl
  unfold Ib;rcases Tab.go_spec F (fun i=>(es_[i]?.map (·.1)).getD 0) (sk.hash k).1 hempty d m _ hm (show d<10*EL t_.mask by exact aq138 hm hn) (fun q _ hq=>hall q hq)with⟨q,i,q1,q2,q3,q4,q5,q6⟩ | ⟨q1,q2⟩
  ·rw[q6];dsimp only
   have hil:i<ks.length:=by
    have:=(Bz.mp q3).1;rw[F.size]at this;simpa using this
   refine xEA (he.get (A7 hil)) ?_;rintro e e1 ⟨b',rfl,hb'⟩;rw[AC]at e1
   have hled:∀(X:Sem SetFound),A8 (MD w_) A_ X Q E_ s→A8 (MD w_) A_ (if (!t_.led)=true then do
     let __do_lift ←GF (.ref b_) ((es_.filter (·.1 == (sk.hash k).1)).toList.map (·.2))
     if __do_lift=true then do
      Hg "set:the-search-would-show-the-table"
      X
     else X
    else X) Q E_ s:=by
    intro X hX
    by_cases hled:t_.led=true
    ·rw[hled];simp only[CO,Ax,if_false];exact hX
    simp only[DR]at hled;rw[hled];simp only[Eg,if_true];refine A5 ?_
    have seen:∀(l:List Value),(∀v∈l,∃b' k',v=.ref b'∧sk.is s.heap k' b')→A8 (MD w_) A_ (GF (.ref b_) l) (fun r s'=>r=false∧s'=s) E_ s:=by
     intro l hl';unfold GF;refine A5 ?_;refine Ds _ (fun rest r s'=>r.1=none∧s'=s∧∀v∈rest,∃b' k',v=.ref b'∧sk.is s.heap k' b') _ ?_ ?_ _ _ (yAA rfl rfl hl')
     ·rintro x rest r s' ⟨hr,rfl,hall'⟩;refine MG (hall' x Aj) ?_;rintro b' k' rfl hb2;dsimp only;have nx:∀v∈rest,∃b' k',v=.ref b'∧sk.is s'.heap k' b':=fun v hv=>hall' v (Ao _ hv)
      by_cases hv:(b_ == b')=true
      ·simp only[hv,Jw,if_true];exact Ae (yAA rfl rfl nx)
      ·simp only[DR]at hv;simp only[hv,carriedByValue,Hm,Bool.or_self,Ax,if_false];refine A5 ((sk.calm hk).quiet _ _ _ ?_);simp only[CO,Ax,if_false];refine A5 ((sk.calm hb2).quiet _ _ _ ?_);simp only[CO,Ax,if_false];refine A5 ((sk.calm hk).noCls _ _ _ ?_);simp only[Ax,if_false];refine A5 ((sk.calm hb2).noCls _ _ _ ?_);simp only[Ax,if_false];exact Ae (yAA rfl rfl nx)
     ·rintro⟨r1,r2⟩ s' ⟨hr,rfl,_⟩;simp only at hr;subst hr;exact Ae ⟨rfl,rfl⟩
    refine Al (seen _ fun v hv=>?_) (fun r s' ⟨hr,hs⟩=>?_) fun _ _ e=>e
    ·refine xEA (AR.mp hv) ?_;rintro e he' rfl;rw[Array.toList_filter]at he';refine xE (BV.mp (CE.mp he').1) fun i' hi'=>?_;refine xEA (he.get' hi') ?_;rintro k' _ ⟨b',rfl,hb2⟩;exact (Pi b' k' rfl hb2)
    ·subst hr;subst hs;simp only[Ax,if_false];exact hX
   refine hled _ ?_;rw[e1];dsimp only;refine A5 (B7 (sk.eq hu hb' hk _ _ ?_));refine A5 (BF ho hd hfits ?_);dsimp only
   by_cases hkk:ks[i]=k
   ·rw[decide_eq_true hkk];simp only[Hm,if_true];exact Ae (h1 (Pj q i q1 q2 q3 (by rw[A7 hil,hkk])))
   ·rw[decide_eq_false hkk];simp only[Fe,Ax,if_false];have hsame:t_.sameMemory t_.moves t_.mask=some true:=by unfold SetTable.sameMemory;simp
    rw[hsame];dsimp only;rw[if_pos rfl,Tab.slot_live F.inc F.dum q3];dsimp only;rw[e1];dsimp only;refine A5 (Sx (A5 (Ae ?_)));rw[if_pos rfl];dsimp only;refine ih (n_ - (q+1)) (by exact aq20 hm q2 q1) (q+1) fuel _ (by exact aq57 q2) (by exact aq14 hm hf q2 q1) rfl (fun⟨q',i',r1,r2,r3,r4⟩=>h1 (Pj q' i' (by exact aq91 r1 q1) r2 r3 r4)) (fun hno=>h2 fun q' i' r1 r2 r3 r4=>?_);rcases Bv q' q with r | r | r
    ·have:=q5 q' i' r1 r r3;rw[hat i' k r4]at this;exact this rfl
    ·subst r
     have:i'=i:=by
      rcases Bv i' i with hlt | hlt | hlt
      ·have:=F.inc _ _ _ _ hlt (by rw[AC];exact r3) (by rw[AC];exact q3);exact o64 this
      ·exact hlt
      ·have:=F.inc _ _ _ _ hlt (by rw[AC];exact q3) (by rw[AC];exact r3);exact o64 this
     subst this;rw[A7 hil]at r4;obtain rfl:=Ag r4;exact hkk rfl
    ·exact hno q' i' (by exact o63 r) r2 r3 r4
  ·rw[q2];dsimp only;refine Ae (h2 fun q i r1 r2 r3 r4=>?_);have:=q1 q i r1 r2 r3;rw[hat i k r4]at this;exact this rfl
end U10
theorem QN{w A E a b o es ep t n}:U10.pP w A E a b o es ep t n:=@KB _ _ U10.fF U10.kK rfl U10.tT (w,A,E,a,b,o,es,ep,t,n)
theorem MO{o:Obj}{es:Array (Int×Value)}{ep:Nat}{t:SetTable}{h:AE}{a:Addr}(ho:h.get? a=some o)(hd:o.data=.set es ep t)(es':Array (Int×Value))(t':SetTable):(h.update a (DZ es' t')).get? a=some {o with data:=.set es' (ep+1) t' }:=by
 have:=Bl (DZ es' t') ho (by rw[putSet_of es' t' hd];rfl);rw[putSet_of es' t' hd]at this;exact this
theorem QO{h:AE}{N:Array (Int×Value)}{ks:List K}{D:K}(he:KJ (WH sk h) N.toList ks):∀(l:List Nat),(∀i∈l,i<ks.length)→KJ (WH sk h) (l.filterMap (N[·]?)) (l.map fun i=>ks.getD i D):=by
 intro l
 induction l with
 | nil=>exact fun _=>KJ.nil
 | cons i l ih=>
  intro hl;have hi:=hl i Aj;refine xEA (he.get (A7 hi)) fun e h1 h2=>?_;rw[AC]at h1;rw[List.filterMap_cons_some h1,Cu];refine .cons ?_ (ih fun i hi=>hl i (Ao _ hi));rw[A6,A7 hi];exact h2
theorem OP{α:Type}(l:List α)(d:α):(Ap l.length).map (fun i=>l.getD i d)=l:=by
 refine BC fun i=>?_;rw[B4]
 by_cases h:i<l.length
 ·rw[CS h];simp[A7 h]
 ·rw[AI (by simpa using h),AI (by exact o25 h)];rfl
theorem W0{a b:Addr}{ks:List K}{k:K}{Q:Bool→A4→Prop}(hu:A.units+1<cLine)(hS:PS sk s.heap a ks)(hk:sk.is s.heap k b)(hz:ks.length≤15)(h:∀s' ks' r,Mt a s s'→PS sk s'.heap a ks'→(∀x,x∈ks'↔x=k∨x∈ks)→ks'.length≤ks.length+1→Q r s'):A8 (MD w) A (Il a (.ref b)) Q E s:=by
 refine T6 hS ?_;clear hS;intro o es ep t ho hex hd F he hnd hroom hled0;have hlen:es.size=ks.length:=by rw[←Bb,he.1]
 have hl:ks.length≤t.mask:=by exact aq197 hroom
 have hfits:t.fits es.size=true:=Nk F (by simp[hlen]) (by exact o0 hroom hlen);unfold Il;refine B7 (A5 ((sk.hashIs hu hk) s.toks _ _ ?_));have hk':sk.is s.heap k b:=hk;generalize hs1:({s with toks:=s.toks+(sk.hash k).2}:A4)=s1;have e1:s1.heap=s.heap:=by rw[←hs1]
 have P1:Pu s s1:=by rw[←hs1];exact Pu.tok _ _
 rw[←e1]at ho he hk;unfold Ik;refine B7 ?_;show A8 _ _ (FO a (.ref b) (sk.hash k).1 (99999+1)) _ _ _;unfold FO;refine A5 (BF ho hd hfits ?_);dsimp only;rw[show byScan (.ref b) es=false by rfl];simp only[Ax,if_false];refine LY (F.way (by simpa using hl) (sk.hash k).1) fun n hn hempty hall=>?_;have hn':n<99999:=by rcases F.ok with e | e<;>rw[e]at hn<;>unfold EL at hn<;>exact Ac ‹_› (by decide)
 unfold setSearch;refine A5 ?_;refine QN (s:=s1) hu ho hd F he hl hk hn hempty hall n 0 _ none (by exact o2) (show n<99999+1 by exact AA ‹_›) rfl (fun⟨q,i,q1,q2,q3,q4⟩=>?_) (fun hno=>?_)
 ·-- it is there
  refine Ae ?_;have hmem:k∈ks:=Av q4;exact h _ ks false (P1.kp _) (QC o es ep t ho hex hd F he hnd hroom hled0) (fun x=>⟨.inr,fun hx=>hx.elim (fun e=>e▸hmem) id⟩) (by exact o3)
 ·have hnot:k∉ks:=fun hm=>by
   refine xE (BV.mp hm) fun i hi=>?_;refine xEA (F.reach i (sk.hash k).1 (by rw[B4,hi];rfl)) fun n' r1 r2=>?_;rcases B8 n' n with hlt | hge
   ·exact hno n' i (Bi _) hlt r1 hi
   ·rcases B8 n n' with hlt | hge'
    ·refine xE (r2 n hlt) fun i' hi'=>?_;exact hempty i' hi'
    ·have:n'=n:=by lia
     subst this;exact hempty i r1
  refine YO (F.put (h:=(sk.hash k).1) hempty hall) fun p hp hple F' hmask hplain hledd=>?_;generalize hput:t.put (Tab.st t.mask (sk.hash k).1 n).j=tp at hp F' hmask hplain hledd;obtain⟨t2,p2⟩:=tp;dsimp only at hp F' hmask hplain hledd;subst hp;rw[AQ]at hple;have hks:(ks.map fun k=>(sk.hash k).1).take p2++(sk.hash k).1::(ks.map fun k=>(sk.hash k).1).drop p2=(ks.take p2++k::ks.drop p2).map fun k=>(sk.hash k).1:=by simp
  rw[hks]at F'
  have he':KJ (WH sk s1.heap) (Bd es p2 ((sk.hash k).1,AN b)).toList (ks.take p2++k::ks.drop p2):=by
   rw[Gr];exact (he.take p2).append (.cons (yEA b rfl hk) (he.drop p2))
  have hlen':(ks.take p2++k::ks.drop p2).length=ks.length+1:=by simp;exact aq79 hple
  have hnd':(ks.take p2++k::ks.drop p2).Nodup:=by
   have:(ks.take p2++k::ks.drop p2).Perm (k::ks):=by
    have:=DP (a:=k) (l₁:=ks.take p2) (l₂:=ks.drop p2)
    rwa [D9]at this
   rw[this.nodup_iff];exact C9.mpr ⟨hnot,hnd⟩
  have hmem':∀x,x∈ks.take p2++k::ks.drop p2↔x=k∨x∈ks:=fun x=>by
   have:(ks.take p2++k::ks.drop p2).Perm (k::ks):=by
    have:=DP (a:=k) (l₁:=ks.take p2) (l₂:=ks.drop p2)
    rwa [D9]at this
   rw[this.mem_iff,As]
  generalize hks2:ks.take p2++k::ks.drop p2=ks2 at F' he' hlen' hnd' hmem';refine A5 (BF ho hd hfits ?_);dsimp only;rw[hput];dsimp only
  have cont:∀bv:Bool,A8 (MD w) A (do
    storeSet a (Bd es p2 ((sk.hash k).1,AN b)) (if bv=true then t2 else {t2 with plain:=false})
    if (!false && (if bv=true then t2 else {t2 with plain:=false}).tooFull)=true then do
     setRelay a (Gg (es.size+1))
     pure true
    else pure true) Q E s1:=by
   intro bv;generalize ht3:(if bv=true then t2 else {t2 with plain:=false}:SetTable)=t3
   have F3:Tab.Fit t3 (ks2.map fun k=>(sk.hash k).1):=by
    rw[←ht3];split
    ·exact F'
    ·exact⟨F'.ok,F'.inc,F'.dum,F'.size,F'.le,F'.reach⟩
   have hl3:t3.led=t.led:=by rw[←ht3];split<;>exact hledd
   have hm3:t3.mask=t.mask:=by rw[←ht3];split<;>exact hmask
   have hsz2:(Bd es p2 ((sk.hash k).1,AN b)).size=ks.length+1:=by rw[←Bb,he'.1,hlen']
   refine A5 (GD ho hd ?_ (by rw[hsz2,AT];exact n13 hz));have ho2:=MO ho hd (Bd es p2 ((sk.hash k).1,AN b)) t3;have same2:=Ba s1.heap a (DZ (Bd es p2 ((sk.hash k).1,AN b)) t3);have mutS:L3 o=true:=by unfold L3;rw[hd]
   have im2:Im s1.heap (s1.heap.update a (DZ (Bd es p2 ((sk.hash k).1,AN b)) t3)):=Im.same ho mutS same2;have M2:Mt a s {s1 with heap:=s1.heap.update a (DZ (Bd es p2 ((sk.hash k).1,AN b)) t3)}:=(P1.kp _).trans Mt.up (fun q _ hq _=>hq);have hfill:t3.fill=ks.length+1:=by unfold EX;rw[F3.size,F3.dum];simp[hlen']
   by_cases hfull:t3.tooFull=true
   ·rw[hfull];simp only[Eg,Hm,if_true]
    have hfull':(ks.length+1)*5≥t.mask*3:=by
     unfold FE at hfull;rw[hfill,hm3]at hfull;simpa using hfull
    have hmask7:t.mask=7:=by rcases F.ok with e | e<;>lia
    have hks4:ks.length=4:=by exact aq125 hfull' hroom hmask7
    have hsa:SetTable.sizeAbove (Gg (es.size+1))=32:=by rw[hlen,hks4];decide
    refine A5 ?_;unfold setRelay;refine A5 (BF (s:={s1 with heap:=_}) ho2 rfl (Nk F3 (by simp[hlen',hsz2]) (by rw[hsz2,hm3];exact aq103 hfull' hroom hmask7)) ?_);dsimp only;rw[hsa,if_neg (by rw[AT];decide)]
    have hmap:(Bd es p2 ((sk.hash k).1,AN b)).map (·.1)=(ks2.map fun k=>(sk.hash k).1).toArray:=by
     apply IE.mp;rw[IC,Co];refine BC fun i=>?_;rw[B4,B4]
     cases e:ks2[i]? with
     | none=>
      have:(Bd es p2 ((sk.hash k).1,AN b)).toList[i]?=none:=by
       rw[Hb]at e ⊢;rw[he'.1];exact e
      rw[this];rfl
     | some k2=>refine xEA (he'.get e) ?_;rintro en e1 ⟨b',rfl,_⟩;rw[e1];rfl
    refine XO (Tab.laid_spec (mask:=31) (finger:=t3.finger) (moves:=t3.movedTo 31) (led:=t3.led) (plain:=t3.plain) (.inr rfl) (ks2.map fun k=>(sk.hash k).1) (by rw[AQ,hlen'];exact aq115 hfull' hroom hmask7)) fun t4 order hlaid hperm F4 hm4 hl4 _=>?_
    have hrel:t3.relaid ((Bd es p2 ((sk.hash k).1,AN b)).map (·.1)) (Gg (es.size+1))=some (t4,order):=by
     unfold SetTable.relaid;rw[hsa,hmap];exact hlaid
    rw[hrel];rw[AQ]at hperm;generalize hN:Bd es p2 ((sk.hash k).1,AN b)=N at *;have hord:∀i∈order.toList,i<ks2.length:=fun i hi=>Be.mp (hperm.mem_iff.mp hi);have hes:=QO (D:=k) he' order.toList hord
    have hsz4:(order.filterMap (N[·]?)).size=N.size:=by
     rw[←Bb,Hr,hes.1,AQ,hperm.length_eq,CI,hlen',hsz2]
    have hperm2:(order.toList.map fun i=>ks2.getD i k).Perm ks2:=by
     have e:=hperm.map fun i=>ks2.getD i k
     rwa [OP]at e
    show A8 _ _ ((do
     let es':=order.filterMap (N[·]?)
     if es'.size != N.size then Hg "internal:set-table-lost-an-element"
     pure (es',t4)) >>= _) _ _ _
    dsimp only;rw[hsz4];simp only[bne_self_eq_false,Ax,if_false];refine A5 (Ae ?_);refine GD (s:={s1 with heap:=_}) ho2 rfl ?_ (by rw[hsz4,hsz2,AT];exact aq116 hfull' hroom hmask7);have ho3:=MO ho2 rfl (order.filterMap (N[·]?)) t4;have same3:=Ba (s1.heap.update a (DZ N t3)) a (DZ (order.filterMap (N[·]?)) t4);have im3:=Im.same ho2 (by rfl) same3;refine Ae (h _ (order.toList.map fun i=>ks2.getD i k) true (M2.trans Mt.up (fun q _ hq _=>hq)) (QC _ _ _ t4 ho3 hex rfl ?_ ?_ (hperm2.nodup_iff.mpr hnd') ?_ (fun e=>by rw[hl4,hl3];exact hled0 e)) (fun x=>by rw[hperm2.mem_iff];exact hmem' x) (by rw[hperm2.length_eq];exact aq75 hfull' hroom hlen' hmask7))
    ·have e:(order.toList.map fun m=>(ks2.map fun k=>(sk.hash k).1).getD m 0)=(order.toList.map fun i=>ks2.getD i k).map fun k=>(sk.hash k).1:=by
      rw[Dj];refine AZ fun m hm=>?_;have hlt:=hord m hm;simp only[Function.comp,A6,B4,A7 hlt]
      rfl
     rw[←e];exact F4
    ·rw[Hr];exact (Rd hes im2).mono fun e k z=>xEA z fun b e1 e2=>(yEA b e1 (sk.im e2 im3))
    ·rw[hperm2.length_eq,hlen',hm4];exact aq87 hfull' hroom hmask7
   ·simp only[DR]at hfull;rw[hfull];simp only[Eg,Fe,Ax,if_false];refine Ae (h _ ks2 true M2 (QC _ _ _ t3 ho2 hex rfl F3 (Rd he' im2) hnd' ?_ (fun e=>by rw[hl3];exact hled0 e)) hmem' (by exact o1 hlen'))
    have:¬(ks.length+1)*5≥t.mask*3:=fun hc=>by
     have:t3.tooFull=true:=by unfold FE;rw[hfill,hm3];exact decide_eq_true ‹_›
     rw[hfull]at this;exact nomatch this
    rw[hlen',hm3];exact aq139 this
  by_cases hp:t2.plain=true
  ·rw[if_pos hp];exact A5 ((sk.calm hk).hbv _ _ _ fun bv=>cont bv)
  ·rw[if_neg hp];exact A5 (Ae (cont true))
end
end
section
section
variable{w:Bo}{K:Type}[DecidableEq K]{sk:SK w K}{A:Aq}{E:Value→A4→Prop}{s:A4}
noncomputable def WG(sk:SK w K)(h:AE)(v:Value)(k:K):Prop:=∃b,v=.ref b∧sk.is h k b
theorem NA{ks:List K}(x:KJ (WG sk h) vs ks)(i:Im h h'):KJ (WG sk h') vs ks:=x.mono fun e k z=>xEA z fun b e1 e2=>(yEA b e1 (sk.im e2 i))
theorem R3{ks:List K}(x:PS sk h a ks):∃o,h.get? a=some o∧L3 o=true:=by
 refine T7 x ?_;clear x;intro o es ep t ho _ hd _;exact (yEA o ho (by unfold L3;rw[hd]))
theorem Mt.im(M:Mt a s s')(ho:s.heap.get? a=some o)(hm:L3 o=true):Im s.heap s'.heap:=fun b o' m e=>M.keep b o' (fun q=>by rw[q,ho]at e;cases e;rw[hm]at m;cases m) e
theorem PS.keep{ks:List K}(x:PS sk h a ks)(e:∀o,h.get? a=some o→h'.get? a=some o)(i:Im h h'):PS sk h' a ks:=by
 refine WO x ?_;clear x;intro o es ep t ho a1 a2 a3 a4 a5;exact⟨o,es,ep,t,e _ ho,a1,a2,a3,Rd a4 i,a5⟩
structure YY(w:Bo)(vs:List Value)(I:Addr→Nat→AE→Prop):Prop where
 keep:∀S i h h',I S i h→(∀o,h.get? S=some o→h'.get? S=some o)→Im h h'→I S i h'
 mu:∀S i h,I S i h→∃o,h.get? S=some o∧L3 o=true
 add:∀(A:Aq) (S:Addr) (i:Nat) (s:A4) (E:Value→A4→Prop) (v:Value),A.units+1<cLine→vs[i]?=some v→I S i s.heap→A8 (MD w) A (Il S v) (fun _ s'=>Mt S s s'∧I S (i+1) s'.heap) E s
theorem UR(PI:YY w vs I){R:EP→A4→Prop}(hu:A.units+3<cLine)(hh:A.handled=none)(hSi:S≠it)(hSl:S≠l)(hil:l≠it):∀(k i:Nat) (s:A4),vs.length - i=k→i≤vs.length→s.heap.IsListIter it l i→s.heap.IsList l vs.toArray→I S i s.heap→
   (∀s',Kp (fun b=>b=S∨b=it) s s'→I S vs.length s'.heap→R (.ok (.ret .none)) s')→
   BM (MD w) A (.builtin "set.update.loop" ⟨[.ref S,.ref it],[]⟩) R s:=by
 intro k
 induction k with
 | zero=>
  intro i s hk hi hit hl hI hR;have hin:i=vs.length:=by exact o54 hk hi
  subst hin;refine CQ Es ?_;rw[CC D5 _];show A8 _ A.in1 (Gm (.ref it) >>= _) _ _ s;refine A5 (Fw hh hit hl (by simp) fun h' he=>?_);show A8 _ A.in1 (ret Df) _ _ _;have hm:Mt it s {s with heap:=h' }:=⟨fun b o hb e=>he b o hb e,rfl,rfl⟩;refine LY hit ?_;clear hit;intro oi hoi _ hdi;exact Ae (hR _ ⟨fun b o hb e=>he b o (fun q=>hb (.inr q)) e,rfl,rfl⟩ (PI.keep _ _ _ _ hI (fun o e=>he _ _ hSi e) (hm.im hoi (by unfold L3;rw[hdi]))))
 | succ k ih=>
  intro i s hk hi hit hl hI hR;have hlt:i<vs.length:=by exact o53 hk hi
  refine CQ Es ?_;rw[CC D5 _];show A8 _ A.in1 (Gm (.ref it) >>= _) _ _ s;refine A5 (Fg hit hl (x:=vs[i]) (by simp[hlt]) fun h₁ hit₁ hs₁=>?_);refine LY (id hit) fun oi hoi _ hdi=>?_;have im1:Im s.heap h₁:=Im.same hoi (by unfold L3;rw[hdi]) hs₁;have hI1:I S i h₁:=PI.keep _ _ _ _ hI (fun o e=>hs₁.extBut _ _ hSi e) im1;have hl1:h₁.IsList l vs.toArray:=hl.extBut hs₁.extBut hil;show A8 _ A.in1 (Di [vs[i]] (Il S vs[i]) >>= _) _ _ _;refine A5 (B7 ?_);refine Al (PI.add A.in1 S i {s with heap:=h₁} _ vs[i] (by show A.units+1+1<cLine;exact aq124 hu) (A7 hlt) hI1) (fun _ s' hs'=>?_) fun _ _ e=>e;refine xA hs' ?_;clear hs';intro M hI';refine Ae ⟨EN D5 _,ih (i+1) s' (by exact o52 hk hlt) hlt (hit₁.at fun o e=>M.keep _ _ (fun q=>hSi q.symm) e) (hl1.at fun o e=>M.keep _ _ (fun q=>hSl q.symm) e) hI' fun s'' Kp' hI''=>hR s'' ⟨fun b o hb e=>Kp'.keep b o hb (M.keep b o (fun q=>hb (.inl q)) (hs₁.extBut b o (fun q=>hb (.inr q)) e)),Kp'.gens.trans M.gens,Kp'.os.trans M.os⟩ hI''⟩
noncomputable abbrev Qq(w:Bo):Bool:=!w.params.followText "set-order"
theorem QK(a:Value)(h:Q₁ (.ref s.heap.objs.size) {s with heap:=s.heap.push {cls:=.type "set",dict:=none,data:=.set #[] 0 (.fresh 0 0 (Qq w))}}):BM (MD w) A (.call (.builtin "set.__new__") ⟨[.type "set",a],[]⟩) (wants Q₁ E) s:=by
 refine JY ?_;show A8 _ A.in1 (do checkBuiltinCall "set.__new__" ⟨[.type "set",a],[]⟩;again (.builtin "set.__new__" ⟨[.type "set",a],[]⟩)) _ _ s;refine A5 (Hf (PySem.F.newCall_set_1 a) (Ae ⟨EN Hk _,CQ PySem.F.entry_set_new ?_⟩));rw[CC Hk _];unfold CT.«set.__new__» J2;have hsub:=sub_set_self;obtain⟨hp,g,d,tk,os⟩:=s;dsimp only
 wp_walk
 refine E6 (Ae ?_);dsimp only;simp only[newObj];refine A5 (wpAny_alloc (Ae ?_));exact Ae h
namespace U11
noncomputable def pP(w:Bo)(A:Aq)(E:Value→A4→Prop)(s:A4)(l:Addr)(vs:List Value)(n:Nat)(I:Addr→Nat→AE→Prop)(Q:Value→A4→Prop):Prop:=∀(PI:YY w vs I)(hu:A.units+12<cLine)(hh:A.handled=none)(hl:IsL s.heap l vs.toArray n)(h0:∀S h,h.get? S=some {cls:=.type "set",dict:=none,data:=.set #[] 0 (.fresh 0 0 (Qq w))}→Im s.heap h→I S 0 h)(h:∀s' a,Pu s s'→I a vs.length s'.heap→s.heap.get? a=none→Q (.ref a) s'),A8 (MD w) A (call (.type "set") [.ref l]) Q E s
noncomputable def fF:=unz fun w=>unz fun A=>unz fun E=>unz fun s=>unz fun l=>unz fun vs=>unz fun n=>unz fun I=>pP w A E s l vs n I
noncomputable def kK:=epz (c.w,{},default,{},default) fF
noncomputable def w_:=kK.1
noncomputable def A_:=kK.2.1
noncomputable def E_:=kK.2.2.1
noncomputable def s_:=kK.2.2.2.1
noncomputable def l_:=kK.2.2.2.2.1
noncomputable def vs_:=kK.2.2.2.2.2.1
noncomputable def n_:=kK.2.2.2.2.2.2.1
noncomputable def I_:=kK.2.2.2.2.2.2.2.1
theorem tT:pP w_ A_ E_ s_ l_ vs_ n_ I_ kK.2.2.2.2.2.2.2.2:=by
 intro PI hu hh hl h0 h;refine xEE Ca.mro fun c tl hmro=>?_;have hmade:=Ca.made;have hsub:=Ca.sub;refine Fh (JY ?_);show A8 _ _ (callAny (.type "set") _) _ _ _;refine Ae ⟨Ii _ (by decide +kernel),CQ PySem.F.entry_type_call ?_⟩;rw[Around.under_plain (weight_type_call_type "set" [.ref l_] []) rfl];have h1:=Ca.notType;have h2:=Ca.canCreate;have hct:=PySem.F.typeCall_set_1 (.ref l_)
 repeat (any_goals (first | assumption | wp_step))
 refine Ir (QK (.ref l_) (E:=E_) (Q₁:=fun obj s₁=>∃led:Bool,led=Qq w_∧obj=.ref s_.heap.objs.size∧s₁={s_ with heap:=s_.heap.push {cls:=.type "set",dict:=none,data:=.set #[] 0 (.fresh 0 0 led)}}) (M1 _ rfl rfl rfl)) fun r s₁ hr=>?_
 induction r with
 | error e=>exact hr
 | ok fl=>
  induction fl with
  | ret obj=>
   refine LY hr ?_;clear hr;rintro led hled rfl rfl;have hS:(s_.heap.push {cls:=.type "set",dict:=none,data:=.set #[] 0 (.fresh 0 0 led)}).get? s_.heap.objs.size=some {cls:=.type "set",dict:=none,data:=.set #[] 0 (.fresh 0 0 led)}:=AB _ rfl;have hT:Fn {s_ with heap:=s_.heap.push {cls:=.type "set",dict:=none,data:=.set #[] 0 (.fresh 0 0 led)}} (.ref s_.heap.objs.size) "set":=(yEA _ hS rfl);have hli:=Ca.init.lookup;have hbi:=Ca.init.bind (.ref s_.heap.objs.size)
   repeat (any_goals (first | assumption | wp_step))
   refine Ir (codeAny_call_builtin (R:=wants (fun r s₂=>r=.none∧I_ s_.heap.objs.size vs_.length s₂.heap∧Pu s_ s₂) E_) Ca.init.plain PySem.F.entry_set_init (check_set_init_1 hT ?_)) fun r₂ s₂ hr₂=>?_
   ·have hol':(s_.heap.push {cls:=.type "set",dict:=none,data:=.set #[] 0 (.fresh 0 0 led)}).get? l_=some {cls:=.type "list",dict:=none,data:=.seq vs_.toArray n_,slots:=#[]}:=Ak _ hl;have hsls:=PySem.F.sub_list_set;have hslf:=PySem.F.sub_list_frozenset;have hne:(CK "list" == CK "dict")=false:=by decide
    have hl1:(s_.heap.push {cls:=.type "set",dict:=none,data:=.set #[] 0 (.fresh 0 0 led)}).IsList l_ vs_.toArray:=(QB _ hol' rfl n_ rfl);unfold CT.«set.__init__» noKeywords J1;generalize hPI:Dr=PI
    wp_walk
    subst hPI;refine DU hl1 ?_;refine A5 (wpAny_runValue ?_);have hlS:l_<s_.heap.objs.size:=AM hl;have hh3:A_.in1.in1.handled=none:=by simp[hh]
    have hneI:l_≠(s_.heap.push {cls:=.type "set",dict:=none,data:=.set #[] 0 (.fresh 0 0 led)}).objs.size:=by
     rw[Bu];exact Az (AA hlS)
    have hSI:s_.heap.objs.size≠(s_.heap.push {cls:=.type "set",dict:=none,data:=.set #[] 0 (.fresh 0 0 led)}).objs.size:=by
     rw[Bu];exact Az (AS _)
    have kp:Im s_.heap ((s_.heap.push {cls:=.type "set",dict:=none,data:=.set #[] 0 (.fresh 0 0 led)}).push {cls:=.type "list_iterator",data:=.fields #[.ref l_,.int 0 0]}):=fun b o _ e=>Ak _ (Ak _ e);refine UR (vs:=vs_) (l:=l_) PI (by show A_.units+1+1+3<cLine;exact aq117 hu) hh3 hSI (Cs hlS) hneI vs_.length 0 {s_ with heap:=((s_.heap.push {cls:=.type "set",dict:=none,data:=.set #[] 0 (.fresh 0 0 led)}).push {cls:=.type "list_iterator",data:=.fields #[.ref l_,.int 0 0]})} (by exact aq52) (Bi _) (M1 _ (AB _ rfl) rfl rfl) (hl1.push _) (h0 _ _ (by rw[←hled];exact Ak _ hS) kp) fun s' K hS'=>?_;show A8 _ _ _ _ _ _;refine Ae ?_;show A8 _ _ (ret Df) _ _ _;refine Ae (yAA rfl hS' ⟨fun b o e=>K.keep b o ?_ (Ak _ (Ak _ e)),K.gens,K.os⟩);have:=AM e;rintro (q | q)
    ·exact Az this q
    ·rw[Bu]at q;exact Az (AA this) q
   ·cases r₂ with
    | error e=>exact hr₂
    | ok fl₂=>
     cases fl₂ with
     | ret r=>
      refine xAA hr₂ ?_;clear hr₂;rintro rfl hS' hp
      repeat (any_goals (first | assumption | wp_step))
      exact h _ _ hp hS' (KM _)
     | _=>exact hr₂.elim
  | _=>exact hr.elim
end U11
theorem Pf{w A E s l vs n I Q}:U11.pP w A E s l vs n I Q:=@KB _ _ U11.fF U11.kK rfl U11.tT (w,A,E,s,l,vs,n,I,Q)
theorem PS.fresh(ho:h.get? S=some {cls:=.type "set",dict:=none,data:=.set #[] 0 (.fresh 0 0 (Qq w))}):PS sk h S []:=by
 refine (QC _ (#[]) 0 _ ho (yAA rfl rfl rfl) rfl ⟨.inl rfl,?_,rfl,rfl,?_,?_⟩ KJ.nil BW (by show 0*5<7*3;omega) (fun e=>by show Qq w=true;rw[Qq,e];rfl))
 ·intro i j x y _ hx;simp[Ic]at hx
 ·intro i j hx;simp[Ic]at hx
 ·intro i x hx;simp at hx
theorem Pd{keys:List K}(hu:A.units+12<cLine)(hh:A.handled=none)(hl:IsL s.heap l vs.toArray n)(hv:KJ (WG sk s.heap) vs keys)(hz:keys.length≤15)(h:∀s' a ks,Pu s s'→PS sk s'.heap a ks→(∀x,x∈ks↔x∈keys)→s.heap.get? a=none→Q (.ref a) s'):A8 (MD w) A (call (.type "set") [.ref l]) Q E s:=by
 refine Pf (I:=fun S i h=>KJ (WG sk h) vs keys∧∃ks,PS sk h S ks∧ks.length≤i∧∀x,x∈ks↔x∈keys.take i) {keep:=fun S i h h' ⟨hk,ks,a,b⟩ e im=>(YN (NA hk im) ks (a.keep e im) b),mu:=fun S i h ⟨_,ks,a,_⟩=>R3 a,add:=fun A S i s E v hu hvi ⟨hk,ks,a,b,e⟩=>?_} hu hh hl (fun S h ho im=>(XI (NA hv im) [] (PS.fresh ho) (At _) (fun x=>by simp))) fun s' a p ⟨_,ks,hS,_,hm⟩ hn=>h s' a ks p hS (fun x=>by rw[hm,hv.1,Br]) hn;refine T4 (hk.get' hvi) ?_;rintro k hki bb rfl hkb;have hlt:i<keys.length:=(Af.mp hki).1;refine W0 hu a hkb (by omega) fun s' ks' r M hS' hmem hlen'=>?_;refine xEA (R3 a) fun oS hoS hmS=>?_;refine⟨M,NA hk (M.im hoS hmS),ks',hS',by omega,fun x=>?_⟩;have hke:keys[i]=k:=(Af.mp hki).2;rw[hmem,e,CH hlt,hke];simp only[Am,Ab];exact Or.comm
end
end
section
namespace SI
theorem slot_next:Slot "set_iterator" "__next__" "set_iterator.__next__":=
 .of (owner:="set_iterator") (n:="__next__") (by rw[JW,IG];kernel_rfl) (by decide +kernel) (by decide +kernel) (by decide +kernel)
  (by first | exact .inl (by decide +kernel) | exact .inr (by decide +kernel)) (by rw[HE];kernel_rfl)
theorem slot_iter:Slot "set_iterator" "__iter__" "set_iterator.__iter__":=
 .of (owner:="set_iterator") (n:="__iter__") (by rw[JW,IG];kernel_rfl) (by decide +kernel) (by decide +kernel) (by decide +kernel)
  (by first | exact .inl (by decide +kernel) | exact .inr (by decide +kernel)) (by rw[HE];kernel_rfl)
theorem owner:Manifest.owners.lookup (String.ofList ['r','o','t','a','r','e','t','i','_','t','e','s'].reverse)=some Manifest.sig_set_iterator:=by kernel_rfl
theorem entry_next:IT table "set_iterator.__next__" = some CT.«set_iterator.__next__»:=JF (by kernel_rfl)
theorem entry_iter:IT table "set_iterator.__iter__" = some CT.«dict_keyiterator.__iter__»:=
 entryFor_alias (id':="dict_keyiterator.__iter__") (by rw[EI];kernel_rfl) rfl (by decide +kernel) (by rw[EI];kernel_rfl)
theorem entry_set_iter:IT table "set.__iter__" = some CT.«frozenset.__iter__»:=
 entryFor_alias (id':="frozenset.__iter__") (by rw[EI];kernel_rfl) rfl (by decide +kernel) (by rw[EI];kernel_rfl)
theorem args_next(a:Value):argsOk "set_iterator.__next__" ⟨[a],[]⟩:=by
 unfold argsOk;rw[signature?_of (id:="set_iterator.__next__") (n:=['_','_','t','x','e','n','_','_']) (o:=['r','o','t','a','r','e','t','i','_','t','e','s']) (by kernel_rfl) owner];kernel_rfl
theorem args_iter(a:Value):argsOk "set_iterator.__iter__" ⟨[a],[]⟩:=by
 unfold argsOk;rw[signature?_of (id:="set_iterator.__iter__") (n:=['_','_','r','e','t','i','_','_']) (o:=['r','o','t','a','r','e','t','i','_','t','e','s']) (by kernel_rfl) owner];kernel_rfl
end SI
end
section
structure OI(w:Bo)(h:AE)(S:Addr)(o:Obj)(es:Array (Int×Value))(ep:Nat)(t:SetTable):Prop where
 at':h.get? S=some o
 exact':o.ExactSet
 data:o.data=.set es ep t
 inc:Tab.Inc t.place.toList
 size:t.place.size=es.size
 dum:t.dummies=#[]
 le:es.size≤t.mask
 led:w.params.followText "set-order" = false→t.led=true
section
variable{w:Bo}{A:Aq}{E:Value→A4→Prop}{s:A4}{S it:Addr}{o:Obj}{es:Array (Int×Value)}{ep:Nat}{t:SetTable}
theorem OI.fits(R:OI w s.heap S o es ep t):t.fits es.size=true:=by
 unfold Iu EX;simp[R.size,R.dum];exact R.le
theorem OI.keep{h h':AE}(R:OI w h S o es ep t)(k:∀o,h.get? S=some o→h'.get? S=some o):OI w h' S o es ep t:=⟨k _ R.at',R.exact',R.data,R.inc,R.size,R.dum,R.le,R.led⟩
theorem OI.typeIs(R:OI w s.heap S o es ep t):s.TypeIs (.ref S) "set":=(yEA o R.at' R.exact'.1)
noncomputable def LD(w:Bo)(S:Addr)(es:Array (Int×Value))(ep:Nat):Array (Int×Value):=if w.params.followText "set-order" = true then I9 (w.params.setOrder S ep) es else es
theorem W6{α:Type}(nx:Nat→Nat):∀(fuel k:Nat) (left:List α) (out:Array α),left.length≤fuel→(pickOrder.go nx fuel k left out).toList.Perm (out.toList++left):=by
 intro fuel
 induction fuel with
 | zero=>
  intro k left out h;have:left=[]:=AX.mp (by lia);subst this;unfold pickOrder.go;simp
 | succ fuel ih=>
  intro k left out h;unfold pickOrder.go
  cases e:left[nx k % left.length]? with
  | none=>
   have:left=[]:=by
    by_cases hl:left.length=0
    ·exact AX.mp hl
    ·have:=ER (nx k) (show 0<left.length by exact o38 hl);rw[A7 this]at e;exact nomatch e
   subst this;simp
  | some x=>
   refine xE (Af.mp e) fun hi ex=>?_;dsimp only;refine (ih _ _ _ (by rw[HV,if_pos hi];exact aq54 hi h)).trans ?_;rw[Array.toList_push,List.append_assoc];refine List.Perm.append_left _ ?_;rw[←ex,Gb]
   have e2:left=left.take (nx k % left.length)++left[nx k % left.length]::left.drop (nx k % left.length+1):=by
    conv=>lhs;rw[←D9 (nx k % left.length) left,Do hi]
   rw[List.singleton_append]
   conv=>rhs;rw[e2]
   exact DP.symm
theorem Tp{α:Type}(nx:Nat→Nat)(xs:Array α):(I9 nx xs).toList.Perm xs.toList:=by
 unfold I9;simpa using W6 nx xs.size 0 xs.toList #[] (by simp)
theorem MR(w:Bo)(S:Addr)(es:Array (Int×Value))(ep:Nat):(LD w S es ep).toList.Perm es.toList:=by
 unfold LD;split
 ·exact Tp _ _
 ·exact Gc _
noncomputable def ItA(w:Bo)(h:AE)(it S:Addr)(es:Array (Int×Value))(ep:Nat)(t:SetTable)(i:Nat):Prop:=
 ∃slot:Nat,h.get? it=some {cls:=.type "set_iterator",data:=.fields #[.int slot 0,.int i 0,.ref S,.int es.size 0,.int ep 0]}∧(w.params.followText "set-order" = false→∀(k x:Nat),t.place[k]?=some x→(x<slot↔k<i))
noncomputable def ItB(h:AE)(it S T:Addr)(n ep i:Nat):Prop:=h.get? it=some {cls:=.type "set_iterator",data:=.fields #[.ref T,.int i 0,.ref S,.int n 0,.int ep 0]}
namespace U12
noncomputable def pP(w:Bo)(A:Aq)(E:Value→A4→Prop)(s:A4)(S:Addr)(o:Obj)(es:Array (Int×Value))(ep:Nat)(t:SetTable)(slot i:Nat)(Q:Option (Value×Nat)→A4→Prop):Prop:=∀(R:OI w s.heap S o es ep t)(hd:w.params.followText "set-order" = true∨(!t.plain && decide (es.size > 1))=false)(hs:w.params.followText "set-order" = false→∀(k x:Nat),t.place[k]?=some x→(x<slot↔k<i))(hsome:∀x slot',(LD w S es ep)[i]?=some x→(w.params.followText "set-order" = false→∀(k x:Nat),t.place[k]?=some x→(x<slot'↔k<i+1))→Q (some (x.2,slot')) s)(hnone:(LD w S es ep)[i]?=none→Q none s),A8 (MD w) A (setNext S slot i ep) Q E s
noncomputable def fF:=unz fun w=>unz fun A=>unz fun E=>unz fun s=>unz fun S=>unz fun o=>unz fun es=>unz fun ep=>unz fun t=>unz fun slot=>unz fun i=>pP w A E s S o es ep t slot i
noncomputable def kK:=epz (c.w,{},default,{},default) fF
noncomputable def w_:=kK.1
noncomputable def A_:=kK.2.1
noncomputable def E_:=kK.2.2.1
noncomputable def s_:=kK.2.2.2.1
noncomputable def S_:=kK.2.2.2.2.1
noncomputable def es_:=kK.2.2.2.2.2.2.1
noncomputable def ep_:=kK.2.2.2.2.2.2.2.1
noncomputable def t_:=kK.2.2.2.2.2.2.2.2.1
noncomputable def slot_:=kK.2.2.2.2.2.2.2.2.2.1
noncomputable def i_:=kK.2.2.2.2.2.2.2.2.2.2.1
theorem tT:pP w_ A_ E_ s_ S_ kK.2.2.2.2.2.1 es_ ep_ t_ slot_ i_ kK.2.2.2.2.2.2.2.2.2.2.2:=by
 intro R hd hs hsome hnone;unfold setNext;refine A5 (BF R.at' R.data R.fits ?_);dsimp only;refine A5 ?_;unfold Jd;refine A5 (E6 (Ae ?_));show A8 _ _ (if w_.params.followText "set-order" = true then _ else _) _ _ _
 by_cases hb:w_.params.followText "set-order" = true
 ·rw[if_pos hb];simp only[bne_self_eq_false,Ax,if_false];have horder:LD w_ S_ es_ ep_=I9 (w_.params.setOrder S_ ep_) es_:=by unfold LD;rw[if_pos hb]
  have walk:A8 (MD w_) A_ (setWalk S_) (fun r s'=>r=LD w_ S_ es_ ep_∧s'=s_) E_ s_:=by
   unfold setWalk;refine A5 (BF R.at' R.data R.fits ?_);dsimp only;refine A5 ?_;unfold Jd;refine A5 (E6 (Ae ?_));show A8 _ _ (if w_.params.followText "set-order" = true then _ else _) _ _ _;rw[if_pos hb];refine A5 (E6 (Ae ⟨?_,rfl⟩));rw[horder];rfl
  refine A5 (Al walk (fun r s' ⟨hr,hs'⟩=>?_) fun _ _ e=>e);subst hr;subst hs';refine Ae ?_
  cases e:(LD w_ S_ es_ ep_)[i_]? with
  | none=>exact hnone e
  | some x=>exact hsome x slot_ e (fun q=>by rw[hb]at q;exact nomatch q)
 ·rw[if_neg hb];simp only[DR]at hb;have hdr:(!t_.plain && decide (es_.size > 1))=false:=hd.elim (fun q=>by rw[hb]at q;exact nomatch q) id;show A8 _ _ (if (!t_.plain && decide (es_.size > 1))=true then _ else _) _ _ _;rw[hdr];simp only[Ax,if_false];show A8 _ _ ((if (!t_.led && !es_.isEmpty)=true then Hg "set:maker-not-led" else pure ()) >>= _) _ _ _;rw[R.led hb];simp only[CO,Bool.false_and,Ax,if_false];refine A5 (Ae ?_);have horder:LD w_ S_ es_ ep_=es_:=by unfold LD;rw[if_neg (by rw[hb];simp)]
  refine xAA (Tab.below_spec R.inc slot_) fun b1 b2 b3=>?_;have sp:=hs hb
  have hbi:D8 t_.place slot_=min i_ es_.size:=by
   have h1:D8 t_.place slot_≤i_:=by
    rcases B8 i_ (D8 t_.place slot_)with h | h
    ·have hx:t_.place[i_]?=some t_.place[i_]:=B0 (by exact o72 h b1);have:=(sp _ _ hx).mp (b2 _ _ h hx);exact absurd ‹_› (B3 _)
    ·exact h
   rcases B8 (D8 t_.place slot_) (min i_ es_.size)with h | h
   ·have hlt:D8 t_.place slot_<t_.place.size:=by rw[R.size];exact aq73 h
    have hx:t_.place[D8 t_.place slot_]?=some t_.place[D8 t_.place slot_]:=B0 hlt;have h2:=b3 _ _ (At _) hx;have h3:=(sp _ _ hx).mpr (by exact aq46 h hlt h1);exact aq233 hlt h3 h2
   ·rw[R.size]at b1;exact aq97 b1 h1 h
  refine Ae ?_;simp only[hbi];rcases B8 i_ es_.size with hi | hi
  ·have hx:es_[i_]?=some es_[i_]:=B0 hi;have hp:t_.place[i_]?=some (t_.place[i_]'(by rw[R.size];exact hi)):=B0 _;rw[show min i_ es_.size=i_ by exact aq134 hi hbi,hx,hp];refine hsome es_[i_] _ (by rw[horder];exact hx) fun _ k x hk=>?_;rcases Bv k i_ with q | q | q
   ·have:=R.inc _ _ _ _ q (by rw[AC];exact hk) (by rw[AC];exact hp);exact⟨fun _=>by exact AA ‹_›,fun _=>by exact AA ‹_›⟩
   ·subst q;rw[hk]at hp;obtain rfl:=Ag hp;exact⟨fun _=>by exact AS _,fun _=>by exact AS _⟩
   ·have:=R.inc _ _ _ _ q (by rw[AC];exact hp) (by rw[AC];exact hk);exact⟨fun _=>by grind,fun _=>by grind⟩
  ·have hx:es_[min i_ es_.size]?=none:=DC (by exact aq84 hi);rw[hx];exact hnone (by rw[horder];exact DC hi)
end U12
theorem Tk{w A E s S o es ep t slot i Q}:U12.pP w A E s S o es ep t slot i Q:=@KB _ _ U12.fF U12.kK rfl U12.tT (w,A,E,s,S,o,es,ep,t,slot,i,Q)
theorem ItA.typeIs{i:Nat}(h:ItA w s.heap it S es ep t i):s.TypeIs (.ref it) "set_iterator":=xEA h fun _ h _=>(yEA _ h rfl)
theorem TP{α:Type}{Q:α→A4→Prop}{E':Value→A4→Prop}{h:AE}(hh:A.handled=none)(hE:∀h' (x:Addr),Ext h h'→Fn {s with heap:=h' } (.ref x) "StopIteration"→E' (.ref x) {s with heap:=h' }):A8 (MD w) A (newExc (.type "StopIteration") [] >>= fun e=>(raiseNew e:Sem α)) Q E' {s with heap:=h}:=by
 refine A5 ?_;simp only[newExc,FP];refine A5 (Bw ?_ (by size_fits));refine A5 (m:=firstArgMember _ _) (Hf (a:=Df) (by first | rfl | (simp only[firstArgMember];rfl)) ?_);refine Bw ?_ (by size_fits);simp only[raiseNew];refine A5 (wpAny_handled ?_);rw[hh];refine A5 (Ae (wpAny_throw ?_));exact hE _ _ (fun b o e=>Ak _ (Ak _ e)) (yEA _ (AB _ rfl) rfl)
namespace U15
noncomputable def pP(w:Bo)(A:Aq)(E:Value→A4→Prop)(s:A4)(S it:Addr)(o:Obj)(es:Array (Int×Value))(ep:Nat)(t:SetTable)(i:Nat)(Q:Option Value→A4→Prop):Prop:=∀(hh:A.handled=none)(R:OI w s.heap S o es ep t)(hd:w.params.followText "set-order" = true∨(!t.plain && decide (es.size > 1))=false)(hit:ItA w s.heap it S es ep t i)(hsome:∀x h',(LD w S es ep)[i]?=some x→ItA w h' it S es ep t (i+1)→BZ it s.heap h'→Q (some x.2) {s with heap:=h' })(hnone:(LD w S es ep)[i]?=none→∀h',HW it s.heap h'→Q none {s with heap:=h' }),A8 (MD w) A (Gm (.ref it)) Q E s
noncomputable def fF:=unz fun w=>unz fun A=>unz fun E=>unz fun s=>unz fun S=>unz fun it=>unz fun o=>unz fun es=>unz fun ep=>unz fun t=>unz fun i=>pP w A E s S it o es ep t i
noncomputable def kK:=epz (c.w,{},default,{},default) fF
noncomputable def A_:=kK.2.1
noncomputable def s_:=kK.2.2.2.1
noncomputable def it_:=kK.2.2.2.2.2.1
noncomputable def o_:=kK.2.2.2.2.2.2.1
noncomputable def es_:=kK.2.2.2.2.2.2.2.1
noncomputable def i_:=kK.2.2.2.2.2.2.2.2.2.2.1
theorem tT:pP kK.1 A_ kK.2.2.1 s_ kK.2.2.2.2.1 it_ o_ es_ kK.2.2.2.2.2.2.2.2.1 kK.2.2.2.2.2.2.2.2.2.1 i_ kK.2.2.2.2.2.2.2.2.2.2.2:=by
 intro hh R hd hit hsome hnone;refine xEA (id hit) fun slot ho hs=>?_;unfold Gm
 refine A5 (wpAny_attempt (Cp (name:=Bc "__next__") hit.typeIs SI.slot_next
  (BS SI.slot_next hit.typeIs SI.entry_next ?_ (SI.args_next _))))
 show A8 _ _ (fieldsOf (.ref it_) >>= _) _ _ s_;refine A5 (wpAny_fieldsOf ho rfl ?_);dsimp only;refine A5 (FZ R.at' R.data R.fits ?_);rw[show ((es_.size:Int) != (es_.size:Int))=false by simp];simp only[Ax,if_false,Dd];refine A5 (Tk R hd hs (fun x slot' hx hs'=>?_) (fun hx=>?_))
 ·dsimp only;refine A5 (DT ho rfl (by exact BL _) ?_);have g1:=Bl (FG (·.setIfInBounds 0 (GS slot'))) ho rfl;refine A5 (DT (s:={s_ with heap:=_}) g1 rfl (by simp) ?_);have g2:=Bl (FG (·.setIfInBounds 1 (GS ((i_:Int)+1)))) g1 rfl;refine Ae (yEA x.2 rfl (Ae (hsome x _ hx (yEA slot' ‹_› hs') ((Ba ..).trans (Ba ..)))))
 ·dsimp only;refine A5 (DT ho rfl (by simp) ?_);refine TP (A:=A_.in1) hh fun h' x ex hT=>?_;refine A5 (CZ (T:="StopIteration") (b:=true) hT isSubtype_stop ?_);exact Ae (hnone hx _ fun b o_ hb e=>ex _ _ ((Ba ..).extBut b o_ hb e))
end U15
theorem RE{w A E s S it o es ep t i Q}:U15.pP w A E s S it o es ep t i Q:=@KB _ _ U15.fF U15.kK rfl U15.tT (w,A,E,s,S,it,o,es,ep,t,i,Q)
namespace U13
noncomputable def pP(w:Bo)(A:Aq)(E:Value→A4→Prop)(s:A4)(S it:Addr)(o:Obj)(es:Array (Int×Value))(ep:Nat)(t:SetTable)(T:Addr)(places:List Nat)(i:Nat)(Q:Option Value→A4→Prop):Prop:=∀(hh:A.handled=none)(R:OI w s.heap S o es ep t)(hT:Tpl s.heap T (places.map fun p:Nat=>BD p 0))(hp:∀p∈places,p<es.size)(hit:ItB s.heap it S T es.size ep i)(hsome:∀x p h',places[i]?=some p→es[p]?=some x→ItB h' it S T es.size ep (i+1)→BZ it s.heap h'→Q (some x.2) {s with heap:=h' })(hnone:places[i]?=none→∀h',HW it s.heap h'→Q none {s with heap:=h' }),A8 (MD w) A (Gm (.ref it)) Q E s
noncomputable def fF:=unz fun w=>unz fun A=>unz fun E=>unz fun s=>unz fun S=>unz fun it=>unz fun o=>unz fun es=>unz fun ep=>unz fun t=>unz fun T=>unz fun places=>unz fun i=>pP w A E s S it o es ep t T places i
noncomputable def kK:=epz (c.w,{},default,{},default) fF
noncomputable def A_:=kK.2.1
noncomputable def s_:=kK.2.2.2.1
noncomputable def it_:=kK.2.2.2.2.2.1
noncomputable def o_:=kK.2.2.2.2.2.2.1
noncomputable def es_:=kK.2.2.2.2.2.2.2.1
noncomputable def places_:=kK.2.2.2.2.2.2.2.2.2.2.2.1
noncomputable def i_:=kK.2.2.2.2.2.2.2.2.2.2.2.2.1
theorem tT:pP kK.1 A_ kK.2.2.1 s_ kK.2.2.2.2.1 it_ o_ es_ kK.2.2.2.2.2.2.2.2.1 kK.2.2.2.2.2.2.2.2.2.1 kK.2.2.2.2.2.2.2.2.2.2.1 places_ i_ kK.2.2.2.2.2.2.2.2.2.2.2.2.2:=by
 intro hh R hT hp hit hsome hnone;have ho:=hit;have hty:s_.TypeIs (.ref it_) "set_iterator":=(yEA _ ho rfl);refine xE hT ?_;clear hT;intro nT hoT;unfold Gm
 refine A5 (wpAny_attempt (Cp (name:=Bc "__next__") hty SI.slot_next
  (BS SI.slot_next hty SI.entry_next ?_ (SI.args_next _))))
 show A8 _ _ (fieldsOf (.ref it_) >>= _) _ _ s_;refine A5 (wpAny_fieldsOf ho rfl ?_);dsimp only;refine A5 (FZ R.at' R.data R.fits ?_);rw[show ((es_.size:Int) != (es_.size:Int))=false by simp];simp only[Ax,if_false,Dd];refine A5 (Ex hoT rfl ?_);dsimp only
 cases hpi:places_[i_]? with
 | some p=>
  have:(places_.map fun p:Nat=>BD p 0).toArray[i_]?=some (.int p 0):=by simp[hpi]
  rw[this];dsimp only;have hplt:p<es_.size:=hp p (Av hpi);have hx:es_[p]?=some es_[p]:=B0 hplt;refine A5 ?_;unfold setNextDrawn;refine A5 (BF R.at' R.data R.fits ?_);dsimp only;simp only[Dd,bne_self_eq_false,Ax,if_false,hx];refine Ae ?_;refine A5 (DT ho rfl (by simp) ?_);have g1:=Bl (FG (·.setIfInBounds 1 (GS ((i_:Int)+1)))) ho rfl;refine Ae (yEA (es_[p].2) rfl (Ae (hsome es_[p] p _ hpi hx (by unfold ItB;assumption) (Ba ..))))
 | none=>
  have:(places_.map fun p:Nat=>BD p 0).toArray[i_]?=none:=by simp[hpi]
  rw[this];dsimp only;refine A5 (DT ho rfl (by exact BL _) ?_);have g1:=Bl (FG (·.setIfInBounds 0 (GS 0))) ho rfl;refine A5 (DT (s:={s_ with heap:=_}) g1 rfl (by simp) ?_);refine TP (A:=A_.in1) hh fun h' x ex hT=>?_;refine A5 (CZ (T:="StopIteration") (b:=true) hT isSubtype_stop ?_);exact Ae (hnone hpi _ fun b o_ hb e=>ex _ _ (((Ba ..).trans (Ba ..)).extBut b o_ hb e))
end U13
theorem RD{w A E s S it o es ep t T places i Q}:U13.pP w A E s S it o es ep t T places i Q:=@KB _ _ U13.fF U13.kK rfl U13.tT (w,A,E,s,S,it,o,es,ep,t,T,places,i,Q)
theorem Pb{α:Type}:∀(n:Nat) (xs:List α) (s:A4) (Q:List α→A4→Prop),xs.length=n→(∀ys d,ys.Perm xs→Q ys {s with drawn:=d})→A8 (MD w) A (drawOrder n xs) Q E s
 | 0,xs,s,Q,hn,h=>by
  have:xs=[]:=AX.mp hn;subst this;exact Ae (h [] s.drawn (Gc _))
 | n+1,[],s,Q,hn,h=>by trivial
 | n+1,x::r,s,Q,hn,h=>by
  show A8 _ _ (Sem.choose .order (x::r).length .pure >>= _) _ _ _;intro Γ p hΓ;rw[HG,Sem.wp_choose];refine⟨by simp,?_⟩;rw[show (Sem.pure ((MD w).w.draws .order (s.drawn.get .order) % (x::r).length):Sem Nat)=pure ((MD w).w.draws .order (s.drawn.get .order) % (x::r).length)from rfl,JJ];generalize hi:(MD w).w.draws .order (s.drawn.get .order) % (x::r).length=i;have hlt:i<(x::r).length:=by rw[←hi];exact ER _ (by simp)
  rw[A7 hlt];dsimp only;refine A5 (Pb n ((x::r).eraseIdx i) {s with drawn:=s.drawn.bump Source.order} _ (by rw[HV,if_pos hlt];simp at hn ⊢;omega) fun ys d hys=>Ae (h _ _ ?_)) Γ p hΓ;refine (I8 _ hys).trans ?_;rw[Gb]
  have e2:(x::r)=(x::r).take i++(x::r)[i]::(x::r).drop (i+1):=by
   conv=>lhs;rw[←D9 i (x::r),Do hlt]
  conv=>rhs;rw[e2]
  exact DP.symm
namespace U14
noncomputable def pP(w:Bo)(A:Aq)(E:Value→A4→Prop)(s:A4)(S:Addr)(o:Obj)(es:Array (Int×Value))(ep:Nat)(t:SetTable)(Q:Value→A4→Prop):Prop:=∀(R:OI w s.heap S o es ep t)(hA:(w.params.followText "set-order" = true∨(!t.plain && decide (es.size > 1))=false)→ItA w (s.heap.push {cls:=.type "set_iterator",data:=.fields #[.int 0 0,.int 0 0,.ref S,.int es.size 0,.int ep 0]}) s.heap.objs.size S es ep t 0→
   Q (.ref s.heap.objs.size) {s with heap:=s.heap.push {cls:=.type "set_iterator",data:=.fields #[.int 0 0,.int 0 0,.ref S,.int es.size 0,.int ep 0]}})(hB:∀(places:List Nat) d h',places.Perm (Ap es.size)→Ext s.heap h'→Tpl h' s.heap.objs.size (places.map fun p:Nat=>BD p 0)→ItB h' (s.heap.objs.size+1) S s.heap.objs.size es.size ep 0→h'.objs.size=s.heap.objs.size+2→Q (.ref (s.heap.objs.size+1)) {s with heap:=h',drawn:=d})(hz:es.size≤16000),A8 (MD w) A (Dr (.ref S)) Q E s
noncomputable def fF:=unz fun w=>unz fun A=>unz fun E=>unz fun s=>unz fun S=>unz fun o=>unz fun es=>unz fun ep=>unz fun t=>pP w A E s S o es ep t
noncomputable def kK:=epz (c.w,{},default,{},default) fF
noncomputable def w_:=kK.1
noncomputable def s_:=kK.2.2.2.1
noncomputable def S_:=kK.2.2.2.2.1
noncomputable def o_:=kK.2.2.2.2.2.1
noncomputable def es_:=kK.2.2.2.2.2.2.1
noncomputable def ep_:=kK.2.2.2.2.2.2.2.1
noncomputable def t_:=kK.2.2.2.2.2.2.2.2.1
theorem tT:pP w_ kK.2.1 kK.2.2.1 s_ S_ o_ es_ ep_ t_ kK.2.2.2.2.2.2.2.2.2:=by
 intro R hA hB hz;refine Jl R.typeIs Hj (BS Hj R.typeIs SI.entry_set_iter ?_ (PySem.F.args_set_iter_1 _));show A8 _ _ (Ft S_ >>= _) _ _ s_;unfold Ft;refine A5 (A5 (FZ R.at' R.data R.fits (Ae ?_)));refine A5 ?_;unfold setDrawn;refine A5 (BF R.at' R.data R.fits ?_);dsimp only;refine A5 ?_;unfold Jd;refine A5 (E6 (Ae ?_));refine Ae ?_;show A8 _ _ (if (!w_.params.followText "set-order" && (!t_.plain && decide (es_.size > 1)))=true then _ else _) _ _ _
 by_cases hc:(!w_.params.followText "set-order" && (!t_.plain && decide (es_.size > 1)))=true
 ·rw[if_pos hc];refine A5 (Pb es_.size (Ap es_.size) s_ _ (by simp) fun ys d hys=>?_);have hlen:ys.length=es_.size:=by rw[hys.length_eq];simp
  refine A5 ?_;refine Bw (s:={s_ with drawn:=d}) ?_ (by show (ys.map _).toArray.size≤sizeLine;rw[Ay,AQ,hlen,AT];exact A0 ‹_› (by decide));refine A5 ?_;unfold setEpoch;have at2:(s_.heap.push {cls:=.type "tuple",dict:=none,data:=.seq (ys.map fun (i:Nat)=>GS i).toArray}).get? S_=some o_:=Ak _ R.at';refine A5 (BF (s:={s_ with drawn:=d,heap:=_}) at2 R.data R.fits (Ae ?_));refine A5 (Bw (s:={s_ with drawn:=d,heap:=_}) (Ae (QA _ rfl ("set_iterator") _ (yEA _ (AB _ rfl) rfl) SI.slot_next.lookup ?_)) (by size_fits));have hsz:(s_.heap.push {cls:=.type "tuple",dict:=none,data:=.seq (ys.map fun (i:Nat)=>GS i).toArray}).objs.size=s_.heap.objs.size+1:=Bu ..
  have:=hB ys d ((s_.heap.push {cls:=.type "tuple",dict:=none,data:=.seq (ys.map fun (i:Nat)=>GS i).toArray}).push {cls:=.type "set_iterator",data:=.fields #[.ref s_.heap.objs.size,.int 0 0,.ref S_,.int es_.size 0,.int ep_ 0]}) hys
   (fun b o_ e=>Ak _ (Ak _ e)) ((Tpl.new s_.heap _).ext (Ext.push _ _)) (by unfold ItB;rw[←hsz];exact AB _ rfl) (by rw[Bu,hsz])
  rw[←hsz]at this;exact this
 ·rw[if_neg hc];refine A5 (Ae ?_);refine A5 ?_;unfold setEpoch;refine A5 (BF R.at' R.data R.fits (Ae ?_));refine A5 (Bw (Ae (QA _ rfl ("set_iterator") _ (yEA _ (AB _ rfl) rfl) SI.slot_next.lookup ?_)) (by size_fits));refine hA ?_ (yEA 0 (AB _ rfl) (fun _ k x _=>⟨fun h=>absurd h (C0 _),fun h=>absurd h (C0 _)⟩))
  cases e:w_.params.followText "set-order" with
  | true=>exact .inl rfl
  | false=>rw[e]at hc;exact .inr (by simpa using hc)
end U14
theorem S9{w A E s S o es ep t Q}:U14.pP w A E s S o es ep t Q:=@KB _ _ U14.fF U14.kK rfl U14.tT (w,A,E,s,S,o,es,ep,t,Q)
end
end
section
section
variable{w:Bo}{A:Aq}{E:Value→A4→Prop}{s:A4}{S it:Addr}{o:Obj}{es:Array (Int×Value)}{ep:Nat}{t:SetTable}
theorem NM(ho:s.heap.get? it=some {cls:=.type "set_iterator",data:=.fields fs})(h:Q (.ref it) s):A8 (MD w) A (Dr (.ref it)) Q E s:=by
 have hT:s.TypeIs (.ref it) "set_iterator":=(yEA _ ho rfl);refine Jl hT SI.slot_iter (BS SI.slot_iter hT SI.entry_iter ?_ (SI.args_iter _));show A8 _ _ (ret (.ref it)) _ _ s;exact Ae (QA _ rfl ("set_iterator") _ hT SI.slot_next.lookup h)
theorem PF{M:Model}{Q:Unit→A4→Prop}(ho:s.heap.get? it=some {cls:=.type "set_iterator",data:=.fields fs})(h:Q () s):A8 M A (Hp target (.ref it) v) Q E s:=by
 unfold Hp
 cases target<;>first
  | exact Ae h
  | (induction v<;>first
    | exact Ae h
    | (refine A5 (wpAny_load ho ?_);exact Ae h))
theorem WV(hh:A.handled=none)(hne:S≠it)(hd:w.params.followText "set-order" = true∨(!t.plain && decide (es.size > 1))=false):Walks PG w A it [it,S] [it] es.size (fun i v=>((LD w S es ep).toList.map (·.2))[i]?=some v) (fun i h=>ItA w h it S es ep t i∧OI w h S o es ep t) where
 sub:=fun b hb=>by simp at hb;simp[hb]
 frame:=fun i h h' st hk=>⟨xEA st.1 fun sl a b=>(yEA sl (hk it (by exact Aj) _ a) b),st.2.keep fun o e=>hk S (by exact .tail _ (.head _)) o e⟩
 item:=fun i s Q E hi st hQ=>by
  have hl:(LD w S es ep).toList.length=es.size:=by rw[(MR w S es ep).length_eq];simp
  refine RE hh st.2 hd st.1 (fun x h' hx hit' hs'=>?_) (fun hx=>?_)
  ·exact hQ x.2 h' s.toks (by rw[B4,AC,hx];rfl) ⟨hit',st.2.keep fun o e=>(hs'.2 S hne).trans e⟩ fun b o hb e=>hs'.extBut b o (fun h=>hb (by simp[h])) e
  ·have h1:=Array.getElem?_eq_none_iff.mp hx;have h2:(LD w S es ep).size=es.size:=by rw[←hl,Bb]
   grind
 done:=fun s Q E st hQ=>by
  have hl:(LD w S es ep).toList.length=es.size:=by rw[(MR w S es ep).length_eq];simp
  refine RE hh st.2 hd st.1 (fun x h' hx hit' hs'=>?_) (fun hx h' he=>hQ h' s.toks fun b o hb e=>he b o (fun h=>hb (by simp[h])) e);have h1:=(Bz.mp hx).1;have h2:(LD w S es ep).size=es.size:=by rw[←hl,Bb]
  lia
 self:=fun i s Q E st hQ=>by refine xA st ?_;clear st;rintro⟨sl,a,b⟩ _;exact NM a hQ
theorem WU{T:Addr}{places:List Nat}(hh:A.handled=none)(hne:S≠it)(hT:T≠it)(hp:places.Perm (Ap es.size)):Walks PG w A it [it,S,T] [it] es.size (fun i v=>(places.map fun p=>(es.getD p (0,.none)).2)[i]?=some v) (fun i h=>ItB h it S T es.size ep i∧OI w h S o es ep t∧Tpl h T (places.map fun p:Nat=>BD p 0)) where
 sub:=fun b hb=>by simp at hb;simp[hb]
 frame:=fun i h h' st hk=>(yAA (hk it (by exact Aj) _ st.1) (st.2.1.keep fun o e=>hk S (by exact .tail _ (.head _)) o e) (xE st.2.2 fun n a=>⟨n,hk T (by exact .tail _ (.tail _ (.head _))) _ a⟩))
 item:=fun i s Q E hi st hQ=>by
  refine RD hh st.2.1 st.2.2 (fun p h=>Be.mp (hp.mem_iff.mp h)) st.1 (fun x p h' hpi hx hit' hs'=>?_) (fun hx=>?_)
  ·refine hQ x.2 h' s.toks ?_ (yAA hit' (st.2.1.keep fun o e=>(hs'.2 S hne).trans e) (xE st.2.2 fun n a=>⟨n,(hs'.2 T hT).trans a⟩)) fun b o hb e=>hs'.extBut b o (fun h=>hb (by simp[h])) e;rw[B4,hpi];refine xE (Bz.mp hx) ?_;rintro hlt rfl;simp[Du,hlt]
  ·have:=Hb.mp hx;rw[hp.length_eq,CI]at this;grind
 done:=fun s Q E st hQ=>by
  refine RD hh st.2.1 st.2.2 (fun p h=>Be.mp (hp.mem_iff.mp h)) st.1 (fun x p h' hpi hx hit' hs'=>?_) (fun hx h' he=>hQ h' s.toks fun b o hb e=>he b o (fun h=>hb (by simp[h])) e);have:=(Af.mp hpi).1;rw[hp.length_eq,CI]at this;exact absurd ‹_› (B3 _)
 self:=fun i s Q E st hQ=>NM st.1 hQ
theorem Tn:(Ap es.size).map (fun p=>(es.getD p (0,.none)).2)=es.toList.map (·.2):=by
 refine BC fun i=>?_;rw[B4,B4,AC (xs:=es)]
 by_cases h:i<es.size
 ·rw[CS h,B0 h];simp[Du,h]
 ·rw[AI (by simpa using h),DC (by exact o25 h)];rfl
theorem Q3{Q:Value→A4→Prop}(hh:A.handled=none)(R:OI w s.heap S o es ep t)(hz:es.size≤16000)(h:∀(vs:List Value) s' it fp St,vs.Perm (es.toList.map (·.2))→Pu s s'→s.heap.get? it=none→it<s'.heap.objs.size→s'.TypeIs (.ref it) "set_iterator"→(∀A:Aq,A.handled=none→Walks PG w A it fp [it] es.size (fun i v=>vs[i]?=some v) St)→St 0 s'.heap→
   (∀b∈fp,b=it∨b=S∨∃o,s'.heap.get? b=some o∧L3 o=false∧b≠it∧Li o=true)→S≠it→(∀i h,St i h→∃fs,h.get? it=some {cls:=.type "set_iterator",data:=.fields fs})→Q (.ref it) s'):A8 (MD w) A (Dr (.ref S)) Q E s:=by
 have hlt:S<s.heap.objs.size:=AM R.at'
 have fr:∀a,s.heap.objs.size≤a→s.heap.get? a=none:=fun a ha=>by
  exact Ky fun o e=>by exact absurd (AM e) (Ek.mpr ha)
 refine S9 R (fun hd hit=>?_) (fun places d h' hp hext hT hit hsz=>?_) hz
 ·refine h _ _ _ _ _ ((MR w S es ep).map _) (Pu.push _ _) (fr _ (At _)) (by show _<(s.heap.push _).objs.size;rw[Bu];exact AS _) (yEA _ (AB _ rfl) rfl) (fun A hh=>WV (o:=o) (t:=t) hh (Az hlt) hd) ⟨hit,R.keep fun o e=>Ak _ e⟩ (fun b hb=>?_) (Az hlt) (fun i h st=>by refine xA st ?_;clear st;rintro⟨sl,a,_⟩ _;exact⟨_,a⟩);rcases As.mp hb with rfl | hb
  ·exact .inl rfl
  ·rw[Ab]at hb;exact .inr (.inl hb)
 ·refine h (places.map fun p=>(es.getD p (0,.none)).2) _ _ _ _ (by rw[←Tn];exact hp.map _) ⟨hext,rfl,rfl⟩ (fr _ (Cj _)) (by show _<h'.objs.size;rw[hsz];exact AS _) (yEA _ hit rfl) (fun A hh=>WU (o:=o) (t:=t) hh (Az (AA hlt)) (Az (AS _)) hp) (yAA hit (R.keep fun o e=>hext _ _ e) hT) (fun b hb=>?_) (Az (AA hlt)) (fun i h st=>⟨_,st.1⟩);rcases As.mp hb with rfl | hb
  ·exact .inl rfl
  ·rcases As.mp hb with rfl | hb
   ·exact .inr (.inl rfl)
   ·rw[Ab]at hb;subst hb;refine xE hT ?_;clear hT;intro n hT;exact .inr (.inr (NT _ hT rfl (Az (AS _)) rfl))
end
section
variable{A:Aq}{s0 s s' sb:A4}{H:AE}{Z:List (Addr×Obj)}{L:Addr}{m:A9→Option Value}{E:Value→A4→Prop}{env:Env}{S it:Addr}{o:Obj}{es:Array (Int×Value)}{ep:Nat}{t:SetTable}
theorem VY(hh:A.handled=none)(R:OI c.w s.heap S o es ep t)(hz:es.size≤16000)(p:Pu sb s)(h:∀(vs:List Value) s' it,vs.Perm (es.toList.map (·.2))→Pu s s'→NS A target it es.size (fun i v _=>vs[i]?=some v) [(S,o)] sb s'→Q (.ref it) s'):A8 (MD c.w) A (Dr (.ref S)) Q E s:=by
 refine Q3 hh R hz fun vs s' it fp St hp p' hn hlt hty W st hfp hne hfs=>?_;refine h vs s' it hp p' ⟨fp,[it],_,St,(fp.filterMap fun b=>(s'.heap.get? b).bind fun o=>if L3 o=false∧Li o=true then some (b,o)else none),EW (target:=target) (W A hh) (fun i v s Q E st hQ=>by refine xE (hfs _ _ st) fun fs a=>?_;exact PF a hQ),fun i h st b hb=>?_,fun b hb=>?_,fun q hq=>?_,fun q hq=>?_,fun s Q E st hQ=>(W A hh).self 0 s Q E st hQ,st,fun b hb=>?_⟩
 ·rw[Ab]at hb;subst hb;refine xE (hfs _ _ st) fun fs a=>?_;exact (yEA _ a rfl)
 ·rcases hfp b hb with rfl | rfl | ⟨o',e,hm,_,hnc⟩
  ·exact .inl Aj
  ·exact .inr (yEA (b,o) (AD _ Aj) rfl)
  ·exact .inr (yEA (b,o') (AL _ (Dv.mpr (yEA b hb (by rw[e];simp[hm,hnc])))) rfl)
 ·rw[Ab];rcases Am.mp hq with hq | hq
  ·rw[Ab]at hq;subst hq;exact hne
  ·refine xEA (Dv.mp hq) fun b hb e=>?_
   cases e':s'.heap.get? b with
   | none=>rw[e']at e;exact nomatch e
   | some o'=>
    rw[e']at e;simp only[Cb]at e;split at e
    ·rename_i hm;obtain rfl:=Ag e;intro hb';refine xE (hfs _ _ st) fun fs a=>?_;have hb'':b=it:=hb';rw[hb'',a]at e';obtain rfl:=Ag e';exact absurd hm.1 (show ¬(true=false) by decide)
    ·exact nomatch e
 ·refine xEA (Dv.mp hq) fun b hb e=>?_
  cases e':s'.heap.get? b with
  | none=>rw[e']at e;exact nomatch e
  | some o'=>
   rw[e']at e;simp only[Cb]at e;split at e
   ·rename_i hm;obtain rfl:=Ag e;exact (yAA e' hm.1 hm.2)
   ·exact nomatch e
 ·rw[Ab]at hb;subst hb;refine⟨?_,hlt⟩;exact Ky fun o e=>by rw[p.ext _ _ e]at hn;exact nomatch hn
end
end
section
section
variable{w:Bo}{A:Aq}{E:Value→A4→Prop}{s:A4}{S it:Addr}{o:Obj}{es:Array (Int×Value)}{ep:Nat}{t:SetTable}
namespace U17
noncomputable def pP(w:Bo)(A:Aq)(E:Value→A4→Prop)(s:A4)(r:Addr)(Q:Bool→A4→Prop):Prop:=∀(hT:s.TypeIs (.ref r) "set")(h:Q false s),A8 (MD w) A (FB (.ref r)) Q E s
noncomputable def fF:=unz fun w=>unz fun A=>unz fun E=>unz fun s=>unz fun r=>pP w A E s r
noncomputable def kK:=epz (c.w,{},default,{},default) fF
theorem tT:pP kK.1 kK.2.1 kK.2.2.1 kK.2.2.2.1 kK.2.2.2.2.1 kK.2.2.2.2.2:=by
 intro hT h;unfold FB;refine A5 (CP hT PySem.F.slot_set_len.lookup ?_);generalize hid:("set.__len__" : String)=id0
 wp_delta
 rw[show splitId id0=some ("set","__len__")from by subst hid;decide +kernel];subst hid;refine A5 (CZ (T:="set") (b:=true) hT (by rw[HE];kernel_rfl) ?_);refine Hn (fun hab=>absurd hab (by decide)) (fun _=>?_);refine Hn (fun _=>?_) (fun hab=>absurd (by decide +kernel) hab);refine A5 (DS hT ?_);exact Ae h
end U17
theorem Va{w A E s r Q}:U17.pP w A E s r Q:=@KB _ _ U17.fF U17.kK rfl U17.tT (w,A,E,s,r,Q)
namespace U16
noncomputable def pP(w:Bo)(A:Aq)(E:Value→A4→Prop)(s:A4)(S:Addr)(o:Obj)(es:Array (Int×Value))(ep:Nat)(t:SetTable)(Q:List Value→A4→Prop):Prop:=∀(hh:A.handled=none)(R:OI w s.heap S o es ep t)(hz:es.size≤16000)(h:∀vs s',vs.Perm (es.toList.map (·.2))→Pu s s'→Q vs s'),A8 (MD w) A (collect (.ref S)) Q E s
noncomputable def fF:=unz fun w=>unz fun A=>unz fun E=>unz fun s=>unz fun S=>unz fun o=>unz fun es=>unz fun ep=>unz fun t=>pP w A E s S o es ep t
noncomputable def kK:=epz (c.w,{},default,{},default) fF
noncomputable def w_:=kK.1
noncomputable def A_:=kK.2.1
noncomputable def E_:=kK.2.2.1
noncomputable def s_:=kK.2.2.2.1
noncomputable def S_:=kK.2.2.2.2.1
noncomputable def o_:=kK.2.2.2.2.2.1
noncomputable def es_:=kK.2.2.2.2.2.2.1
noncomputable def ep_:=kK.2.2.2.2.2.2.2.1
noncomputable def t_:=kK.2.2.2.2.2.2.2.2.1
noncomputable def Q_:=kK.2.2.2.2.2.2.2.2.2
theorem tT:pP w_ A_ E_ s_ S_ o_ es_ ep_ t_ Q_:=by
 intro hh R hz h;unfold collect;refine A5 (wpAny_runValue (CQ entry_proto_collect' ?_));show A8 _ _ (do again (.builtin "list.__iadd__" ⟨[←Fk [],.ref S_],[]⟩)) _ _ s_;refine A5 (HY (Ae ⟨Ii _ (by decide +kernel),CQ entry_list_iadd' ?_⟩));show A8 _ _ (FC (.ref s_.heap.objs.size) (.ref S_) (.ref s_.heap.objs.size)) _ _ {s_ with heap:=s_.heap.push (seqObj "list" #[] 0)};have hlt:S_<s_.heap.objs.size:=AM R.at';generalize hD:s_.heap.objs.size=D at hlt ⊢;generalize hs1:({s_ with heap:=s_.heap.push (seqObj "list" #[] 0)}:A4)=s1;have R1:OI w_ s1.heap S_ o_ es_ ep_ t_:=by rw[←hs1];exact R.keep fun o_ e=>Ak _ e
 have hDo:s1.heap.get? D=some (seqObj "list" #[] 0):=by rw[←hs1,←hD];exact AB _ rfl
 have p1:Pu s_ s1:=by rw[←hs1];exact Pu.push _ _
 have hDn:s_.heap.get? D=none:=by rw[←hD];exact KM _
 have hSD:S_≠D:=Az hlt;rw[CC PySem.F.plain_list_iadd _];unfold FC;refine A5 (DS R1.typeIs ?_);have h1:FY (.ref D) (.ref S_)=false:=by simp[FY];exact fun e=>hSD e.symm
 have h2:((CK "set" == CK "list") || (CK "set" == CK "tuple"))=false:=by decide
 have h2a:(CK "set" == CK "list")=false:=by decide
 have h2b:(CK "set" == CK "tuple")=false:=by decide
 simp only[h1,h2a,h2b,Bool.or_false,Ax,if_false];refine A5 (Q3 (A:=A_.in1) hh R1 hz fun vs s2 it fp St hp p2 hn hilt hty W st hfp hne hfs=>?_);have hDo2:=p2.ext _ _ hDo;refine A5 (B7 (Va (yEA o_ (p2.ext _ _ R1.at') R1.exact'.1) ?_));refine Hn (fun _=>?_) (fun hab=>absurd (by decide +kernel) hab);refine A5 (E5 ?_);refine A5 ?_;show A8 _ _ (updateSeq D (·.push .none) >>= fun _=>updateSeq D (·.pop)) _ _ _;refine A5 (JV hDo2 rfl ?_);have hS₂:=Bl (C4 (·.push Df)) hDo2 rfl;refine JV (hz:=by seq_fits) hS₂ rfl ?_;have hS₃:=Bl (C4 (·.pop)) hS₂ rfl
 have hDfp:D∉fp:=fun hb=>by
  rcases hfp D hb with e | e | ⟨o',e,hm,_⟩
  ·rw[←e,hDo]at hn;exact nomatch hn
  ·exact hSD e.symm
  ·rw[hDo2]at e;obtain rfl:=Ag e;exact nomatch hm
 have oth:∀b o_,b≠D→s2.heap.get? b=some o_→((s2.heap.update D (C4 (·.push Df))).update D (C4 (·.pop))).get? b=some o_:=fun b o_ hb e=>
  (Hz _ _ (B9 hb)).trans ((Hz _ _ (B9 hb)).trans e)
 have WS:=(W A_.in1 hh).toS;refine Ae ⟨EN PySem.F.plain_extend_loop _,?_⟩;have st3:St 0 ((s2.heap.update D (C4 (·.push Df))).update D (C4 (·.pop))):=(W A_ hh).frame 0 _ _ st fun b hb o_ e=>oth b o_ (fun q=>hDfp (q▸hb)) e;refine codeAny_extend_loopS (n:=es_.size) WS (by rw[AT];exact n1 hz) D hDfp (.ref D) es_.size 0 _ #[] _ rfl (Bi _) st3 hS₃ (ItemsOf.nil _) fun s' acc' c' hm hS' hacc=>?_
 show A8 (model PG w_) A_ (do
   let o_ ←load D
   match o_.data with
   | .seq xs _=>pure xs.toList
   | _=>Hg "internal:collect") Q_ E_ s'
 refine A5 (wpAny_load hS' (Ae ?_));have hl:vs.length=es_.size:=by rw[hp.length_eq];simp
 have hvs:acc'.toList=vs:=by
  refine BC fun i=>?_;rcases B8 i es_.size with hi | hi
  ·have hai:i<acc'.size:=by rw[hacc.1];exact hi
   have:=hacc.2 i acc'[i] (B0 hai);rw[this,AC,B0 hai]
  ·rw[AI (by rw[Bb,hacc.1];exact hi),AI (by exact aq255 hl hi)]
 rw[hvs];refine h vs s' hp ⟨fun b o_ e=>?_,hm.gens.trans (p2.gens.trans p1.gens),hm.os.trans (p2.os.trans p1.os)⟩;have hbD:b≠D:=fun q=>by exact noo q hDn e
 refine hm.heap b o_ (fun hb=>?_) (oth b o_ hbD (p2.ext _ _ (p1.ext _ _ e)));rcases As.mp hb with q | hb
 ·exact hbD q
 ·rw[Ab]at hb;rw[←hb,p1.ext _ _ e]at hn;exact nomatch hn
end U16
theorem Ot{w A E s S o es ep t Q}:U16.pP w A E s S o es ep t Q:=@KB _ _ U16.fF U16.kK rfl U16.tT (w,A,E,s,S,o,es,ep,t,Q)
end
end
section
noncomputable def KOk{α:Type}(A:Nat→Prop)(P:α→Prop):KasT α→Prop
 | .ret a=>P a
 | .ask i j k=>A i∧A j∧∀b,KOk A P (k b)
theorem KOk.ret{α:Type}{A:Nat→Prop}{P:α→Prop}{a:α}(h:P a):KOk A P (.ret a):=h
theorem KOk.bind{α β:Type}{A:Nat→Prop}{P:α→Prop}{P':β→Prop}{f:α→KasT β}(hf:∀a,P a→KOk A P' (f a)):∀{t:KasT α},KOk A P t→KOk A P' (t.bind f)
 | .ret a,h=>hf a h
 | .ask i j k,⟨h1,h2,h3⟩=>(yAA h1 h2 (fun b=>KOk.bind hf (h3 b)))
theorem KOk.wp {α:Type} {A:Nat→Prop} {P:α→Prop} {cmp:Nat→Nat→(Bool→A4→Prop)→A4→Prop} {s:A4} (hc:∀i j C,A i→A j→(∀b,C b s)→cmp i j C s) {Q:α→A4→Prop} (hq:∀a,P a→Q a s) :
  ∀{t:KasT α},KOk A P t→t.kasWp cmp Q s
 | .ret a,h=>hq a h
 | .ask i j k,⟨h1,h2,h3⟩=>hc i j _ h1 h2 fun b=>KOk.wp hc hq (h3 b)
theorem KOk.ite {α:Type} {A:Nat→Prop} {P:α→Prop} {c:Prop} [Decidable c] {t u:KasT α} (h1:c→KOk A P t) (h2:¬c→KOk A P u):KOk A P (if c then t else u):=by
 split
 ·exact h1 ‹_›
 ·exact h2 ‹_›
noncomputable def LJ(n:Nat)(p:Array Nat):Prop:=p.toList.Perm (Ap n)
theorem LJ.get(hn:0<n)(h:LJ n p)(i:Nat):p.getD i 0<n:=by
 by_cases hi:i<p.size
 ·have:p.getD i 0=p[i]:=by simp[Du,hi]
  rw[this];exact Be.mp (h.mem_iff.mp (by simp))
 ·have:p.getD i 0=0:=by simp[Du,hi]
  rw[this];exact hn
theorem LJ.rev(h:LJ n p)(i j:Nat):LJ n (kas_rev p i j):=(mirror_perm p i j _).toList.trans h
theorem LJ.bub(h:LJ n p)(i j:Nat):LJ n (bubble p i j):=(bubble_perm p i j).toList.trans h
section
variable{n:Nat}(hn:0<n)
include hn
theorem Tt{p:Array Nat}(h:LJ n p):∀f m,KOk (·<n) (fun _=>True) (kas_asc p f m)
 | 0,m=>trivial
 | f+1,m=>(yAA (h.get hn _) (h.get hn _) (fun b=>KOk.ite (fun _=>trivial) fun _=>Tt h f (m+1)))
theorem Pz:∀f {p:Array Nat} m q,LJ n p→KOk (·<n) (fun r=>LJ n r.1) (kas_desc f p m q)
 | 0,p,m,q,h=>h
 | f+1,p,m,q,h=>(yAA (h.get hn _) (h.get hn _) (fun b=>KOk.ite (fun _=>KOk.ite (fun _=>Pz f _ _ (h.rev _ _)) fun _=>Pz f _ _ h)
   fun _=>(yAA (h.get hn _) (h.get hn _) (fun b=>KOk.ite (fun _=>h) fun _=>Pz f _ _ h))))
theorem RG {p:Array Nat} (h:LJ n p) (k m:Nat):KOk (·<n) (fun r=>LJ n r.2) (kas_tail3 k m p):=
 KOk.bind (fun a _=>KOk.ret (P:=fun r:Nat×Array Nat=>LJ n r.2) (h.rev _ _)) (Tt hn (h.rev _ _) _ _)
theorem Od{p:Array Nat}(h:LJ n p)(k m:Nat):KOk (·<n) (fun r=>LJ n r.2) (kas_descPart k m p):=
 KOk.bind (fun a ha=>KOk.ite (fun _=>RG hn (ha.rev _ _) _ _) fun _=>RG hn ha _ _) (Pz hn _ _ _ h)
theorem UZ{p:Array Nat}(h:LJ n p)(m:Nat):KOk (·<n) (fun r=>LJ n r.2) (kas_count m p):=by
 refine KOk.bind (fun a _=>?_) (Tt hn h _ _);refine KOk.ite (fun _=>h) fun _=>?_;refine KOk.ite (fun _=>(yAA (h.get hn _) (h.get hn _) (fun b=>?_))) fun _=>Od hn h _ _;exact KOk.ite (fun _=>h) fun _=>Od hn (h.rev _ _) _ _
theorem Py{p:Array Nat}(h:LJ n p)(k:Nat):∀f l r,KOk (·<n) (fun _=>True) (kas_place p k f l r)
 | 0,l,r=>trivial
 | f+1,l,r=>KOk.ite (fun _=>trivial) fun _=>(yAA (h.get hn _) (h.get hn _) (fun b=>KOk.ite (fun _=>Py h k f _ _) fun _=>Py h k f _ _))
theorem Vy:∀f {p:Array Nat} k,LJ n p→KOk (·<n) (LJ n) (kas_bin f p k)
 | 0,p,k,h=>h
 | f+1,p,k,h=>KOk.bind (fun a _=>Vy f _ (h.bub _ _)) (Py hn h k _ _ _)
theorem Wa:KOk (·<n) (LJ n) (kas_sort n):=
 KOk.bind (fun a ha=>KOk.ite (fun _=>Vy hn _ _ ha) fun _=>KOk.ret ha) (UZ hn (by unfold LJ;simp) _)
end
noncomputable def PT(h:AE)(v:Value)(r:Row):Prop:=∃a,v=.ref a∧L2 h a r
theorem Lo(x:KJ (PT h) vs rs)(i:Im h h'):KJ (PT h') vs rs:=x.mono fun v r z=>xEA z fun a e y=>(yEA a e (y.im i))
section
variable{w:Bo}{A:Aq}{E:Value→A4→Prop}{s:A4}
theorem V5(hQ:∀b,Q b s):∀{ks ks':List Value} {ns ns':List Nat} (i:Nat),LH ks ns→LH ks' ns'→KatLex PG w A b fin Q (ks.zip ks') (i+1) s:=by
 intro ks
 induction ks with
 | nil=>intro ks' ns ns' i _ _;exact kat_nil (hQ _)
 | cons k ks ih=>
  intro ks' ns ns' i h h'
  induction ks' with
  | nil=>exact kat_nil (hQ _)
  | cons k' ks'=>
   refine h.unc ?_;rintro n r rfl ⟨t,rfl⟩ hr;refine h'.unc ?_;rintro n' r' rfl ⟨t',rfl⟩ hr';refine kat_cons (JA ?_);refine kat_go (fun _=>kat_yes (ih (i+1) hr hr')) fun _=>kat_no ?_;rw[show (b && i+1 == 0)=false by simp];exact kat_one _ _ (wpAny_lt_int (hQ _))
theorem Wh(hx:L2 s.heap x r)(hy:L2 s.heap y r')(hQ:∀b,Q b s):A8 (MD w) A (keyLt' (tuples' true) (.ref x) (.ref y)) Q E s:=by
 refine MG hx ?_;clear hx;rintro t ks ⟨n,h1⟩ h2;refine MG hy ?_;clear hy;rintro t' ks' ⟨n',h1'⟩ h2';refine kat_lt h1 rfl h1' rfl ?_;show KatLex PG w A true _ Q ((_::ks).zip (_::ks')) 0 s;refine kat_cons (PySem.wpAny_eqBool_str ?_);refine kat_go (fun _=>kat_yes (V5 hQ 0 h2 h2')) fun _=>kat_no ?_;exact oneLt_str (hQ _)
theorem TO{M:Model}{Q:SortKind→A4→Prop}(hv:KJ (PT s.heap) vs rs)(hne:0<vs.length)(h:Q (tuples' true) s):A8 M A (keyKind' vs.toArray) Q E s:=by
 have key:∀{vs:List Value} {rs:List Row},KJ (PT s.heap) vs rs→∃fs:List Value,fs.length=vs.length∧KatTups s.heap vs fs∧∀v∈fs,∃x t,v=.str x t:=by
  intro vs
  induction vs with
  | nil=>exact fun _=>(M1 [] rfl KatTups.nil (fun v h=>by exact absurd h Ah))
  | cons v vs ih=>
   intro rs h;refine h.unc ?_;rintro r rs' rfl ⟨a,rfl,t,ks,⟨n,ho⟩,_⟩ h';refine LY (ih h') fun fs e k hs=>?_;refine (M1 (.str r.1 t::fs) (by simp[e]) (KatTups.cons ho rfl rfl (by rfl) k) (fun v hv=>?_));rcases As.mp hv with rfl | hv
   ·exact (yEE _ _ rfl)
   ·exact hs v hv
 refine LY (key hv) fun fs e k hs=>?_;refine kat_kind (T:=.type "str") k (by exact aq278 hne e) (fun v hv=>?_) (by decide) h;refine xEE (hs v hv) ?_;rintro x t rfl;exact Looks.now
namespace U18
noncomputable def pP(w:Bo)(A:Aq)(E:Value→A4→Prop)(s:A4)(a:Addr)(vs:List Value)(rs:List Row)(n:Nat):Prop:=∀{P:JZ→A4→Prop}(ho:s.heap.get? a=some (seqObj "list" vs.toArray n))(hv:KJ (PT s.heap) vs rs)(h64:vs.length<64)(h:∀out:List Value,out.Perm vs→P (.done (.ret .none)) {s with heap:=Ey s.heap a vs out.toArray}),A8 (MD w) A (CT.«list.sort» ⟨[.ref a],[]⟩) P E s
noncomputable def fF:=unz fun w=>unz fun A=>unz fun E=>unz fun s=>unz fun a=>unz fun vs=>unz fun rs=>pP w A E s a vs rs
noncomputable def kK:=epz (c.w,{},default,{},default) fF
noncomputable def w_:=kK.1
noncomputable def A_:=kK.2.1
noncomputable def E_:=kK.2.2.1
noncomputable def s_:=kK.2.2.2.1
noncomputable def a_:=kK.2.2.2.2.1
noncomputable def vs_:=kK.2.2.2.2.2.1
theorem tT:pP w_ A_ E_ s_ a_ vs_ kK.2.2.2.2.2.2.1 kK.2.2.2.2.2.2.2:=by
 intro P ho hv h64 h;rw[list_sort_plain];have ha:a_<s_.heap.objs.size:=AM ho;refine A5 (listItems_at ho rfl ?_);refine A5 (Gf ho rfl ?_ (by rw[Ay,AT];exact n21 h64) (Bi _));obtain⟨e1,ho1⟩:∃e1,(s_.heap.update a_ (C4 fun _=>#[])).get? a_=some (seqObj "list" #[] e1):=⟨_,Hq ho (fun _=>#[])⟩;refine A5 (IQ ho1 rfl ?_);refine A5 (wpAny_newTuple ?_ (by rw[AT];show vs_.length≤_;exact n21 h64));refine A5 (HY ?_);refine B7 ?_
 have ho6:(((s_.heap.update a_ (C4 fun _=>#[])).push (seqObj "tuple" vs_.toArray 0)).push (seqObj "list" #[] 0)).get? a_=some (seqObj "list" #[] e1):=by
  rw[Eo _ _ _ (by rw[Jc,DQ];exact Az (AA ha)),Eo _ _ _ (by rw[DQ];exact Az ha)];exact ho1
 show A8 (MD w_) A_ _ P E_ {s_ with heap:=((s_.heap.update a_ (C4 fun _=>#[])).push (seqObj "tuple" vs_.toArray 0)).push (seqObj "list" #[] 0)};dsimp only
 have im:Im s_.heap (((s_.heap.update a_ (C4 fun _=>#[])).push (seqObj "tuple" vs_.toArray 0)).push (seqObj "list" #[] 0)):=fun b o' m e=>
  Ak _ (Ak _ (Im.same ho rfl (Ba s_.heap a_ _) b o' m e))
 by_cases h2:vs_.toArray.size<2
 ·rw[if_pos h2,if_pos h2];refine A5 (Ae ?_);rw[StateT.run_pure];refine A5 (Ae ?_);dsimp only;refine A5 (IQ ho6 rfl ?_)
  have hmap:((vs_.toArray.zip vs_.toArray).map (·.2))=vs_.toArray:=by
   apply IE.mp;simp only[IC,Co,List.zip_toArray,List.map_toArray];exact List.map_snd_zip (At _)
  refine A5 (Gf ho6 rfl ?_ (hsz2:=by show ((vs_.toArray.zip vs_.toArray).map (·.2)).size≤_;rw[hmap,Ay,AT];exact aq181 h64));simp only[bne_self_eq_false,Ax,if_false];have:=h vs_ (Gc _);refine Ae ?_;show P (.done (.ret .none)) {s_ with heap:=Ey s_.heap a_ vs_ ((vs_.toArray.zip vs_.toArray).map (·.2))};rw[hmap];exact this
 ·rw[if_neg h2,if_neg h2];have h2':2≤vs_.length:=by rw[Ay]at h2;exact Bf ‹_›
  refine A5 (TO (Lo hv im) (by exact o41 h2' h64) ?_)
  have run:=kat_run (prog:=PG) (w:=w_) (A:=A_) (E:=E_) (κ:=tuples' true) (ks:=vs_) (vs:=vs_) (s:={s_ with heap:=((s_.heap.update a_ (C4 fun _=>#[])).push (seqObj "tuple" vs_.toArray 0)).push (seqObj "list" #[] 0)})
   (Q:=fun st' s'=>s'={s_ with heap:=((s_.heap.update a_ (C4 fun _=>#[])).push (seqObj "tuple" vs_.toArray 0)).push (seqObj "list" #[] 0)}∧failedOf st'=none∧∃out:List Value,out.Perm vs_∧(arrOf st').map (·.2)=out.toArray)
   (G:=fun p s'=>s'={s_ with heap:=((s_.heap.update a_ (C4 fun _=>#[])).push (seqObj "tuple" vs_.toArray 0)).push (seqObj "list" #[] 0)}∧LJ vs_.length p) rfl h2' h64
   (fun p st' s' hp har hf hG=>⟨hG.1,hf,p.toList.map fun i=>vs_.getD i .none,by
    have:=hG.2.map fun i=>vs_.getD i Df
    rwa [OP]at this,kat_snds rfl har⟩)
   (KOk.wp (A:=(·<vs_.length)) (P:=LJ vs_.length) (fun i j C hi hj hC=>by
    refine xEA ((Lo hv im).get' (A7 hi)) ?_;rintro ri _ ⟨ai,ei,hri⟩;refine xEA ((Lo hv im).get' (A7 hj)) ?_;rintro rj _ ⟨aj,ej,hrj⟩;unfold kas_ask;rw[A6,A6,A7 hi,A7 hj,Et,Et,ei,ej];exact Wh hri hrj hC) (fun p hp=>⟨rfl,hp⟩) (Wa (by exact o41 h2' h64)))
  refine A5 (Al run ?_ fun _ _ e=>e);rintro⟨⟨⟩,st'⟩ s' ⟨rfl,hf,out,hout,heq⟩;dsimp only at hf heq ⊢;refine A5 (IQ ho6 rfl ?_);refine A5 (Gf ho6 rfl ?_ (hsz2:=by rw[heq,Ay,hout.length_eq,AT];exact aq181 h64));rw[hf];simp only[bne_self_eq_false,Ax,if_false];refine Ae ?_;show P (.done (.ret .none)) {s_ with heap:=Ey s_.heap a_ vs_ ((arrOf st').map (·.2))};rw[heq];exact h out hout
end U18
theorem OD{w A E s a vs rs n}:U18.pP w A E s a vs rs n:=@KB _ _ U18.fF U18.kK rfl U18.tT (w,A,E,s,a,vs,rs,n)
end
end
section
section
variable{w:Bo}{A:Aq}{E:Value→A4→Prop}{s:A4}
noncomputable def YZ(e:Int×Value)(n:Nat):Prop:=∃t,e=(hashInt n,.int n t)
noncomputable def T0(w:Bo)(h:AE)(a:Addr)(ns:List Nat):Prop:=
 ∃o es ep t,h.get? a=some o∧o.ExactSet∧o.data=.set es ep t∧Tab.Fit t (ns.map fun n:Nat=>hashInt n)∧KJ YZ es.toList ns∧ns.Nodup∧ns.length≤3∧(w.params.followText "set-order" = false→t.led=true)
theorem T0.keep(x:T0 w h a ns)(e:∀o,h.get? a=some o→h'.get? a=some o):T0 w h' a ns:=by
 refine XC x ?_;clear x;intro o es ep t ho r;exact (XH o es ep t (e _ ho) r)
theorem T0.mu(x:T0 w h a ns):∃o,h.get? a=some o∧L3 o=true:=by
 refine T7 x ?_;clear x;intro o es ep t ho _ hd _;exact (yEA o ho (by unfold L3;rw[hd]))
namespace U19
noncomputable def pP(w:Bo)(A:Aq)(E:Value→A4→Prop)(s:A4)(a:Addr)(ns:List Nat)(n:Nat)(tt:Tok)(Q:Bool→A4→Prop):Prop:=∀(hS:T0 w s.heap a ns)(hz:ns.length≤2)(h:∀s' ns' r,Mt a s s'→T0 w s'.heap a ns'→(∀x,x∈ns'↔x=n∨x∈ns)→ns'.length≤ns.length+1→Q r s'),A8 (MD w) A (Il a (.int n tt)) Q E s
noncomputable def fF:=unz fun w=>unz fun A=>unz fun E=>unz fun s=>unz fun a=>unz fun ns=>unz fun n=>unz fun tt=>pP w A E s a ns n tt
noncomputable def kK:=epz (c.w,{},default,{},default) fF
noncomputable def w_:=kK.1
noncomputable def s_:=kK.2.2.2.1
noncomputable def a_:=kK.2.2.2.2.1
noncomputable def ns_:=kK.2.2.2.2.2.1
noncomputable def n_:=kK.2.2.2.2.2.2.1
noncomputable def tt_:=kK.2.2.2.2.2.2.2.1
theorem tT:pP w_ kK.2.1 kK.2.2.1 s_ a_ ns_ n_ tt_ kK.2.2.2.2.2.2.2.2:=by
 intro hS hz h;refine T6 hS ?_;clear hS;intro o es ep t ho hex hd F he hnd hle hled0;have hlen:es.size=ns_.length:=by rw[←Bb,he.1]
 have hm7:7≤t.mask:=by rcases F.ok with e | e<;>lia
 have hfits:t.fits es.size=true:=Nk F (by simp[hlen]) (by exact aq212 hm7 hlen hz)
 have hel:ElemsOf (Dt PG w_) es.toList:=fun e he'=>by
  refine xE (BV.mp he') fun i hi=>?_;refine xEA (he.get' hi) ?_;rintro k _ ⟨t',rfl⟩;exact⟨(yEA k (by exact if_pos rfl) rfl),rfl⟩
 unfold Il;refine B7 (A5 ((Dt PG w_).pyHash (k:=n_) (by exact if_pos rfl) ?_));generalize hs1:({s_ with toks:=s_.toks+1}:A4)=s1;have e1:s1.heap=s_.heap:=by rw[←hs1]
 have P1:Pu s_ s1:=by rw[←hs1];exact Pu.tok _ _
 rw[←e1]at ho;show A8 _ _ (Ik a_ (.int n_ tt_) (hashInt n_)) _ _ _;unfold Ik;refine B7 ?_;show A8 _ _ (FO a_ (.int n_ tt_) (hashInt n_) (99999+1)) _ _ _;unfold FO;refine A5 (BF ho hd hfits ?_);dsimp only;rw[byScan_of (knd:=Dt PG w_) (x:=.int n_ tt_) rfl (by rw[hlen];unfold scanBound;exact n12 hz) hel];simp only[if_true];unfold setAddByScan;refine A5 ?_;refine A5 (E5 ?_);refine A5 (wpAny_setScan_of (knd:=Dt PG w_) (k:=(n_:Int)) (by exact if_pos rfl) ho hd hfits hel ?_)
 cases hr:List.findIdx? (fun e=>(Dt PG w_).is (n_:Int) e.2) es.toList with
 | some j=>
  dsimp only;refine xEA (List.findIdx?_eq_some_iff_getElem.mp hr) fun hj hpj _=>?_;refine xEA (he.get' (A7 hj)) ?_;rintro k hk ⟨t',hek⟩
  have:k=n_:=by
   rw[hek]at hpj;simp[Dt,Value.isInt]at hpj
   lia
  have hmem:n_∈ns_:=this▸Av hk;refine Ae (Ae ?_);exact h _ ns_ false (P1.kp _) (QC o es ep t ho hex hd F he hnd hle hled0) (fun x=>⟨.inr,fun hx=>hx.elim (fun e=>e▸hmem) id⟩) (by exact o3)
 | none=>
  dsimp only
  have hnot:n_∉ns_:=fun hm=>by
   refine xE (BV.mp hm) fun i hi=>?_;refine xEA (he.get hi) ?_;rintro e hei ⟨t',rfl⟩;have h2:=List.findIdx?_eq_none_iff.mp hr _ (Av hei);have h3:(Dt PG w_).is (n_:Int) (BD (n_:Int) t')=true:=by exact if_pos rfl
   rw[show (Dt PG w_).is (n_:Int) (BD (n_:Int) t')=false from h2]at h3;exact nomatch h3
  refine LY (F.way (by simp;exact aq294 hm7 hz) (hashInt n_)) fun k hk hempty hall=>?_
  have hfree:t.freeSlot (hashInt n_)=some ((Tab.st t.mask (hashInt n_) k).j,false):=by
   unfold SetTable.freeSlot Ib;rcases Tab.go_spec F (fun _=>hashInt n_+1) (hashInt n_) hempty k 0 (10*EL t.mask) (by exact o2) hk (fun q _ hq=>hall q hq)with⟨q,i,_,_,_,q4,_⟩ | ⟨_,q2⟩
   ·have q4':hashInt (n_:Int)+1=hashInt n_:=q4
    lia
   ·rw[Tab.start_eq,q2];rfl
  refine YO (F.put (h:=hashInt n_) hempty hall) fun p hp hple F' hmask hplain hledd=>?_;generalize hput:t.put (Tab.st t.mask (hashInt n_) k).j=tp at hp F' hmask hplain hledd;obtain⟨t2,p2⟩:=tp;dsimp only at hp F' hmask hplain hledd;subst hp;rw[AQ]at hple;have hks:(ns_.map fun n_:Nat=>hashInt n_).take p2++hashInt n_::(ns_.map fun n_:Nat=>hashInt n_).drop p2=(ns_.take p2++n_::ns_.drop p2).map fun n_:Nat=>hashInt n_:=by simp
  rw[hks]at F'
  have he':KJ YZ (Bd es p2 (hashInt n_,BD n_ tt_)).toList (ns_.take p2++n_::ns_.drop p2):=by
   rw[Gr];exact (he.take p2).append (.cons ⟨tt_,rfl⟩ (he.drop p2))
  have hperm:(ns_.take p2++n_::ns_.drop p2).Perm (n_::ns_):=by
   have:=DP (a:=n_) (l₁:=ns_.take p2) (l₂:=ns_.drop p2)
   rwa [D9]at this
  have hlen':(ns_.take p2++n_::ns_.drop p2).length=ns_.length+1:=by rw[hperm.length_eq];rfl
  have hnd':(ns_.take p2++n_::ns_.drop p2).Nodup:=by rw[hperm.nodup_iff];exact C9.mpr ⟨hnot,hnd⟩
  have hmem':∀x,x∈ns_.take p2++n_::ns_.drop p2↔x=n_∨x∈ns_:=fun x=>by rw[hperm.mem_iff,As]
  generalize ns_.take p2++n_::ns_.drop p2=ns2 at F' he' hlen' hnd' hmem';have hsz2:(Bd es p2 (hashInt n_,BD n_ tt_)).size=ns_.length+1:=by rw[←Bb,he'.1,hlen']
  have hfit2:t2.fits (Bd es p2 (hashInt n_,BD n_ tt_)).size=true:=Nk F' (by rw[AQ,hlen',hsz2]) (by rw[hsz2,hmask];exact aq284 hm7 hz)
  have hlay:layNew t es (hashInt n_) (.int n_ tt_)=(Bd es p2 (hashInt n_,BD n_ tt_),t2,false,false):=by
   unfold layNew;rw[hfree];dsimp only;rw[hput];dsimp only;unfold SetTable.orStandIn;rw[hfit2];rfl
  rw[hlay];dsimp only;refine A5 (Ae ?_);have ho2:=MO ho hd (Bd es p2 (hashInt n_,BD n_ tt_)) t2
  have hfull:t2.tooFull=false:=by
   unfold FE EX;rw[F'.size,F'.dum,AQ,hlen',hmask];simp;exact aq172 hm7 hz
  have hfin:=h {s1 with heap:=s1.heap.update a_ (DZ (Bd es p2 (hashInt n_,BD n_ tt_)) t2)} ns2 true ((P1.kp _).trans Mt.up (fun q _ hq _=>hq)) (QC _ _ _ t2 ho2 hex rfl F' he' hnd' (by exact aq235 hlen' hz hle) (fun e=>by rw[hledd];exact hled0 e)) hmem' (by exact o1 hlen');split<;>
  ·refine A5 (Ae ?_);simp only[if_true];refine A5 (GD ho hd ?_ (by rw[hsz2,AT];exact n13 hz));rw[hfull];simp only[Eg,Fe,Ax,if_false];exact Ae (Ae hfin)
end U19
theorem US{w A E s a ns n tt Q}:U19.pP w A E s a ns n tt Q:=@KB _ _ U19.fF U19.kK rfl U19.tT (w,A,E,s,a,ns,n,tt,Q)
inductive XB(w:Bo)(ns:List Nat)(S:Addr)(i:Nat)(h:AE):Prop
 | mk(ks:List Nat)(a1:T0 w h S ks)(a2:ks.length≤i)(a3:∀x,x∈ks↔x∈ns.take i)
theorem Pe(hu:A.units+12<cLine)(hh:A.handled=none)(hl:IsL s.heap l vs.toArray n)(hv:LH vs ns)(hz:ns.length≤2)(h:∀s' a ks,Pu s s'→T0 w s'.heap a ks→(∀x,x∈ks↔x∈ns)→s.heap.get? a=none→Q (.ref a) s'):A8 (MD w) A (call (.type "set") [.ref l]) Q E s:=by
 refine Pf (I:=XB w ns) {keep:=fun S i h h' ⟨ks,a,b,b2⟩ e im=>⟨ks,a.keep e,b,b2⟩,mu:=fun S i h ⟨ks,a,_,_⟩=>a.mu,add:=fun A S i s E v hu hvi ⟨ks,a,b,e⟩=>?_} hu hh hl (fun S h ho im=>⟨[],?_,At _,fun x=>by rfl⟩) fun s' a p ⟨ks,hS,_,hm⟩ hn=>h s' a ks p hS (fun x=>by rw[hm,hv.1,Br]) hn
 ·refine xEA (hv.get' hvi) ?_;rintro k hki ⟨tt,rfl⟩;have hlt:i<ns.length:=(Af.mp hki).1;refine US a (by exact n31 hlt hz b) fun s' ks' r M hS' hmem hlen'=>?_;refine⟨M,ks',hS',by exact aq65 hlen' b,fun x=>?_⟩;have hke:ns[i]=k:=(Af.mp hki).2;rw[hmem,e,CH hlt,hke];simp only[Am,Ab];exact Or.comm
 ·refine (QC _ (#[]) 0 _ ho (yAA rfl rfl rfl) rfl ⟨.inl rfl,?_,rfl,rfl,?_,?_⟩ KJ.nil BW (by simp) (fun e=>by show Qq w=true;rw[Qq,e];rfl))
  ·intro i j x y _ hx;trivial
  ·intro i j hx;trivial
  ·intro i x hx;trivial
theorem PS.raw{K:Type}[DecidableEq K]{sk:SK w K}{ks:List K}(x:PS sk h a ks):∃o es ep t,OI w h a o es ep t∧KJ (WG sk h) (es.toList.map (·.2)) ks∧ks.Nodup∧es.size=ks.length:=by
 refine T6 x ?_;clear x;intro o es ep t ho hex hd F he hnd hroom hled;have hlen:es.size=ks.length:=by rw[←Bb,he.1]
 refine⟨o,es,ep,t,⟨ho,hex,hd,F.inc,by rw[F.size,AQ,hlen],F.dum,by exact o0 hroom hlen,hled⟩,⟨by rw[AQ,he.1],fun i v k hv hk=>?_⟩,hnd,hlen⟩;refine xEA (he.get hk) ?_;rintro e h1 ⟨b,rfl,hb⟩;rw[B4,h1]at hv;obtain rfl:=Ag hv;exact (yEA b rfl hb)
theorem T0.raw(x:T0 w h a ns):∃o es ep t,OI w h a o es ep t∧LH (es.toList.map (·.2)) ns∧ns.Nodup∧es.size=ns.length∧ns.length≤3:=by
 refine T6 x ?_;clear x;intro o es ep t ho hex hd F he hnd hle hled;have hlen:es.size=ns.length:=by rw[←Bb,he.1]
 have hm7:7≤t.mask:=by rcases F.ok with e | e<;>lia
 refine (VI o es ep t ⟨ho,hex,hd,F.inc,by rw[F.size,AQ,hlen],F.dum,by exact aq213 hm7 hlen hle,hled⟩ ⟨by rw[AQ,he.1],fun i v k hv hk=>?_⟩ hnd hlen hle);refine xEA (he.get hk) ?_;rintro e h1 ⟨t',rfl⟩;rw[B4,h1]at hv;obtain rfl:=Ag hv;exact⟨t',rfl⟩
theorem KJ.perm{α β:Type}{R:α→β→Prop}{xs xs':List α}{ys:List β}(h:KJ R xs ys)(p:xs'.Perm xs):∃ys',ys'.Perm ys∧KJ R xs' ys':=by
 induction p generalizing ys with
 | nil=>exact (yEA ys (.refl _) h)
 | cons x _ ih=>
  refine h.unc ?_;rintro y ys1 rfl r t;refine xEA (ih t) fun ys2 p2 t2=>?_;exact (yEA (y::ys2) (p2.cons y) (.cons r t2))
 | swap x y l=>
  refine h.unc ?_;rintro a ys1 rfl r t;refine t.unc ?_;rintro b ys2 rfl r2 t2;exact (yEA (b::a::ys2) (.swap _ _ _) (.cons r2 (.cons r t2)))
 | trans _ _ ih1 ih2=>
  refine xEA (ih2 h) fun ys1 p1 h1=>?_;refine xEA (ih1 h1) fun ys2 p2 h2=>?_;exact (yEA ys2 (p2.trans p1) h2)
end
end
section
section
variable{w:Bo}{A:Aq}{E:Value→A4→Prop}{s:A4}
theorem N0(ho:h.get? a=some (seqObj "list" vs.toArray n)):Lst (Ey h a vs out.toArray) a out∧∀b o,b≠a→h.get? b=some o→(Ey h a vs out.toArray).get? b=some o:=by
 have ha:a<h.objs.size:=AM ho;obtain⟨e1,ho1⟩:∃e1,(h.update a (C4 fun _=>#[])).get? a=some (seqObj "list" #[] e1):=⟨_,Hq ho (fun _=>#[])⟩
 have ho6:(((h.update a (C4 fun _=>#[])).push (seqObj "tuple" vs.toArray 0)).push (seqObj "list" #[] 0)).get? a=some (seqObj "list" #[] e1):=by
  rw[Eo _ _ _ (by rw[Jc,DQ];exact Az (AA ha)),Eo _ _ _ (by rw[DQ];exact Az ha)];exact ho1
 refine⟨⟨_,Hq ho6 (fun _=>out.toArray)⟩,fun b o hb e=>?_⟩;unfold Ey;rw[Ea _ _ _ _ hb];exact Ak _ (Ak _ ((Ea _ _ _ _ hb).trans e))
theorem LH.ints(h:LH vs ns):Iz vs (ns.map Cw):=by
 induction vs generalizing ns with
 | nil=>have:ns=[]:=AX.mp h.1.symm;subst this;exact .nil
 | cons v vs ih=>refine h.unc ?_;rintro n r rfl ⟨t,rfl⟩ h';exact .cons _ _ (ih h')
theorem LH.of_ints:∀{vs:List Value} {ns:List Nat},Iz vs (ns.map Cw)→LH vs ns:=by
 intro vs
 induction vs with
 | nil=>intro ns h;induction ns with | nil=>exact KJ.nil | cons n r=>cases h
 | cons v vs ih=>intro ns h;induction ns with
  | nil=>cases h
  | cons n r=>cases h with | cons _ t h'=>exact .cons ⟨t,rfl⟩ (ih h')
theorem RF(p:ms.Perm (ns.map Cw)):∃ks:List Nat,ms=ks.map Cw∧ks.Perm ns:=by
 refine (yEA (ms.map Bt) ?_ ?_)
 ·rw[Dj];refine (JO ms).symm.trans (AZ fun x hx=>?_);refine xEA (AR.mp (p.mem_iff.mp hx)) ?_;rintro n _ rfl
  rfl
 ·have:=p.map Bt;rw[Dj,show (Bt ∘ Cw)=id from rfl,JO]at this;exact this
theorem VX(hl:Lst s.heap l vs)(hv:LH vs ns)(h64:vs.length<64)(h:∀s' a out ks,Pu s s'→Lst s'.heap a out→LH out ks→ks.Perm ns→ks.Pairwise (·≤·)→s.heap.get? a=none→Q (.ref a) s'):A8 (MD w) A (call (.builtin "sorted") [.ref l]) Q E s:=by
 refine sorted_ints hl.isList hv.ints h64 fun out ns' hI hp hs=>?_;refine xEA (RF hp) ?_;rintro ks rfl hk
 have hn:s.heap.get? (s.heap.objs.size+1)=none:=by
  exact Ky fun o e=>by exact absurd (AM e) (Ek.mpr (Cj _))
 have hsz:((s.heap.push (seqObj "list" #[] 0)).update s.heap.objs.size (C4 (·++vs.toArray))).objs.size=s.heap.objs.size+1:=by rw[DQ,Jc]
 have hoL:(((s.heap.push (seqObj "list" #[] 0)).update s.heap.objs.size (C4 (·++vs.toArray))).push (seqObj "list" vs.toArray 0)).get? (s.heap.objs.size+1)=some (seqObj "list" vs.toArray 0):=by
  rw[←hsz];exact AB _ rfl
 refine xA (N0 (out:=out.toList) hoL) fun h1 h2=>?_;refine h _ _ out.toList ks ⟨fun b o e=>?_,rfl,rfl⟩ h1 (LH.of_ints hI) hk ?_ hn
 ·have hb:=AM e;refine h2 b o (Az (AA hb)) (Ak _ ((Ea _ _ _ _ (Az hb)).trans (Ak _ e)))
 ·rw[FV]at hs;exact hs.imp fun h=>CN.mp h
theorem Tj{v:Value}{P:List Value→Prop}(Rl:List Value→List Value→Prop){Q:Value→A4→Prop}(hc:∀(Q:List Value→A4→Prop) (E:Value→A4→Prop),(∀vs s',P vs→Pu s s'→Q vs s')→A8 (MD w) A.in1 (collect v) Q E s)(hs:∀(A:Aq) (E:Value→A4→Prop) (P':JZ→A4→Prop) vs s' a,P vs→Pu s s'→s'.heap.get? a=some (seqObj "list" vs.toArray 0)→(∀out:List Value,Rl vs out→P' (.done (.ret .none)) {s' with heap:=Ey s'.heap a vs out.toArray})→A8 (MD w) A (CT.«list.sort» ⟨[.ref a],[]⟩) P' E s')(hz:∀vs,P vs→vs.length≤16000)(h:∀s' a out vs,P vs→Rl vs out→Pu s s'→Lst s'.heap a out→s.heap.get? a=none→Q (.ref a) s'):A8 (MD w) A (call (.builtin "sorted") [v]) Q E s:=by
 refine Calls.call_function_entry kind_sorted plain_sorted entry_sorted (args_sorted1 _) ?_;unfold CT.«sorted»;refine A5 (m:=checkCount "sorted" 1 1 _) (Ae ?_);refine A5 (hc _ _ fun vs s' hP p=>?_);refine A5 (HY ?_ (by rw[AT];have:=hz vs hP;simp;exact n1 this));have hoL:(s'.heap.push (seqObj "list" vs.toArray 0)).get? s'.heap.objs.size=some (seqObj "list" vs.toArray 0):=AB _ rfl;have p2:Pu s {s' with heap:=s'.heap.push (seqObj "list" vs.toArray 0)}:=p.trans (Pu.push _ _);show A8 _ _ _ _ _ {s' with heap:=s'.heap.push (seqObj "list" vs.toArray 0)};refine A5 (B7 (BS slot_list_sort (yEA _ hoL rfl) entry_list_sort (hs _ _ _ vs {s' with heap:=s'.heap.push (seqObj "list" vs.toArray 0)} s'.heap.objs.size hP p2 hoL fun out ho=>(yEA _ rfl ?_)) (args_list_sort _)));refine xA (N0 (out:=out) hoL) fun h1 h2=>?_
 have hn:s.heap.get? s'.heap.objs.size=none:=by
  exact Ky fun o e=>by exact absurd (AM (p.ext _ _ e)) (B3 _)
 exact Ae (yEA _ rfl (h _ _ out vs hP ho ⟨fun b o e=>h2 b o (fun q=>noo q hn e) (p2.ext _ _ e),p.gens,p.os⟩ h1 hn))
theorem UQ{S:Addr}{rs:List Row}{Q:Value→A4→Prop}(hh:A.handled=none)(hS:PS (W3 w) s.heap S rs)(hz:rs.length<64)(h:∀s' a out rs',Pu s s'→Lst s'.heap a out→KJ (PT s'.heap) out rs'→rs'.Perm rs→s.heap.get? a=none→Q (.ref a) s'):A8 (MD w) A (call (.builtin "sorted") [.ref S]) Q E s:=by
 refine T7 hS.raw fun o es ep t R hk hnd hsz=>?_;refine Tj (fun vs out=>out.Perm vs) (P:=fun vs=>vs.Perm (es.toList.map (·.2))) (fun Q _ hq=>Ot (A:=A.in1) hh R (by exact n22 hz hsz) hq) (fun A E P' vs s' a hP p ho hq=>?_) (fun vs hP=>by rw[hP.length_eq];simp;exact n22 hz hsz) fun s' a out vs hP ho p hl hn=>?_
 ·refine xEA (KJ.perm hk hP) fun rs' p3 h2=>?_;exact OD (rs:=rs') ho (Lo (show KJ (PT s.heap) vs rs' from h2) p.ext.im) (by rw[h2.1,p3.length_eq];exact hz) hq
 ·refine xEA (KJ.perm hk (ho.trans hP)) fun rs' p2 h2=>?_;exact h s' a out rs' p hl (Lo (show KJ (PT s.heap) out rs' from h2) p.ext.im) p2 hn
theorem RC{S:Addr}{ns:List Nat}{Q:Value→A4→Prop}(hh:A.handled=none)(hS:T0 w s.heap S ns)(h:∀s' a out ks,Pu s s'→Lst s'.heap a out→LH out ks→ks.Perm ns→s.heap.get? a=none→Q (.ref a) s'):A8 (MD w) A (call (.builtin "sorted") [.ref S]) Q E s:=by
 refine S0 hS.raw fun o es ep t R hk hnd hsz hle=>?_;refine Tj (fun vs out=>∀ks,LH vs ks→∃ks',LH out ks'∧ks'.Perm ks) (P:=fun vs=>vs.Perm (es.toList.map (·.2))) (fun Q _ hq=>Ot (A:=A.in1) hh R (by exact n2 hsz hle) hq) (fun A E P' vs s' a hP p ho hq=>?_) (fun vs hP=>by rw[hP.length_eq];simp;exact n2 hsz hle) fun s' a out vs hP ho p hl hn=>?_
 ·refine xEA (KJ.perm hk hP) fun ks p3 h2=>?_;refine list_sort_tree (ns:=ks.map Cw) ho (LH.ints h2) (by rw[h2.1,p3.length_eq];exact n12 hle) fun out ns' hI hpp _=>?_;refine xEA (RF hpp) ?_;rintro ks' rfl hk';exact hq out.toList fun ks2 h3=>(yEA ks' (LH.of_ints hI) (by rw[h3.inj h2];exact hk'))
 ·refine xEA (KJ.perm hk hP) fun ks p3 h2=>?_;refine xEA (ho ks h2) fun ks' h3 p4=>?_;exact h s' a out ks' p hl h3 (p4.trans p3) hn
end
end
section
inductive Ro | bd | ud | ld | nodes | nums | wts | dps | up | lots | mrg | edges | forest | known | above | wait | chg | mks | cd | ck | pack | cells | lvls | lot (i:Nat) | ab (i:Nat) | mk (i:Nat)
deriving DecidableEq
inductive Chg | made (n:Nat) | known (r:Row) | edge (kept many gone:Nat)
structure St where
 rows:List Row
 nums:List (Row×Nat)
 wts:List Nat
 dps:List Nat
 up:List Nat
 lots:List (List Nat)
 mrg:List (Nat×Nat)
 edges:Nat
 forest:Nat
 known:List (Row×Nat)
 abv:List (List Nat)
 akeys:Nat→Bool
 wait:List Nat
 backs:Nat
 made:Nat
 chg:List Chg
 mks:List (Nat×List Nat)
 hasC:Bool
 cmark:Option (Nat×Nat×Nat)
 cknown:List ((List Nat×Nat)×Nat)
 cells:List Nat
 card:Nat
 lvls:List Value
noncomputable abbrev St.s_rows(st:St)(x:List Row):St:={st with rows:=x}
noncomputable abbrev St.s_nums(st:St)(x:List (Row×Nat)):St:={st with nums:=x}
noncomputable abbrev St.s_wts(st:St)(x:List Nat):St:={st with wts:=x}
noncomputable abbrev St.s_up(st:St)(x:List Nat):St:={st with up:=x}
noncomputable abbrev St.s_lots(st:St)(x:List (List Nat)):St:={st with lots:=x}
noncomputable abbrev St.s_mrg(st:St)(x:List (Nat×Nat)):St:={st with mrg:=x}
noncomputable abbrev St.s_edges(st:St)(x:Nat):St:={st with edges:=x}
noncomputable abbrev St.s_forest(st:St)(x:Nat):St:={st with forest:=x}
noncomputable abbrev St.s_known(st:St)(x:List (Row×Nat)):St:={st with known:=x}
noncomputable abbrev St.s_abv(st:St)(x:List (List Nat)):St:={st with abv:=x}
noncomputable abbrev St.s_akeys(st:St)(x:Nat→Bool):St:={st with akeys:=x}
noncomputable abbrev St.s_wait(st:St)(x:List Nat):St:={st with wait:=x}
noncomputable abbrev St.s_backs(st:St)(x:Nat):St:={st with backs:=x}
noncomputable abbrev St.s_made(st:St)(x:Nat):St:={st with made:=x}
noncomputable abbrev St.s_chg(st:St)(x:List Chg):St:={st with chg:=x}
noncomputable abbrev St.s_mks(st:St)(x:List (Nat×List Nat)):St:={st with mks:=x}
noncomputable abbrev St.s_cmark(st:St)(x:Option (Nat×Nat×Nat)):St:={st with cmark:=x}
noncomputable abbrev St.s_cknown(st:St)(x:List ((List Nat×Nat)×Nat)):St:={st with cknown:=x}
noncomputable abbrev St.s_card(st:St)(x:Nat):St:={st with card:=x}
noncomputable abbrev St.s_lvls(st:St)(x:List Value):St:={st with lvls:=x}
structure Lay where
 ad:Ro→Addr
 lv:Addr
 bk:Addr
 un:Addr
 ci:Addr
theorem YJ(h:i≠j):Ro.ab i≠Ro.ab j:=fun e=>h (by injection e)
noncomputable def OG:Lay:=⟨fun _=>0,0,0,0,0⟩
noncomputable def dSt:St:=⟨[],[],[],[],[],[],[],0,0,[],[],fun _=>true,[],0,0,[],[],true,none,[],[],0,[]⟩
noncomputable def live(st:St):Ro→Prop
 | .lot i=>i<st.lots.length
 | .ab i=>i<st.abv.length
 | .mk i=>i<st.mks.length
 | .cd | .ck=>st.hasC=true
 | _=>True
noncomputable abbrev cBk:Addr:=183
noncomputable abbrev cUn:Addr:=354
noncomputable abbrev cLv:Addr:=558
noncomputable abbrev cCt:Addr:=272
noncomputable abbrev Atts:=List (A9×Value)
noncomputable def LL(l:Atts):A9→Option Value:=fun n=>l.lookup n
noncomputable def bkF(ad:Ro→Addr):A9→Option Value:=LL [("nodes",.ref (ad .nodes)),("numbers",.ref (ad .nums)),("weights",.ref (ad .wts)),("depths",.ref (ad .dps))]
noncomputable def unF(ad:Ro→Addr):A9→Option Value:=LL [("above",.ref (ad .up)),("lots",.ref (ad .lots)),("merged",.ref (ad .mrg))]
noncomputable def lvF(y:Lay)(w b m:Value):A9→Option Value:=LL [("waiting",w),("backs",b),("made",m),("bank",.ref y.bk),("unions",.ref y.un),("edges",.ref (y.ad .edges)),("forest",.ref (y.ad .forest)),("known",.ref (y.ad .known)),("above",.ref (y.ad .above)),("changes",.ref (y.ad .chg)),("marks",.ref (y.ad .mks))]
noncomputable def ctF(y:Lay)(mk kn:Value):A9→Option Value:=LL [("mark",mk),("known",kn),("heap",.ref y.lv)]
noncomputable def NI(h:AE)(v:Value)(p:Nat×Nat):Prop:=∃a x y,v=.ref a∧Tpl h a [x,y]∧MK x p.1∧MK y p.2
noncomputable def T1(ad:Ro→Addr)(h:AE)(v:Value)(ch:Chg):Prop:=∃a t,v=.ref a∧match ch with
 | .made n=>∃x,Tpl h a [.str "made" t,x]∧MK x n
 | .known r=>∃b,Tpl h a [.str "known" t,.ref b]∧L2 h b r
 | .edge k m g=>∃x y z u,Tpl h a [.str "edge" t,x,y,z,.ref u]∧MK x k∧MK y m∧MK z g∧(k≠g→u=ad (.ab g))
noncomputable def MkV(h:AE)(v:Value)(p:Nat)(u:Addr):Prop:=∃a x,v=.ref a∧Tpl h a [x,.ref u]∧MK x p
noncomputable def Ox(h:AE)(v:Value):Option (Nat×Nat×Nat)→Prop
 | none=>v=.none
 | some (a,b,c)=>∃q x y z,v=.ref q∧Tpl h q [x,y,z]∧MK x a∧MK y b∧MK z c
noncomputable def NL(h:AE)(a:Addr)(ns:List Nat):Prop:=∃vs,Lst h a vs∧LH vs ns
noncomputable def HD{K:Type}[DecidableEq K](knd:Cy PG w K)(h:AE)(d:Addr)(ps:List (K×Nat)):Prop:=
 ∃xs,h.DictOfH knd d xs∧KJ (fun (x:K×Addr×Value) (p:K×Nat)=>x.1=p.1∧MK x.2.2 p.2) xs ps
noncomputable def ID(w:Bo)(h:AE)(d:Addr)(f:Int→Option Value):Prop:=∃kvs,h.DictOf (Dt PG w) d kvs∧∀k,CX kvs k=f k
noncomputable def Kz(up:List Nat)(i:Nat):Bool:=up[i]? == some i
noncomputable def abF(ad:Ro→Addr)(st:St):Int→Option Value:=fun k=>if 0≤k∧st.akeys k.toNat=true then some (.ref (ad (.ab k.toNat)))else none
noncomputable def W8(ad:Ro→Addr)(x:Value):A9→Option Value:=LL [("card",x),("cells",.ref (ad .cells))]
noncomputable def SD(w:Bo)(h:AE)(d:Addr)(f:A9→Option Value):Prop:=∃kvs,h.DictOf (DO PG w) d kvs∧kvs.length≤100∧∀k,CX kvs k=f k
noncomputable def Ok(w:Bo)(y:Lay)(st:St)(h:AE):Ro→Prop
 | .bd=>Fld h (y.ad .bd) (bkF y.ad) 4
 | .ud=>Fld h (y.ad .ud) (unF y.ad) 3
 | .ld=>∃t t',Fld h (y.ad .ld) (lvF y (.ref (y.ad .wait)) (.int st.backs t) (.int st.made t')) 11
 | .nodes=>∃vs,Lst h (y.ad .nodes) vs∧KJ (PT h) vs st.rows
 | .nums=>HD (OB w) h (y.ad .nums) st.nums
 | .wts=>NL h (y.ad .wts) st.wts
 | .dps=>NL h (y.ad .dps) st.dps
 | .up=>NL h (y.ad .up) st.up
 | .lots=>Lst h (y.ad .lots) ((Ap st.lots.length).map fun i=>.ref (y.ad (.lot i)))
 | .mrg=>∃vs,Lst h (y.ad .mrg) vs∧KJ (NI h) vs st.mrg
 | .edges=>∃vs,Lst h (y.ad .edges) vs∧vs.length=st.edges
 | .forest=>∃vs,Lst h (y.ad .forest) vs∧vs.length=st.forest
 | .known=>HD (OB w) h (y.ad .known) st.known
 | .above=>ID w h (y.ad .above) (abF y.ad st)
 | .wait=>NL h (y.ad .wait) st.wait
 | .chg=>∃vs,Lst h (y.ad .chg) vs∧KJ (T1 y.ad h) vs st.chg
 | .mks=>∃vs,Lst h (y.ad .mks) vs∧vs.length=st.mks.length∧∀(i:Nat) v p,vs[i]?=some v→st.mks[i]?=some p→MkV h v p.1 (y.ad (.mk i))
 | .cd=>∃mv,Fld h (y.ad .cd) (ctF y mv (.ref (y.ad .ck))) 3∧Ox h mv st.cmark
 | .ck=>HD (SZ w) h (y.ad .ck) st.cknown
 | .pack=>∃t,SD w h (y.ad .pack) (W8 y.ad (.int st.card t))
 | .cells=>NL h (y.ad .cells) st.cells
 | .lvls=>Lst h (y.ad .lvls) st.lvls
 | .lot i=>∀l,st.lots[i]?=some l→NL h (y.ad (.lot i)) l
 | .ab i=>∀l,st.abv[i]?=some l→NL h (y.ad (.ab i)) l
 | .mk i=>∀p,st.mks[i]?=some p→NL h (y.ad (.mk i)) p.2
theorem Lst.at2(x:Lst h a vs)(k:∀o,h.get? a=some o→h'.get? a=some o):Lst h' a vs:=xE x fun n e=>⟨n,k _ e⟩
theorem Fld.at2{mp n}(x:Fld h a mp n)(k:∀o,h.get? a=some o→h'.get? a=some o):Fld h' a mp n:=MG x fun es ep e r=>(Pi es ep (k _ e) r)
theorem NL.at2{ns}(x:NL h a ns)(k:∀o,h.get? a=some o→h'.get? a=some o):NL h' a ns:=xEA x fun vs e r=>(yEA vs (e.at2 k) r)
theorem NI.im{v p}(x:NI h v p)(i:Im h h'):NI h' v p:=O1 x fun a b c e t r=>(PX a b c e (t.im i) r)
theorem T1.im{ad:Ro→Addr}{h h':AE}{v ch}(x:T1 ad h v ch)(i:Im h h'):T1 ad h' v ch:=by
 refine MG x ?_;clear x;intro a t e x;refine (Pi a t e ?_)
 induction ch with
 | made n=>refine xEA x ?_;clear x;intro x h1 h2;exact (yEA x (h1.im i) h2)
 | known r=>refine xEA x ?_;clear x;intro b h1 h2;exact (yEA b (h1.im i) (h2.im i))
 | edge k m g=>refine XC x ?_;clear x;intro x y z u h1 h2;exact (XH x y z u (h1.im i) h2)
theorem MkV.im{v p u}(x:MkV h v p u)(i:Im h h'):MkV h' v p u:=LR x fun a b e t r=>(MN a b e (t.im i) r)
theorem Ox.im{v p}(x:Ox h v p)(i:Im h h'):Ox h' v p:=by
 induction p with
 | none=>exact x
 | some p=>refine WP x ?_;clear x;intro q a b c e t r;exact⟨q,a,b,c,e,t.im i,r⟩
theorem HD.at2{K:Type}[DecidableEq K]{knd:Cy PG w K}(hi:∀{h h':AE} {k:K} {a:Addr},knd.is h k a→Im h h'→knd.is h' k a){ps}(x:HD knd h d ps)(k:∀o,h.get? d=some o→h'.get? d=some o)(i:Im h h'):HD knd h' d ps:=by
 refine xEA x ?_;clear x;rintro xs ⟨o,es,ep,e,a1,a2,a3,a4,a5⟩ r;exact (yEA xs (QD o es ep (k _ e) a1 a2 a3 (fun x hx=>hi (a4 x hx) i) a5) r)
theorem ID.at2{f}(x:ID w h d f)(k:∀o,h.get? d=some o→h'.get? d=some o):ID w h' d f:=by
 refine xEA x ?_;clear x;rintro kvs ⟨o,es,ep,e,r⟩ q;exact (yEA kvs (RZ o es ep (k _ e) r) q)
theorem SD.at2{f}(x:SD w h d f)(k:∀o,h.get? d=some o→h'.get? d=some o):SD w h' d f:=by
 refine xEA x ?_;clear x;rintro kvs ⟨o,es,ep,e,r⟩ q;exact (yEA kvs (RZ o es ep (k _ e) r) q)
theorem Ok.at2{w:Bo}{y:Lay}{st:St}{h h':AE}{r:Ro}(x:Ok w y st h r)(k:∀o,h.get? (y.ad r)=some o→h'.get? (y.ad r)=some o)(i:Im h h'):Ok w y st h' r:=by
 induction r with
 | bd=>exact Fld.at2 x k
 | ud=>exact Fld.at2 x k
 | ld=>refine xEE x ?_;clear x;intro t t' x;exact (yEE t t' (x.at2 k))
 | nodes=>refine xEA x ?_;clear x;intro vs a b;exact (yEA vs (a.at2 k) (Lo b i))
 | nums=>exact HD.at2 (fun a e=>L2.im a e) x k i
 | wts=>exact NL.at2 x k
 | dps=>exact NL.at2 x k
 | up=>exact NL.at2 x k
 | lots=>exact Lst.at2 x k
 | mrg=>refine xEA x ?_;clear x;intro vs a b;exact (yEA vs (a.at2 k) (b.mono fun _ _ q=>q.im i))
 | edges=>refine xEA x ?_;clear x;intro vs a b;exact (yEA vs (a.at2 k) b)
 | forest=>refine xEA x ?_;clear x;intro vs a b;exact (yEA vs (a.at2 k) b)
 | known=>exact HD.at2 (fun a e=>L2.im a e) x k i
 | above=>exact ID.at2 x k
 | wait=>exact NL.at2 x k
 | chg=>refine xEA x ?_;clear x;intro vs a b;exact (yEA vs (a.at2 k) (b.mono fun _ _ q=>q.im i))
 | mks=>refine LY x ?_;clear x;intro vs a b e;exact (M1 vs (a.at2 k) b (fun j v p h1 h2=>(e j v p h1 h2).im i))
 | cd=>refine xEA x ?_;clear x;intro mv a b;exact (yEA mv (a.at2 k) (b.im i))
 | ck=>exact HD.at2 (fun a e=>LK.im a e) x k i
 | pack=>refine xE x ?_;clear x;intro t x;exact⟨t,x.at2 k⟩
 | cells=>exact NL.at2 x k
 | lvls=>exact Lst.at2 x k
 | lot j=>exact fun l hl=>(x l hl).at2 k
 | ab j=>exact fun l hl=>(x l hl).at2 k
 | mk j=>exact fun l hl=>(x l hl).at2 k
theorem Ml{vs}(x:Lst h a vs):∃o,h.get? a=some o∧L3 o=true:=xE x fun n e=>(yEA _ e rfl)
theorem NQ{ns}(x:NL h a ns):∃o,h.get? a=some o∧L3 o=true:=xEA x fun vs e _=>Ml e
theorem My{mp n}(x:Fld h a mp n):∃o,h.get? a=some o∧L3 o=true:=MG x fun es ep e r=>(yEA _ e rfl)
theorem RK{K:Type}[DecidableEq K]{knd:Cy PG w K}{ps}(x:HD knd h d ps):∃o,h.get? d=some o∧L3 o=true:=by
 refine xEA x ?_;clear x;rintro xs ⟨o,es,ep,e,a1,a2,_⟩ _;exact (yEA o e (by unfold L3;rw[a2]))
theorem Qm{f}(x:ID w h d f):∃o,h.get? d=some o∧L3 o=true:=by
 refine xEA x ?_;clear x;rintro kvs ⟨o,es,ep,e,a1,a2,_⟩ _;exact (yEA o e (by unfold L3;rw[a2]))
theorem RJ{f}(x:SD w h d f):∃o,h.get? d=some o∧L3 o=true:=by
 refine xEA x ?_;clear x;rintro kvs ⟨o,es,ep,e,a1,a2,_⟩ _;exact (yEA o e (by unfold L3;rw[a2]))
theorem Ok.mu{w:Bo}{y:Lay}{st:St}{h:AE}{r:Ro}(x:Ok w y st h r)(hl:live st r):∃o,h.get? (y.ad r)=some o∧L3 o=true:=by
 induction r with
 | bd=>exact My x
 | ud=>exact My x
 | ld=>refine xEE x ?_;clear x;intro t t' x;exact My x
 | nodes=>refine xEA x ?_;clear x;intro vs a b;exact Ml a
 | nums=>exact RK x
 | wts=>exact NQ x
 | dps=>exact NQ x
 | up=>exact NQ x
 | lots=>exact Ml x
 | mrg=>refine xEA x ?_;clear x;intro vs a b;exact Ml a
 | edges=>refine xEA x ?_;clear x;intro vs a b;exact Ml a
 | forest=>refine xEA x ?_;clear x;intro vs a b;exact Ml a
 | known=>exact RK x
 | above=>exact Qm x
 | wait=>exact NQ x
 | chg=>refine xEA x ?_;clear x;intro vs a b;exact Ml a
 | mks=>refine LY x ?_;clear x;intro vs a b e;exact Ml a
 | cd=>refine xEA x ?_;clear x;intro mv a b;exact My a
 | ck=>exact RK x
 | pack=>refine xE x ?_;clear x;intro t x;exact RJ x
 | cells=>exact NQ x
 | lvls=>exact Ml x
 | lot j=>exact NQ (x _ (A7 hl))
 | ab j=>exact NQ (x _ (A7 hl))
 | mk j=>exact NQ (x _ (A7 hl))
noncomputable def isD:Ro→Bool | .nums | .known | .above | .ck | .pack=>true | _=>false
structure KW(y:Lay)(st:St)(h:AE):Prop where
 lv:Ins h y.lv cLv (y.ad .ld)
 bk:Ins h y.bk cBk (y.ad .bd)
 un:Ins h y.un cUn (y.ad .ud)
 ci:st.hasC=true→Ins h y.ci cCt (y.ad .cd)
 inj:∀r r',live st r→live st r'→y.ad r=y.ad r'→r=r'
 h0:∀r,live st r→c.H0.get? (y.ad r)=none
 gt:∀r,live st r→isD r=true→(y.ad r == Bp)=false
 ok:∀r,live st r→Ok c.w y st h r
noncomputable def Own(y:Lay)(st:St)(b:Addr):Prop:=∃r,live st r∧y.ad r=b
theorem KW.to{y:Lay}{st:St}{h h':AE}(G:KW y st h)(k:∀r,live st r→∀o,h.get? (y.ad r)=some o→h'.get? (y.ad r)=some o)(i:Im h h'):KW y st h':=
 ⟨G.lv.im i,G.bk.im i,G.un.im i,fun e=>(G.ci e).im i,G.inj,G.h0,G.gt,fun r hl=>(G.ok r hl).at2 (k r hl) i⟩
theorem KW.ext{y:Lay}{st:St}{h h':AE}(G:KW y st h)(e:Ext h h'):KW y st h':=G.to (fun r _ o x=>e _ _ x) e.im
theorem KW.ldK{y:Lay}{st:St}{h:AE}(G:KW y st h){P:Prop}(k:∀t t',Fld h (y.ad .ld) (lvF y (.ref (y.ad .wait)) (.int st.backs t) (.int st.made t')) 11→P):P:=xEE (G.ok .ld trivial) k
theorem KW.own_mut{y:Lay}{st:St}{h:AE}(G:KW y st h){b:Addr}(o:Own y st b):∃ob,h.get? b=some ob∧L3 ob=true:=by
 refine xEA o ?_;clear o;rintro r hl rfl;exact (G.ok r hl).mu hl
structure Gd(y0:Lay)(st0:St)(h0:AE)(y:Lay)(st:St)(H:AE):Prop where
 good:KW y st H
 keep:∀b o,¬Own y0 st0 b→h0.get? b=some o→H.get? b=some o
 own:∀b,Own y st b→Own y0 st0 b∨h0.get? b=none
 alive:∀b o,h0.get? b=some o→∃o',H.get? b=some o'
theorem Gd.refl{y:Lay}{st:St}{h:AE}(G:KW y st h):Gd y st h y st h:=⟨G,fun _ _ _ e=>e,fun _ o=>.inl o,fun _ o e=>⟨o,e⟩⟩
structure Ms(y:Lay)(st:St)(y':Lay)(st':St)(s s':A4):Prop where
 kp:Kp (Own y st) s s'
 own:∀b,Own y' st' b→Own y st b∨s.heap.get? b=none
 alive:∀b o,s.heap.get? b=some o→∃o',s'.heap.get? b=some o'
section
variable{s0 s s':A4}{H h0:AE}{Z:List (Addr×Obj)}{L:Addr}{m:A9→Option Value}{y y' y0:Lay}{st st' st0:St}
theorem Gd.ext(D:Gd y0 st0 h0 y st H)(e:Ext H H'):Gd y0 st0 h0 y st H':=⟨D.good.ext e,fun b o n x=>e _ _ (D.keep b o n x),D.own,fun b o x=>xE (D.alive b o x) fun o' z=>⟨o',e _ _ z⟩⟩
theorem Gd.ms(D:Gd y0 st0 s0.heap y st H)(F:Fm s0 H Z L m s):KW y st s.heap∧Ms y0 st0 y st s0 s:=
 ⟨D.good.ext F.keep,⟨fun b o n e=>F.keep _ _ (D.keep b o n e),F.gens,F.os⟩,D.own,fun b o x=>xE (D.alive b o x) fun o' z=>⟨o',F.keep _ _ z⟩⟩
theorem Gd.msK(D:Gd y0 st0 s0.heap y st H)(F:Fm s0 H Z L m s){G:Prop}(k:KW y st s.heap→Ms y0 st0 y st s0 s→G):G:=xA (D.ms F) k
theorem Fm.ms(F:Fm s0 H Z L m s)(G:KW y st H)(M:Ms y st y' st' s s')(G':KW y' st' s'.heap):∃H',Fm s0 H' Z L m s'∧KW y' st' H'∧(∀b o,¬Own y st b→H.get? b=some o→H'.get? b=some o)∧(∀b o,L3 o=false→s'.heap.get? b=some o→H'.get? b=some o)∧(∀b o,H.get? b=some o→∃o',H'.get? b=some o'):=by
 refine LY (F.kp M.kp (fun b o=>G.own_mut o) (fun b ⟨r,hl,e⟩=>e▸G.h0 r hl)) fun H' F' k1 k2=>?_
 have im:∀b o,L3 o=false→s'.heap.get? b=some o→H'.get? b=some o:=fun b o hm e=>by
  refine xA (F'.imm_apart e hm) fun a1 a2=>?_;exact k2 b o a1 a2 e
 refine (XG H' F' (G'.to (fun r hl o e=>?_) (fun b o hm e=>im b o hm e)) k1 im (fun b o e=>?_))
 rotate_left
 ·refine xE (M.alive _ _ (F.keep _ _ e)) fun o' e'=>?_;exact⟨o',k2 _ _ (fun q=>noo q F.noL e) (fun p hp hm q=>by rw[←q,(F.zs p hp).2.2 hm]at e;exact nomatch e) e'⟩
 refine k2 _ o (fun q=>?_) (fun p hp hm q=>?_) e
 ·rcases M.own _ (yEA r hl rfl)with ow | hn
  ·refine xEA (G.own_mut ow) fun ob e1 _=>?_;exact noo q F.noL e1
  ·refine T3 F.ns fun ob _ _ e1 _=>?_;exact nop q e1 hn
 ·rcases M.own _ (yEA r hl rfl)with ow | hn
  ·refine xEA (G.own_mut ow) fun ob e1 _=>?_;rw[←q,(F.zs p hp).2.2 hm]at e1;exact nomatch e1
  ·rw[←q,(F.zs p hp).1]at hn;exact nomatch hn
theorem Gd.call(D:Gd y0 st0 h0 y st H)(F:Fm s0 H Z L m s)(M:Ms y st y' st' s s')(G':KW y' st' s'.heap):∃H',Fm s0 H' Z L m s'∧Gd y0 st0 h0 y' st' H'∧(∀b o,¬Own y st b→H.get? b=some o→H'.get? b=some o)∧(∀b o,L3 o=false→s'.heap.get? b=some o→H'.get? b=some o):=by
 refine VL (F.ms D.good M G') fun H' F' G2 k1 k2 k3=>?_;refine (NT H' F' ⟨G2,fun b o n e=>k1 b o (fun ow=>?_) (D.keep b o n e),fun b ow=>?_,fun b o e=>xE (D.alive b o e) fun o' z=>k3 b o' z⟩ k1 k2)
 ·rcases D.own b ow with q | q
  ·exact n q
  ·rw[q]at e;exact nomatch e
 ·rcases M.own b ow with q | q
  ·exact D.own b q
  ·refine .inr ?_;exact Ky fun o e=>by refine xE (D.alive b o e) fun o' z=>?_;rw[F.keep _ _ z]at q;exact nomatch q
theorem Gd.callG(D:Gd y0 st0 h0 y st H)(F:Fm s0 H Z L m s)(M:Ms y st y' st' s s')(G':KW y' st' s'.heap){G:Prop}(k:∀H',Fm s0 H' Z L m s'→Gd y0 st0 h0 y' st' H'→(∀b o,¬Own y st b→H.get? b=some o→H'.get? b=some o)→(∀b o,L3 o=false→s'.heap.get? b=some o→H'.get? b=some o)→G):G:=LZ (D.call F M G') k
theorem Gd.set(D:Gd y0 st0 h0 y st H)(F:Fm s0 H Z L m s)(M:Mt (y.ad r0) s s')(hl:live st r0)(hok:Ok c.w y st' s'.heap r0)(hal:∃o,s'.heap.get? (y.ad r0)=some o)(hlive:∀r,live st' r→live st r)(hC:st'.hasC=st.hasC)(hrest:∀r h,r≠r0→live st' r→Ok c.w y st h r→Ok c.w y st' h r):∃H',Fm s0 H' Z L m s'∧Gd y0 st0 h0 y st' H'∧(∀b o,¬Own y st b→H.get? b=some o→H'.get? b=some o)∧(∀b o,L3 o=false→H.get? b=some o→H'.get? b=some o):=by
 refine xEA (D.good.own_mut (yEA r0 hl rfl)) fun o0 ho0 hm0=>?_;refine LY (F.mt M ho0 hm0 (D.good.h0 r0 hl)) fun H' F' k1 k2=>?_;have hLne:y.ad r0≠L:=fun q=>by exact noo q F.noL ho0
 have hZne:∀p∈Z,L3 p.2=true→p.1≠y.ad r0:=fun p hp hm q=>by rw[←q,(F.zs p hp).2.2 hm]at ho0;exact nomatch ho0
 have i:Im H H':=fun b o hm e=>k1 b o (fun q=>by rw[q,ho0]at e;obtain rfl:=Ag e;rw[hm0]at hm;exact nomatch hm) e
 have im':Im s'.heap H':=fun b o hm e=>by
  refine xA (F'.imm_apart e hm) fun a1 a2=>?_;exact k2 b o a1 a2 e
 have k1':∀b o,¬Own y st b→H.get? b=some o→H'.get? b=some o:=fun b o n e=>k1 b o (fun q=>n (yEA r0 hl q.symm)) e;refine (NT H' F' ⟨⟨D.good.lv.im i,D.good.bk.im i,D.good.un.im i,fun e=>(D.good.ci (hC▸e)).im i,fun r r' a b=>D.good.inj r r' (hlive r a) (hlive r' b),fun r a=>D.good.h0 r (hlive r a),fun r a=>D.good.gt r (hlive r a),fun r a=>?_⟩,fun b o n e=>k1' b o (fun ow=>?_) (D.keep b o n e),fun b ⟨r,a,q⟩=>D.own b (yEA r (hlive r a) q),fun b o e=>?_⟩ k1' i)
 rotate_right
 ·refine xE (D.alive b o e) fun o' z=>?_
  by_cases q:b=y.ad r0
  ·subst q;refine xE hal ?_;clear hal;intro o2 e2;exact⟨o2,k2 _ _ hLne hZne e2⟩
  ·exact⟨o',k1 _ _ q z⟩
 ·by_cases hr:r=r0
  ·subst hr;exact hok.at2 (fun o e=>k2 _ o hLne hZne e) im'
  ·refine hrest r H' hr a ((D.good.ok r (hlive r a)).at2 (fun o e=>k1 _ o (fun q=>hr (D.good.inj _ _ (hlive r a) hl q)) e) i)
 ·rcases D.own b ow with q | q
  ·exact n q
  ·rw[q]at e;exact nomatch e
noncomputable def mix(r0:Ro)(a b:St):St:=match r0 with
 | .ld=>{a with backs:=b.backs,made:=b.made}
 | .nodes=>{a with rows:=b.rows}
 | .nums=>{a with nums:=b.nums}
 | .wts=>{a with wts:=b.wts}
 | .dps=>{a with dps:=b.dps}
 | .up=>{a with up:=b.up}
 | .mrg=>{a with mrg:=b.mrg}
 | .edges=>{a with edges:=b.edges}
 | .forest=>{a with forest:=b.forest}
 | .known=>{a with known:=b.known}
 | .above=>{a with akeys:=b.akeys}
 | .wait=>{a with wait:=b.wait}
 | .chg=>{a with chg:=b.chg}
 | .cd=>{a with cmark:=b.cmark}
 | .ck=>{a with cknown:=b.cknown}
 | .pack=>{a with card:=b.card}
 | .cells=>{a with cells:=b.cells}
 | .lvls=>{a with lvls:=b.lvls}
 | _=>a
structure SB(r0:Ro)(a b:St):Prop where
 rows:r0≠.nodes→b.rows=a.rows
 nums:r0≠.nums→b.nums=a.nums
 wts:r0≠.wts→b.wts=a.wts
 dps:r0≠.dps→b.dps=a.dps
 up:r0≠.up→b.up=a.up
 mrg:r0≠.mrg→b.mrg=a.mrg
 edges:r0≠.edges→b.edges=a.edges
 forest:r0≠.forest→b.forest=a.forest
 known:r0≠.known→b.known=a.known
 akeys:r0≠.above→b.akeys=a.akeys
 wait:r0≠.wait→b.wait=a.wait
 backs:r0≠.ld→b.backs=a.backs
 made:r0≠.ld→b.made=a.made
 chg:r0≠.chg→b.chg=a.chg
 cmark:r0≠.cd→b.cmark=a.cmark
 cknown:r0≠.ck→b.cknown=a.cknown
 cells:r0≠.cells→b.cells=a.cells
 card:r0≠.pack→b.card=a.card
 lvls:r0≠.lvls→b.lvls=a.lvls
 lotn:b.lots.length≤a.lots.length
 lots:r0≠.lots→b.lots.length=a.lots.length
 lot:∀(i:Nat) l,r0≠.lot i→b.lots[i]?=some l→a.lots[i]?=some l
 abvn:b.abv.length≤a.abv.length
 ab:∀(i:Nat) l,r0≠.ab i→b.abv[i]?=some l→a.abv[i]?=some l
 mks:b.mks=a.mks
 hasC:b.hasC=a.hasC
theorem SB.mix(r0:Ro)(a b:St):SB r0 a (mix r0 a b):=by
 induction r0<;>constructor<;>first | rfl | exact fun _=>rfl | exact fun h=>absurd rfl h | exact fun _ _ _ h=>h | exact At _
theorem SB.live(S:SB r0 a b):live b r→live a r:=by
 induction r<;>unfold Mine.Internal.live<;>first | exact id | exact fun h=>Ac h S.lotn | exact fun h=>Ac h S.abvn | exact fun h=>S.mks▸h | exact fun h=>S.hasC▸h
namespace U20
noncomputable def pP(w:Bo)(y:Lay)(h:AE)(a b:St):Prop:=∀{r0:Ro}(S:SB r0 a b){r:Ro}(hr:r≠r0)(x:Ok w y a h r),Ok w y b h r
noncomputable def fF:=unz fun w=>unz fun y=>unz fun h=>unz fun a=>pP w y h a
noncomputable def kK:=epz (c.w,OG,default,dSt,dSt) fF
theorem tT:pP kK.1 kK.2.1 kK.2.2.1 kK.2.2.2.1 kK.2.2.2.2:=by
 intro r0 S r hr x;exact match r,hr,x with
 | .bd,_,x=>x
 | .ud,_,x=>x
 | .ld,hr,x=>by unfold Ok at x ⊢;rw[S.backs (B9 hr),S.made (B9 hr)];exact x
 | .nodes,hr,x=>by unfold Ok at x ⊢;rw[S.rows (B9 hr)];exact x
 | .nums,hr,x=>by unfold Ok at x ⊢;rw[S.nums (B9 hr)];exact x
 | .wts,hr,x=>by unfold Ok at x ⊢;rw[S.wts (B9 hr)];exact x
 | .dps,hr,x=>by unfold Ok at x ⊢;rw[S.dps (B9 hr)];exact x
 | .up,hr,x=>by unfold Ok at x ⊢;rw[S.up (B9 hr)];exact x
 | .lots,hr,x=>by unfold Ok at x ⊢;rw[S.lots (B9 hr)];exact x
 | .mrg,hr,x=>by unfold Ok at x ⊢;rw[S.mrg (B9 hr)];exact x
 | .edges,hr,x=>by unfold Ok at x ⊢;rw[S.edges (B9 hr)];exact x
 | .forest,hr,x=>by unfold Ok at x ⊢;rw[S.forest (B9 hr)];exact x
 | .known,hr,x=>by unfold Ok at x ⊢;rw[S.known (B9 hr)];exact x
 | .above,hr,x=>by unfold Ok abF at x ⊢;rw[S.akeys (B9 hr)];exact x
 | .wait,hr,x=>by unfold Ok at x ⊢;rw[S.wait (B9 hr)];exact x
 | .chg,hr,x=>by unfold Ok at x ⊢;rw[S.chg (B9 hr)];exact x
 | .mks,hr,x=>by unfold Ok at x ⊢;rw[S.mks];exact x
 | .cd,hr,x=>by unfold Ok at x ⊢;rw[S.cmark (B9 hr)];exact x
 | .ck,hr,x=>by unfold Ok at x ⊢;rw[S.cknown (B9 hr)];exact x
 | .pack,hr,x=>by unfold Ok at x ⊢;rw[S.card (B9 hr)];exact x
 | .cells,hr,x=>by unfold Ok at x ⊢;rw[S.cells (B9 hr)];exact x
 | .lvls,hr,x=>by unfold Ok at x ⊢;rw[S.lvls (B9 hr)];exact x
 | .lot i,hr,x=>fun l e=>x l (S.lot i l (B9 hr) e)
 | .ab i,hr,x=>fun l e=>x l (S.ab i l (B9 hr) e)
 | .mk i,hr,x=>by unfold Ok at x ⊢;rw[S.mks];exact x
end U20
theorem SB.ok{w y h a b}:U20.pP w y h a b:=@KB _ _ U20.fF U20.kK rfl U20.tT (w,y,h,a,b)
theorem SB.ab1(e:b=a.s_abv b.abv)(n:b.abv.length≤a.abv.length)(h:∀(i:Nat) l,i≠x→b.abv[i]?=some l→a.abv[i]?=some l):SB (.ab x) a b:=by
 have h':∀(i:Nat) l,Ro.ab x≠.ab i→b.abv[i]?=some l→a.abv[i]?=some l:=fun i l q=>h i l fun z=>q (by rw[z]);revert n h';rw[e];intro n h';constructor<;>first | exact n | exact h' | exact fun _=>rfl | rfl | exact fun _ _ _ h=>h | exact At _
theorem SB.lot1(e:b=a.s_lots b.lots)(n:b.lots.length=a.lots.length)(h:∀(i:Nat) l,i≠x→b.lots[i]?=some l→a.lots[i]?=some l):SB (.lot x) a b:=by
 have h':∀(i:Nat) l,Ro.lot x≠.lot i→b.lots[i]?=some l→a.lots[i]?=some l:=fun i l q=>h i l fun z=>q (by rw[z]);revert n h';rw[e];intro n h';constructor<;>first | exact Aa n | exact fun _=>n | exact h' | exact fun _=>rfl | rfl | exact fun _ _ _ h=>h | exact At _
theorem SB.lots1(e:b=a.s_lots b.lots)(n:b.lots.length≤a.lots.length)(h:∀(i:Nat) l,b.lots[i]?=some l→a.lots[i]?=some l):SB .lots a b:=by
 have h':∀(i:Nat) l,Ro.lots≠.lot i→b.lots[i]?=some l→a.lots[i]?=some l:=fun i l _=>h i l;revert n h';rw[e];intro n h';constructor<;>first | exact n | exact fun h=>absurd rfl h | exact h' | exact fun _=>rfl | rfl | exact fun _ _ _ h=>h | exact At _
theorem Gd.puts{r0:Ro}{st':St}(D:Gd y0 st0 h0 y st H)(F:Fm s0 H Z L m s)(M:Mt (y.ad r0) s s')(hl:live st r0)(hok:Ok c.w y st' s'.heap r0)(hal:∃o,s'.heap.get? (y.ad r0)=some o)(S:SB r0 st st'){G:Prop}(k:∀H',Fm s0 H' Z L m s'→Gd y0 st0 h0 y st' H'→(∀b o,¬Own y st b→H.get? b=some o→H'.get? b=some o)→(∀b o,L3 o=false→H.get? b=some o→H'.get? b=some o)→G):G:=
 LZ (D.set F M hl hok hal (fun _ h=>S.live h) S.hasC (fun _ _ hr _ x=>S.ok hr x)) k
theorem Gd.put{r0:Ro}{st':St}(D:Gd y0 st0 h0 y st H)(F:Fm s0 H Z L m s)(M:Mt (y.ad r0) s s')(hl:live st r0)(hok:Ok c.w y st' s'.heap r0)(hal:∃o,s'.heap.get? (y.ad r0)=some o)(e:st'=mix r0 st st'){G:Prop}(k:∀H',Fm s0 H' Z L m s'→Gd y0 st0 h0 y st' H'→(∀b o,¬Own y st b→H.get? b=some o→H'.get? b=some o)→(∀b o,L3 o=false→H.get? b=some o→H'.get? b=some o)→G):G:=
 D.puts F M hl hok hal (e▸SB.mix r0 st st') k
end
end
section
noncomputable def Lay.set(y:Lay)(r1:Ro)(a:Addr):Lay:={y with ad:=fun r=>if r=r1 then a else y.ad r}
theorem Lay.set_same(y:Lay)(r1:Ro)(a:Addr):(y.set r1 a).ad r1=a:=if_pos rfl
theorem Lay.set_ne(y:Lay)(a:Addr)(h:r≠r1):(y.set r1 a).ad r=y.ad r:=if_neg h
section
variable{s0 s s' sb:A4}{H h0:AE}{Z:List (Addr×Obj)}{L:Addr}{m:A9→Option Value}{y y' y0:Lay}{st st' st0:St}
theorem Gd.new(D:Gd y0 st0 h0 y st H)(F:Fm s0 H Z L m s)(M:Mt (y.ad r0) s s')(hl:live st r0)(hr1:r1≠.ld∧r1≠.bd∧r1≠.ud∧r1≠.cd)(haL:a≠L)(haZ:∀p∈Z,L3 p.2=true→p.1≠a)(hnO:¬Own y st a)(hH0:c.H0.get? a=none)(hgt:isD r1=true→(a == Bp)=false)(hown:Own y0 st0 a∨h0.get? a=none)(hal:∃o,s'.heap.get? (y.ad r0)=some o)(hok0:r0≠r1→Ok c.w (y.set r1 a) st' s'.heap r0)(hok1:Ok c.w (y.set r1 a) st' s'.heap r1)(hlive:∀r,live st' r→live st r∨r=r1)(hC:st'.hasC=st.hasC)(hrest:∀r h,r≠r0→r≠r1→live st' r→Ok c.w y st h r→Ok c.w (y.set r1 a) st' h r):∃H',Fm s0 H' Z L m s'∧Gd y0 st0 h0 (y.set r1 a) st' H'∧(∀b o,¬Own y st b→H.get? b=some o→H'.get? b=some o)∧(∀b o,L3 o=false→H.get? b=some o→H'.get? b=some o):=by
 refine xEA (D.good.own_mut (yEA r0 hl rfl)) fun o0 ho0 hm0=>?_;refine LY (F.mt M ho0 hm0 (D.good.h0 r0 hl)) fun H' F' k1 k2=>?_;have hLne:y.ad r0≠L:=fun q=>by exact noo q F.noL ho0
 have hZne:∀p∈Z,L3 p.2=true→p.1≠y.ad r0:=fun p hp hm q=>by rw[←q,(F.zs p hp).2.2 hm]at ho0;exact nomatch ho0
 have i:Im H H':=fun b o hm e=>k1 b o (fun q=>by rw[q,ho0]at e;obtain rfl:=Ag e;rw[hm0]at hm;exact nomatch hm) e
 have im':Im s'.heap H':=fun b o hm e=>by
  refine xA (F'.imm_apart e hm) fun a1 a2=>?_;exact k2 b o a1 a2 e
 have k1':∀b o,¬Own y st b→H.get? b=some o→H'.get? b=some o:=fun b o n e=>k1 b o (fun q=>n (yEA r0 hl q.symm)) e;have ald:(y.set r1 a).ad .ld=y.ad .ld:=y.set_ne a (fun q=>hr1.1 q.symm);have abd:(y.set r1 a).ad .bd=y.ad .bd:=y.set_ne a (fun q=>hr1.2.1 q.symm);have aud:(y.set r1 a).ad .ud=y.ad .ud:=y.set_ne a (fun q=>hr1.2.2.1 q.symm);have acd:(y.set r1 a).ad .cd=y.ad .cd:=y.set_ne a (fun q=>hr1.2.2.2 q.symm);have old:∀r,live st' r→r≠r1→live st r∧(y.set r1 a).ad r=y.ad r:=fun r h n=>⟨(hlive r h).elim id fun e=>absurd e n,y.set_ne a n⟩;have neA:∀r,live st' r→r≠r1→(y.set r1 a).ad r≠a:=fun r h n q=>hnO (yEA r ((old r h n).1) ((old r h n).2.symm.trans q));refine (NT H' F' ⟨⟨by rw[ald];exact D.good.lv.im i,by rw[abd];exact D.good.bk.im i,by rw[aud];exact D.good.un.im i,fun e=>by rw[acd];exact (D.good.ci (hC▸e)).im i,fun r r' h h' q=>?_,fun r h=>?_,fun r h hd=>?_,fun r h=>?_⟩,fun b o n e=>k1' b o (fun ow=>?_) (D.keep b o n e),fun b ⟨r,h,q⟩=>?_,fun b o e=>?_⟩ k1' i)
 rotate_right
 ·refine xE (D.alive b o e) fun o' z=>?_
  by_cases q:b=y.ad r0
  ·subst q;refine xE hal ?_;clear hal;intro o2 e2;exact⟨o2,k2 _ _ hLne hZne e2⟩
  ·exact⟨o',k1 _ _ q z⟩
 ·by_cases n:r=r1
  ·by_cases n':r'=r1
   ·rw[n,n']
   ·exfalso;rw[n,y.set_same]at q;exact neA r' h' n' q.symm
  ·by_cases n':r'=r1
   ·exfalso;rw[n',y.set_same]at q;exact neA r h n q
   ·exact D.good.inj _ _ (old r h n).1 (old r' h' n').1 (by rw[←(old r h n).2,←(old r' h' n').2];exact q)
 ·by_cases n:r=r1
  ·rw[n,y.set_same];exact hH0
  ·rw[(old r h n).2];exact D.good.h0 r (old r h n).1
 ·by_cases n:r=r1
  ·rw[n,y.set_same];exact hgt (n▸hd)
  ·rw[(old r h n).2];exact D.good.gt r (old r h n).1 hd
 ·by_cases n:r=r1
  ·subst n;exact hok1.at2 (fun o e=>by rw[y.set_same]at e ⊢;exact k2 _ o haL haZ e) im'
  ·by_cases hr:r=r0
   ·subst hr;exact (hok0 n).at2 (fun o e=>by rw[(old r h n).2]at e ⊢;exact k2 _ o hLne hZne e) im'
   ·exact hrest r H' hr n h ((D.good.ok r (old r h n).1).at2 (fun o e=>k1 _ o (fun q=>hr (D.good.inj _ _ (old r h n).1 hl q)) e) i)
 ·rcases D.own b ow with q | q
  ·exact n q
  ·rw[q]at e;exact nomatch e
 ·by_cases n:r=r1
  ·rw[n,y.set_same]at q;rw[←q];exact hown
  ·exact D.own b (yEA r ((old r h n).1) ((old r h n).2.symm.trans q))
theorem Gd.fresh(D:Gd y0 st0 h0 y st H)(Fb:Fm s0 H Z L m sb)(hn:sb.heap.get? a=none):a≠L∧(∀p∈Z,L3 p.2=true→p.1≠a)∧¬Own y st a∧c.H0.get? a=none∧h0.get? a=none:=by
 refine xAA (Fb.apart hn) fun a1 a2 a3=>?_;refine (UE a2 (fun p hp _=>a3 p hp) (fun ow=>?_) ?_ ?_)
 ·refine xEA (D.good.own_mut ow) fun o e _=>?_;rw[a1]at e;exact nomatch e
 ·exact Ky fun o e=>by rw[Fb.base.ext _ _ e]at a1;exact nomatch a1
 ·exact Ky fun o e=>by refine xE (D.alive _ _ e) fun o' z=>?_;rw[Fb.keep _ _ z]at hn;exact nomatch hn
theorem Gd.freshK(D:Gd y0 st0 h0 y st H)(Fb:Fm s0 H Z L m sb){a:Addr}(hn:sb.heap.get? a=none){G:Prop}(k:a≠L→(∀p∈Z,L3 p.2=true→p.1≠a)→¬Own y st a→c.H0.get? a=none→h0.get? a=none→G):G:=WR (D.fresh Fb hn) k
end
theorem Lst.al{vs}(x:Lst h a vs):∃o,h.get? a=some o:=xE x fun n e=>⟨_,e⟩
theorem NL.al{ns}(x:NL h a ns):∃o,h.get? a=some o:=xEA x fun vs e _=>e.al
theorem Fld.al{mp n}(x:Fld h a mp n):∃o,h.get? a=some o:=MG x fun es ep e r=>⟨_,e⟩
theorem HD.al{K:Type}[DecidableEq K]{knd:Cy PG w K}{ps}(x:HD knd h d ps):∃o,h.get? d=some o:=xEA (RK x) fun o e _=>⟨o,e⟩
theorem ID.al{f}(x:ID w h d f):∃o,h.get? d=some o:=xEA (Qm x) fun o e _=>⟨o,e⟩
theorem SD.al{f}(x:SD w h d f):∃o,h.get? d=some o:=xEA (RJ x) fun o e _=>⟨o,e⟩
example {w:Bo} {y:Lay} {st:St} {h:AE} {n:Nat} {a:Addr} (h1:Ok w y st h .nodes):Ok w (y.set (.lot n) a) (St.s_lots st (st.lots++[[n]])) h .nodes:=h1
example {w:Bo} {y:Lay} {st:St} {h:AE} {n:Nat} {a:Addr} (h1:Ok w y st h .bd):Ok w (y.set (.lot n) a) (St.s_lots st (st.lots++[[n]])) h .bd:=h1
example {w:Bo} {y:Lay} {st:St} {h:AE} {n:Nat} {a:Addr} (h1:Ok w y st h .chg):Ok w (y.set (.lot n) a) (St.s_lots st (st.lots++[[n]])) h .chg:=h1
example {w:Bo} {y:Lay} {st:St} {h:AE} {n:Nat} {a:Addr} (h1:Ok w y st h .above):Ok w (y.set (.lot n) a) (St.s_lots st (st.lots++[[n]])) h .above:=h1
end
section
end
section
section
variable{A:Aq}{s0 s s':A4}{H:AE}{Z:List (Addr×Obj)}{L:Addr}{m:A9→Option Value}{E:Value→A4→Prop}{env:Env}{Q:Value→A4→Prop}
theorem cI(F:Fm s0 H Z L m s)(h:∀s' t,Pu s s'→Fm s0 H Z L m s'→Q (.int i t) s'):A8 (MD c.w) A (AJ (.Constant (.int i) k pos) env) Q E s:=wpAny_Constant_int (h _ _ (Pu.tok _ _) (F.tok _))
theorem cS(F:Fm s0 H Z L m s)(h:∀s' t,Pu s s'→Fm s0 H Z L m s'→Q (.str x t) s'):A8 (MD c.w) A (AJ (.Constant (.str x) k pos) env) Q E s:=Ja (h _ _ (Pu.tok _ _) (F.tok _))
theorem bop{op:Operator}(h:A8 (MD c.w) A (AJ l env) (evK r E (boK op E Q A) env A) E s):A8 (MD c.w) A (AJ (.BinOp l op r pos) env) Q E s:=wpAny_BinOp h
theorem SW(F:Fm s0 H Z L m s)(h:∀s' t,Pu s s'→Fm s0 H Z L m s'→Q (.int (a+b) t) s'):A8 (MD c.w) A (GJ .Add (.int a t) (.int b u)) Q E s:=Kb (h _ _ (Pu.tok _ _) (F.tok _))
theorem Ti(F:Fm s0 H Z L m s)(h:∀s' t,Pu s s'→Fm s0 H Z L m s'→Q (.int (a - b) t) s'):A8 (MD c.w) A (GJ .Sub (.int a t) (.int b u)) Q E s:=K0 (h _ _ (Pu.tok _ _) (F.tok _))
theorem TG(h:A8 (MD c.w) A (AJ e env) (ls1 (lsK Fk A Q E)) E s)(he:autoParam (AG [e] env=[(false,AJ e env)]) au1._auto_1):A8 (MD c.w) A (AJ (.List [e] pos) env) Q E s:=
 List_ (sp1 h he)
theorem UI(h:A8 (MD c.w) A (AJ e env) (ls1 (lsK FP A Q E)) E s)(he:autoParam (AG [e] env=[(false,AJ e env)]) au1._auto_1):A8 (MD c.w) A (AJ (.Tuple [e] k pos) env) Q E s:=
 HF (sp1 h he)
theorem PU(h:A8 (MD c.w) A (AJ e env) (evK e2 E (ls2 (lsK FP A Q E)) env A) E s)(he:autoParam (AG [e,e2] env=[(false,AJ e env),(false,AJ e2 env)]) au1._auto_1):A8 (MD c.w) A (AJ (.Tuple [e,e2] k pos) env) Q E s:=HF (sp2 h he)
theorem Xk(h:A8 (MD c.w) A (AJ e env) (evK e2 E (ls2 (lsK Fk A Q E)) env A) E s)(he:autoParam (AG [e,e2] env=[(false,AJ e env),(false,AJ e2 env)]) au1._auto_1):A8 (MD c.w) A (AJ (.List [e,e2] pos) env) Q E s:=List_ (sp2 h he)
theorem XR(h:A8 (MD c.w) A (AJ e env) (evK e2 E (fun v=>evK e3 E (ls3 (lsK FP A Q E) v) env A) env A) E s)(he:autoParam (AG [e,e2,e3] env=[(false,AJ e env),(false,AJ e2 env),(false,AJ e3 env)]) au1._auto_1):A8 (MD c.w) A (AJ (.Tuple [e,e2,e3] k pos) env) Q E s:=HF (sp3 h he)
noncomputable abbrev inK(E:Value→A4→Prop)(Q:Value→A4→Prop)(A:Aq)(f:Value)(a:Value):List Value→A4→Prop:=fun vs s=>c.K.In s.heap∧A8 (MD c.w) A (call f (a::vs)) Q E s
inductive OwK(s0:A4)(H:AE)(Z:List (Addr×Obj))(L:Addr)(m:A9→Option Value)(C:Addr)(name:A9)(R:Value→A4→Prop)(ov:Value)(s:A4):Prop
 | mk(a dx:Addr)(mp:A9→Option Value)(k:Nat)(e:ov=.ref a)(F:Fm s0 H Z L m s)(I:Ins H a C dx)(D:Fld H dx mp k)(hp:mp name=none)(h:R (.ref a) s)
theorem PD(hK:NE→KE c.K C name f=true)(h:A8 (MD c.w) A (AJ o env) (OwK s0 H Z L m C name fun a s=>A8 (MD c.w) A (call (.ref f) [a]) Q E s) E s)(he:autoParam (AJ (.Call (.Attribute o name apos) [] [] pos) env=(do let ov ←AJ o env;Em apos.atName;let (f,first) ←Di [ov] (C3 ov name (do return (←BY o env).getD true));Cg pos f first (BO pos (AG [] env)) [])) au1._auto_1):A8 (MD c.w) A (AJ (.Call (.Attribute o name apos) [] [] pos) env) Q E s:=
 La (Al h (fun ov s₁ h₁=>by
  obtain⟨a,dx,mp,k,rfl,F,I,D,hp,hc⟩:=h₁;exact gm F I D hp hK (cw0 F hK hc)) fun _ _ e=>e) he
theorem Ly(hK:NE→KE c.K C name f=true)(h:A8 (MD c.w) A (AJ o env) (OwK s0 H Z L m C name (evK e1 E (fun a=>ls1 (inK E Q A (.ref f) a)) env A)) E s)(h1:autoParam (AG [e1] env=[(false,AJ e1 env)]) au1._auto_1)(he:autoParam (AJ (.Call (.Attribute o name apos) [e1] [] pos) env=(do let ov ←AJ o env;Em apos.atName;let (f,first) ←Di [ov] (C3 ov name (do return (←BY o env).getD true));Cg pos f first (BO pos (AG [e1] env)) [])) au1._auto_1):A8 (MD c.w) A (AJ (.Call (.Attribute o name apos) [e1] [] pos) env) Q E s:=
 La (Al h (fun ov s₁ h₁=>by
  obtain⟨a,dx,mp,k,rfl,F,I,D,hp,hc⟩:=h₁;exact gm F I D hp hK (cw F.ne hK (sp1 hc h1) h1)) fun _ _ e=>e) he
theorem PC(hK:NE→KE c.K C name f=true)(h:A8 (MD c.w) A (AJ o env) (OwK s0 H Z L m C name (evK e1 E (fun a=>evK e2 E (ls2 (inK E Q A (.ref f) a)) env A) env A)) E s)(h1:autoParam (AG [e1,e2] env=[(false,AJ e1 env),(false,AJ e2 env)]) au1._auto_1)(h2:autoParam (AG [e1,e2] env=(false,AJ e1 env)::AG [e2] env) au1._auto_1)(h3:autoParam ((BO pos (AG [e2] env)).any (·.1)=false) au1._auto_1)(he:autoParam (AJ (.Call (.Attribute o name apos) [e1,e2] [] pos) env=(do let ov ←AJ o env;Em apos.atName;let (f,first) ←Di [ov] (C3 ov name (do return (←BY o env).getD true));Cg pos f first (BO pos (AG [e1,e2] env)) [])) au1._auto_1):A8 (MD c.w) A (AJ (.Call (.Attribute o name apos) [e1,e2] [] pos) env) Q E s:=
 La (Al h (fun ov s₁ h₁=>by
  obtain⟨a,dx,mp,k,rfl,F,I,D,hp,hc⟩:=h₁;exact gm F I D hp hK (cw F.ne hK (sp2 hc h1) h2 h3)) fun _ _ e=>e) he
theorem Wf(hK:NE→KE c.K C name f=true)(h:A8 (MD c.w) A (AJ o env) (OwK s0 H Z L m C name (evK e1 E (fun a=>evK e2 E (fun v=>evK e3 E (ls3 (inK E Q A (.ref f) a) v) env A) env A) env A)) E s)(h1:autoParam (AG [e1,e2,e3] env=[(false,AJ e1 env),(false,AJ e2 env),(false,AJ e3 env)]) au1._auto_1)(h2:autoParam (AG [e1,e2,e3] env=(false,AJ e1 env)::AG [e2,e3] env) au1._auto_1)(h3:autoParam ((BO pos (AG [e2,e3] env)).any (·.1)=false) au1._auto_1)(he:autoParam (AJ (.Call (.Attribute o name apos) [e1,e2,e3] [] pos) env=(do let ov ←AJ o env;Em apos.atName;let (f,first) ←Di [ov] (C3 ov name (do return (←BY o env).getD true));Cg pos f first (BO pos (AG [e1,e2,e3] env)) [])) au1._auto_1):A8 (MD c.w) A (AJ (.Call (.Attribute o name apos) [e1,e2,e3] [] pos) env) Q E s:=
 La (Al h (fun ov s₁ h₁=>by
  obtain⟨a,dx,mp,k,rfl,F,I,D,hp,hc⟩:=h₁;exact gm F I D hp hK (cw F.ne hK (sp3 hc h1) h2 h3)) fun _ _ e=>e) he
theorem Fm.In(F:Fm s0 H Z L m s):c.K.In s.heap:=F.X
theorem lt_(h:Q (.bool (decide (a<b))) s):A8 (MD c.w) A (CB .Lt (.int a t) (.int b u)) Q E s:=K1 h
theorem gt_(h:Q (.bool (decide (b<a))) s):A8 (MD c.w) A (CB .Gt (.int a t) (.int b u)) Q E s:=K6 h
theorem eq_(h:Q (.bool (a == b)) s):A8 (MD c.w) A (CB .Eq (.int a t) (.int b u)) Q E s:=K8 h
theorem ne_(h:Q (.bool (a != b)) s):A8 (MD c.w) A (CB .NotEq (.int a t) (.int b u)) Q E s:=GL h
theorem le_(h:Q (.bool (decide (a≤b))) s):A8 (MD c.w) A (CB .LtE (.int a t) (.int b u)) Q E s:=by first | exact K5 h | exact _root_.PySem.Calls.le_int h | exact _root_.PyProof.PureInt.le_int h
end
end
section
section
variable{A:Aq}{s0 s s':A4}{H:AE}{Z:List (Addr×Obj)}{L:Addr}{m:A9→Option Value}{E:Value→A4→Prop}{env:Env}{Q:Value→A4→Prop}
theorem Lg(h:A8 (MD c.w) A (AJ e env) (fun v s₁=>∀s' sl,Pu s₁ s'→s'.heap.IsSliceOf sl v .none .none→Q (.ref sl) s') E s):A8 (MD c.w) A (AJ (.Slice (some e) none none p) env) Q E s:=
 wpAny_Slice (Al h (fun v s₁ h₁=>Ae (Ae (h₁ _ _ (Pu.push _ _) (GB _ _ _ _)))) fun _ _ x=>x)
theorem QI(h:A8 (MD c.w) A (AJ e env) (fun v s₁=>∀s' sl,Pu s₁ s'→s'.heap.IsSliceOf sl .none v .none→Q (.ref sl) s') E s):A8 (MD c.w) A (AJ (.Slice none (some e) none p) env) Q E s:=
 wpAny_Slice (Ae (Al h (fun v s₁ h₁=>Ae (h₁ _ _ (Pu.push _ _) (GB _ _ _ _))) fun _ _ x=>x))
theorem Vi(vs:List Value)(a:Nat)(sel:Nat→Bool)(hs:∀i,i<vs.length→(sel i=true↔a≤i)):(vs.zipIdx.filterMap fun (x,k)=>if sel k=true then none else some x)=vs.take a:=by
 have key:∀(l:List Value) (k:Nat),(∀i,k≤i→i<k+l.length→(sel i=true↔a≤i))→((l.zipIdx k).filterMap fun (x,k)=>if sel k=true then none else some x)=l.take (a - k):=by
  intro l
  induction l with
  | nil=>intro k _;simp
  | cons v l ih=>
   intro k h;have hk:=h k (At _) (by simp);have ih':=ih (k+1) (fun i h1 h2=>h i (by exact o30 h1) (by simp only[BN];exact aq185 h2));rw[List.zipIdx_cons,List.filterMap_cons];dsimp only
   by_cases q:a≤k
   ·rw[if_pos (hk.mpr q),ih',show a - (k+1)=0 by exact aq92 q,show a - k=0 by exact aq78 q];simp
   ·rw[if_neg (fun e=>q (hk.mp e)),ih',show a - k=(a - (k+1))+1 by exact aq28 q];rfl
 have:=key vs 0 (fun i _ h=>hs i (by simpa using h))
 assumption
namespace U21
noncomputable def pP(A:Aq)(s:A4)(E:Value→A4→Prop)(l sl:Addr)(vs:List Value)(a:Nat)(u:Tok):Prop:=∀{Q:Unit→A4→Prop}(hl:Lst s.heap l vs)(hs:s.heap.IsSliceOf sl (.int a u) .none .none)(ha:a≤vs.length)(hz:vs.length≤16000)(h:∀s',Mt l s s'→Lst s'.heap l (vs.take a)→Q () s'),A8 (MD c.w) A (GH (.ref l) (.ref sl)) Q E s
noncomputable def fF:=unz fun A=>unz fun s=>unz fun E=>unz fun l=>unz fun sl=>unz fun vs=>unz fun a=>pP A s E l sl vs a
noncomputable def kK:=epz ({},{},default) fF
noncomputable def s_:=kK.2.1
noncomputable def sl_:=kK.2.2.2.2.1
noncomputable def vs_:=kK.2.2.2.2.2.1
noncomputable def a_:=kK.2.2.2.2.2.2.1
noncomputable def u_:=kK.2.2.2.2.2.2.2
theorem tT:pP kK.1 s_ kK.2.2.1 kK.2.2.2.1 sl_ vs_ a_ u_:=by
 intro Q hl hs ha hz h;refine xE hl ?_;clear hl;intro n hl;have hL:=hl.isList;refine LY (id hs) fun os hos hcs hds=>?_;have hTs:s_.TypeIs (.ref sl_) "slice":=(yEA os hos hcs);refine wpAny_delItem_slot hL.typeIs (by decide) Gs ?_;refine BS Gs hL.typeIs PySem.F.entry_list_delitem ?_ (PySem.F.args_list_delitem_2 _ _);show A8 _ _ (DK (.ref sl_) >>= _) _ _ s_;refine A5 ?_;unfold DK;refine A5 (CP hTs slice_no_index ?_);simp only[Option.isNone_none,if_true];refine Ae ?_;show A8 _ _ (typeOf (.ref sl_) >>= _) _ _ s_;refine A5 (DS hTs ?_);rw[if_neg (by decide)];rw[listSliceParts_eq];refine A5 (A5 (EG hos hds (x:=.none) rfl (A5 (HA .none ?_))));rw[if_neg (show ¬((rawPart none == GS 0)=true)from Cz)];refine A5 (EG hos hds (x:=.int a_ u_) rfl (A5 (HA (.int a_ u_) ?_)));refine A5 (EG hos hds (x:=.none) rfl (A5 (HA .none (Ae ?_))));dsimp only;refine A5 (listItems_at hl rfl ?_);rw[show (rawPart (some (a_:Int)))=rawPart (some (a_:Int))from rfl]
 have hb:FN (some (a_:Int)) none none vs_.toArray.size=((a_:Int),(vs_.length:Int),1):=by
  unfold FN;simp only[Ay,Eu];have h1:¬((a_:Int)<0):=by exact n25
  simp only[h1,if_false];simp;exact o76 ha h1
 refine A5 (Hf (sliceIndices_raw (some (a_:Int)) none none _ (by simp)) ?_);rw[hb];dsimp only;refine A5 (E5 ?_);have hsel:∀g:Nat→Bool,(∀i,i<vs_.length→(g i=true↔a_≤i))→(vs_.toArray.toList.zipIdx.filterMap fun (x,k)=>if g k=true then none else some x).toArray=(vs_.take a_).toArray:=fun g hg=>by rw[Co,Vi vs_ a_ g hg]
 refine A5 (Gf hl rfl ?_ (by rw[Ay,AT];exact n1 hz) ?_)
 ·refine A5 (IN ?_);refine Ae (yEA .none rfl ?_);refine h _ Mt.up ?_;have q:=hl.update (fun xs=>(xs.toList.zipIdx.filterMap fun (x,k)=>if ((if (1:Int) > 0 then decide ((a_:Int)≤(k:Int)) && decide ((k:Int)<(vs_.length:Int)) && ((k:Int) - (a_:Int)) % 1 == 0 else decide ((vs_.length:Int)<(k:Int)) && decide ((k:Int)≤(a_:Int)) && ((a_:Int) - (k:Int)) % (-1) == 0))=true then none else some x).toArray);rw[hsel (fun k=>if (1:Int) > 0 then decide ((a_:Int)≤(k:Int)) && decide ((k:Int)<(vs_.length:Int)) && ((k:Int) - (a_:Int)) % 1 == 0 else decide ((vs_.length:Int)<(k:Int)) && decide ((k:Int)≤(a_:Int)) && ((a_:Int) - (k:Int)) % (-1) == 0) (fun i hi=>by simp;lia)]at q;exact⟨_,q⟩
 ·rw[Ay];refine A0 (List.length_filterMap_le _ _) ?_;rw[FH,Co,AT];exact A0 ‹_› (by decide)
end U21
theorem Og{A s E l sl vs a u}:U21.pP A s E l sl vs a u:=@KB _ _ U21.fF U21.kK rfl U21.tT (A,s,E,l,sl,vs,a,u)
theorem TH{l sl:Addr}{vs:List Value}{b:Nat}{u:Tok}(F:Fm s0 H Z L m s)(hl:Lst s.heap l vs)(hs:s.heap.IsSliceOf sl .none (.int b u) .none)(hz:vs.length≤16000)(h:∀s' a,Pu s s'→Fm s0 H Z L m s'→Lst s'.heap a (vs.take b)→s.heap.get? a=none→Q (.ref a) s'):A8 (MD c.w) A (Cr (.ref l) (.ref sl)) Q E s:=by
 refine EM hl.isList hs .none (.int b u) .none (by simp) ?_ (by rw[Ay,AT];exact n1 hz)
 have e:JB vs.toArray none (some (b:Int)) none=(vs.take b).toArray:=by
  rw[Io vs.toArray (a:=0) (b:=min b vs.length) (by
   unfold FN;have h1:¬((b:Int)<0):=by exact n25
   simp only[Eu,Ay,h1,if_false];simp;exact o51 h1)]
  rw[Co,GR,HI,kmk_take_min]
 rw[e];exact h _ _ (Pu.push _ _) (F.pu (Pu.push _ _)) (Lst.new _ _) (KM _)
end
end
section
section
variable{A:Aq}{s0 s s':A4}{H:AE}{Z:List (Addr×Obj)}{L:Addr}{m:A9→Option Value}{E:Value→A4→Prop}{env:Env}{Q:Value→A4→Prop}
theorem Z4{t:Addr}{vs:List Value}{k:Nat}{u:Tok}{v:Value}(ht:Tpl s.heap t vs)(hk:k<100000)(hx:vs[k]?=some v)(h:Q v s):A8 (MD c.w) A (Cr (.ref t) (.int k u)) Q E s:=by
 have hlt:k<vs.length:=(Af.mp hx).1;refine K7 ht.isTup (by simp) (by exact aq257 hk) (j:=k) ?_ (by simpa using hx) h;unfold JC;simp;lia
theorem Mg{value slice:Expr}{t:Addr}{vs:List Value}{k:Nat}{u:Tok}{v:Value}(ht:Tpl s.heap t vs)(hk:k<100000)(hx:vs[k]?=some v)(h:Q v s)(hs:autoParam (Cn slice false (.ref t) (.int k u)=DW [.ref t,.int k u] (Cr (.ref t) (.int k u))) au3._auto_1):A8 (MD c.w) A (BQ value slice (.ref t) (.int k u)) Q E s:=
 Dq (T:="tuple") (xE ht fun n e=>(yEA _ e rfl)) slot_tuple_getitem.lookup (Z4 ht hk hx h) hs
theorem XS{t sl:Addr}{vs:List Value}{a:Nat}{u:Tok}(F:Fm s0 H Z L m s)(ht:Tpl s.heap t vs)(hs:s.heap.IsSliceOf sl (.int a u) .none .none)(h1:1≤a)(ha:a≤vs.length)(hz:vs.length≤16000)(h:∀s' b,Pu s s'→Fm s0 H Z L m s'→Tpl s'.heap b (vs.drop a)→s.heap.get? b=none→Q (.ref b) s'):A8 (MD c.w) A (Cr (.ref t) (.ref sl)) Q E s:=by
 refine getItem_tuple_from ht.isTup hs h1 (by simpa using ha) ?_ (by rw[Ay,AT];exact n1 hz);exact h _ _ (Pu.push _ _) (F.pu (Pu.push _ _)) (Tpl.new _ _) (KM _)
theorem L6{value slice:Expr}{t sl:Addr}{vs:List Value}{a:Nat}{u:Tok}(F:Fm s0 H Z L m s)(ht:Tpl s.heap t vs)(hs:s.heap.IsSliceOf sl (.int a u) .none .none)(h1:1≤a)(ha:a≤vs.length)(hz:vs.length≤16000)(h:∀s' b,Pu s s'→Fm s0 H Z L m s'→Tpl s'.heap b (vs.drop a)→s.heap.get? b=none→Q (.ref b) s')(hs':autoParam (Cn slice false (.ref t) (.ref sl)=DW [.ref sl,.ref t] (Cr (.ref t) (.ref sl))) au3._auto_1):A8 (MD c.w) A (BQ value slice (.ref t) (.ref sl)) Q E s:=
 Dq (T:="tuple") (xE ht fun n e=>(yEA _ e rfl)) slot_tuple_getitem.lookup (XS F ht hs h1 ha hz h) hs'
theorem Tg{value slice:Expr}{l sl:Addr}{vs:List Value}{b:Nat}{u:Tok}(F:Fm s0 H Z L m s)(hl:Lst s.heap l vs)(hs:s.heap.IsSliceOf sl .none (.int b u) .none)(hz:vs.length≤16000)(h:∀s' a,Pu s s'→Fm s0 H Z L m s'→Lst s'.heap a (vs.take b)→s.heap.get? a=none→Q (.ref a) s')(hs':autoParam (Cn slice false (.ref l) (.ref sl)=DW [.ref sl,.ref l] (Cr (.ref l) (.ref sl))) au3._auto_1):A8 (MD c.w) A (BQ value slice (.ref l) (.ref sl)) Q E s:=
 Dq hl.isList.typeIs slot_list_getitem.lookup (TH F hl hs hz h) hs'
theorem WX(F:Fm s0 H Z L m s)(ht:Tpl s.heap t vs)(hb:Tpl s.heap b ws)(hv:vs≠[])(hz:vs.length+ws.length≤16000)(h:∀s' a,Pu s s'→Fm s0 H Z L m s'→Tpl s'.heap a (vs++ws)→Q (.ref a) s'):A8 (MD c.w) A (GJ .Add (.ref t) (.ref b)) Q E s:=by
 by_cases hw:ws=[]
 ·subst hw;have Fr0:Ke {s.heap with objs:=#[]} L s.heap m:=⟨F.ns,fun b o e=>by unfold Heap.get? at e;trivial,by exact Bi _⟩;refine add_tuples Fr0 (news:=[]) (fun p hp=>by exact absurd hp Ah) ht.isTup hb.isTup (fun q=>absurd q hv) (fun _ _=>?_) (fun _ q=>absurd rfl q) (by rw[AT];exact n1 hz);exact h _ _ (Pu.refl _) F (by simpa using ht)
 ·refine xE ht ?_;clear ht;intro n e;refine xE hb ?_;clear hb;intro n2 e2;refine P.add_tuple e e2 (by simpa using hv) (by simpa using hw) ?_ (by rw[Ay,Ay,AT];exact n1 hz);have:=h {s with heap:=s.heap.push {cls:=.type "tuple",data:=.seq (vs++ws).toArray}} s.heap.objs.size (Pu.push _ _) (F.pu (Pu.push _ _)) (Tpl.new _ _);simpa using this
theorem UH(F:Fm s0 H Z L m s)(hl:Lst s.heap l vs)(hz:vs.length≤16000)(h:∀s' a,Pu s s'→Fm s0 H Z L m s'→Tpl s'.heap a vs→Q (.ref a) s'):A8 (MD c.w) A (call (.type "tuple") [.ref l]) Q E s:=by
 refine call_tuple_list hl.isList (fun h' k=>?_);have p:Pu s {s with heap:=h'.push {cls:=.type "tuple",data:=.seq vs.toArray}}:=⟨fun b o e=>Ak _ (k b o e),rfl,rfl⟩;exact h _ _ p (F.pu p) (Tpl.new _ _)
theorem XQ(hl:Tpl s.heap l vs)(h:Q (.ref l) s):A8 (MD c.w) A (call (.type "tuple") [.ref l]) Q E s:=call_tuple_tup hl.isTup h
theorem R5(F:Fm s0 H Z L m s)(hl:Tpl s.heap l vs)(hz:vs.length≤16000)(h:∀s' t,Pu s s'→Fm s0 H Z L m s'→Q (.int (vs.length:Nat) t) s'):A8 (MD c.w) A (call (.builtin "len") [.ref l]) Q E s:=
 len_tuple hl.isTup (by rw[Ay];exact n16 hz) (by rw[Ay];exact h _ _ (Pu.tok _ _) (F.tok _))
end
end
section
section
variable{w:Bo}{A:Aq}{E:Value→A4→Prop}{s:A4}{Q:Value→A4→Prop}
theorem Ry(hh:A.handled=none)(a b:Value){op:CmpOp}(hc:CmpOf PG w A op (fun i v=>(#[a,b]:Array Value)[i]?=some v) bt)(h:∀v s',(#[a,b]:Array Value)[EK bt 1]?=some v→Pu s s'→Q v s'):A8 (MD w) A (Dr (.ref s.heap.objs.size)) (fun it s₂=>∃I fp wr n P St bt,it=.ref I∧Walks PG w A I fp wr n P St∧St 0 s₂.heap∧(∀b∈fp,b<s₂.heap.objs.size)∧0<n∧CmpOf PG w A op P bt∧
   ∀v h' tk,P (EK bt (n - 1)) v→(∀b o,b∉wr→s₂.heap.get? b=some o→h'.get? b=some o)→Q v {s₂ with heap:=h',toks:=tk}) E {s with heap:=s.heap.push {cls:=.type "tuple",data:=.seq #[a,b]}}:=by
 have hT:(s.heap.push {cls:=.type "tuple",data:=.seq #[a,b]}).IsTuple s.heap.objs.size #[a,b]:=(QB _ (AB _ rfl) rfl 0 rfl);have hsz:(s.heap.push {cls:=.type "tuple",data:=.seq #[a,b]}).objs.size=s.heap.objs.size+1:=Bu ..;refine J9 hT ?_
 refine⟨_,[_,s.heap.objs.size],[_],_,_,_,_,rfl,Jr (A:=A) hh _ s.heap.objs.size (by rw[hsz];exact Az (AS _)) #[a,b],
  ⟨(M1 _ (AB _ rfl) rfl rfl),hT.at fun o e=>Ak _ e⟩,fun c hc=>?_,by exact Cj _,hc,fun v h' tk hP hk=>?_⟩
 ·show c<((s.heap.push _).push _).objs.size;rw[Bu,hsz];rcases As.mp hc with rfl | hc
  ·rw[hsz];exact AS _
  ·rcases As.mp hc with rfl | hc
   ·exact AA (AS _)
   ·exact absurd hc Ah
 ·refine h v {s with heap:=h',toks:=tk} ‹_› ⟨fun c o e=>?_,rfl,rfl⟩;refine hk c o (fun hm=>?_) (Ak _ (Ak _ e));rcases As.mp hm with e1 | hm
  ·have:=AM e;rw[e1,hsz]at this;exact B3 _ (DH this)
  ·exact absurd hm Ah
theorem Sq(hh:A.handled=none)(h:∀s' t',Pu s s'→Q (.int (max a b:Nat) t') s'):A8 (MD w) A (call (.builtin "max") [.int a t,.int b u]) Q E s:=by
 refine call_max_two (Ry (A:=A.in1) hh _ _ (J8 (fun i=>if i=0 then (a:Int)else b) fun i v hv=>?_) fun v s' hv p=>?_)
 ·match i,hv with
  | 0,hv=>simp at hv;exact⟨t,hv.symm⟩
  | 1,hv=>simp at hv;exact⟨u,hv.symm⟩
  | n+2,hv=>trivial
 ·by_cases q:a<b
  ·have:EK (fun i j=>decide ((if i=0 then (a:Int)else b) > (if j=0 then (a:Int)else b))) 1=1:=by simp[EK];exact o23 q
   rw[this]at hv;simp at hv;subst hv;rw[show (b:Int)=((max a b:Nat):Int) by exact aq176 q];exact h s' u p
  ·have:EK (fun i j=>decide ((if i=0 then (a:Int)else b) > (if j=0 then (a:Int)else b))) 1=0:=by simp[EK];exact o25 q
   rw[this]at hv;simp at hv;subst hv;rw[show (a:Int)=((max a b:Nat):Int) by exact aq101 q];exact h s' t p
theorem Y8(hh:A.handled=none)(h:∀s' t',Pu s s'→Q (.int (min a b:Nat) t') s'):A8 (MD w) A (call (.builtin "min") [.int a t,.int b u]) Q E s:=by
 refine call_min_two (Ry (A:=A.in1) hh _ _ (CmpOf.ints_lt (fun i=>if i=0 then (a:Int)else b) fun i v hv=>?_) fun v s' hv p=>?_)
 ·match i,hv with
  | 0,hv=>simp at hv;exact⟨t,hv.symm⟩
  | 1,hv=>simp at hv;exact⟨u,hv.symm⟩
  | n+2,hv=>trivial
 ·by_cases q:b<a
  ·have:EK (fun i j=>decide ((if i=0 then (a:Int)else b)<(if j=0 then (a:Int)else b))) 1=1:=by simp[EK];exact o23 q
   rw[this]at hv;simp at hv;subst hv;rw[show (b:Int)=((min a b:Nat):Int) by exact aq174 q];exact h s' u p
  ·have:EK (fun i j=>decide ((if i=0 then (a:Int)else b)<(if j=0 then (a:Int)else b))) 1=0:=by simp[EK];exact o25 q
   rw[this]at hv;simp at hv;subst hv;rw[show (a:Int)=((min a b:Nat):Int) by exact aq232 q];exact h s' t p
theorem VS(hh:A.handled=none)(hl:Lst s.heap l vs)(hv:LH vs ns)(h:∀s' t',Pu s s'→Q (.int (ns.sum:Nat) t') s'):A8 (MD w) A (call (.builtin "sum") [.ref l]) Q E s:=by
 refine xE hv.ints.allInts.items fun xs hx=>?_;refine sum_intListG hh (hx▸hl.isList) fun h' tk t' hk=>?_
 have e1:ns.map Cw=xs.toList.map (·.1):=by
  rw[←nums_intItems,←hx];exact (show numsOf vs.toArray.toList=ns.map Cw from (by simpa using hv.ints.numsOf)).symm
 have e3:∀l:List Nat,(l.map Cw).sum=((l.sum:Nat):Int):=by
  intro l
  induction l with
  | nil=>rfl
  | cons a l ih=>rw[Cu,Cf,Cf,ih];simp
 have e2:preSum (numAt xs) xs.size=((ns.sum:Nat):Int):=by
  rw[preSum_eq,Hw (by simp),←e1,e3]
 rw[e2];exact h _ t' ⟨hk,rfl,rfl⟩
namespace U22
noncomputable def pP(w:Bo)(A:Aq)(E:Value→A4→Prop)(s:A4)(Q:Value→A4→Prop)(l:Addr)(vs:List Value)(ns:List Nat):Prop:=∀(hh:A.handled=none)(hl:Lst s.heap l vs)(hv:LH vs ns)(hne:0<ns.length)(h:∀s' k t',Pu s s'→k∈ns→Q (.int (k:Nat) t') s'),A8 (MD w) A (call (.builtin "max") [.ref l]) Q E s
noncomputable def fF:=unz fun w=>unz fun A=>unz fun E=>unz fun s=>unz fun Q=>unz fun l=>unz fun vs=>pP w A E s Q l vs
noncomputable def kK:=epz (c.w,{},default,{},default) fF
noncomputable def A_:=kK.2.1
noncomputable def s_:=kK.2.2.2.1
noncomputable def l_:=kK.2.2.2.2.2.1
noncomputable def vs_:=kK.2.2.2.2.2.2.1
noncomputable def ns_:=kK.2.2.2.2.2.2.2
theorem tT:pP kK.1 A_ kK.2.2.1 s_ kK.2.2.2.2.1 l_ vs_ ns_:=by
 intro hh hl hv hne h;refine xE hl ?_;clear hl;intro n hl';have hlt:l_<s_.heap.objs.size:=AM hl';refine call_max_walk (DU hl'.isList ?_);refine⟨_,_,_,_,_,_,_,rfl,JI (A:=A_.in1) hh _ l_ (Az hlt) vs_.toArray,⟨(M1 _ (AB _ rfl) rfl rfl),hl'.isList.push _⟩,fun c hc=>?_,by rw[Ay,hv.1];exact hne,J8 (fun i=>((ns_.getD i 0:Nat):Int)) (fun i v hP=>?_),fun v h' tk hP hk=>?_⟩
 ·show c<(s_.heap.push _).objs.size;rw[Bu];rcases As.mp hc with rfl | hc
  ·exact AS _
  ·rw[Ab]at hc;rw[hc];exact AA hlt
 ·refine xEA (hv.get' (by simpa using hP)) ?_;rintro k hk ⟨t,rfl⟩;exact⟨t,by rw[A6,hk];rfl⟩
 ·refine xEA (hv.get' (by simpa using hP)) ?_;rintro k hk' ⟨t,rfl⟩;refine h _ k t ⟨fun b o e=>hk b o (fun hm=>?_) (Ak _ e),rfl,rfl⟩ (Av hk');rw[Ab]at hm;have:=AM e;rw[hm]at this;exact B3 _ this
end U22
theorem Y9{w A E s Q l vs ns}:U22.pP w A E s Q l vs ns:=@KB _ _ U22.fF U22.kK rfl U22.tT (w,A,E,s,Q,l,vs,ns)
end
end
section
noncomputable def Q6(p:List Nat)(n:Nat):Nat→Nat:=Nat.rec (fun a=>a) (fun _ ih a=>if p.getD a a<a then ih (p.getD a a)else a) n
noncomputable def Ku(p:List Nat)(a:Nat):Nat:=Q6 p a a
theorem UT(p:List Nat):∀n m a,a≤n→a≤m→Q6 p n a=Q6 p m a:=by
 have z:∀m,Q6 p m 0=0:=fun m=>by
  cases m with
  | zero=>rfl
  | succ m=>exact (show (if p.getD 0 0<0 then Q6 p m (p.getD 0 0)else 0)=0 from if_neg (C0 _))
 intro n
 induction n with
 | zero=>intro m a h _;obtain rfl:=Fs.mp h;rw[z,z]
 | succ n ih=>
  intro m a h k
  cases m with
  | zero=>obtain rfl:=Fs.mp k;rw[z,z]
  | succ m=>
   show (if p.getD a a<a then Q6 p n (p.getD a a)else a)=if p.getD a a<a then Q6 p m (p.getD a a)else a;split
   ·rename_i l;exact ih m _ (AH (Ac l h)) (AH (Ac l k))
   ·rfl
theorem Nu(p:List Nat)(a:Nat):Ku p a=if p.getD a a<a then Ku p (p.getD a a)else a:=by
 cases a with
 | zero=>exact (if_neg (C0 _)).symm
 | succ a=>
  show (if p.getD (a+1) (a+1)<a+1 then Q6 p a (p.getD (a+1) (a+1))else a+1)=_;split
  ·rename_i l;exact UT p _ _ _ (AH l) (At _)
  ·rfl
noncomputable def Low(p:List Nat):Prop:=∀(i x:Nat),p[i]?=some x→x≤i
section
variable{A:Aq}{s:A4}{E Q:Value→A4→Prop}{y:Lay}{st:St}
inductive KU0(s:A4)(y:Lay)(st:St)(a:Nat)(L:Addr)(n:Nat)(s':A4):Prop
 | mk(m:A9→Option Value)(a':Nat)(t':Tok)(a1:Fm s s.heap [] L m s')(a2:m "self" = some (.ref y.un))(a3:m "a" = some (.int (a':Nat) t'))(a4:Ku st.up a'=Ku st.up a)(a5:a'<st.up.length)(a6:n=a')
inductive KU1(s:A4)(st:St)(a:Nat)(L:Addr)(s':A4):Prop
 | mk(m:A9→Option Value)(t':Tok)(a1:Fm s s.heap [] L m s')(a2:m "a" = some (.int (Ku st.up a:Nat) t'))
theorem Qu(rm:Rm A 1 33)(B:Bs s.heap)(G:KW y st s.heap)(low:Low st.up)(ha:a<st.up.length)(hp:st.up.length≤1000)(k:∀s' t',Pu s s'→Q (.int (Ku st.up a) t') s'):A8 (MD c.w) A (call (.ref 311) [.ref y.un,.int a t]) Q E s:=by
 refine LG rfl ‹_› ‹_› rfl (Dw rfl) (by decide) rfl rfl rfl ?_;dsimp only[Bg,Bj,AV,AW,AF];intro A L s1 rm F;refine xEA (G.ok .up trivial) fun vs hl hn=>?_
 refine Nl (OK (KU0 s y st a L)
  (P:=KU1 s st a L) (fun n s1 hI=>?_) a ⟨_,a,t,F,rfl,rfl,rfl,ha,rfl⟩) ?_
 ·obtain⟨m,a',t',F,m1,m2,hr,hlt,rfl⟩:=hI;have hx:st.up[n]?=some (st.up[n]):=A7 hlt;refine XJ (hn.get hx) ?_;rintro v hv t1 rfl;have hle:=low _ _ hx;refine wpAny_isTrue_Compare1 (Subscript_ (L9 F m1 G.un (G.ok .ud trivial) rfl KZ rfl fun s2 P F=>Kv F m2 (KI (hl.ext F.keep) (by exact n3) (by exact n5 hlt hp) (by simpa using hv) (Kv F m2 (GL (Ai ?_))))))
  by_cases hpn:st.up[n]=n
  ·refine Ks (by simp[hpn]) ?_;refine⟨m,t',F,?_⟩;rw[m2,←hr,Nu,if_neg (by rw[A6,hx];simp[hpn])]
  ·refine KC (by simp;exact aq240 hlt hle hpn) ?_;refine Lw (Subscript_ (L9 F m1 G.un (G.ok .ud trivial) rfl KZ rfl fun s2 P F=>Kv F m2 (KI (hl.ext F.keep) (by exact n3) (by exact n5 hlt hp) (by simpa using hv) (L4 F fun s3 F=>Kt ⟨rfl,st.up[n],by exact o89 hlt hle hpn,_,st.up[n],t1,F,m1,rfl,?_,by exact An ‹_› ‹_›,rfl⟩))));rw[←hr]
   conv=>rhs;rw[Nu]
   rw[if_pos (by rw[A6,hx];simp;exact o89 hlt hle hpn)];rw[A6,hx];rfl
 ·rintro s2 ⟨m,t',F,m2⟩;exact KS (Kv F m2 (k _ _ ⟨F.keep,F.gens,F.os⟩))
namespace U24
noncomputable def pP(A:Aq)(s:A4)(E Q:Value→A4→Prop)(y:Lay)(st:St)(n:Nat):Prop:=∀(rm:Rm A 1 33)(B:Bs s.heap)(G:KW y st s.heap)(hn:st.up.length=n)(hn2:st.lots.length=n)(hz:n≤1000)(k:∀s' t' a,Ms y st (y.set (.lot n) a) (St.s_lots (St.s_up st (st.up++[n])) (st.lots++[[n]])) s s'→KW (y.set (.lot n) a) (St.s_lots (St.s_up st (st.up++[n])) (st.lots++[[n]])) s'.heap→Q (.int n t') s'),A8 (MD c.w) A (call (.ref 297) [.ref y.un]) Q E s
noncomputable def fF:=unz fun A=>unz fun s=>unz fun E=>unz fun Q=>unz fun y=>unz fun st=>pP A s E Q y st
noncomputable def kK:=epz ({},{},default,default,OG,dSt,default) fF
noncomputable def A_:=kK.1
noncomputable def y_:=kK.2.2.2.2.1
noncomputable def st_:=kK.2.2.2.2.2.1
noncomputable def n_:=kK.2.2.2.2.2.2
theorem tT:pP A_ kK.2.1 kK.2.2.1 kK.2.2.2.1 y_ st_ n_:=by
 intro rm B G hn hn2 hz k;refine LG rfl ‹_› ‹_› rfl (Dw rfl) (by decide) rfl rfl rfl ?_;dsimp only[Bg,Bj,AV,AW,AF];intro A_ L s1 rm F;have D:=Gd.refl G;refine xEA (G.ok .up trivial) fun vs hl hnn=>?_;refine L8 (La (L9 F rfl G.un (G.ok .ud trivial) rfl KZ rfl fun s2 P F=>Rq (hl.ext F.keep) ?_));refine KN F KL rfl (by decide) (sp1 (L9 F rfl G.un (G.ok .ud trivial) rfl KZ rfl fun s3 P F=>Lj F (hl.ext F.keep) (by rw[hnn.1];exact n2 hn hz) fun s4 t P F=>⟨vs,hl.ext F.keep,by rw[hnn.1];exact n2 hn hz,fun s5 M hl5=>?_⟩));rw[hnn.1,hn]at hl5;refine D.put (r0:=.up) (st':=(St.s_up st_ (st_.up++[n_]))) F M trivial (yEA _ hl5 (hnn.snoc ⟨t,rfl⟩)) hl5.al rfl fun H1 F D k1 _=>?_;have G:=D.good;have hlots:Lst H1 (y_.ad .lots) ((Ap st_.lots.length).map fun i=>.ref (y_.ad (.lot i))):=G.ok .lots trivial;have hz2:((Ap st_.lots.length).map fun i=>AN (y_.ad (.lot i))).length=n_:=by simp[hn2]
 refine L8 (La (L9 F rfl G.un (G.ok .ud trivial) rfl Lc rfl fun s6 P F=>Rq (hlots.ext F.keep) ?_));have Fb:=F;refine TG (KN F KL rfl (by decide) (sp1 (L9 F rfl G.un (G.ok .ud trivial) rfl Lc rfl fun s3 P F=>Lj F (hlots.ext F.keep) (by rw[hz2];exact n1 hz) fun s4 t P F4=>LA F4 (by exact BL _) fun s5 a P F hla hna=>⟨_,hlots.ext F.keep,by rw[hz2];exact n1 hz,fun s7 M hl7=>?_⟩)));rw[hz2]at hla;refine D.freshK F4 hna fun f1 f2 f3 f4 f5=>?_
 have hlots':∀h:AE,Lst h (y_.ad .lots) ((Ap st_.lots.length).map (fun i=>AN (y_.ad (.lot i)))++[.ref a])→Lst h ((y_.set (.lot n_) a).ad .lots) ((Ap (st_.lots++[[n_]]).length).map fun i=>.ref ((y_.set (.lot n_) a).ad (.lot i))):=fun h hh=>by
  have e:((Ap (st_.lots++[[n_]]).length).map fun i=>AN ((y_.set (.lot n_) a).ad (.lot i)))=(Ap st_.lots.length).map (fun i=>AN (y_.ad (.lot i)))++[.ref a]:=by
   rw[Au,Bx,hn2,CD,B6]
   congr 1
   ·refine AZ fun i hi=>?_;rw[y_.set_ne];intro q;cases q;exact absurd (Be.mp hi) (B3 _)
   ·simp[y_.set_same]
  rw[e];exact hh
 refine LZ (D.new (r0:=.lots) (r1:=.lot n_) (a:=a) (st':=(St.s_lots (St.s_up st_ (st_.up++[n_])) (st_.lots++[[n_]]))) F M trivial (QE (by intro q;exact nomatch q) (by intro q;exact nomatch q) (by intro q;exact nomatch q) (by intro q;exact nomatch q)) f1 f2 f3 f4 (fun h=>by exact nomatch h) (.inr f5) hl7.al (fun _=>hlots' _ hl7) (fun l hl=>by
   have:l=[n_]:=by
    have e:(st_.lots++[[n_]])[n_]?=some l:=hl;rw[←hn2]at e ⊢;simp at e;exact e.symm
   subst this;have hne:a≠y_.ad .lots:=fun q=>f3 (yEA .lots trivial q.symm);show NL s7.heap ((y_.set (.lot n_) a).ad (.lot n_)) [n_];rw[y_.set_same];exact (yEA _ (hla.at2 (fun o e=>M.keep _ _ hne e)) (.cons ⟨t,rfl⟩ .nil)))
  (fun r h=>by
   induction r<;>first | exact .inl h | skip
   rename_i i;have e:i<(st_.lots++[[n_]]).length:=h;rw[Au,Bx]at e;rcases B8 i st_.lots.length with q | q
   ·exact .inl q
   ·refine .inr ?_;rw[show i=n_ by exact o87 e hn2 q]) rfl (fun r h hr hr1 hl h1=>by
  induction r<;>first | exact absurd rfl hr | exact absurd rfl hr1 | skip
  case lot i=>
   intro l hl';have e:(st_.lots++[[n_]])[i]?=some l:=hl'
   have hi:i<st_.lots.length:=by
    have:=(Af.mp e).1;rw[Au,Bx]at this;have:i≠n_:=fun q=>hr1 (by rw[q]);exact aq43 ‹_› hn2 this
   rw[Ar hi]at e;show NL h ((y_.set (.lot n_) a).ad (.lot i)) l;rw[y_.set_ne _ hr1];exact h1 l e
  all_goals exact h1)) fun H2 F D k2 _=>?_
 have G:=D.good;obtain⟨vs8,hl8,hn8⟩:NL H2 (y_.ad .up) (st_.up++[n_]):=G.ok .up trivial;refine KS (bop (KN F KL rfl (by decide) (sp1 (L9 F rfl G.un (G.ok .ud trivial) rfl KZ rfl fun s3 P F=>Lj F (hl8.ext F.keep) (by rw[hn8.1];simp;exact n2 hn hz) fun s4 t P F=>cI F fun s5 t' P F=>Ti F fun s6 t'' P F=>?_))));have e:(((vs8.length:Nat):Int) - 1)=(n_:Int):=by rw[hn8.1];simp[hn]
 rw[e];refine D.msK F fun G' M'=>?_;exact k _ _ _ M' G'
end U24
theorem Tz{A s E Q y st n}:U24.pP A s E Q y st n:=@KB _ _ U24.fF U24.kK rfl U24.tT (A,s,E,Q,y,st,n)
theorem LI(p:List Nat):∀a,Ku p a≤a:=by
 intro a
 induction a using CG with
 | _ a ih=>
  rw[Nu];split
  ·rename_i h;exact A0 (ih _ h) (B1 h)
  ·exact At _
theorem Mt.imL(M:Mt l s s')(hl:Lst s.heap l vs):Im s.heap s'.heap:=xE hl fun n e=>M.im e rfl
theorem Nz{ad:Ro→Addr}{n i:Nat}(hi:i<n):((Ap n).map fun i=>AN (ad (.lot i)))[i]?=some (.ref (ad (.lot i))):=by
 rw[B4,CS hi];rfl
theorem ON{x y:Nat}{ks:List Nat}(p:ks.Perm [x,y])(s:ks.Pairwise (·≤·)):ks=[min x y,max x y]:=by
 have hl:=p.length_eq
 match ks,hl with
 | [a,b],_=>
  have hab:a≤b:=by simpa using s
  have h1:x∈[a,b]:=p.mem_iff.mpr (by exact Aj);have h2:y∈[a,b]:=p.mem_iff.mpr (by exact .tail _ (.head _));have h3:a∈[x,y]:=p.mem_iff.mp (by exact Aj);have h4:b∈[x,y]:=p.mem_iff.mp (by exact .tail _ (.head _));simp only[As,Ah,or_false]at h1 h2 h3 h4;have e1:a=min x y:=by exact aq18 h1 h2 h3 h4 hab
  have e2:b=max x y:=by exact aq50 h1 h2 h3 h4 e1 hab
  rw[e1,e2]
theorem Mr(rm:Rm A 1 33)(F:Fm s0 H Z L m s)(G:KW y st H)(low:Low st.up)(ha:a<st.up.length)(hp:st.up.length≤1000)(hs:m "self" = some (.ref y.un))(hx:m x=some (.int a t))(h:∀s' t',Pu s s'→Fm s0 H Z L m s'→Q (.int (Ku st.up a) t') s')(hk:autoParam (env.scope.kind=.function) au1._auto_1)(hl1:autoParam (env.kindOf "self" = some .local) au1._auto_1)(hl2:autoParam (env.kindOf x=some .local) au1._auto_1)(hL:autoParam (env.locals=L) au1._auto_1)(hd:autoParam ((x == ("__debug__" : A9))=false) au1._auto_1)(he:autoParam (AJ (.Call (.Attribute (.Name "self" p1) "find" p2) [.Name x p3] [] p4) env=(do let ov ←AJ (.Name "self" p1) env;Em p2.atName;let (f,first) ←Di [ov] (C3 ov "find" (do return (←BY (.Name "self" p1) env).getD true));Cg p4 f first (BO p4 (AG [.Name x p3] env)) [])) au1._auto_1):A8 (MD c.w) A (AJ (.Call (.Attribute (.Name "self" p1) "find" p2) [.Name x p3] [] p4) env) Q E s:=
 Ly OS (Kv F hs ⟨_,_,_,_,rfl,F,G.un,G.ok .ud trivial,rfl,Kv F hx ⟨F.In,Qu rm (F.base.trans F.keep) (G.ext F.keep) low ha hp fun s' t' P=>h s' t' P (F.pu P)⟩ hk hl2 hL hd⟩ hk hl1 hL (by rfl)) (by rfl) he
noncomputable def MS(st:St)(k g:Nat):St:={st with up:=st.up.set g k,lots:=st.lots.set k (st.lots.getD k []++st.lots.getD g []),mrg:=st.mrg++[(k,g)]}
namespace U23
noncomputable def pP(A:Aq)(s:A4)(E Q:Value→A4→Prop)(y:Lay)(st:St)(a b:Nat)(t u:Tok):Prop:=∀(rm:Rm A 2 40)(B:Bs s.heap)(G:KW y st s.heap)(low:Low st.up)(ha:a<st.up.length)(hb:b<st.up.length)(hp:st.up.length≤1000)(hn2:st.lots.length=st.up.length)(hm:st.mrg.length≤1000)(hlz:∀(i:Nat) (l:List Nat),st.lots[i]?=some l→l.length≤1000)(k0:Ku st.up a=Ku st.up b→∀s',Pu s s'→Q .none s')(k1:∀k g,Ku st.up a≠Ku st.up b→k=min (Ku st.up a) (Ku st.up b)→g=max (Ku st.up a) (Ku st.up b)→∀s' q,Ms y st y (MS st k g) s s'→KW y (MS st k g) s'.heap→NI s'.heap q (k,g)→Q q s'),A8 (MD c.w) A (call (.ref 318) [.ref y.un,.int a t,.int b u]) Q E s
noncomputable def fF:=unz fun A=>unz fun s=>unz fun E=>unz fun Q=>unz fun y=>unz fun st=>unz fun a=>unz fun b=>unz fun t=>pP A s E Q y st a b t
noncomputable def kK:=epz ({},{},default,default,OG,dSt,default) fF
noncomputable def A_:=kK.1
noncomputable def y_:=kK.2.2.2.2.1
noncomputable def st_:=kK.2.2.2.2.2.1
noncomputable def a_:=kK.2.2.2.2.2.2.1
noncomputable def b_:=kK.2.2.2.2.2.2.2.1
theorem tT:pP A_ kK.2.1 kK.2.2.1 kK.2.2.2.1 y_ st_ a_ b_ kK.2.2.2.2.2.2.2.2.1 kK.2.2.2.2.2.2.2.2.2:=by
 intro rm B G low ha hb hp hn2 hm hlz k0 k1;refine LG rfl ‹_› ‹_› rfl (Dw rfl) (by decide) rfl rfl rfl ?_;dsimp only[Bg,Bj,AV,AW,AF];intro A_ L s1 rm F;have D:=Gd.refl G;have hra:=An (LI st_.up a_) ha;have hrb:=An (LI st_.up b_) hb;refine Oq (KN F Mb rfl (by decide) (sp1 (Xk (Mr (rm.mono (by decide) (by decide)) F G low ha hp rfl rfl fun s2 t2 P F=>Mr (rm.mono (by decide) (by decide)) F G low hb hp rfl rfl fun s3 t3 P F=>LA F (by simp) fun s4 l P F hl hna=>VX hl (.cons ⟨_,rfl⟩ (.cons ⟨_,rfl⟩ .nil)) (by simp) fun s5 l2 out ks P hl2 hks hperm hsort hn2'=>?_))));have F:=F.pu P;have hks2:=ON hperm hsort;generalize hk:min (Ku st_.up a_) (Ku st_.up b_)=k at hks2;generalize hg:max (Ku st_.up a_) (Ku st_.up b_)=g at hks2;subst hks2;have hlen:out.length=2:=hks.1;refine (show A8 (MD c.w) A_ (BX (.ref l2) 2 none) _ _ _ from hlen▸MZ rm.h F hl2 fun s6 P F=>?_);refine hks.unc' ?_;rintro v1 r1 rfl ⟨tk,rfl⟩ hr;refine hr.unc' ?_;rintro v2 r2 rfl ⟨tg,rfl⟩ hr2;obtain rfl:r2=[]:=AX.mp hr2.1;refine VH (L4 F fun s7 F=>L4 F fun s8 F=>?_);refine L7 (wpAny_isTrue_Compare1 (Kv F rfl (Kv F rfl (eq_ (Ai ?_)))))
 by_cases hkg:Ku st_.up a_=Ku st_.up b_
 ·refine KC (by rw[←hk,←hg,hkg];exact if_pos rfl) ?_;exact KS (Gk (k0 hkg _ ⟨F.keep,F.gens,F.os⟩))
 have hlt:k<g:=by rw[←hk,←hg];exact aq27 hg hk hkg
 have hgl:g<st_.up.length:=by rw[←hg];exact aq67 hg hra hrb
 refine Ks (by simp;exact o17 hlt) (Kt (Kw ?_));refine xEA (G.ok .up trivial) fun vs hlv hnv=>?_;refine OF (Kv F rfl (L9 F rfl G.un (G.ok .ud trivial) rfl KZ rfl fun s9 P F=>Kv F rfl (XW (hlv.ext F.keep) (by rw[hnv.1];exact n1 hp) (by rw[hnv.1];exact hgl) fun s10 M hl10=>?_)));refine D.put (r0:=.up) (st':=(St.s_up st_ (st_.up.set g k))) F M trivial (yEA _ hl10 (hnv.set g ⟨tk,rfl⟩)) hl10.al rfl fun H1 F D k2 _=>?_;have G1:=D.good;have hlots:Lst H1 (y_.ad .lots) ((Ap st_.lots.length).map fun i=>.ref (y_.ad (.lot i))):=G1.ok .lots trivial;have hkl:k<st_.lots.length:=by exact o43 hlt hgl hn2
 have hgl2:g<st_.lots.length:=by exact o5 hgl hn2
 obtain⟨vk,hvk,hnk⟩:NL H1 (y_.ad (.lot k)) (st_.lots.getD k []):=G1.ok (.lot k) hkl _ (by rw[A6,A7 hkl];rfl);obtain⟨vg,hvg,hng⟩:NL H1 (y_.ad (.lot g)) (st_.lots.getD g []):=G1.ok (.lot g) hgl2 _ (by rw[A6,A7 hgl2];rfl);have hzk:vk.length≤1000:=by rw[hnk.1];refine hlz k _ ?_;rw[A6,A7 hkl];rfl
 have hzg:vg.length≤1000:=by rw[hng.1];refine hlz g _ ?_;rw[A6,A7 hgl2];rfl
 refine L8 (La (Subscript_ (L9 F rfl G1.un (G1.ok .ud trivial) rfl Lc rfl fun s11 P F=>Kv F rfl (KI (hlots.ext F.keep) (by exact n3) (by exact n15 hkl hn2 hp) (by simpa using Nz hkl) (YT (hvk.ext F.keep)
  (Subscript_ (L9 F rfl G1.un (G1.ok .ud trivial) rfl Lc rfl fun s12 P F=>Kv F rfl (KI (hlots.ext F.keep) (by exact o12 hlt) (by exact n5 hgl hp) (by simpa using Nz hgl2) ⟨_,vk,vg,rfl,hvk.ext F.keep,hvg.ext F.keep,by exact n24 hzk hzg,fun s13 M hl13=>?_⟩))))))))
 refine D.puts (r0:=.lot k) (st':=(St.s_lots (St.s_up st_ (st_.up.set g k)) (st_.lots.set k (st_.lots.getD k []++st_.lots.getD g [])))) F M hkl (fun l hl=>by
   have e:(st_.lots.set k (st_.lots.getD k []++st_.lots.getD g []))[k]?=some l:=hl;rw[BG (by omega)]at e;obtain rfl:=Ag e;exact (yEA _ hl13 (hnk.append hng))) hl13.al (.lot1 rfl By fun i l q hl'=>by
   have e:(st_.lots.set k (st_.lots.getD k []++st_.lots.getD g []))[i]?=some l:=hl';rw[BE (B9 q)]at e;exact e) fun H2 F D k3 _=>?_
 have G2:=D.good;refine xEA (G2.ok .mrg trivial) fun vm hvm hnm=>?_;refine L8 (La (L9 F rfl G2.un (G2.ok .ud trivial) rfl LC rfl fun s14 P F=>Rq (hvm.ext F.keep) (PU (Kv F rfl (Kv F rfl (KA F (by simp) fun s15 q P F htq hnq=>⟨vm,hvm.ext F.keep,by rw[hnm.1];show st_.mrg.length≤_;exact n1 hm,fun s16 M hl16=>?_⟩))))));refine D.put (r0:=.mrg) (st':=MS st_ k g) F M trivial (yEA _ hl16 ((hnm.mono fun _ _ x=>x.im (Im.trans F.keep.im (M.imL (hvm.ext F.keep)))).snoc (T2 q _ _ rfl (htq.im (M.imL (hvm.ext F.keep))) ⟨_,rfl⟩ ⟨_,rfl⟩))) hl16.al rfl fun H3 F D k4 _=>?_;refine KS (PU (Kv F rfl (Kv F rfl (KA F (by simp) fun s17 q2 P F htq2 _=>?_))));refine D.msK F fun G' M'=>?_;exact k1 k g hkg hk.symm hg.symm _ _ M' G' (T2 _ _ _ rfl htq2 ⟨_,rfl⟩ ⟨_,rfl⟩)
end U23
theorem Sn{A s E Q y st a b t u}:U23.pP A s E Q y st a b t u:=@KB _ _ U23.fF U23.kK rfl U23.tT (A,s,E,Q,y,st,a,b,t,u)
theorem OM(rm:Rm A 1 33)(B:Bs s.heap)(G:KW y st s.heap)(hp:st.up.length≤1000)(k:∀s' t',Pu s s'→Q (.int (st.up.length:Nat) t') s'):A8 (MD c.w) A (call (.ref 304) [.ref y.un]) Q E s:=by
 refine LG rfl ‹_› ‹_› rfl (Dw rfl) (by decide) rfl rfl rfl ?_;dsimp only[Bg,Bj,AV,AW,AF];intro A L s1 rm F;refine xEA (G.ok .up trivial) fun vs hl hn=>?_;refine KS (KN F KL rfl (by decide) (sp1 (L9 F rfl G.un (G.ok .ud trivial) rfl KZ rfl fun s3 P F=>Lj F (hl.ext F.keep) (by rw[hn.1];exact n1 hp) fun s4 t P F=>?_)));rw[hn.1];exact k _ _ ⟨F.keep,F.gens,F.os⟩
theorem NR{a:Nat}{t:Tok}(rm:Rm A 2 40)(B:Bs s.heap)(G:KW y st s.heap)(low:Low st.up)(ha:a<st.up.length)(hp:st.up.length≤1000)(hn2:st.lots.length=st.up.length)(hlz:∀(i:Nat) (l:List Nat),st.lots[i]?=some l→l.length<64)(k:∀s' q vs ks,Pu s s'→Lst s'.heap q vs→LH vs ks→ks.Perm (st.lots.getD (Ku st.up a) [])→s.heap.get? q=none→Q (.ref q) s'):A8 (MD c.w) A (call (.ref 325) [.ref y.un,.int a t]) Q E s:=by
 refine LG rfl ‹_› ‹_› rfl (Dw rfl) (by decide) rfl rfl rfl ?_;dsimp only[Bg,Bj,AV,AW,AF];intro A L s1 rm F;have hra:=An (LI st.up a) ha;have hlots:Lst s.heap (y.ad .lots) ((Ap st.lots.length).map fun i=>.ref (y.ad (.lot i))):=G.ok .lots trivial;have hrl:Ku st.up a<st.lots.length:=by exact o5 hra hn2
 have hget:st.lots[Ku st.up a]?=some (st.lots.getD (Ku st.up a) []):=by rw[A6,A7 hrl];rfl
 obtain⟨vk,hvk,hnk⟩:NL s.heap (y.ad (.lot (Ku st.up a))) (st.lots.getD (Ku st.up a) []):=G.ok (.lot _) hrl _ hget;refine KS (KN F Mb rfl (by decide) (sp1 (Subscript_ (L9 F rfl G.un (G.ok .ud trivial) rfl Lc rfl fun s2 P F=>Mr (rm.mono (by decide) (by decide)) F G low ha hp rfl rfl fun s3 t3 P F3=>KI (hlots.ext F3.keep) (by exact n3) (by exact n5 hra hp) (by simpa using Nz hrl) (VX (hvk.ext F3.keep) hnk (by rw[hnk.1];exact hlz _ _ hget) fun s4 q out ks P hlq hks hperm _ hnq=>?_)))));have F:=F3.pu P;refine k _ q out ks ⟨F.keep,F.gens,F.os⟩ hlq hks hperm ?_;exact Ky fun o e=>by rw[F3.keep _ _ e]at hnq;exact nomatch hnq
end
end
section
section
variable{A:Aq}{s:A4}{E Q:Value→A4→Prop}{y:Lay}{st:St}
noncomputable def Ov(st:St)(ms:List (Nat×Nat))(k g:Nat):St:={st with mrg:=ms,up:=st.up.set g g,lots:=st.lots.set k ((st.lots.getD k []).take ((st.lots.getD k []).length - (st.lots.getD g []).length))}
namespace U25
noncomputable def pP(A:Aq)(s:A4)(E Q:Value→A4→Prop)(y:Lay)(st:St)(ms:List (Nat×Nat))(k g:Nat)(t:Tok):Prop:=∀(rm:Rm A 2 40)(B:Bs s.heap)(G:KW y st s.heap)(hm:st.mrg=ms++[(k,g)])(hz:ms.length≤1000)(hk:k<st.lots.length)(hg:g<st.lots.length)(hkg:k≠g)(hu:st.up.length=st.lots.length)(hp:st.up.length≤1000)(hlz:∀(i:Nat) (l:List Nat),st.lots[i]?=some l→l.length≤1000)(hle:(st.lots.getD g []).length≤(st.lots.getD k []).length)(kk:∀s',Ms y st y (Ov st ms k g) s s'→KW y (Ov st ms k g) s'.heap→Q .none s'),A8 (MD c.w) A (call (.ref 344) [.ref y.un,.int (ms.length:Nat) t]) Q E s
noncomputable def fF:=unz fun A=>unz fun s=>unz fun E=>unz fun Q=>unz fun y=>unz fun st=>unz fun ms=>unz fun k=>unz fun g=>pP A s E Q y st ms k g
noncomputable def kK:=epz ({},{},default,default,OG,dSt,default) fF
noncomputable def A_:=kK.1
noncomputable def s_:=kK.2.1
noncomputable def y_:=kK.2.2.2.2.1
noncomputable def st_:=kK.2.2.2.2.2.1
noncomputable def ms_:=kK.2.2.2.2.2.2.1
noncomputable def k_:=kK.2.2.2.2.2.2.2.1
noncomputable def g_:=kK.2.2.2.2.2.2.2.2.1
noncomputable def t_:=kK.2.2.2.2.2.2.2.2.2
inductive KV0(L:Addr)(s':A4):Prop
 | mk(m:A9→Option Value)(H':AE)(a1:Fm s_ H' [] L m s')(a2:Gd y_ st_ s_.heap y_ (Ov st_ ms_ k_ g_) H')
inductive KV1(L:Addr)(n:Nat)(s':A4):Prop
 | mk(m:A9→Option Value)(H':AE)(a1:Fm s_ H' [] L m s')(a2:m "self" = some (.ref y_.un))(a3:m "many" = some (.int (ms_.length:Nat) t_))(a4:((n=1∧Gd y_ st_ s_.heap y_ st_ H')∨(n=0∧Gd y_ st_ s_.heap y_ (Ov st_ ms_ k_ g_) H')))
theorem tT:pP A_ s_ kK.2.2.1 kK.2.2.2.1 y_ st_ ms_ k_ g_ t_:=by
 intro rm B G hm hz hk hg hkg hu hp hlz hle kk;refine LG rfl ‹_› ‹_› rfl (Dw rfl) (by decide) rfl rfl rfl ?_;dsimp only[Bg,Bj,AV,AW,AF];intro A_ L s1 rm F;have D:=Gd.refl G;refine Nl (OK (P:=KV0 L) (KV1 L) (fun n s' hI=>?_) 1 ⟨_,_,F,rfl,rfl,.inl ⟨rfl,D⟩⟩) ?_
 ·obtain⟨m,H',F,m1,m2,hcase⟩:=hI;rcases hcase with⟨rfl,D⟩ | ⟨rfl,D⟩
  ·have G:=D.good;refine xEA (G.ok .mrg trivial) fun vm hvm hnm=>?_;rw[hm]at hnm;have hvl:=hnm.1;rw[Au,Bx]at hvl;refine wpAny_isTrue_Compare1 (KN F KL rfl (by decide) (sp1 (L9 F m1 G.un (G.ok .ud trivial) rfl LC rfl fun s3 P F=>Lj F (hvm.ext F.keep) (by exact n8 hvl hz) fun s4 t4 P F=>KN F Of rfl (by decide) (sp2 (Kv F m2 (cI F fun s5 t5 P F=>Sq rm.h fun s6 t6 P=>gt_ (Ai ?_)))))));have F:=F.pu P;refine KC (by simp;exact o18 hvl) ?_;refine T9 hnm.last ?_;rintro vm v rfl hnm2 q vx vy rfl htq ⟨t7,rfl⟩ ⟨t8,rfl⟩;have hvl2:vm.length=ms_.length:=hnm2.1;refine Oq (La (L9 F m1 G.un (G.ok .ud trivial) rfl LC rfl fun s7 P F=>SY (hvm.ext F.keep) (by exact n2 hvl2 hz) fun s8 M hl8=>?_));refine D.put (r0:=.mrg) (st':=(St.s_mrg st_ ms_)) F M trivial (yEA _ hl8 (hnm2.mono fun _ _ x=>x.im (Im.trans F.keep.im (M.imL (hvm.ext F.keep))))) hl8.al rfl fun H1 F D _ im=>?_;have htq:=htq.im im;refine (show A8 (MD c.w) _ (BX (.ref q) 2 none) _ _ _ from KR (vs:=[BD k_ t7,.int g_ t8]) rm.h F (htq.ext F.keep) fun s9 P F=>?_);refine VH (L4 F fun s10 F=>L4 F fun s11 F=>?_);have G1:=D.good;refine xEA (G1.ok .up trivial) fun vs hlv hnv=>?_;refine OF (Kv F rfl (L9 F m1 G1.un (G1.ok .ud trivial) rfl KZ rfl fun s12 P F=>Kv F rfl (XW (hlv.ext F.keep) (by rw[hnv.1];show st_.up.length≤_;exact A0 ‹_› (by decide)) (by rw[hnv.1];show g_<st_.up.length;exact o5 hg hu) fun s13 M hl13=>?_)));refine D.put (r0:=.up) (st':=(St.s_up (St.s_mrg st_ ms_) (st_.up.set g_ g_))) F M trivial (yEA _ hl13 (hnv.set g_ ⟨t8,rfl⟩)) hl13.al rfl fun H2 F D _ _=>?_;have G2:=D.good;have hlots:Lst H2 (y_.ad .lots) ((Ap st_.lots.length).map fun i=>.ref (y_.ad (.lot i))):=G2.ok .lots trivial;obtain⟨vk,hvk,hnk⟩:NL H2 (y_.ad (.lot k_)) (st_.lots.getD k_ []):=G2.ok (.lot k_) hk _ (by rw[A6,A7 hk];rfl);obtain⟨vg,hvg,hng⟩:NL H2 (y_.ad (.lot g_)) (st_.lots.getD g_ []):=G2.ok (.lot g_) hg _ (by rw[A6,A7 hg];rfl);have hzk:vk.length≤1000:=by rw[hnk.1];refine hlz k_ _ ?_;rw[A6,A7 hk];rfl
   have hzg:vg.length≤vk.length:=by rw[hnk.1,hng.1];exact hle
   refine Qx (Subscript_ (L9 F m1 G2.un (G2.ok .ud trivial) rfl Lc rfl fun s14 P F=>Kv F rfl (KI (v:=.ref (y_.ad (.lot k_))) (hlots.ext F.keep) (by exact n3) (by exact Y2 hk hu hp) (by simpa using Nz hk) (Lg (bop (KN F KL rfl (by decide) (sp1 (Subscript_ (L9 F m1 G2.un (G2.ok .ud trivial) rfl Lc rfl fun s15 P F=>Kv F rfl (KI (v:=.ref (y_.ad (.lot k_))) (hlots.ext F.keep) (by exact n3) (by exact Y2 hk hu hp) (by simpa using Nz hk) (Lj F (hvk.ext F.keep) (by exact n1 hzk) fun s16 t16 P F=>
    KN F KL rfl (by decide) (sp1 (Subscript_ (L9 F m1 G2.un (G2.ok .ud trivial) rfl Lc rfl fun s17 P F=>Kv F rfl (KI (v:=.ref (y_.ad (.lot g_))) (hlots.ext F.keep) (by exact n3) (by exact Y2 hg hu hp) (by simpa using Nz hg) (Lj F (hvg.ext F.keep) (by exact n7 hzk hzg) fun s18 t18 P F=>Ti F fun s19 t19 P F s20 sl P hsl=>?_))))))))))))))))
   have F:=F.pu P;rw[show ((vk.length:Int) - (vg.length:Int))=((vk.length - vg.length:Nat):Int) by exact aq98 hzg]at hsl;refine Og (hvk.ext F.keep) hsl (by simp) (by exact n1 hzk) fun s21 M hl21=>?_
   refine D.puts (r0:=.lot k_) (st':=Ov st_ ms_ k_ g_) F M hk (fun l hl=>by
     have e:(st_.lots.set k_ ((st_.lots.getD k_ []).take ((st_.lots.getD k_ []).length - (st_.lots.getD g_ []).length)))[k_]?=some l:=hl;rw[BG (by exact o23 hk)]at e;obtain rfl:=Ag e;exact (yEA _ hl21 (by rw[hnk.1,hng.1];exact hnk.take _))) hl21.al (.lot1 rfl By fun i l q hl'=>by
     have e:(st_.lots.set k_ ((st_.lots.getD k_ []).take ((st_.lots.getD k_ []).length - (st_.lots.getD g_ []).length)))[i]?=some l:=hl';rw[BE (B9 q)]at e;exact e) fun H3 F D _ _=>?_
   exact Kt ⟨rfl,0,Ev,_,_,F,m1,m2,.inr ⟨rfl,D⟩⟩
  ·have G:=D.good;refine xEA (G.ok .mrg trivial) fun vm hvm hnm=>?_;have hvl:vm.length=ms_.length:=hnm.1;refine wpAny_isTrue_Compare1 (KN F KL rfl (by decide) (sp1 (L9 F m1 G.un (G.ok .ud trivial) rfl LC rfl fun s3 P F=>Lj F (hvm.ext F.keep) (by exact n2 hvl hz) fun s4 t4 P F=>KN F Of rfl (by decide) (sp2 (Kv F m2 (cI F fun s5 t5 P F=>Sq rm.h fun s6 t6 P=>gt_ (Ai ?_)))))));have F:=F.pu P;exact Ks (by simp;exact o22 hvl) ⟨_,_,F,D⟩
 ·rintro s2 ⟨m,H',F,D⟩;refine D.msK F fun G' M'=>?_;exact Kt (kk _ M' G')
end U25
theorem Uq{A s E Q y st ms k g t}:U25.pP A s E Q y st ms k g t:=@KB _ _ U25.fF U25.kK rfl U25.tT (A,s,E,Q,y,st,ms,k,g,t)
theorem Z7(hu:A.units+64<cLine)(ha:Lst s.heap a xs)(hb:Lst s.heap b ys)(hx:LH xs ns)(hy:LH ys ms)(h:Q (.bool (!decide (ns=ms))) s):A8 (MD c.w) A (CB .NotEq (.ref a) (.ref b)) Q E s:=by
 refine ke_ne_ints ha.isList hb.isList hx.ints hy.ints hu ?_
 rwa [show decide (ns.map Cw=ms.map Cw)=decide (ns=ms)from decide_eq_decide.mpr ⟨fun e=>(List.map_inj_right (fun _ _ q=>DE q)).mp e,fun e=>by rw[e]⟩]
theorem UU(h:∀s' r t t3,Pu s s'→Jt s'.heap r 0 b 1 t u t3→Q (.ref r) s'):A8 (MD c.w) A (call (.type "range") [.int b u]) Q E s:=
 call_range_1 (h _ _ _ _ ⟨Ext.push _ _,rfl,rfl⟩ (J6 _ _ _ _ _ _ _))
theorem Tm(h:∀s' r t3,Pu s s'→Jt s'.heap r a b 1 t u t3→Q (.ref r) s'):A8 (MD c.w) A (call (.type "range") [.int a t,.int b u]) Q E s:=
 call_range_2 (h _ _ _ ⟨Ext.push _ _,rfl,rfl⟩ (J6 _ _ _ _ _ _ _))
noncomputable def Ui(st:St)(n:Nat):St:={st with up:=st.up.take n,lots:=st.lots.take n}
namespace U26
noncomputable def pP(A:Aq)(s:A4)(E Q:Value→A4→Prop)(y:Lay)(st:St)(n:Nat)(t:Tok):Prop:=∀(rm:Rm A 3 120)(B:Bs s.heap)(G:KW y st s.heap)(low:Low st.up)(hz:n≤900)(hu:st.up.length=n+1)(hl:st.lots.length=n+1)(hr:Ku st.up n=n)(hn:st.lots.getD n []=[n])(hlz:∀(i:Nat) (l:List Nat),st.lots[i]?=some l→l.length<64)(kk:∀s',Ms y st y (Ui st n) s s'→KW y (Ui st n) s'.heap→Q .none s'),A8 (MD c.w) A (call (.ref 351) [.ref y.un,.int n t]) Q E s
noncomputable def fF:=unz fun A=>unz fun s=>unz fun E=>unz fun Q=>unz fun y=>unz fun st=>unz fun n=>pP A s E Q y st n
noncomputable def kK:=epz ({},{},default,default,OG,dSt,default) fF
noncomputable def A_:=kK.1
noncomputable def s_:=kK.2.1
noncomputable def y_:=kK.2.2.2.2.1
noncomputable def st_:=kK.2.2.2.2.2.1
noncomputable def n_:=kK.2.2.2.2.2.2.1
inductive KV2(i:Nat)(H':AE)(m':A9→Option Value):Prop
 | mk(a1:H'=s_.heap)(a2:m' "self" = some (.ref y_.un))(t:Tok)(a3:m' "many" = some (.int n_ t))
theorem tT:pP A_ s_ kK.2.2.1 kK.2.2.2.1 y_ st_ n_ kK.2.2.2.2.2.2.2:=by
 intro rm B G low hz hu hl hr hn hlz kk;refine LG rfl ‹_› ‹_› rfl (Dw rfl) (by decide) rfl rfl rfl ?_;dsimp only[Bg,Bj,AV,AW,AF];intro A_ L s1 rm F;have D:=Gd.refl G;refine xEA (G.ok .up trivial) fun vs hlv hnv=>?_;refine Lw (KN F Of rfl (by decide) (sp2 (Kv F rfl (cI F fun s2 t2 P F=>Sq rm.h fun s3 t3 P=>?_))));have F:=F.pu P;rw[BJ (Bi n_)];refine L4 F fun s4 F=>?_;refine Mp (LB F LO rfl (by decide) (sp2 (Kv F rfl (KN F KL rfl (by decide) (sp1 (L9 F rfl G.un (G.ok .ud trivial) rfl KZ rfl fun s5 P F=>Lj F (hlv.ext F.keep) (by rw[hnv.1];exact n8 hu hz) fun s6 t6 P F=>Tm fun s7 r t8 P hr7=>?_))))));rw[hnv.1,hu]at hr7;have F:=F.pu P;refine On (I:=KV2) (Src.range rm.h hr7 (Pu.refl _) (by exact n1 hz) (by exact aq315 hz) (by lia)) F (Pu.refl _) (fun p hp=>by exact absurd hp Ah) ⟨rfl,rfl,_,rfl⟩ (fun i v H' m' s7 Z' hi F _ hP hI=>?_) (fun H' m' s7 F hI=>?_)
 ·obtain⟨rfl,m1,t2,m2⟩:=hI;refine xE hP ?_;clear hP;rintro t7 rfl;rw[show n_+i=n_ by lia];refine Aw (L4 F fun s8 F=>?_);refine L7 (wpAny_isTrue_Compare1 (Ly (Nb) (Kv F m1 ⟨_,_,_,_,rfl,F,G.un,G.ok .ud trivial,rfl,Kv F rfl ⟨F.In,NR (rm.mono (by decide) (by decide)) (F.base.trans F.keep) (G.ext F.keep) low (by exact o18 hu) (by exact n8 hu hz) (by grind) hlz fun s9 q vq kq P hlq hnq hp hnew=>?_⟩⟩)));have F:=F.pu P;rw[hr,hn]at hp;obtain rfl:kq=[n_]:=List.perm_singleton.mp hp;refine TG (Kv F rfl (LA F (by simp) fun s10 lq P F hlq2 _=>Z7 (by have:=rm.u;rw[show cLine=9900 from rfl];exact n9 this) (hlq.ext P.ext) hlq2 hnq (.cons ⟨t7,rfl⟩ .nil) (Ai ?_)));refine Ks (by simp) (Kt (Kw (Kt ⟨_,_,F,rfl,m1,t2,m2⟩)))
 ·obtain⟨rfl,m1,t2,m2⟩:=hI;refine Kw (Qx (L9 F m1 G.un (G.ok .ud trivial) rfl KZ rfl fun s8 P F=>Lg (Kv F m2 fun s9 sl P hsl=>?_)));have F:=F.pu P;refine Og (hlv.ext F.keep) hsl (by rw[hnv.1];exact o21 hu) (by rw[hnv.1];exact n8 hu hz) fun s10 M hl10=>?_;refine D.put (r0:=.up) (st':=(St.s_up st_ (st_.up.take n_))) F M trivial (yEA _ hl10 (hnv.take n_)) hl10.al rfl fun H1 F D _ _=>?_;have G1:=D.good;have hlots:Lst H1 (y_.ad .lots) ((Ap st_.lots.length).map fun i=>.ref (y_.ad (.lot i))):=G1.ok .lots trivial;refine Qx (L9 F m1 G1.un (G1.ok .ud trivial) rfl Lc rfl fun s11 P F=>Lg (Kv F m2 fun s12 sl P hsl=>?_));have F:=F.pu P;refine Og (hlots.ext F.keep) hsl (by simp;exact o21 hl) (by simp;exact n8 hl hz) fun s13 M hl13=>?_
  refine D.puts (r0:=.lots) (st':=Ui st_ n_) F M trivial (by
    show Lst s13.heap (y_.ad .lots) ((Ap (st_.lots.take n_).length).map fun i=>.ref (y_.ad (.lot i)));rw[Cc,←List.take_range,List.map_take,hl]at *;exact hl13) hl13.al (.lots1 rfl (List.length_take_le' _ _) fun i l hl'=>by
   have e:(st_.lots.take n_)[i]?=some l:=hl';rw[CY]at e;split at e
   ·exact e
   ·exact nomatch e) fun H2 F D _ _=>?_
  refine D.msK F fun G' M'=>?_;exact Kt (kk _ M' G')
end U26
theorem Vk{A s E Q y st n t}:U26.pP A s E Q y st n t:=@KB _ _ U26.fF U26.kK rfl U26.tT (A,s,E,Q,y,st,n,t)
end
end
section
section
variable{K:Type}[DecidableEq K]
noncomputable def lk(ps:List (K×Nat))(k:K):Option Nat:=(ps.find? fun x=>decide (x.1=k)).map (·.2)
noncomputable abbrev KV(x:K×Addr×Value)(p:K×Nat):Prop:=x.1=p.1∧MK x.2.2 p.2
theorem Sv(k:K):∀{xs:List (K×Addr×Value)} {ps:List (K×Nat)},KJ KV xs ps→(Fv xs k=none∧lk ps k=none)∨∃p n,Fv xs k=some p∧lk ps k=some n∧MK p.2 n:=by
 intro xs
 induction xs with
 | nil=>
  intro ps h
  induction ps with
  | nil=>exact .inl ⟨rfl,rfl⟩
  | cons _ _=>have:=h.1;trivial
 | cons x xs ih=>
  intro ps h;refine h.unc ?_;rintro p ps rfl ⟨h1,h2⟩ h3;unfold Fv lk
  by_cases q:x.1=k
  ·refine .inr (MN x.2 p.2 ?_ ?_ h2)
   ·rw[Hx (by exact decide_eq_true ‹_›)];rfl
   ·rw[Hx (by simp[←h1,q])];rfl
  ·rw[Hy (by simp[q]),Hy (by simp[←h1,q])];exact ih h3
theorem Qo(ps qs:List (K×Nat))(k:K):lk (ps++qs) k=(lk ps k).or (lk qs k):=by
 unfold lk;rw[Iy]
 cases ps.find? _<;>simp
end
section
variable{w:Bo}{K:Type}[DecidableEq K]{knd:Cy PG w K}{A:Aq}{E:Value→A4→Prop}{s:A4}{d a:Addr}{k:K}{ps:List (K×Nat)}{n:Nat}
theorem HD.last(h:HD knd s.heap d (ps++[(k,n)])):∃xs a0 v,s.heap.DictOfH knd d (xs++[(k,a0,v)])∧KJ KV xs ps∧MK v n:=by
 refine xEA h ?_;clear h;intro xs hm hx;refine PY hx.last ?_;rintro xs ⟨k',a0,v⟩ rfl h2 h3 h4
 cases h3
 exact (PX xs a0 v hm h2 h4)
theorem Xn{Q:Unit→A4→Prop}(hu:knd.room A.in1)(hk:knd.is s.heap k a)(hm:HD knd s.heap d (ps++[(k,n)]))(hz:ps.length≤16000)(h:∀s',Mt d s s'→HD knd s'.heap d ps→Q () s'):A8 (MD w) A (GH (.ref d) (.ref a)) Q E s:=by
 refine O1 hm.last fun xs a0 v hm h2 _=>?_;exact YE hu hk hm (by rw[h2.1];exact hz) fun s' M hm'=>h s' M (yEA xs hm' h2)
theorem Xm(hm0:HD knd s.heap d ps)(h:A8 (MD w) A (AJ e env) (fun key s₁=>∃(a:Addr) (k:K) (n:Nat) (ps':List (K×Nat)),key=.ref a∧knd.room A.in1∧knd.is s₁.heap k a∧HD knd s₁.heap d (ps'++[(k,n)])∧ps'.length≤16000∧∀s' t,Mt d s₁ s'→HD knd s'.heap d ps'→Q (.int n t) s') E s)(he:autoParam (AG [e] env=[(false,AJ e env)]) au1._auto_1):A8 (MD w) A (C3 (.ref d) (Bc "pop") (do return (←BY o' env).getD true)) (fun fx s₂=>A8 (MD w) A (Cg pos fx.1 fx.2 (BO pos (AG [e] env)) []) Q E s₂) E s:=by
 refine xEA hm0 ?_;clear hm0;rintro xs ⟨o,es,ep,ho,hx,_⟩ _;refine YB (knd:=knd) ho hx (Al h (fun key s₁ h₁=>?_) fun _ _ e=>e) he;refine WO h₁ ?_;clear h₁;rintro a k n ps' rfl hu hk hm hz hq;refine O1 hm.last ?_;rintro xs a0 v hm h2 ⟨t,rfl⟩;exact⟨a,k,xs,a0,_,rfl,hu,hk,hm,by rw[h2.1];exact hz,fun s' M hm'=>hq s' t M (yEA xs hm' h2)⟩
end
section
variable{s0:A4}{H:AE}{Z:List (Addr×Obj)}{L:Addr}{m:A9→Option Value}{K:Type}[DecidableEq K]{knd:Cy PG c.w K}{A:Aq}{E:Value→A4→Prop}{s:A4}{d a:Addr}{k:K}{ps:List (K×Nat)}{n:Nat}
theorem Yj(F:Fm s0 H Z L m s)(hu:knd.room A.in1)(hkey:knd.is s.heap k a)(hd:(d == Bp)=false)(hm:HD knd s.heap d ps)(h:∀s',Pu s s'→Fm s0 H Z L m s'→Q (.bool (lk ps k).isSome) s'):A8 (MD c.w) A (CB .In (.ref a) (.ref d)) Q E s:=by
 refine xEA hm ?_;clear hm;intro xs hm hx;refine Z9 F hu hkey hd hm fun s' P F=>?_;rcases Sv k hx with⟨e1,e2⟩ | ⟨p,n,e1,e2,_⟩
 ·have:=h s' P F;rw[e2]at this;rw[e1];exact this
 ·have:=h s' P F;rw[e2]at this;rw[e1];exact this
theorem PO{knd:Cy PG w K}{xs:List (K×Addr×Value)}(hu:knd.room A.in1)(hkey:knd.is s.heap k a)(hd:(d == Bp)=false)(hm:s.heap.DictOfH knd d xs)(h:Q (Fv xs k).isSome {s with toks:=s.toks+knd.draws k}):A8 (MD w) A (contains (.ref d) (.ref a)) Q E s:=by
 unfold contains
 try with_reducible refine B7 ?_
 refine A5 (CP hm.typeIs E8.lookup ?_);show A8 _ _ (if (some (GU "dict.__contains__") == some Df)=true then _ else _) _ E s;rw[if_neg (by rw[JH];exact Cz)]
 refine A5 (wpAny_callSpecialUnlessNone?_slot (name:=Bc "__contains__") hm.typeIs E8
  (BS E8 hm.typeIs PySem.F.entry_dict_contains ?_ (PySem.F.args_dict_contains_2 _ _)))
 show A8 _ _ (dictGet d (.ref a) >>= _) _ _ s;refine A5 (wpAny_dictGet_heap hu hkey hm ?_)
 cases hf:Fv xs k with
 | some p=>
  rw[hf]at h;show A8 _ _ (ret (.bool true)) _ _ _;exact Ae (yEA _ rfl (Ai h))
 | none=>
  rw[hf]at h;show A8 _ _ (Km d (.ref a) >>= _) _ _ _;exact A5 (wpAny_pendingKey_other hd (Ae (yEA _ rfl (Ai h))))
theorem VC(F:Fm s0 H Z L m s)(hu:knd.room A.in1)(hkey:knd.is s.heap k a)(hd:(d == Bp)=false)(hm:HD knd s.heap d ps)(h:∀s',Pu s s'→Fm s0 H Z L m s'→Q (.bool !(lk ps k).isSome) s'):A8 (MD c.w) A (CB .NotIn (.ref a) (.ref d)) Q E s:=by
 refine xEA hm ?_;clear hm;intro xs hm hx;show A8 _ _ (do return .bool (!(←contains (.ref d) (.ref a)))) Q E s;refine A5 (PO hu hkey hd hm (Ae ?_));have:=h _ (Pu.tok s (s.toks+knd.draws k)) (F.tok _);rcases Sv k hx with⟨e1,e2⟩ | ⟨p,n,e1,e2,_⟩
 ·rw[e2]at this;rw[e1];exact this
 ·rw[e2]at this;rw[e1];exact this
theorem VD(F:Fm s0 H Z L m s)(hu:knd.room A.in1)(hkey:knd.is s.heap k a)(hm:HD knd s.heap d ps)(hp:lk ps k=some n)(h:∀s' t,Pu s s'→Fm s0 H Z L m s'→Q (.int n t) s'):A8 (MD c.w) A (Cr (.ref d) (.ref a)) Q E s:=by
 refine xEA hm ?_;clear hm;intro xs hm hx;rcases Sv k hx with⟨e1,e2⟩ | ⟨p,n',e1,e2,⟨t,e3⟩⟩
 ·rw[e2]at hp;exact nomatch hp
 ·rw[e2]at hp;obtain rfl:=Ag hp;exact YD F hu hkey hm e1 fun s' P F=>by rw[e3];exact h s' t P F
theorem VB{Q:Unit→A4→Prop}(hu:knd.room A.in1)(hkey:knd.is s.heap k a)(hm:HD knd s.heap d ps)(hp:lk ps k=none)(hv:MK v n)(hz:ps.length≤16000)(h:∀s',Mt d s s'→HD knd s'.heap d (ps++[(k,n)])→Q () s'):A8 (MD c.w) A (FU (.ref d) (.ref a) v) Q E s:=by
 refine xEA hm ?_;clear hm;intro xs hm hx;rcases Sv k hx with⟨e1,e2⟩ | ⟨p,n',e1,e2,⟨t,e3⟩⟩
 ·refine YA hu hkey hm (by rw[hx.1];exact hz) fun s' M hm'=>h s' M (yEA _ hm' ?_);unfold storedH;rw[e1];exact hx.snoc ⟨rfl,hv⟩
 ·rw[hp]at e2;exact nomatch e2
theorem VA(hsys:(d == Bp)=false)(hm0:HD knd s.heap d ps)(h:A8 (MD c.w) A (AJ e env) (fun key s₁=>A8 (MD c.w) A (AJ e2 env) (fun dflt s₂=>∃(a:Addr) (k:K) (n:Nat),key=.ref a∧MK dflt n∧knd.room A.in1∧knd.is s₂.heap k a∧HD knd s₂.heap d ps∧ps.length≤16000∧
   (∀n',lk ps k=some n'→∀s' t,Pu s₂ s'→Q (.int n' t) s')∧
   (lk ps k=none→∀s' t,Mt d s₂ s'→HD knd s'.heap d (ps++[(k,n)])→Q (.int n t) s')) E s₁) E s)(he:autoParam (AG [e,e2] env=[(false,AJ e env),(false,AJ e2 env)]) au1._auto_1):A8 (MD c.w) A (C3 (.ref d) (Bc "setdefault") (do return (←BY o' env).getD true)) (fun fx s₂=>A8 (MD c.w) A (Cg pos fx.1 fx.2 (BO pos (AG [e,e2] env)) []) Q E s₂) E s:=by
 refine xEA hm0 ?_;clear hm0;rintro xs ⟨o,es,ep,ho,hx,_⟩ _;refine Yz (knd:=knd) hsys ho hx (Al h (fun key s₁ h₁=>Al h₁ (fun dflt s₂ h₂=>?_) fun _ _ e=>e) fun _ _ e=>e) he;refine XM h₂ ?_;clear h₂;rintro a k n rfl ⟨t,rfl⟩ hu hk ⟨xs,hm,hx⟩ hz h1 h2;refine⟨a,k,xs,rfl,hu,hk,hm,by rw[hx.1];exact hz,fun p hp s' P=>?_,fun hp s' M hm'=>?_⟩
 ·rcases Sv k hx with⟨e1,_⟩ | ⟨p',n',e1,e2,⟨t',e3⟩⟩
  ·rw[e1]at hp;exact nomatch hp
  ·rw[e1]at hp;obtain rfl:=Ag hp;rw[e3];exact h1 n' e2 s' t' P
 ·rcases Sv k hx with⟨_,e2⟩ | ⟨p',n',e1,_⟩
  ·exact h2 e2 s' t M (yEA _ hm' (hx.snoc (yAE rfl t rfl)))
  ·rw[e1]at hp;exact nomatch hp
end
end
section
section
variable{A:Aq}{s:A4}{E Q:Value→A4→Prop}{y:Lay}{st:St}
theorem SS(rm:Rm A 1 33)(B:Bs s.heap)(G:KW y st s.heap)(hp:st.rows.length≤1000)(k:∀s' t',Pu s s'→Q (.int (st.rows.length:Nat) t') s'):A8 (MD c.w) A (call (.ref 100) [.ref y.bk]) Q E s:=by
 refine LG rfl ‹_› ‹_› rfl (Dw rfl) (by decide) rfl rfl rfl ?_;dsimp only[Bg,Bj,AV,AW,AF];intro A L s1 rm F;refine xEA (G.ok .nodes trivial) fun vs hl hn=>?_;refine KS (KN F KL rfl (by decide) (sp1 (L9 F rfl G.bk (G.ok .bd trivial) rfl L1 rfl fun s3 P F=>Lj F (hl.ext F.keep) (by rw[hn.1];exact n1 hp) fun s4 t P F=>?_)));rw[hn.1];exact k _ _ ⟨F.keep,F.gens,F.os⟩
theorem W9{n:Nat}{r:Row}{t:Tok}(rm:Rm A 1 33)(B:Bs s.heap)(G:KW y st s.heap)(hp:st.rows.length≤1000)(hr:st.rows[n]?=some r)(k:∀s' t',Pu s s'→Q (.str r.1 t') s'):A8 (MD c.w) A (call (.ref 140) [.ref y.bk,.int n t]) Q E s:=by
 refine LG rfl ‹_› ‹_› rfl (Dw rfl) (by decide) rfl rfl rfl ?_;dsimp only[Bg,Bj,AV,AW,AF];intro A L s1 rm F;refine xEA (G.ok .nodes trivial) fun vs hl hn=>?_;refine Pk (hn.get hr) ?_;rintro v hv a rfl t1 ks ht hk;have hlt:=(Af.mp hr).1;refine KS (Subscript_ (Subscript_ (L9 F rfl G.bk (G.ok .bd trivial) rfl L1 rfl fun s2 P F=>Kv F rfl (KI (hl.ext F.keep) (by exact n3) (by exact n5 hlt hp) (by simpa using hv) (cI F fun s3 t3 P F=>Mg (k:=0) (ht.ext F.keep) (by decide) rfl ?_)))));exact k _ _ ⟨F.keep,F.gens,F.os⟩
theorem Qs{n:Nat}{r:Row}{t:Tok}(rm:Rm A 1 33)(B:Bs s.heap)(G:KW y st s.heap)(hp:st.rows.length≤1000)(hr:st.rows[n]?=some r)(hz:r.2.length≤100)(k:∀s' q ks,Pu s s'→Tpl s'.heap q ks→LH ks r.2→Q (.ref q) s'):A8 (MD c.w) A (call (.ref 147) [.ref y.bk,.int n t]) Q E s:=by
 refine LG rfl ‹_› ‹_› rfl (Dw rfl) (by decide) rfl rfl rfl ?_;dsimp only[Bg,Bj,AV,AW,AF];intro A L s1 rm F;refine xEA (G.ok .nodes trivial) fun vs hl hn=>?_;refine Pk (hn.get hr) ?_;rintro v hv a rfl t1 ks ht hk;have hlt:=(Af.mp hr).1;refine KS (Subscript_ (Subscript_ (L9 F rfl G.bk (G.ok .bd trivial) rfl L1 rfl fun s2 P F=>Kv F rfl (KI (hl.ext F.keep) (by exact n3) (by exact n5 hlt hp) (by simpa using hv) (Lg (cI F fun s3 t3 P F s4 sl P4 hsl=>L6 (a:=1) (F.pu P4) (ht.ext (F.pu P4).keep) hsl (by decide) (by simp) (by simp[hk.1];exact n1 hz) fun s5 b P F hb _=>?_))))));exact k _ _ ks ⟨F.keep,F.gens,F.os⟩ hb hk
noncomputable def Ph(st:St)(rs:List Row)(ns:List (Row×Nat))(ws ds:List Nat):St:={st with rows:=rs,nums:=ns,wts:=ws,dps:=ds}
namespace U27
noncomputable def pP(A:Aq)(s:A4)(E Q:Value→A4→Prop)(y:Lay)(st:St)(rs:List Row)(r:Row)(ns:List (Row×Nat))(ws ds:List Nat)(x d j:Nat)(t:Tok):Prop:=∀(rm:Rm A 2 40)(B:Bs s.heap)(G:KW y st s.heap)(hr:st.rows=rs++[r])(hn:st.nums=ns++[(r,j)])(hnz:ns.length≤1000)(hw:st.wts=ws++[x])(hd:st.dps=ds++[d])(hz:rs.length≤1000)(hzw:ws.length≤1000)(hzd:ds.length≤1000)(kk:∀s',Ms y st y (Ph st rs ns ws ds) s s'→KW y (Ph st rs ns ws ds) s'.heap→Q .none s'),A8 (MD c.w) A (call (.ref 133) [.ref y.bk,.int (rs.length:Nat) t]) Q E s
noncomputable def fF:=unz fun A=>unz fun s=>unz fun E=>unz fun Q=>unz fun y=>unz fun st=>unz fun rs=>unz fun r=>unz fun ns=>unz fun ws=>unz fun ds=>unz fun x=>unz fun d=>unz fun j=>pP A s E Q y st rs r ns ws ds x d j
noncomputable def kK:=epz ({},{},default,default,OG,dSt,default) fF
noncomputable def A_:=kK.1
noncomputable def s_:=kK.2.1
noncomputable def y_:=kK.2.2.2.2.1
noncomputable def st_:=kK.2.2.2.2.2.1
noncomputable def rs_:=kK.2.2.2.2.2.2.1
noncomputable def r_:=kK.2.2.2.2.2.2.2.1
noncomputable def ns_:=kK.2.2.2.2.2.2.2.2.1
noncomputable def ws_:=kK.2.2.2.2.2.2.2.2.2.1
noncomputable def ds_:=kK.2.2.2.2.2.2.2.2.2.2.1
noncomputable def j_:=kK.2.2.2.2.2.2.2.2.2.2.2.2.2.1
noncomputable def t_:=kK.2.2.2.2.2.2.2.2.2.2.2.2.2.2
inductive Zz(L:Addr)(s':A4):Prop
 | mk(m:A9→Option Value)(H':AE)(a1:Fm s_ H' [] L m s')(a2:Gd y_ st_ s_.heap y_ (Ph st_ rs_ ns_ ws_ ds_) H')
inductive Zy(L:Addr)(n:Nat)(s':A4):Prop
 | mk(m:A9→Option Value)(H':AE)(a1:Fm s_ H' [] L m s')(a2:m "self" = some (.ref y_.bk))(a3:m "many" = some (.int (rs_.length:Nat) t_))(a4:((n=1∧Gd y_ st_ s_.heap y_ st_ H')∨(n=0∧Gd y_ st_ s_.heap y_ (Ph st_ rs_ ns_ ws_ ds_) H')))
theorem tT:pP A_ s_ kK.2.2.1 kK.2.2.2.1 y_ st_ rs_ r_ ns_ ws_ ds_ kK.2.2.2.2.2.2.2.2.2.2.2.1 kK.2.2.2.2.2.2.2.2.2.2.2.2.1 j_ t_:=by
 intro rm B G hr hn hnz hw hd hz hzw hzd kk;refine LG rfl ‹_› ‹_› rfl (Dw rfl) (by decide) rfl rfl rfl ?_;dsimp only[Bg,Bj,AV,AW,AF];intro A_ L s1 rm F;have D:=Gd.refl G;refine Nl (OK (P:=Zz L) (Zy L) (fun n s' hI=>?_) 1 ⟨_,_,F,rfl,rfl,.inl ⟨rfl,D⟩⟩) ?_
 ·obtain⟨m,H',F,m1,m2,hcase⟩:=hI;rcases hcase with⟨rfl,D⟩ | ⟨rfl,D⟩
  ·have G:=D.good;refine xEA (G.ok .nodes trivial) fun vm hvm hnm=>?_;rw[hr]at hnm;refine VM hnm.last ?_;rintro vm v rfl hnm2 q rfl hq;have hvl2:vm.length=rs_.length:=hnm2.1;refine wpAny_isTrue_Compare1 (KN F KL rfl (by decide) (sp1 (L9 F m1 G.bk (G.ok .bd trivial) rfl L1 rfl fun s3 P F=>Lj F (hvm.ext F.keep) (by simp;exact n2 hvl2 hz) fun s4 t4 P F=>KN F Of rfl (by decide) (sp2 (Kv F m2 (cI F fun s5 t5 P F=>Sq rm.h fun s6 t6 P=>gt_ (Ai ?_)))))));have F:=F.pu P;refine KC (by simp;exact aq280 hvl2) ?_;have hnums:HD (OB c.w) H' (y_.ad .nums) (ns_++[(r_,j_)]):=hn▸G.ok .nums trivial;refine L8 (La (L9 F m1 G.bk (G.ok .bd trivial) rfl LN rfl fun s7 P F=>Xm (knd:=OB c.w) (HD.at2 (fun a e=>L2.im a e) hnums (fun o e=>F.keep _ _ e) F.keep.im) (La (L9 F m1 G.bk (G.ok .bd trivial) rfl L1 rfl fun s8 P F=>SY (hvm.ext F.keep) (by exact n2 hvl2 hz) fun s9 M hl9=>?_))));refine D.put (r0:=.nodes) (st':=(St.s_rows st_ rs_)) F M trivial (yEA _ hl9 (Lo hnm2 (Im.trans F.keep.im (M.imL (hvm.ext F.keep))))) hl9.al rfl fun H1 F D k1 im=>?_;have G1:=D.good;have hnums1:HD (OB c.w) H1 (y_.ad .nums) (ns_++[(r_,j_)]):=hn▸G1.ok .nums trivial;refine⟨q,r_,j_,ns_,rfl,(show A_.in1.units+1<cLine from by have:=rm.u;show A_.units+1+1<9900;exact n10 this),((hq.im im).im F.keep.im),HD.at2 (fun a e=>L2.im a e) hnums1 (fun o e=>F.keep _ _ e) F.keep.im,by exact n1 hnz,fun s10 t10 M hl10=>?_⟩;refine D.put (r0:=.nums) (st':=(St.s_nums (St.s_rows st_ rs_) ns_)) F M trivial hl10 hl10.al rfl fun H2 F D k1 im=>?_;have G2:=D.good;obtain⟨vw,hvw,hnw⟩:NL H2 (y_.ad .wts) st_.wts:=G2.ok .wts trivial;rw[hw]at hnw;refine LR hnw.last ?_;rintro vw _ rfl hnw2 ⟨tw,rfl⟩;refine L8 (La (L9 F m1 G2.bk (G2.ok .bd trivial) rfl Mj rfl fun s11 P F=>SY (hvw.ext F.keep) (by rw[hnw2.1];exact n1 hzw) fun s12 M hl12=>?_));refine D.put (r0:=.wts) (st':=(St.s_wts (St.s_nums (St.s_rows st_ rs_) ns_) ws_)) F M trivial (yEA _ hl12 hnw2) hl12.al rfl fun H3 F D _ _=>?_;have G3:=D.good;obtain⟨vd,hvd,hnd⟩:NL H3 (y_.ad .dps) st_.dps:=G3.ok .dps trivial;rw[hd]at hnd;refine LR hnd.last ?_;rintro vd _ rfl hnd2 ⟨td,rfl⟩;refine L8 (La (L9 F m1 G3.bk (G3.ok .bd trivial) rfl Mw rfl fun s13 P F=>SY (hvd.ext F.keep) (by rw[hnd2.1];exact n1 hzd) fun s14 M hl14=>?_));refine D.put (r0:=.dps) (st':=Ph st_ rs_ ns_ ws_ ds_) F M trivial (yEA _ hl14 hnd2) hl14.al rfl fun H4 F D _ _=>?_;exact Kt ⟨rfl,0,Ev,_,_,F,m1,m2,.inr ⟨rfl,D⟩⟩
  ·have G:=D.good;refine xEA (G.ok .nodes trivial) fun vm hvm hnm=>?_;have hvl:vm.length=rs_.length:=hnm.1;refine wpAny_isTrue_Compare1 (KN F KL rfl (by decide) (sp1 (L9 F m1 G.bk (G.ok .bd trivial) rfl L1 rfl fun s3 P F=>Lj F (hvm.ext F.keep) (by exact n2 hvl hz) fun s4 t4 P F=>KN F Of rfl (by decide) (sp2 (Kv F m2 (cI F fun s5 t5 P F=>Sq rm.h fun s6 t6 P=>gt_ (Ai ?_)))))));have F:=F.pu P;exact Ks (by simp;exact o22 hvl) ⟨_,_,F,D⟩
 ·rintro s2 ⟨m,H',F,D⟩;refine D.msK F fun G' M'=>?_;exact Kt (kk _ M' G')
end U27
theorem Up{A s E Q y st rs r ns ws ds x d j t}:U27.pP A s E Q y st rs r ns ws ds x d j t:=@KB _ _ U27.fF U27.kK rfl U27.tT (A,s,E,Q,y,st,rs,r,ns,ws,ds,x,d,j,t)
end
end
section
section
variable{A:Aq}{s:A4}{E Q:Value→A4→Prop}{y:Lay}{st:St}
theorem SA(rm:Rm A 2 36)(B:Bs s.heap)(G:KW y st s.heap)(hp:st.rows.length≤1000)(k:∀s' t',Pu s s'→Q (.int (st.rows.length:Nat) t') s'):A8 (MD c.w) A (call (.ref 379) [.ref y.lv]) Q E s:=by
 refine LG rfl ‹_› ‹_› rfl (Dw rfl) (by decide) rfl rfl rfl ?_;dsimp only[Bg,Bj,AV,AW,AF];intro A L s1 rm F;refine G.ldK fun t1 t2 hld=>?_;refine KS (PD (Sm) (L9 F rfl G.lv hld rfl LQ rfl fun s2 P F=>⟨_,_,_,_,rfl,F,G.bk,G.ok .bd trivial,rfl,SS rm (F.base.trans F.keep) (G.ext F.keep) hp fun s3 t3 P=>?_⟩));have F:=F.pu P;exact k _ _ ⟨F.keep,F.gens,F.os⟩
theorem Me(rm:Rm A 2 36)(B:Bs s.heap)(G:KW y st s.heap)(low:Low st.up)(ha:a<st.up.length)(hp:st.up.length≤1000)(k:∀s' t',Pu s s'→Q (.int (Ku st.up a) t') s'):A8 (MD c.w) A (call (.ref 410) [.ref y.lv,.int a t]) Q E s:=by
 refine LG rfl ‹_› ‹_› rfl (Dw rfl) (by decide) rfl rfl rfl ?_;dsimp only[Bg,Bj,AV,AW,AF];intro A L s1 rm F;refine G.ldK fun t1 t2 hld=>?_;refine KS (Ly (OS) (L9 F rfl G.lv hld rfl KY rfl fun s2 P F=>⟨_,_,_,_,rfl,F,G.un,G.ok .ud trivial,rfl,Kv F rfl ⟨F.In,Qu rm (F.base.trans F.keep) (G.ext F.keep) low ha hp fun s3 t3 P=>?_⟩⟩));have F:=F.pu P;exact k _ _ ⟨F.keep,F.gens,F.os⟩
theorem PK(rm:Rm A 3 43)(B:Bs s.heap)(G:KW y st s.heap)(low:Low st.up)(ha:a<st.up.length)(hp:st.up.length≤1000)(hn2:st.lots.length=st.up.length)(hlz:∀(i:Nat) (l:List Nat),st.lots[i]?=some l→l.length<64)(k:∀s' q vs ks,Pu s s'→Lst s'.heap q vs→LH vs ks→ks.Perm (st.lots.getD (Ku st.up a) [])→s.heap.get? q=none→Q (.ref q) s'):A8 (MD c.w) A (call (.ref 459) [.ref y.lv,.int a t]) Q E s:=by
 refine LG rfl ‹_› ‹_› rfl (Dw rfl) (by decide) rfl rfl rfl ?_;dsimp only[Bg,Bj,AV,AW,AF];intro A L s1 rm F;refine G.ldK fun t1 t2 hld=>?_;refine KS (Ly (Nb) (L9 F rfl G.lv hld rfl KY rfl fun s2 P F=>⟨_,_,_,_,rfl,F,G.un,G.ok .ud trivial,rfl,Kv F rfl ⟨F.In,NR rm (F.base.trans F.keep) (G.ext F.keep) low ha hp hn2 hlz fun s3 q vs ks P hl hn hk hq=>?_⟩⟩));have F3:=F.pu P;refine k _ q vs ks ⟨F3.keep,F3.gens,F3.os⟩ hl hn hk ?_;exact Ky fun o e=>by rw[F.keep _ _ e]at hq;exact nomatch hq
theorem SM(rm:Rm A 1 33)(B:Bs s.heap)(G:KW y st s.heap)(hp:st.mks.length≤1000)(k:∀s' t',Pu s s'→Q (.int (st.mks.length:Nat) t') s'):A8 (MD c.w) A (call (.ref 513) [.ref y.lv]) Q E s:=by
 refine LG rfl ‹_› ‹_› rfl (Dw rfl) (by decide) rfl rfl rfl ?_;dsimp only[Bg,Bj,AV,AW,AF];intro A L s1 rm F;refine G.ldK fun t1 t2 hld=>?_;refine LY (G.ok .mks trivial) fun vs hl hn _=>?_;refine KS (KN F KL rfl (by decide) (sp1 (L9 F rfl G.lv hld rfl Mi rfl fun s3 P F=>Lj F (hl.ext F.keep) (by rw[hn];exact n1 hp) fun s4 t P F=>?_)));rw[hn];exact k _ _ ⟨F.keep,F.gens,F.os⟩
noncomputable def Rk(p:List Nat)(r:Row):Row:=(r.1,r.2.map (Ku p))
theorem Oe{n:Nat}{r:Row}{t:Tok}(rm:Rm A 3 50)(B:Bs s.heap)(G:KW y st s.heap)(low:Low st.up)(hp:st.up.length≤1000)(hp2:st.rows.length≤1000)(hr:st.rows[n]?=some r)(hz:r.2.length≤100)(hlt:∀k∈r.2,k<st.up.length)(k:∀s' q,Pu s s'→L2 s'.heap q (Rk st.up r)→Q (.ref q) s'):A8 (MD c.w) A (call (.ref 384) [.ref y.lv,.int n t]) Q E s:=by
 refine Mo rfl ‹_› ‹_› rfl rfl rfl rfl rfl ?_;intro A L H s1 rm BH F hC;have G:=G.ext BH;refine xA (hC "self" (L+1) rfl) fun hself _=>?_;have hself:H.IsCell (L+1) (some (.ref y.lv)):=hself;refine G.ldK fun t1 t2 hld=>?_
 refine KS (bop (UI (Ly (UY) (NH F hself G.lv hld rfl LQ rfl fun s2 P F=>⟨_,_,_,_,rfl,F,G.bk,G.ok .bd trivial,rfl,Kv F rfl ⟨F.In,W9 (rm.mono (by decide) (by decide)) (F.base.trans F.keep) (G.ext F.keep) hp2 hr fun s3 t3 P=>KA (F.pu P) (by simp) fun s4 q1 P4 F hq1 _=>
  LB F Nd rfl (by decide) (sp1 (MJ (Ly (OU) (NH F hself G.lv hld rfl LQ rfl fun s5 P F=>⟨_,_,_,_,rfl,F,G.bk,G.ok .bd trivial,rfl,Kv F rfl ⟨F.In,Qs (rm.mono (by decide) (by decide)) (F.base.trans F.keep) (G.ext F.keep) hp2 hr hz fun s6 q2 ks P6 hq2 hks=>?_⟩⟩))))⟩⟩))))
 have hq1:=hq1.ext (P.ext.trans P6.ext);refine F.takeK P6 fun H2 hH2 F ht him=>?_;have G:=G.ext hH2;have hself:=hself.keeps hH2;have hld:=hld.ext hH2;have hq1:Tpl H2 q1 _:=xE hq1 fun n e=>⟨n,him _ _ rfl e⟩;refine xE hq2 ?_;clear hq2;intro nq hq2
 refine Lv (Src.tuple rm.h hq2 (Pu.refl _)) F (Pu.refl _) (fun p hp=>by rw[Ab]at hp;subst hp;exact (yAA hq2 ((F.imm_apart hq2 rfl).1) (fun q=>by exact nomatch q))) (by rw[hks.1];exact n1 hz)
  (I:=fun i ys H'=>H'=H2∧LH ys ((r.2.take i).map (Ku st.up))) ⟨rfl,.nil⟩ (fun C i ys v H' m' s7 Z' hi hlen Fi _ hP hI=>?_) (fun C D ys H' s7 K hI hlen hD=>?_)
 ·refine xA hI ?_;clear hI;rintro rfl hI;refine xEA (hks.get' hP) ?_;rintro j hj ⟨tj,rfl⟩;refine Aw (L4 Fi fun s8 F=>Ly (Ma) (Ln F hself ⟨_,_,_,_,rfl,F,G.lv,hld,rfl,Kv F rfl ⟨F.In,Me (rm.mono (by decide) (by decide)) (F.base.trans F.keep) (G.ext F.keep) low (hlt j (Av hj)) hp fun s9 t9 P=>⟨_,_,F.pu P,rfl,?_⟩⟩⟩));rw[GQ,hj,B6];exact hI.snoc ⟨t9,rfl⟩
 ·refine xA hI ?_;clear hI;rintro rfl hI;rw[hks.1,Br]at hI;refine K.post fun s8 F hl _=>UH F hl (by rw[hlen,hks.1];exact n1 hz) fun s9 q3 P9 F hq3=>WX F (hq1.ext F.keep) hq3 (by simp) (by rw[hlen,hks.1];simp;lia) fun s10 q4 P F hq4=>?_;exact k _ _ ⟨BH.trans (hH2.trans F.keep),F.gens,F.os⟩ (Pi _ ys hq4 hI)
end
end
section
theorem LF{α:Type}[DecidableEq α]:∀{l l':List α},l.Nodup→(∀x,x∈l→x∈l')→l.length≤l'.length
 | [],_,_,_=>Bi _
 | a::l,l',h,hs=>by
  have h:=C9.mp h;have hm:=hs a Aj;have:=LF (l:=l) (l':=l'.erase a) h.2 fun x hx=>(HU (fun e:x=a=>h.1 (e▸hx))).mpr (hs x (Ao _ hx));rw[List.length_erase_of_mem hm]at this;have:=List.length_pos_of_mem hm;simp only[BN];exact aq72 this ‹_›
section
variable{A:Aq}{s:A4}{E Q:Value→A4→Prop}{y:Lay}{st:St}
theorem Vz(x:PS (W3 w) h a ks):ks.Nodup:=T6 x fun _ _ _ _ _ _ _ _ _ n _ _=>n
noncomputable def KG(st:St)(n:Nat):Row:=Rk st.up (st.rows.getD n ("",[]))
theorem PA(rm:Rm A 5 100)(B:Bs s.heap)(G:KW y st s.heap)(low:Low st.up)(ha:a<st.up.length)(hp:st.up.length≤1000)(hn2:st.lots.length=st.up.length)(hrl:st.rows.length=st.up.length)(hlz:∀(i:Nat) (l:List Nat),st.lots[i]?=some l→l.length≤15)(hmem:∀n∈st.lots.getD (Ku st.up a) [],n<st.rows.length)(hkids:∀(n:Nat) (r:Row),st.rows[n]?=some r→r.2.length≤100∧∀k∈r.2,k<st.up.length)(k:∀s' q vs rs,Pu s s'→Lst s'.heap q vs→KJ (PT s'.heap) vs rs→rs.Nodup→(∀x,x∈rs↔x∈(st.lots.getD (Ku st.up a) []).map (KG st))→s.heap.get? q=none→Q (.ref q) s'):A8 (MD c.w) A (call (.ref 464) [.ref y.lv,.int a t]) Q E s:=by
 refine Mo rfl ‹_› ‹_› rfl rfl rfl rfl rfl ?_;intro A L H s1 rm BH F hC;have G:=G.ext BH;refine xA (hC "self" (L+1) rfl) fun hself _=>?_;have hself:H.IsCell (L+1) (some (.ref y.lv)):=hself;refine G.ldK fun t1 t2 hld=>?_;have hrt:=An (LI st.up a) ha
 have hlen15:(st.lots.getD (Ku st.up a) []).length≤15:=by
  refine hlz (Ku st.up a) _ ?_;rw[A6,A7 (by exact o5 hrt hn2)];rfl
 refine KS (KN F Mb rfl (by decide) (sp1 (LB F RI rfl (by decide) (sp1 (MJ (Ly (Pv) (Ln F hself ⟨_,_,_,_,rfl,F,G.lv,hld,rfl,Kv F rfl ⟨F.In,PK (rm.mono (by decide) (by decide)) (F.base.trans F.keep) (G.ext F.keep) low ha hp hn2 (fun i l h=>by have:=hlz i l h;exact n12 this) fun s2 q vs ks P hl hn hk hq=>?_⟩⟩)))))));refine xAA (F.apart hq) fun q1 q2 _=>?_;refine xE hl ?_;clear hl;intro nl hl
 refine Lv (Src.list rm.h hl P) F P (fun p hp=>by rw[Ab]at hp;subst hp;exact (yAA hl q2 (fun _=>q1))) (by rw[hn.1,hk.length_eq];exact n1 hlen15)
  (I:=fun i ys H'=>Ext H H'∧KJ (PT H') ys ((ks.take i).map (KG st))) ⟨Ext.refl _,.nil⟩ (fun C i ys v H' m' s3 Z' hi hlen Fi _ hP hI=>?_) (fun C D ys H' s3 K hI hlen hD=>?_)
 ·refine xA hI ?_;clear hI;intro hE hI;refine xEA (hn.get' hP) ?_;rintro j hj ⟨tj,rfl⟩;have hjm:=hk.mem_iff.mp (Av hj);have hjl:=hmem j hjm;have hr:st.rows[j]?=some (st.rows.getD j ("",[])):=by rw[A6,A7 hjl];rfl
  have hkd:=hkids j _ hr;refine Aw (L4 Fi fun s4 F=>Ly (Nw) (Ln F (hself.keeps hE) ⟨_,_,_,_,rfl,F,(G.ext hE).lv,hld.ext hE,rfl,Kv F rfl ⟨F.In,Oe (rm.mono (by decide) (by decide)) (F.base.trans F.keep) (G.ext (hE.trans F.keep)) low hp (by exact n2 hrl hp) hr hkd.1 hkd.2 fun s5 q5 P hq5=>?_⟩⟩));refine F.takeK P fun H2 hH2 F ht him=>?_;refine⟨H2,_,F,hE.trans hH2,?_⟩;rw[GQ,hj,B6];exact (Lo hI hH2.im).snoc (yEA q5 rfl (hq5.im him))
 ·refine xA hI ?_;clear hI;intro hE hI;rw[hn.1,Br]at hI;refine K.post fun s4 F hl4 _=>?_;refine xE hl4 ?_;clear hl4;intro nl4 hl4;refine Pd (sk:=W3 c.w) (keys:=ks.map (KG st)) (by have:=rm.u;show A.units+12<9900;exact n9 this) rm.h hl4 (Lo hI F.keep.im) (by rw[AQ,hk.length_eq];exact hlen15) fun s5 S rs P5 hS hm _=>?_
  have hrs:rs.length≤15:=by
   have:=LF (l:=rs) (l':=ks.map (KG st)) (Vz hS) (fun x=>(hm x).mp);rw[AQ,hk.length_eq]at this;exact n7 hlen15 this
  refine UQ rm.h hS (by exact n12 hrs) fun s6 q6 out rs' P6 hl6 h6 hp6 hq6=>?_;have F6:=(F.pu P5).pu P6;refine k s6 q6 out rs' ⟨BH.trans (hE.trans F6.keep),F6.gens,F6.os⟩ hl6 h6 (hp6.nodup_iff.mpr (Vz hS)) (fun x=>?_) ?_
  ·rw[hp6.mem_iff,hm x];exact (hk.map (KG st)).mem_iff
  ·exact Ky fun o e=>by rw[(F.pu P5).keep _ _ (hE _ _ (BH _ _ e))]at hq6;exact nomatch hq6
end
end
section
section
variable{K:Type}[DecidableEq K]
theorem O4(kvs:List (K×Value))(k:K)(v:Value)(j:K):CX (Ij kvs k v) j=if j=k then some v else CX kvs j:=by
 have hmap:∀l:List (K×Value),CX (l.map fun kv=>if kv.1=k then (kv.1,v)else kv) j=if j=k∧(∃kv∈l,kv.1=k)then some v else CX l j:=by
  intro l
  induction l with
  | nil=>simp[CX]
  | cons x l ih=>
   unfold CX at ih ⊢;rw[Cu,IZ,IZ]
   by_cases hx:x.1=k
   ·rw[if_pos hx]
    by_cases hj:j=k
    ·subst hj;simp[hx]
    ·have h1:decide (x.1=j)=false:=by simp[hx];exact fun e=>hj e.symm
     simp only[h1,ih];simp[hj]
   ·rw[if_neg hx]
    by_cases hj:x.1=j
    ·have:¬(j=k):=fun e=>hx (hj.trans e);simp[hj,this]
    ·simp only[hj,decide_false,ih]
     by_cases hjk:j=k
     ·subst hjk
      have e:(∃kv∈x::l,kv.1=j)↔∃kv∈l,kv.1=j:=⟨fun⟨kv,h,q⟩=>by
       rcases As.mp h with rfl | h
       ·exact absurd q hj
       ·exact (yEA kv h q),fun⟨kv,h,q⟩=>(yEA kv (Ao _ h) q)⟩
      by_cases q:∃kv∈l,kv.1=j
      ·rw[if_pos ⟨rfl,q⟩,if_pos ⟨rfl,e.mpr q⟩]
      ·rw[if_neg (fun z=>q z.2),if_neg (fun z=>q (e.mp z.2))]
     ·rw[if_neg (fun z=>hjk z.1),if_neg (fun z=>hjk z.1)]
 unfold Ij;split
 ·rename_i h;rw[hmap];have h':∃kv∈kvs,kv.1=k:=by simpa [Gj]using h
  by_cases hj:j=k
  ·rw[if_pos ⟨hj,h'⟩,if_pos hj]
  ·rw[if_neg (fun e=>hj e.1),if_neg hj]
 ·rename_i h;have h':∀kv∈kvs,¬kv.1=k:=fun kv hkv e=>h (Gj.mpr (yEA kv hkv (by exact decide_eq_true ‹_›)));unfold CX;rw[Iy]
  by_cases hj:j=k
  ·subst hj;rw[FI.mpr (fun kv hkv=>by simpa using h' kv hkv)];simp
  ·rw[if_neg hj];have:([(k,v)]:List (K×Value)).find? (fun kv=>decide (kv.1=j))=none:=by simp;exact fun e=>hj e.symm
   rw[this];simp
theorem OL(kvs:List (K×Value))(k j:K):CX (without kvs k) j=if j=k then none else CX kvs j:=by
 unfold without CX;rw[List.find?_filter]
 by_cases hj:j=k
 ·subst hj;rw[if_pos rfl,FI.mpr (fun kv _=>by by_cases q:kv.1=j<;>simp[q])];rfl
 ·rw[if_neg hj]
  congr 2
  funext kv
  by_cases q:kv.1=j
  ·simp[q,hj]
  ·simp[q]
end
theorem TV{w:Bo}{h:AE}{d:Addr}{kvs:List (Int×Value)}(x:h.DictOf (Dt PG w) d kvs){f:Int→Option Value}(hf:∀k,CX kvs k=f k)(hdom:∀k,(f k).isSome=true→0≤k∧k<1000):kvs.length≤1000:=by
 refine T8 x ?_;clear x;intro o es ep _ _ _ _ _ hn
 have hk:∀k∈kvs.map (·.1),0≤k∧k<1000:=fun k hk=>by
  refine hdom k ?_;rw[←hf];unfold CX;refine xEA (AR.mp hk) fun kv h1 h2=>?_;rw[Option.isSome_map,List.find?_isSome];exact (yEA kv h1 (by simpa using h2))
 have:=LF (l:=kvs.map (·.1)) (l':=(Ap 1000).map Cw) hn (fun k hk'=>by
  refine xA (hk k hk') fun a b=>?_;exact AR.mpr (yEA k.toNat (Be.mpr (by exact aq122 b)) (by show ((k.toNat:Nat):Int)=k;exact aq178 a)))
 simpa using this
section
variable{w:Bo}{A:Aq}{E:Value→A4→Prop}{s:A4}{d:Addr}{k:Int}{t:Tok}{f:Int→Option Value}
theorem Wo(hm:ID w s.heap d f)(hv:f k=some v)(h:∀s',Pu s s'→Q v s'):A8 (MD w) A (Cr (.ref d) (.int k t)) Q E s:=by
 refine xEA hm ?_;clear hm;intro kvs hm hf;exact Jy (Go PG w k t) hm.mapOf ((hf k).trans hv) (h _ (Pu.tok _ _))
theorem PJ{v:Value}{Q:Unit→A4→Prop}(hm:ID w s.heap d f)(hdom:∀k,(f k).isSome=true→0≤k∧k<1000)(h:∀s',Mt d s s'→ID w s'.heap d (fun j=>if j=k then some v else f j)→Q () s'):A8 (MD w) A (FU (.ref d) (.int k t) v) Q E s:=by
 refine xEA hm ?_;clear hm;intro kvs hm hf;refine J3 (Go PG w k t) hm (fun h' hm' hs=>h _ (Mt.mk' hs) (yEA _ hm' (fun j=>?_))) (by have:=TV hm hf hdom;rw[AT];exact n1 this);rw[O4,hf]
theorem Wp{v:Value}{Q:Unit→A4→Prop}(hm:ID w s.heap d f)(hv:f k=some v)(hdom:∀k,(f k).isSome=true→0≤k∧k<1000)(h:∀s',Mt d s s'→ID w s'.heap d (fun j=>if j=k then none else f j)→Q () s'):A8 (MD w) A (GH (.ref d) (.int k t)) Q E s:=by
 refine xEA hm ?_;clear hm;intro kvs hm hf;unfold GH
 try with_reducible refine B7 ?_
 refine A5 (EF hm.typeIs (by decide) ?_)
 refine A5 (Cp (name:=Bc "__delitem__") hm.typeIs Dh
  (call_meetsIn Dh hm.typeIs Gq (Gh _ _) (meets_dict_delitem_pairs (Dt PG w) (d:=d) (Go PG w k t)) (NT kvs hm (by have:=TV hm hf hdom;rw[AT];exact n1 this) (by rw[hf,hv];rfl) (fun h' hm' hs=>?_))))
 exact Ae (h _ (Mt.mk' hs) (yEA _ hm' (fun j=>by rw[OL,hf])))
theorem Wn{env:Env}{e o':Expr}{pos:Pos}{Q:Value→A4→Prop}(hm0:ID w s.heap d f)(h:A8 (MD w) A (AJ e env) (fun key s₁=>∃(k:Int) (t:Tok) (v:Value) (f:Int→Option Value),key=.int k t∧ID w s₁.heap d f∧f k=some v∧(∀k,(f k).isSome=true→0≤k∧k<1000)∧∀s',Mt d s₁ s'→ID w s'.heap d (fun j=>if j=k then none else f j)→Q v s') E s)(he:autoParam (AG [e] env=[(false,AJ e env)]) au1._auto_1):A8 (MD w) A (C3 (.ref d) (Bc "pop") (do return (←BY o' env).getD true)) (fun fx s₂=>A8 (MD w) A (Cg pos fx.1 fx.2 (BO pos (AG [e] env)) []) Q E s₂) E s:=by
 refine xEA hm0 ?_;clear hm0;rintro kvs ⟨o,es,ep,ho,hx,_⟩ _;refine Wu DD Hi ho hx ?_;rw[he];refine JX DD GV (Al h (fun key s₁ h₁=>?_) fun _ _ e=>e);refine S0 h₁ ?_;clear h₁;rintro k t v f rfl ⟨kvs,hm,hf⟩ hv hdom hq;exact⟨hm.typeIs,GM _ _,_,meets_dict_pop_there (Dt PG w) (d:=d) (Go PG w k t) [] (.inl rfl) rfl,kvs,v,hm,by have:=TV hm hf hdom;rw[AT];exact n1 this,(hf k).trans hv,fun h' hm' hs=>hq _ (Mt.mk' hs) (yEA _ hm' (fun j=>by rw[OL,hf]))⟩
end
end
section
noncomputable def RQ(Q E:Value→A4→Prop):EP→A4→Prop:=fun r s'=>match r with | .ok (.ret v)=>Q v s' | .ok _=>False | .error e=>E e s'
section
variable{A:Aq}{s:A4}{E Q:Value→A4→Prop}{f cc:Addr}{args:List Value}{oc:Value}{od:Option Addr}{osl:Array (Option Value)}
 {name qual:A9} {params:Arguments} {body:List Stmt} {scope:GK} {cl:List (A9×Addr)} {dV kV doc pm cdv ct:Value} {an:Option Addr}
theorem Pa(hf:PM.lookup f=some ⟨oc,od,.func (fnX name qual params body scope cl dV kV doc pm an cdv ct),osl⟩)(rm:Rm A (d+1) (u+3))(B:Bs s.heap)(hbind:IU (fnX name qual params body scope cl dV kV doc pm an cdv ct) ⟨args,[]⟩=pure ((params.args.map (·.arg)).zip args))(hloc:∀y∈(params.args.map (·.arg)).zip args,scope.names.lookup y.1=some .local)(hcell:∀x∈scope.names,x.2≠.cell)(hco:scope.isCoroutine=false)(hgen:scope.isGenerator=false)(hk:scope.kind=.function)(h:∀A' L s1,Rm A' d u→Fm s s.heap [] L (fun y=>((params.args.map (·.arg)).zip args).reverse.lookup y) s1→
   A8 (MD c.w) A' (execs body (eX qual scope f cdv cl L)) (fun fl s'=>Q (W4 fl) s') (fun _ _=>False) s1):BM (MD c.w) A (.call (.ref f) ⟨args,[]⟩) (RQ Q E) s:=by
 have X:=(cX B.ne).keeps B.ext;have T:=(cT B.ne).keeps B.ext;have ho:=Ud B.ne hf;have hcd:Iq c.K cdv qual=true:=Vm B.ne hf;refine JG (fd:=fnX name qual params body scope cl dV kV doc pm an cdv ct) (body:=body) rm.room (X _ _ ho) rfl T.nolimit (codeRec_of X hcd) rfl (Ff hbind) hcell hloc (fun h₀ hns hk₀=>?_) hco hgen hk;refine Al (h _ s.heap.objs.size _ (rm.deeper _) ⟨B,hk₀,?_,hns,(fun _ h=>by exact absurd h Ah),rfl,rfl⟩) (fun fl s' hq=>?_) (fun _ _ x=>x.elim)
 ·exact Ky fun o e=>by exact absurd (AM e) (B3 _)
 ·induction fl<;>exact hq
theorem Un(h:BM (MD c.w) A (.call (.ref f) ⟨args,[]⟩) (RQ Q E) s):A8 (MD c.w) A (call (.ref f) args) Q E s:=Fh h
theorem Pg(hq:s.heap.get? q=some (Ia (.ref f2) self))(h:BM (MD c.w) A (.call (.ref f2) ⟨self::vs,[]⟩) (RQ Q E) s):A8 (MD c.w) A (call (.ref q) vs) Q E s:=
 Fh (ks_codeAny_call_bound hq h)
theorem Ue(hf:PM.lookup f=some ⟨oc,od,.func (fnX name qual params body scope [("__class__",cc)] dV kV doc pm an cdv ct),osl⟩)(rm:Rm A (d+1) (u+3))(B:Bs s.heap)(hbind:IU (fnX name qual params body scope [("__class__",cc)] dV kV doc pm an cdv ct) ⟨args,[]⟩=pure ((params.args.map (·.arg)).zip args))(hloc:∀y∈(params.args.map (·.arg)).zip args,scope.names.lookup y.1=some .local)(hcell:∀x∈scope.names,x.2≠.cell)(hco:scope.isCoroutine=false)(hgen:scope.isGenerator=false)(hk:scope.kind=.function)(h:∀A' L s1,Rm A' d u→Fm s s.heap [] L (fun y=>((params.args.map (·.arg)).zip args).reverse.lookup y) s1→
   _root_.PySem.wpAt (MD c.w) A' (.func body (ksEnv qual scope L f cdv cc)) (execs body (ksEnv qual scope L f cdv cc)) (fun fl s'=>Q (W4 fl) s') (fun _ _=>False) s1):BM (MD c.w) A (.call (.ref f) ⟨args,[]⟩) (RQ Q E) s:=by
 have X:=(cX B.ne).keeps B.ext;have T:=(cT B.ne).keeps B.ext;have ho:=Ud B.ne hf;have hcd:Iq c.K cdv qual=true:=Vm B.ne hf;refine ks_codeAny_call_defAt (fd:=fnX name qual params body scope [("__class__",cc)] dV kV doc pm an cdv ct) (body:=body) rm.room (X _ _ ho) rfl T.nolimit (codeRec_of X hcd) rfl (Ff hbind) hcell hloc (fun h₀ hns hk₀=>?_) hco hgen hk;refine ks_wpAt_mono (h _ s.heap.objs.size _ (rm.deeper _) ⟨B,hk₀,?_,hns,(fun _ h=>by exact absurd h Ah),rfl,rfl⟩) (fun fl s' hq=>?_) (fun _ _ x=>x.elim)
 ·exact Ky fun o e=>by exact absurd (AM e) (B3 _)
 ·induction fl<;>exact hq
end
noncomputable def VE:Ro→Bool | .lot _ | .ab _ | .mk _ | .wait | .ck=>false | _=>true
structure M6(y y':Lay):Prop where
 lv:y'.lv=y.lv
 bk:y'.bk=y.bk
 un:y'.un=y.un
 ci:y'.ci=y.ci
 ad:∀r,VE r=true→y'.ad r=y.ad r
theorem M6.refl(y:Lay):M6 y y:=⟨rfl,rfl,rfl,rfl,fun _ _=>rfl⟩
theorem M6.trans{a b c:Lay}(x:M6 a b)(y:M6 b c):M6 a c:=⟨y.lv.trans x.lv,y.bk.trans x.bk,y.un.trans x.un,y.ci.trans x.ci,fun r h=>(y.ad r h).trans (x.ad r h)⟩
theorem M6.set(y:Lay)(a:Addr)(h:VE r=false):M6 y (y.set r a):=⟨rfl,rfl,rfl,rfl,fun r' h'=>y.set_ne a (fun e=>by rw[e,h]at h';exact nomatch h')⟩
end
section
section
variable{A:Aq}{s:A4}{E Q:Value→A4→Prop}{y:Lay}{st:St}{s0:A4}{H:AE}{Z:List (Addr×Obj)}{L:Addr}{m:A9→Option Value}
theorem XE(F:Fm s0 H Z L m s)(hl:Lst s.heap l vs)(hb:Lst s.heap b ws)(hz:vs.length+ws.length≤16000)(h:∀s' a,Pu s s'→Fm s0 H Z L m s'→Lst s'.heap a (vs++ws)→s.heap.get? a=none→Q (.ref a) s'):A8 (MD c.w) A (GJ .Add (.ref l) (.ref b)) Q E s:=by
 refine xE hl ?_;clear hl;intro n hl;refine xE hb ?_;clear hb;intro n2 hb;refine PySem.P.add_list hl hb ?_ (by simp only[Ay];rw[AT];exact n1 hz);have e:vs.toArray++ws.toArray=(vs++ws).toArray:=by simp
 have p:Pu s {s with heap:=s.heap.push {cls:=.type "list",data:=.seq (vs++ws).toArray}}:=Pu.push _ _;have:=h _ s.heap.objs.size p (F.pu p) (Lst.new _ _) (KM _);rw[e];exact this
theorem Mq(hm:ID c.w s.heap d f)(hv:f k=some v)(h:∀s',Pu s s'→Q v s')(hs:autoParam (Cn slice false (.ref d) (.int k u)=DW [.ref d,.int k u] (Cr (.ref d) (.int k u))) au3._auto_1):A8 (MD c.w) A (BQ value slice (.ref d) (.int k u)) Q E s:=by
 refine xEA (id hm) fun kvs hm' hf=>?_;exact Dq hm'.mapOf.typeIs Dg.lookup (Wo hm hv h) hs
theorem Rj(x:KJ (T1 y.ad h) vs chg)(hc:∀k m g,Chg.edge k m g∈chg→k≠g→Ro.ab g≠r1):KJ (T1 (y.set r1 a).ad h) vs chg:=
 ⟨x.1,fun i v ch hv hch=>by
  refine MG (x.2 i v ch hv hch) fun b t e z=>?_;refine (Pi b t e ?_)
  induction ch with
  | made n=>exact z
  | known r=>exact z
  | edge k m g=>
   refine S0 z ?_;clear z;intro p q r u h1 h2 h3 h4 h5;exact (VI p q r u h1 h2 h3 h4 (fun hne=>(h5 hne).trans (y.set_ne _ (hc k m g (Av hch) hne)).symm))⟩
theorem Uv(hk:st.akeys k=true):abF (y.set (.ab k) a).ad st=fun j=>if j=(k:Int)then some (.ref a)else abF y.ad st j:=by
 funext j
 unfold abF
 by_cases hj:j=(k:Int)
 ·subst hj;rw[if_pos ⟨by exact n3,by simpa using hk⟩,if_pos rfl];show some (AN ((y.set (.ab k) a).ad (.ab k)))=_;rw[y.set_same]
 ·rw[if_neg hj];split
  ·rename_i q;rw[y.set_ne];intro e
   cases e
   lia
  ·rfl
theorem Uw{ad:Ro→Addr}{st st':St}{g:Nat}(h:st'.akeys=fun i=>st.akeys i && i != g):abF ad st'=fun j=>if j=(g:Int)then none else abF ad st j:=by
 funext j
 unfold abF;rw[h]
 by_cases hj:j=(g:Int)
 ·subst hj;rw[if_pos rfl,if_neg];simp
 ·rw[if_neg hj]
  by_cases q:0≤j∧st.akeys j.toNat=true
  ·rw[if_pos q,if_pos];refine⟨q.1,?_⟩;have:j.toNat≠g:=by lia
   simp[q.2,this]
  ·rw[if_neg q,if_neg];intro z;simp at z;exact q ⟨z.1,z.2.1⟩
noncomputable def M3(st:St)(k g:Nat):St:=
 {MS st k g with edges:=st.edges+1,forest:=st.forest+1,wait:=st.wait++st.abv.getD g [],abv:=st.abv.set k (st.abv.getD k []++st.abv.getD g []),akeys:=fun i=>st.akeys i && i != g}
namespace U28
noncomputable def pP(A:Aq)(s:A4)(E Q:Value→A4→Prop)(y:Lay)(st:St)(a b:Nat)(t u:Tok):Prop:=∀{rs:Value}(rm:Rm A 3 60)(B:Bs s.heap)(G:KW y st s.heap)(low:Low st.up)(ha:a<st.up.length)(hb:b<st.up.length)(hp:st.up.length≤900)(hn2:st.lots.length=st.up.length)(hn3:st.abv.length=st.up.length)(hm:st.mrg.length≤1000)(he:st.edges≤1000)(hf:st.forest≤1000)(hw:st.wait.length≤4000)(hlz:∀(i:Nat) (l:List Nat),st.lots[i]?=some l→l.length≤1000)(haz:∀(i:Nat) (l:List Nat),st.abv[i]?=some l→l.length≤1000)(hka:∀i,st.akeys i=true→i<900)(hch:∀k' m g',Chg.edge k' m g'∈st.chg→k'≠g'→g'≠min (Ku st.up a) (Ku st.up b))(hra:st.akeys (Ku st.up a)=true)(hrb:st.akeys (Ku st.up b)=true)(k0:Ku st.up a=Ku st.up b→∀s',Ms y st y (St.s_edges st (st.edges+1)) s s'→KW y (St.s_edges st (st.edges+1)) s'.heap→Q (.bool false) s')(k1:∀k g,Ku st.up a≠Ku st.up b→k=min (Ku st.up a) (Ku st.up b)→g=max (Ku st.up a) (Ku st.up b)→∀s' a',Ms y st (y.set (.ab k) a') (M3 st k g) s s'→KW (y.set (.ab k) a') (M3 st k g) s'.heap→Q (.bool true) s'),BM (MD c.w) A (.call (.ref 431) ⟨[.ref y.lv,.int a t,.int b u,rs],[]⟩) (RQ Q E) s
noncomputable def fF:=unz fun A=>unz fun s=>unz fun E=>unz fun Q=>unz fun y=>unz fun st=>unz fun a=>unz fun b=>unz fun t=>pP A s E Q y st a b t
noncomputable def kK:=epz ({},{},default,default,OG,dSt,default) fF
noncomputable def A_:=kK.1
noncomputable def y_:=kK.2.2.2.2.1
noncomputable def st_:=kK.2.2.2.2.2.1
noncomputable def a_:=kK.2.2.2.2.2.2.1
noncomputable def b_:=kK.2.2.2.2.2.2.2.1
theorem tT:pP A_ kK.2.1 kK.2.2.1 kK.2.2.2.1 y_ st_ a_ b_ kK.2.2.2.2.2.2.2.2.1 kK.2.2.2.2.2.2.2.2.2:=by
 intro rs rm B G low ha hb hp hn2 hn3 hm he hf hw hlz haz hka hch hra hrb k0 k1;refine Pa rfl ‹_› ‹_› rfl (Dw rfl) (by decide) rfl rfl rfl ?_;dsimp only[Bg,Bj,AV,AW,AF];intro A_ L s1 rm F;have D:=Gd.refl G;refine G.ldK fun t1 t2 hld=>?_;refine xEA (G.ok .edges trivial) fun ve hve hne=>?_;refine L8 (La (L9 F rfl G.lv hld rfl LU rfl fun s2 P F=>Rq (hve.ext F.keep) (XR (Kv F rfl (Kv F rfl (Kv F rfl (KA F (by simp) fun s3 q P F htq hnq=>⟨ve,hve.ext F.keep,by exact n2 hne he,fun s4 M hl4=>?_⟩)))))));refine D.put (r0:=.edges) (st':=(St.s_edges st_ (st_.edges+1))) F M trivial (yEA _ hl4 (by simp;exact o44 hne)) hl4.al rfl fun H1 F D _ _=>?_;have G1:=D.good;refine G1.ldK fun t3 t4 hld1=>?_;refine Lw (PC (QW) (L9 F rfl G1.lv hld1 rfl KY rfl fun s5 P F=>⟨_,_,_,_,rfl,F,G1.un,G1.ok .ud trivial,rfl,Kv F rfl (Kv F rfl ⟨F.In,Sn (st:=(St.s_edges st_ (st_.edges+1))) (rm.mono (by decide) (by decide)) (F.base.trans F.keep) (G1.ext F.keep) low ha hb (by show st_.up.length≤_;exact n1 hp) hn2 hm hlz (fun e s6 P=>?_) (fun k g hne hk hg s6 q M G2 hq=>?_)⟩)⟩))
 ·have F:=F.pu P;refine L4 F fun s7 F=>L7 (wpAny_isTrue_Compare1 (Kv F rfl (Gk (wpAny_is_self rfl (Ai (KC rfl ?_))))));refine KS (G8 ?_);refine D.msK F fun G' M'=>?_;exact k0 e _ M' G'
 ·refine D.callG F M G2 fun H2 F D _ im2=>?_;have G3:=D.good;refine QF hq ?_;clear hq;rintro q0 x z rfl htq ⟨tx,rfl⟩ ⟨tz,rfl⟩;have htq:=htq.im im2;have hg:g=max (Ku st_.up a_) (Ku st_.up b_):=hg;have hk:k=min (Ku st_.up a_) (Ku st_.up b_):=hk;have hne:Ku st_.up a_≠Ku st_.up b_:=hne;have hlt:k<g:=by rw[hk,hg];lia
  have hgl:g<st_.up.length:=by rw[hg];have:=LI st_.up a_;have:=LI st_.up b_;exact aq26 ha hb ‹_› ‹_› this
  refine L4 F fun s7 F=>L7 (wpAny_isTrue_Compare1 (Kv F rfl (Gk (is_ref_none (Ai (Ks rfl (Kt (Kw ?_))))))));refine Oq (Kv F rfl (show A8 (MD c.w) _ (BX (.ref q0) 2 none) _ _ _ from KR (vs:=[BD k tx,.int g tz]) rm.h F (htq.ext (F.keep)) fun s9 P F=>VH (L4 F fun s10 F=>L4 F fun s11 F=>?_)));refine G3.ldK fun t5 t6 hld3=>?_;refine xEA (G3.ok .forest trivial) fun vf hvf hnf=>?_;refine xEA (G3.ok .edges trivial) fun ve3 hve3 hne3=>?_;have hnf:vf.length=st_.forest:=hnf;have hne3:ve3.length=st_.edges+1:=hne3;refine L8 (La (L9 F rfl G3.lv hld3 rfl NN rfl fun s12 P F=>Rq (hvf.ext F.keep) (bop (KN F KL rfl (by decide) (sp1 (L9 F rfl G3.lv hld3 rfl LU rfl fun s13 P F=>Lj F (hve3.ext F.keep) (by exact n8 hne3 he) fun s14 t14 P F=>cI F fun s15 t15 P F=>Ti F fun s16 t16 P F=>⟨vf,hvf.ext F.keep,by exact n2 hnf hf,fun s17 M hl17=>?_⟩))))));refine D.put (r0:=.forest) (st':=(St.s_forest (St.s_edges (MS st_ k g) (st_.edges+1)) (st_.forest+1))) F M trivial (yEA _ hl17 (by simp;exact o44 hnf)) hl17.al rfl fun H3 F D _ _=>?_;have G4:=D.good;refine G4.ldK fun t7 t8 hld4=>?_;have hkl:k<st_.abv.length:=by exact o43 hlt hgl hn3
  have hgl2:g<st_.abv.length:=by exact o5 hgl hn3
  have hKk:st_.akeys k=true:=by
   rw[hk];rcases BI (Ku st_.up a_) (Ku st_.up b_)with q | q
   ·rwa [Bh q]
   ·rwa [BK q]
  have hKg:st_.akeys g=true:=by
   rw[hg];rcases BI (Ku st_.up a_) (Ku st_.up b_)with q | q
   ·rwa [BB q]
   ·rwa [BJ q]
  have hab:ID c.w H3 (y_.ad .above) (abF y_.ad st_):=G4.ok .above trivial;have eK:∀j:Nat,st_.akeys j=true→abF y_.ad st_ (j:Int)=some (.ref (y_.ad (.ab j))):=fun j hj=>by unfold abF;rw[if_pos ⟨by exact n3,by simpa using hj⟩];simp
  have hdom:∀j,(abF y_.ad st_ j).isSome=true→0≤j∧j<1000:=fun j hj=>by
   unfold abF at hj;split at hj
   ·rename_i q;have:=hka _ q.2;grind
   ·exact nomatch hj
  obtain⟨vg,hvg,hng⟩:NL H3 (y_.ad (.ab g)) (st_.abv.getD g []):=G4.ok (.ab g) hgl2 _ (by show st_.abv[g]?=_;rw[A6,A7 hgl2];rfl);obtain⟨vw,hvw,hnw⟩:NL H3 (y_.ad .wait) st_.wait:=G4.ok .wait trivial;have hzg:vg.length≤1000:=by rw[hng.1];refine haz g _ ?_;rw[A6,A7 hgl2];rfl
  refine L8 (La (L9 F rfl G4.lv hld4 rfl LM rfl fun s18 P F=>YT (hvw.ext F.keep) (Subscript_ (L9 F rfl G4.lv hld4 rfl KQ rfl fun s19 P F=>Kv F rfl (Mq (hab.at2 fun o e=>F.keep _ _ e) (eK g hKg) fun s20 P=>⟨_,vw,vg,rfl,hvw.ext (F.pu P).keep,hvg.ext (F.pu P).keep,by rw[hnw.1];exact aq274 hzg hw,fun s21 M hl21=>?_⟩)))));have F:=F.pu P;refine D.put (r0:=.wait) (st':=(St.s_wait (St.s_forest (St.s_edges (MS st_ k g) (st_.edges+1)) (st_.forest+1)) (st_.wait++st_.abv.getD g []))) F M trivial (yEA _ hl21 (hnw.append hng)) hl21.al rfl fun H4 F D _ _=>?_;have G5:=D.good;refine G5.ldK fun t9 t10 hld5=>?_;have hab5:ID c.w H4 (y_.ad .above) (abF y_.ad st_):=G5.ok .above trivial;refine OF (bop (Subscript_ (L9 F rfl G5.lv hld5 rfl KQ rfl fun s22 P F=>Kv F rfl (Mq (hab5.at2 fun o e=>F.keep _ _ e) (eK k hKk) fun s23 P=>?_))));have F:=F.pu P;refine La (L9 F rfl G5.lv hld5 rfl KQ rfl fun s24 P F=>Wn (hab5.at2 fun o e=>F.keep _ _ e) (Kv F rfl (VI _ _ _ _ rfl (hab5.at2 fun o e=>F.keep _ _ e) (eK g hKg) hdom (fun s25 M hab6=>?_))));refine D.put (r0:=.above) (st':=(St.s_akeys (St.s_wait (St.s_forest (St.s_edges (MS st_ k g) (st_.edges+1)) (st_.forest+1)) (st_.wait++st_.abv.getD g [])) (fun i=>st_.akeys i && i != g))) F M trivial (by show ID c.w s25.heap (y_.ad .above) (abF y_.ad _);rw[Uw (st:=st_) (g:=g) rfl];exact hab6) hab6.al rfl fun H5 F D _ _=>?_;have G6:=D.good;refine G6.ldK fun t11 t12 hld6=>?_;have hab6:ID c.w H5 (y_.ad .above) (abF y_.ad (St.s_akeys st_ (fun i=>st_.akeys i && i != g))):=G6.ok .above trivial;obtain⟨vk,hvk,hnk⟩:NL H5 (y_.ad (.ab k)) (st_.abv.getD k []):=G6.ok (.ab k) hkl _ (by show st_.abv[k]?=_;rw[A6,A7 hkl];rfl);obtain⟨vg,hvg,hng⟩:NL H5 (y_.ad (.ab g)) (st_.abv.getD g []):=G6.ok (.ab g) hgl2 _ (by show st_.abv[g]?=_;rw[A6,A7 hgl2];rfl);have hzk:vk.length≤1000:=by rw[hnk.1];refine haz k _ ?_;rw[A6,A7 hkl];rfl
  have hzg:vg.length≤1000:=by rw[hng.1];refine haz g _ ?_;rw[A6,A7 hgl2];rfl
  have Fb:=F;refine XE F (hvk.ext F.keep) (hvg.ext F.keep) (by exact n24 hzk hzg) fun s26 q6 P F hla hna=>?_;refine D.freshK Fb hna fun f1 f2 f3 f4 f5=>?_;refine L9 F rfl G6.lv hld6 rfl KQ rfl fun s27 P27 F=>Kv F rfl (PJ (hab6.at2 fun o e=>F.keep _ _ e) (fun j hj=>hdom j ?_) fun s28 M hab7=>?_)
  ·rw[Uw (st:=st_) (g:=g) rfl]at hj
   by_cases q:j=(g:Int)
   ·simp[q]at hj
   ·simpa [q]using hj
  ·have hKk':(st_.akeys k && k != g)=true:=by rw[hKk];simp;exact o14 hlt
   refine LZ (D.new (r0:=.above) (r1:=.ab k) (a:=q6) (st':=M3 st_ k g) F M trivial (QE (by intro q;exact nomatch q) (by intro q;exact nomatch q) (by intro q;exact nomatch q) (by intro q;exact nomatch q)) f1 f2 f3 f4 (fun h=>by exact nomatch h) (.inr f5) hab7.al (fun _=>by
     show ID c.w s28.heap (y_.ad .above) (abF (y_.set (.ab k) q6).ad (M3 st_ k g));rw[Uv (st:=M3 st_ k g) hKk'];exact hab7) (fun l hl=>by
     have e:(st_.abv.set k (st_.abv.getD k []++st_.abv.getD g []))[k]?=some l:=hl;rw[BG hkl]at e;obtain rfl:=Ag e;have hne:q6≠y_.ad .above:=fun q=>f3 (yEA .above trivial q.symm);show NL s28.heap ((y_.set (.ab k) q6).ad (.ab k)) _;rw[y_.set_same];exact (yEA _ ((hla.ext P27.ext).at2 (fun o e=>M.keep _ _ hne e)) (hnk.append hng)))
    (fun r h=>by
     induction r<;>first | exact .inl h | skip
     rename_i i;have e:i<(st_.abv.set k (st_.abv.getD k []++st_.abv.getD g [])).length:=h;rw[By]at e;exact .inl e) rfl (fun r h hr hr1 hl h1=>by
     induction r<;>first | exact absurd rfl hr | exact absurd rfl hr1 | skip
     case chg=>
      refine xEA h1 ?_;clear h1;intro vs a1 a2;exact (yEA vs a1 (Rj a2 fun k' m g' hm hne q=>by cases q;exact hch _ _ _ hm hne (by rw[←hk])))
     case ab i=>
      intro l hl';have e:(st_.abv.set k (st_.abv.getD k []++st_.abv.getD g []))[i]?=some l:=hl';rw[BE (fun q=>hr1 (by rw[q]))]at e;show NL h ((y_.set (.ab k) q6).ad (.ab i)) l;rw[y_.set_ne _ hr1];exact h1 l e
     all_goals exact h1)) fun H6 F D _ _=>?_
   refine KS (G8 ?_);refine D.msK F fun G' M'=>?_;exact k1 k g hne hk hg _ _ M' G'
end U28
theorem SF{A s E Q y st a b t u}:U28.pP A s E Q y st a b t u:=@KB _ _ U28.fF U28.kK rfl U28.tT (A,s,E,Q,y,st,a,b,t,u)
end
end
section
section
variable{A:Aq}{s s0:A4}{E:Value→A4→Prop}{H:AE}{Z:List (Addr×Obj)}{L:Addr}{m:A9→Option Value}
theorem Nr{whole:Sem Value}{ar:Arg}(F:Fm s0 H Z L m s)(I:Ins H x C dx)(FD:Fld H dx mp k)(hf:PM.lookup f=some ⟨oc,od,.func fd,osl⟩)(hp:(fd.params.posonlyargs++fd.params.args).head?=some ar)(hv:m ar.arg=some (.ref x))(hcode:NE→LP c.K cda=true)(hcell:NE→Ou c.K cc D=true)(hD:NE→(clsIn c.K D).isSome=true)(hsub:NE→mroIn c.K C (.ref D)=some true)(hat:(attr == ("__class__" : A9))=false)(hks:scope.names.lookup ("super" : A9)=some .globalImplicit)(hkc:scope.names.lookup ("__class__" : A9)=some .free)(hka:scope.names.lookup ar.arg=some .local)(hk:scope.kind=.function)(htop:(PG.main.scope.names.lookup ("super" : A9)).isSome=false)(hboot:GI "super" = some (.type "super"))(h:∀so s',Pu s s'→Fm s0 H Z L m s'→s'.heap.get? so=some (ks_superObj D x C)→Q (.ref so) s'):_root_.PySem.wpAt (MD c.w) A (.func body (ksEnv q scope L f (.ref cda) cc)) (attributeBase (.Call (.Name "super" p0) [] [] p1) attr (ksEnv q scope L f (.ref cda) cc) whole) Q E s:=by
 have X:=F.X;have hf:=Ud F.ne hf;have hsub:=hsub F.ne;obtain⟨ccl,cdd,vs,ccs,file,tf,hcode,hvs,hfile⟩:=Rh (hcode F.ne);obtain⟨cl,cld,csl,hcell⟩:=SR (hcell F.ne);obtain⟨cdD,hD⟩:=GO.mp (hD F.ne);refine xEA ((FD.ext F.keep).look) fun od' hod _=>?_;have I':InstAt s.heap x (DX C dx) C (some od'):=Ins.at (F.keep _ _ I) hod
 obtain⟨oD,hD1,hD2⟩:∃oD,s.heap.get? D=some oD∧oD.data=.cls cdD:=by
  unfold clsIn at hD;split at hD
  ·rename_i c d cd' sl ho;obtain rfl:=Ag hD;exact (yEA _ (X _ _ ho) rfl)
  ·exact nomatch hD
 refine ks_wpAt_super_base (env:=ksEnv q scope L f (.ref cda) cc) hks hkc hat rfl (X _ _ hf) rfl hp rfl (X _ _ hcode) rfl hvs hfile htop ?_;refine ks_loadName_global hk hks (Je (env:=ksEnv q scope L f (.ref cda) cc) F.T.g (mg_none_of F.X F.T.g (V0 F.ne)) F.T.b ((F.T.builtins _ (by decide +kernel)).trans hboot) ⟨rfl,?_⟩);refine wpAny_loadName_free hk hkc rfl (yEA _ (X _ _ hcell) rfl) ?_;refine IM hk hka F.ns hv ?_;obtain⟨hh,g,d,t,os⟩:=s;refine ks_wpAny_isType_cls hD1 hD2 ⟨rfl,?_⟩;refine ks_wpAny_call_super hD1 hD2 I'.at_ I'.cls (fun c e=>?_) (looks_mroIn X hsub) (fun h' e k=>?_)
 ·have:=I'.no;unfold notCls at this;rw[e]at this;exact Bool.noConfusion this
 ·have p:Pu ⟨hh,g,d,t,os⟩ ⟨h',g,d,t,os⟩:=⟨k,rfl,rfl⟩;exact h _ _ p (F.pu p) e
theorem Nq{pl:Sem Bool}(F:Fm s0 H Z L m s)(hso:s.heap.get? so=some (ks_superObj D x C))(I:Ins H x C dx)(FD:Fld H dx mp k)(hm:NE→DF c.K C D name=some (some (.ref f2)))(ht:NE→HB c.K (.ref f2)=some (.type "function"))(hn:(name == ("__class__" : A9))=false)(h:∀q s',Pu s s'→Fm s0 H Z L m s'→s'.heap.get? q=some (Ia (.ref f2) (.ref x))→Q (.ref q,[]) s'):A8 (MD c.w) A (C3 (.ref so) name pl) Q E s:=by
 have X:=F.X;have hm:=hm F.ne;have ht:=ht F.ne;refine xEA ((FD.ext F.keep).look) fun od' hod _=>?_;have I':InstAt s.heap x (DX C dx) C (some od'):=Ins.at (F.keep _ _ I) hod;obtain⟨hh,g,d,t,os⟩:=s
 cases hc:clsIn c.K C with
 | none=>unfold DF at hm;rw[hc]at hm;exact nomatch hm
 | some cd=>
  unfold DF at hm;rw[hc]at hm
  obtain⟨of,hof,hofc⟩:∃of,hh.get? f2=some of∧of.cls=.type "function":=by
   have ht':(c.K.lookup f2).map (·.cls)=some (.type "function"):=ht
   cases z:c.K.lookup f2 with
   | none=>rw[z]at ht';exact nomatch ht'
   | some of=>rw[z]at ht';exact (yEA of (X _ _ z) (Ag ht'))
  refine ks_wpAny_getMethod_super hso (looks_opaque X (si_any F.ne)) (l₀:=cd.mro) ?_ rfl X hm hof hofc (ks_ne X I' hc) hn ?_
  ·exact fun A Q E s k q=>A5 ((looks_clsIn X hc) A _ E s k (Ae q))
  ·have p:Pu ⟨hh,g,d,t,os⟩ ⟨hh.push {cls:=.type "method",data:=.fields #[.ref f2,.ref x]},g,d,t+1,os⟩:=⟨Ext.push _ _,rfl,rfl⟩;exact h _ _ p (F.pu p) (Heap.get?_push_at rfl rfl)
theorem Vj{C:Code}{env:Env}{st:Stmt}{rest:List Stmt}{Q:DB→A4→Prop}(h:A8 (MD c.w) A (execs [st] env) (fun f s'=>f=.next∧_root_.PySem.wpAt (MD c.w) A C (execs rest env) Q E s') E s):_root_.PySem.wpAt (MD c.w) A C (execs (st::rest) env) Q E s:=by
 refine Ez fun Γ p hc hΓ=>?_;have h1:=h Γ p hΓ;rw[execs_cons,HG]at h1;refine Sem.wp_mono _ Γ _ (fun f p' s' h'=>?_) (fun _ _ _ h'=>h') _ _ h1
 induction f with
 | next=>
  have h2:Flow.next=Flow.next∧_:=h';exact h2.2
 | brk=>exact absurd h'.1 (by simp)
 | cont=>exact absurd h'.1 (by simp)
 | ret v=>exact absurd h'.1 (by simp)
theorem RU(ne:NE)(hf:NE→JE c.K g=true)(h:A8 (MD c.w) A (EH (BO pos (AG (e::rest) env))) (fun vs s₁=>s₁.heap.get? q=some (Ia (.ref g) self)∧c.K.In s₁.heap∧BM (MD c.w) A (.call (.ref g) ⟨self::vs,[]⟩) (RQ Q E) s₁) E s)(he:autoParam (AG (e::rest) env=(false,AJ e env)::AG rest env) au1._auto_1)(hplain:autoParam ((BO pos (AG rest env)).any (·.1)=false) au1._auto_1):A8 (MD c.w) A (Cg pos (.ref q) [] (BO pos (AG (e::rest) env)) []) Q E s:=by
 rw[he]at h ⊢;refine callWith_of (P:=MethP c.K q g self) (by show ((false || (BO pos (AG rest env)).any (·.1)) || false)=false;rw[hplain];rfl) (keeps_M (hf ne)) (evalArgs_plain (Al h (fun vs s₁ h₁=>?_) fun _ _ x=>x));exact⟨⟨h₁.1,h₁.2.1⟩,Pg h₁.1 h₁.2.2⟩
theorem Uh(ne:NE)(hf:NE→JE c.K g=true)(h1:s.heap.get? q=some (Ia (.ref g) self))(h2:c.K.In s.heap)(h3:BM (MD c.w) A (.call (.ref g) ⟨[self],[]⟩) (RQ Q E) s):A8 (MD c.w) A (Cg pos (.ref q) [] (BO pos (AG [] env)) []) Q E s:=
 callWith_of (P:=MethP c.K q g self) rfl (keeps_M (hf ne)) (evalArgs_nil3 ⟨⟨h1,h2⟩,Pg h1 h3⟩)
end
end
section
theorem Ls(h:p.length≤a):Ku p a=a:=by
 rw[Nu,if_neg];rw[A6,AI h];simp
theorem L5(h:p[a]?=some a):Ku p a=a:=by
 rw[Nu,if_neg];rw[A6,h];simp
theorem M8(h:p[a]?=some x)(hx:x<a):Ku p a=Ku p x:=by
 rw[Nu,if_pos]
 ·rw[A6,h];rfl
 ·rw[A6,h];exact hx
theorem Po(low:Low p):∀{a:Nat},a<p.length→p[Ku p a]?=some (Ku p a):=by
 intro a
 induction a using CG with
 | _ a ih=>
  intro h;have hx:p[a]?=some p[a]:=A7 h;have hle:=low _ _ hx;rcases B8 p[a] a with q | q
  ·rw[M8 hx q];exact ih _ q (Ct q h)
  ·have e:p[a]=a:=AY hle q;rw[e]at hx;rw[L5 hx];exact hx
theorem Q5(low:Low p)(a:Nat):Ku p (Ku p a)=Ku p a:=by
 rcases B8 a p.length with h | h
 ·exact L5 (Po low h)
 ·rw[Ls h,Ls h]
theorem Low.set(low:Low p)(h:k≤g):Low (p.set g k):=fun i x e=>by
 rw[BU]at e;split at e
 ·rename_i q;subst q;split at e
  ·obtain rfl:=Ag e;exact h
  ·exact nomatch e
 ·exact low i x e
theorem Low.snoc(low:Low p):Low (p++[p.length]):=fun i x e=>by
 rcases B8 i p.length with q | q
 ·rw[Ar q]at e;exact low i x e
 ·rw[BA q]at e
  have h0:i - p.length=0:=by
   have:=(Af.mp e).1;simp at this;omega
  rw[h0]at e;obtain rfl:=Ag e;exact q
theorem NV(low:Low p)(hg:p[g]?=some g)(hk:p[k]?=some k)(h:k<g):∀a,Ku (p.set g k) a=if Ku p a=g then k else Ku p a:=by
 intro a;have hgl:g<p.length:=(Af.mp hg).1;have hgk:(p.set g k)[k]?=some k:=by rw[BE (by exact Cs ‹_›)];exact hk
 induction a using CG with
 | _ a ih=>
  rcases B8 a p.length with q | q
  ·by_cases e:a=g
   ·subst e;have h1:(p.set a k)[a]?=some k:=BG hgl;rw[M8 h1 h,L5 hgk,L5 hg,if_pos rfl]
   ·have hx:p[a]?=some p[a]:=A7 q;have hle:=low _ _ hx;have hx':(p.set g k)[a]?=some p[a]:=by rw[BE (fun z=>e z.symm)];exact hx
    rcases B8 p[a] a with r | r
    ·rw[M8 hx r,M8 hx' r,ih _ r]
    ·have e2:p[a]=a:=AY hle r;rw[e2]at hx hx';rw[L5 hx,L5 hx',if_neg e]
  ·rw[Ls q,Ls (by rw[By];exact q),if_neg (by exact aq253 hgl q)]
theorem N8(low:Low p)(a:Nat):Ku (p++[p.length]) a=Ku p a:=by
 induction a using CG with
 | _ a ih=>
  rcases B8 a p.length with q | q
  ·have hx:p[a]?=some p[a]:=A7 q;have hx':(p++[p.length])[a]?=some p[a]:=by rw[Ar q];exact hx
   have hle:=low _ _ hx;rcases B8 p[a] a with r | r
   ·rw[M8 hx r,M8 hx' r,ih _ r]
   ·have e2:p[a]=a:=AY hle r;rw[e2]at hx hx';rw[L5 hx,L5 hx']
  ·rw[Ls q];rcases B8 p.length a with r | r
   ·exact Ls (by simp;assumption)
   ·have:a=p.length:=AY r q;subst this;exact L5 (by simp)
structure Bas(st:St):Prop where
 hn:st.rows.length≤13
 up:st.up.length=st.rows.length
 lots:st.lots.length=st.rows.length
 abv:st.abv.length=st.rows.length
 wts:st.wts.length=st.rows.length
 dps:st.dps.length=st.rows.length
 nums:st.nums=st.rows.zipIdx
 low:Low st.up
 keys:∀i,st.akeys i=Kz st.up i
 lotz:∀(i:Nat) (l:List Nat),st.lots[i]?=some l→l.length≤13
 abvz:∀(i:Nat) (l:List Nat),st.abv[i]?=some l→l.length≤26
 mrgz:st.mrg.length≤13
 edgz:st.edges≤100
 forz:st.forest≤100
 knoz:st.known.length≤1000
 chgz:st.chg.length≤2000
 waiz:st.wait.length≤1000
 mksz:st.mks.length≤100
 kids:∀(n:Nat) (r:Row),st.rows[n]?=some r→r.2.length≤2∧∀k∈r.2,k<st.rows.length
 gone:∀k m g,Chg.edge k m g∈st.chg→k≠g→Kz st.up g=false
 gonl:∀k m g,Chg.edge k m g∈st.chg→g<st.rows.length
namespace Bas
variable{st:St}
theorem rt(b:Bas st)(h:a<st.rows.length):Kz st.up (Ku st.up a)=true:=by
 unfold Kz;rw[Po b.low (by rw[b.up];exact h)];exact if_pos rfl
theorem kr(b:Bas st)(h:a<st.rows.length):st.akeys (Ku st.up a)=true:=(b.keys _).trans (b.rt h)
theorem rl(b:Bas st)(h:a<st.rows.length):Ku st.up a<st.rows.length:=An (LI _ _) h
theorem klt(b:Bas st)(h:st.akeys i=true):i<st.rows.length:=by
 rw[b.keys]at h;unfold Kz at h;have:=(Af.mp (by simpa using h:st.up[i]?=some i)).1;rw[b.up]at this;exact this
end Bas
end
section
section
variable{A:Aq}{s:A4}{E Q:Value→A4→Prop}{y:Lay}{st:St}{s0:A4}{H:AE}{Z:List (Addr×Obj)}{L:Addr}{m:A9→Option Value}{env:Env}
theorem sp5{e e2 e3 e4 e5:Expr}{pos:Pos}{Q:List Value→A4→Prop}(h:A8 (MD c.w) A (AJ e env) (fun v s'=>A8 (MD c.w) A (AJ e2 env) (fun v2 s''=>A8 (MD c.w) A (AJ e3 env) (fun v3 s3=>A8 (MD c.w) A (AJ e4 env) (fun v4 s4=>A8 (MD c.w) A (AJ e5 env) (fun v5 s5=>Q [v,v2,v3,v4,v5] s5) E s4) E s3) E s'') E s') E s)(he:autoParam (AG [e,e2,e3,e4,e5] env=[(false,AJ e env),(false,AJ e2 env),(false,AJ e3 env),(false,AJ e4 env),(false,AJ e5 env)]) au1._auto_1):A8 (MD c.w) A (EH (BO pos (AG [e,e2,e3,e4,e5] env))) Q E s:=by
 rw[he];exact AK (Al h (fun _ _ h'=>AK (Al h' (fun _ _ h''=>AK (Al h'' (fun _ _ h3=>AK (Al h3 (fun _ _ h4=>AK (Al h4 (fun _ _ h5=>BR h5) fun _ _ x=>x)) fun _ _ x=>x)) fun _ _ x=>x)) fun _ _ x=>x)) fun _ _ x=>x)
theorem Z1(h:A8 (MD c.w) A (AJ e env) (fun v s'=>A8 (MD c.w) A (AJ e2 env) (fun v2 s''=>A8 (MD c.w) A (AJ e3 env) (fun v3 s3=>A8 (MD c.w) A (AJ e4 env) (fun v4 s4=>A8 (MD c.w) A (AJ e5 env) (fun v5 s5=>A8 (MD c.w) A (FP [v,v2,v3,v4,v5]) Q E s5) E s4) E s3) E s'') E s') E s)(he:autoParam (AG [e,e2,e3,e4,e5] env=[(false,AJ e env),(false,AJ e2 env),(false,AJ e3 env),(false,AJ e4 env),(false,AJ e5 env)]) au1._auto_1):A8 (MD c.w) A (AJ (.Tuple [e,e2,e3,e4,e5] k pos) env) Q E s:=HF (sp5 h he)
theorem Lq(rm:Rm A 2 36)(F:Fm s0 H Z L m s)(G:KW y st H)(low:Low st.up)(ha:a<st.up.length)(hp:st.up.length≤1000)(hs:m "self" = some (.ref y.lv))(hx:m x=some (.int a t))(h:∀s' t',Pu s s'→Fm s0 H Z L m s'→Q (.int (Ku st.up a) t') s')(hk:autoParam (env.scope.kind=.function) au1._auto_1)(hl1:autoParam (env.kindOf "self" = some .local) au1._auto_1)(hl2:autoParam (env.kindOf x=some .local) au1._auto_1)(hL:autoParam (env.locals=L) au1._auto_1)(hd:autoParam ((x == ("__debug__" : A9))=false) au1._auto_1)(he:autoParam (AJ (.Call (.Attribute (.Name "self" p1) "find" p2) [.Name x p3] [] p4) env=(do let ov ←AJ (.Name "self" p1) env;Em p2.atName;let (f,first) ←Di [ov] (C3 ov "find" (do return (←BY (.Name "self" p1) env).getD true));Cg p4 f first (BO p4 (AG [.Name x p3] env)) [])) au1._auto_1):A8 (MD c.w) A (AJ (.Call (.Attribute (.Name "self" p1) "find" p2) [.Name x p3] [] p4) env) Q E s:=
 Ly Ma (Kv F hs (by
  refine G.ldK fun t1 t2 hld=>?_;exact⟨_,_,_,_,rfl,F,G.lv,hld,rfl,Kv F hx ⟨F.In,Me rm (F.base.trans F.keep) (G.ext F.keep) low ha hp fun s' t' P=>h s' t' P (F.pu P)⟩ hk hl2 hL hd⟩) hk hl1 hL (by rfl)) (by rfl) he
noncomputable def RT(st:St)(k g:Nat):St:={st with chg:=st.chg++[.edge k (st.abv.getD k []).length g]}
noncomputable def OZ(st:St)(k:Nat):St:={RT st k k with edges:=st.edges+1}
noncomputable def Oi(st:St)(k g:Nat):St:=M3 (RT st k g) k g
namespace U29
noncomputable def pP(A:Aq)(s:A4)(E Q:Value→A4→Prop)(y:Lay)(st:St)(a b:Nat)(t u:Tok):Prop:=∀{rs:Value}(rm:Rm A 5 80)(B:Bs s.heap)(G:KW y st s.heap)(bs:Bas st)(ha:a<st.rows.length)(hb:b<st.rows.length)(k0:Ku st.up a=Ku st.up b→∀s',Ms y st y (OZ st (Ku st.up a)) s s'→KW y (OZ st (Ku st.up a)) s'.heap→Q (.bool false) s')(k1:∀k g,Ku st.up a≠Ku st.up b→k=min (Ku st.up a) (Ku st.up b)→g=max (Ku st.up a) (Ku st.up b)→∀s' a',Ms y st (y.set (.ab k) a') (Oi st k g) s s'→KW (y.set (.ab k) a') (Oi st k g) s'.heap→Q (.bool true) s'),A8 (MD c.w) A (call (.ref 543) [.ref y.lv,.int a t,.int b u,rs]) Q E s
noncomputable def fF:=unz fun A=>unz fun s=>unz fun E=>unz fun Q=>unz fun y=>unz fun st=>unz fun a=>unz fun b=>unz fun t=>pP A s E Q y st a b t
noncomputable def kK:=epz ({},{},default,default,OG,dSt,default) fF
noncomputable def A_:=kK.1
noncomputable def s_:=kK.2.1
noncomputable def y_:=kK.2.2.2.2.1
noncomputable def st_:=kK.2.2.2.2.2.1
noncomputable def a_:=kK.2.2.2.2.2.2.1
noncomputable def b_:=kK.2.2.2.2.2.2.2.1
theorem tT:pP A_ s_ kK.2.2.1 kK.2.2.2.1 y_ st_ a_ b_ kK.2.2.2.2.2.2.2.2.1 kK.2.2.2.2.2.2.2.2.2:=by
 intro rs rm B G bs ha hb k0 k1;refine Un ?_;refine Ue rfl ‹_› ‹_› rfl (Dw rfl) (by decide) rfl rfl rfl ?_;dsimp only[Bg,Bj,AV,AW,AF];intro A_ L s1 rm F;have D:=Gd.refl G;have ha':a_<st_.up.length:=by rw[bs.up];exact ha
 have hb':b_<st_.up.length:=by rw[bs.up];exact hb
 have hn:=bs.hn;have hu:=bs.up;have hv:=bs.abv;have hz:=bs.chgz;have low:=bs.low;have hra:=bs.rl ha;have hrb:=bs.rl hb;refine Vj (Oq (KN F Mb rfl (by decide) (sp1 (Xk (Lq (rm.mono (by decide) (by decide)) F G low ha' (by exact n2 hu hn) rfl rfl fun s2 t2 P F=>Lq (rm.mono (by decide) (by decide)) F G low hb' (by exact n2 hu hn) rfl rfl fun s3 t3 P F=>LA F (by simp) fun s4 l P F hl hna=>VX hl (.cons ⟨_,rfl⟩ (.cons ⟨_,rfl⟩ .nil)) (by simp) fun s5 l2 out ks P hl2 hks hperm hsort hn2'=>?_)))));have F:=F.pu P;have hks2:=ON hperm hsort;generalize hk:min (Ku st_.up a_) (Ku st_.up b_)=k at hks2;generalize hg:max (Ku st_.up a_) (Ku st_.up b_)=g at hks2;subst hks2;have hlen:out.length=2:=hks.1;refine (show A8 (MD c.w) A_ (BX (.ref l2) 2 none) _ _ _ from hlen▸MZ rm.h F hl2 fun s6 P F=>?_);refine hks.unc' ?_;rintro v1 r1 rfl ⟨tk,rfl⟩ hr;refine hr.unc' ?_;rintro v2 r2 rfl ⟨tg,rfl⟩ hr2;obtain rfl:r2=[]:=AX.mp hr2.1;refine VH (L4 F fun s7 F=>L4 F fun s8 F=>Kt ⟨rfl,?_⟩);have hkl:k<st_.rows.length:=by exact aq74 hk hra
 have hgl:g<st_.rows.length:=by exact aq71 hg hra hrb
 have hKk:st_.akeys k=true:=by
  rw[←hk];rcases BI (Ku st_.up a_) (Ku st_.up b_)with q | q
  ·rw[Bh q];exact bs.kr ha
  ·rw[BK q];exact bs.kr hb
 have hKg:st_.akeys g=true:=by
  rw[←hg];rcases BI (Ku st_.up a_) (Ku st_.up b_)with q | q
  ·rw[BB q];exact bs.kr hb
  ·rw[BJ q];exact bs.kr ha
 have eK:∀j:Nat,st_.akeys j=true→abF y_.ad st_ (j:Int)=some (.ref (y_.ad (.ab j))):=fun j hj=>by unfold abF;rw[if_pos ⟨by exact n3,by simpa using hj⟩];simp
 refine G.ldK fun t5 t6 hld=>?_;have hab:ID c.w s_.heap (y_.ad .above) (abF y_.ad st_):=G.ok .above trivial;refine xEA (G.ok .chg trivial) fun vc hvc hnc=>?_;obtain⟨vk,hvk,hnk⟩:NL s_.heap (y_.ad (.ab k)) (st_.abv.getD k []):=G.ok (.ab k) (by show k<st_.abv.length;exact o5 hkl hv) _ (by rw[A6,A7 (by exact o5 hkl hv)];rfl);have hzk:vk.length≤1000:=by rw[hnk.1];have:=bs.abvz k (st_.abv.getD k []) (by rw[A6,A7 (by exact o5 hkl hv)];rfl);exact n1 this
 refine Vj (L8 (La (L9 F rfl G.lv hld rfl Ld rfl fun s9 P F=>Rq (hvc.ext F.keep) (Z1 (cS F fun s10 t10 P F=>Kv F rfl (KN F KL rfl (by decide) (sp1 (Subscript_ (L9 F rfl G.lv hld rfl KQ rfl fun s11 P F=>Kv F rfl (Mq (hab.at2 fun o e=>F.keep _ _ e) (eK k hKk) fun s12 P=>Lj (F.pu P) (hvk.ext (F.pu P).keep) (by exact n1 hzk) fun s13 t13 P F=>Kv F rfl (Subscript_ (L9 F rfl G.lv hld rfl KQ rfl fun s14 P F=>Kv F rfl (Mq (hab.at2 fun o e=>F.keep _ _ e) (eK g hKg) fun s15 P=>KA (F.pu P) (by simp) fun s16 q P F htq hnq=>⟨vc,hvc.ext F.keep,by rw[hnc.1];exact n1 hz,fun s17 M hl17=>?_⟩)))))))))))));refine D.put (r0:=.chg) (st':=RT st_ k g) F M trivial (yEA _ hl17 ((hnc.mono fun _ _ x=>x.im (Im.trans F.keep.im (M.imL (hvc.ext F.keep)))).snoc ⟨q,_,rfl,_,_,_,_,htq.im (M.imL (hvc.ext F.keep)),⟨tk,rfl⟩,⟨t13,by rw[hnk.1]⟩,⟨tg,rfl⟩,fun _=>rfl⟩)) hl17.al rfl fun H1 F D _ _=>?_;have G1:=D.good;refine Kt ⟨rfl,?_⟩;refine G1.ldK fun t7 t8 hld1=>?_;refine Ez (ks_wpAt_Return_some (Gn ?_));refine Nr F G1.lv hld1 rfl rfl rfl cf_join ce_lv cs_lv si_mro (by decide) rfl rfl rfl rfl (by decide +kernel) (by first | rfl | kernel_rfl) fun so s18 P18 F hso=>?_;refine Nq F hso G1.lv hld1 si_join si_ty_join (by decide) fun q2 s19 P19 F hq2=>RU F.ne si_fn_join (sp3 (Kv F rfl (Kv F rfl (Kv F rfl (yAA hq2 F.In ?_)))));have hlz:=bs.lotz;have haz:=bs.abvz
 refine SF (st:=RT st_ k g) (rm.mono (by decide) (by decide)) (F.base.trans F.keep) (G1.ext F.keep) low ha' hb' (by show st_.up.length≤_;exact n2 hu hn) (by show st_.lots.length=st_.up.length;rw[bs.lots,bs.up]) (by show st_.abv.length=st_.up.length;lia) (by have:=bs.mrgz;show st_.mrg.length≤_;exact n1 this) (by have:=bs.edgz;show st_.edges≤_;exact n1 this) (by have:=bs.forz;show st_.forest≤_;exact n1 this) (by have:=bs.waiz;show st_.wait.length≤_;exact n1 this)
  (fun i l h=>by have:=hlz i l h;exact n1 this) (fun i l h=>by have:=haz i l h;exact n1 this) (fun i h=>by have:=bs.klt h;exact n32 this hn) (fun k' m' g' h hne e=>?_) (bs.kr ha) (bs.kr hb) (fun e s20 M G2=>?_) (fun k2 g2 hne hk2 hg2 s20 a' M G2=>?_)
 ·have h:Chg.edge k' m' g'∈st_.chg++[.edge k (st_.abv.getD k []).length g]:=h;have e:g'=min (Ku st_.up a_) (Ku st_.up b_):=e;rcases Am.mp h with h | h
  ·have h1:=bs.gone _ _ _ h hne;rw[e,hk]at h1;have h2:=bs.keys k;rw[hKk,h1]at h2;exact nomatch h2
  ·rw[Ab]at h;cases h;lia
 ·refine D.callG F M G2 fun H2 F D _ _=>?_;refine D.msK F fun G' M'=>?_;have e:Ku st_.up a_=Ku st_.up b_:=e;have e1:k=Ku st_.up a_:=by exact aq264 hk e
  have e2:g=Ku st_.up a_:=by exact aq256 hg e
  subst e1;rw[e2]at G' M';exact k0 e _ M' G'
 ·refine D.callG F M G2 fun H2 F D _ _=>?_;refine D.msK F fun G' M'=>?_;obtain rfl:k2=k:=hk2.trans hk;obtain rfl:g2=g:=hg2.trans hg;exact k1 k2 g2 hne hk2 hg2 _ a' M' G'
end U29
theorem OY{A s E Q y st a b t u}:U29.pP A s E Q y st a b t u:=@KB _ _ U29.fF U29.kK rfl U29.tT (A,s,E,Q,y,st,a,b,t,u)
end
end
section
theorem ME(l1 l2:Atts)(k:A9)(v v':Value)(h:∀p∈l1,p.1≠k):(fun z=>if z=k then some v' else LL (l1++(k,v)::l2) z)=LL (l1++(k,v')::l2):=by
 funext z
 unfold LL
 induction l1 with
 | nil=>
  simp only[List.nil_append,Fd]
  by_cases e:z=k
  ·subst e;simp
  ·have:(z == k)=false:=by simpa using e
   rw[if_neg e,this]
 | cons p l1 ih=>
  obtain⟨pk,pv⟩:=p;have hpk:pk≠k:=h (pk,pv) Aj;simp only[List.cons_append,Fd];have ih:=ih fun q hq=>h q (Ao _ hq)
  by_cases e:z=pk
  ·subst e;rw[if_neg hpk];simp
  ·have:(z == pk)=false:=by simpa using e
   rw[this];exact ih
section
variable{A:Aq}{s:A4}{E Q:Value→A4→Prop}{y:Lay}{st:St}{s0:A4}{H:AE}{Z:List (Addr×Obj)}{L:Addr}{m:A9→Option Value}{env:Env}
theorem RN(y:Lay)(w b v v':Value):(fun z=>if z=("made" : A9)then some v' else lvF y w b v z)=lvF y w b v':=ME [_,_] _ _ _ _ (by intro p hp;simp only[As,Ah,or_false]at hp;rcases hp with rfl | rfl<;>(dsimp only;decide +kernel))
theorem TA(y:Lay)(w b m v':Value):(fun z=>if z=("backs" : A9)then some v' else lvF y w b m z)=lvF y w v' m:=ME [_] _ _ _ _ (by intro p hp;simp only[As,Ah,or_false]at hp;rcases hp with rfl;dsimp only;decide +kernel)
theorem V2(y:Lay)(w b m v':Value):(fun z=>if z=("waiting" : A9)then some v' else lvF y w b m z)=lvF y v' b m:=ME [] _ _ _ _ (by intro p hp;exact absurd hp Ah)
noncomputable def Nf(st:St)(n:Nat):St:=match lk st.known (KG st n)with
 | none=>{st with known:=st.known++[(KG st n,n)]}
 | some o=>if Ku st.up o=Ku st.up n then st else Oi st (min (Ku st.up o) (Ku st.up n)) (max (Ku st.up o) (Ku st.up n))
theorem O7{rows:List Row}{n:Nat}(h:n<rows.length):rows[n]?=some (rows.getD n ("",[])):=by rw[A6,A7 h];rfl
namespace U30
noncomputable def pP(A:Aq)(s:A4)(E Q:Value→A4→Prop)(y:Lay)(st:St)(n:Nat)(t:Tok):Prop:=∀(rm:Rm A 7 100)(B:Bs s.heap)(G:KW y st s.heap)(bs:Bas st)(hn:n<st.rows.length)(hkn:∀p∈st.known,p.2<st.rows.length)(kk:∀s' y',M6 y y'→Ms y st y' (Nf st n) s s'→KW y' (Nf st n) s'.heap→Q .none s'),BM (MD c.w) A (.call (.ref 403) ⟨[.ref y.lv,.int n t],[]⟩) (RQ Q E) s
noncomputable def fF:=unz fun A=>unz fun s=>unz fun E=>unz fun Q=>unz fun y=>unz fun st=>unz fun n=>pP A s E Q y st n
noncomputable def kK:=epz ({},{},default,default,OG,dSt,default) fF
noncomputable def A_:=kK.1
noncomputable def s_:=kK.2.1
noncomputable def y_:=kK.2.2.2.2.1
noncomputable def st_:=kK.2.2.2.2.2.1
noncomputable def n_:=kK.2.2.2.2.2.2.1
noncomputable def t_:=kK.2.2.2.2.2.2.2
theorem tT:pP A_ s_ kK.2.2.1 kK.2.2.2.1 y_ st_ n_ t_:=by
 intro rm B G bs hn hkn kk;refine Pa rfl ‹_› ‹_› rfl (Dw rfl) (by decide) rfl rfl rfl ?_;dsimp only[Bg,Bj,AV,AW,AF];intro A_ L s1 rm F;have D:=Gd.refl G;have hz:=bs.hn;have hu:=bs.up;have low:=bs.low;have hr:=O7 hn;have hkd:=bs.kids _ _ hr;have hn':n_<st_.up.length:=by exact o5 hn hu
 refine G.ldK fun t5 t6 hld=>?_;have hkno:HD (OB c.w) s_.heap (y_.ad .known) st_.known:=G.ok .known trivial;refine Lw (La (L9 F rfl G.lv hld rfl MP rfl fun s2 P F=>VA (knd:=OB c.w) (G.gt .known trivial rfl) (HD.at2 (fun a e=>L2.im a e) hkno (fun o e=>F.keep _ _ e) F.keep.im) (Ly Nw (Kv F rfl ⟨_,_,_,_,rfl,F,G.lv,hld,rfl,Kv F rfl ⟨F.In,Oe (rm.mono (by decide) (by decide)) (F.base.trans F.keep) (G.ext F.keep) low (by exact n2 hu hz) (by exact n1 hz) hr (by omega) (fun k hk=>by have:=hkd.2 k hk;exact o5 this hu) fun s3 q P hq=>Kv (F.pu P) rfl ⟨q,KG st_ n_,n_,rfl,⟨t_,rfl⟩,(show A_.in1.units+1<cLine from by have:=rm.u;show A_.units+1+1<9900;exact n10 this),hq,HD.at2 (fun a e=>L2.im a e) hkno (fun o e=>(F.pu P).keep _ _ e) (F.pu P).keep.im,by have:=bs.knoz;exact n1 this,fun o ho s4 t4 P4=>?_,fun ho s4 t4 M hm=>?_⟩⟩⟩))))
 ·-- a known node
  have F:=(F.pu P).pu P4
  have hol:o<st_.rows.length:=by
   unfold lk at ho
   cases e:st_.known.find? (fun x=>decide (x.1=KG st_ n_))with
   | none=>rw[e]at ho;exact nomatch ho
   | some p=>rw[e]at ho;obtain rfl:=Ag ho;exact hkn p (Dn e)
  refine L4 F fun s5 F=>L7 (wpAny_isTrue_Compare1 (Lq (rm.mono (by decide) (by decide)) F G low (by exact o5 hol hu) (by exact n2 hu hz) rfl rfl fun s6 t6 P F=>Lq (rm.mono (by decide) (by decide)) F G low hn' (by exact n2 hu hz) rfl rfl fun s7 t7 P F=>ne_ (Ai ?_)))
  by_cases e:Ku st_.up o=Ku st_.up n_
  ·refine Ks (by simp[e]) (Kt (Kw (Kt ?_)));refine D.msK F fun G' M'=>?_;have e2:Nf st_ n_=st_:=by unfold Nf;rw[ho];exact if_pos e
   exact kk _ y_ (M6.refl y_) (by rw[e2];exact M') (by rw[e2];exact G')
  ·refine KC (by simp;exact o11 e) (L8 (Wf OT (Kv F rfl ⟨_,_,_,_,rfl,F,G.lv,hld,rfl,Kv F rfl (Kv F rfl (UI (cS F fun s8 t8 P F=>KA F (by simp) fun s9 q9 P F _ _=>⟨F.In,OY (rm.mono (by decide) (by decide)) (F.base.trans F.keep) (G.ext F.keep) bs hol hn (fun e'=>absurd e' e) fun k g hne hk hg s10 a' M G'=>?_⟩)))⟩)));refine D.callG F M G' fun H2 F D _ _=>?_;refine D.msK F fun G' M'=>?_;refine Kt (Kw (Kt ?_));have e2:Nf st_ n_=Oi st_ k g:=by unfold Nf;rw[ho];dsimp only;rw[if_neg e,←hk,←hg]
   exact kk _ _ (M6.set y_ a' rfl) (e2▸M') (e2▸G')
 ·-- a new node
  have F:=F.pu P;refine D.put (r0:=.known) (st':=(St.s_known st_ (st_.known++[(KG st_ n_,n_)]))) F M trivial hm hm.al rfl fun H1 F D _ _=>?_;have G1:=D.good;refine L4 F fun s5 F=>L7 (wpAny_isTrue_Compare1 (Lq (rm.mono (by decide) (by decide)) F G1 low hn' (by show st_.up.length≤_;exact n2 hu hz) rfl rfl fun s6 t6 P F=>Lq (rm.mono (by decide) (by decide)) F G1 low hn' (by show st_.up.length≤_;exact n2 hu hz) rfl rfl fun s7 t7 P F=>ne_ (Ai ?_)));refine Ks (by simp) (Kt (Kw (Kt ?_)));refine D.msK F fun G' M'=>?_;have e2:Nf st_ n_=(St.s_known st_ (st_.known++[(KG st_ n_,n_)])):=by unfold Nf;rw[ho]
  exact kk _ y_ (M6.refl y_) (e2▸M') (e2▸G')
end U30
theorem SE{A s E Q y st n t}:U30.pP A s E Q y st n t:=@KB _ _ U30.fF U30.kK rfl U30.tT (A,s,E,Q,y,st,n,t)
end
end
section
section
variable{A:Aq}{s:A4}{E Q:Value→A4→Prop}{y:Lay}{st:St}{s0:A4}{H:AE}{Z:List (Addr×Obj)}{L:Addr}{m:A9→Option Value}{env:Env}
theorem VG{C:Code}{st:Stmt}{rest:List Stmt}{Q:DB→A4→Prop}{P:A4→Prop}(h:A8 (MD c.w) A (execs [st] env) (fun f s'=>f=.next∧P s') E s)(k:∀s',P s'→_root_.PySem.wpAt (MD c.w) A C (execs rest env) Q E s'):_root_.PySem.wpAt (MD c.w) A C (execs (st::rest) env) Q E s:=Vj (Al h (fun f s' h'=>⟨h'.1,k s' h'.2⟩) fun _ _ e=>e)
noncomputable def MH(st:St)(n:Nat):St:=if n=st.made then {st with chg:=st.chg++[.made n],made:=n+1} else st
noncomputable def M7(st:St)(n:Nat):St:=if lk st.known (KG st n)=none then {st with chg:=st.chg++[.known (KG st n)]} else st
noncomputable def MI(st:St)(n:Nat):St:=Nf (M7 (MH st n) n) n
theorem Bas.chg(b:Bas st)(hz:ch.length≤2000)(hg:∀k m g,Chg.edge k m g∈ch→Chg.edge k m g∈st.chg):Bas {st with chg:=ch,made:=md}:=
 {b with chgz:=hz,gone:=fun k m g h=>b.gone k m g (hg k m g h),gonl:=fun k m g h=>b.gonl k m g (hg k m g h)}
theorem Bas.made(b:Bas st)(n:Nat)(hz:st.chg.length≤1999):Bas (MH st n):=by
 unfold MH;split
 ·exact b.chg (by simp;exact n1 hz) fun k m g h=>by
   rcases Am.mp h with h | h
   ·exact h
   ·rw[Ab]at h;exact nomatch h
 ·exact b
theorem Bas.know(b:Bas st)(n:Nat)(hz:st.chg.length≤1999):Bas (M7 st n):=by
 unfold M7;split
 ·exact b.chg (md:=st.made) (by simp;exact n1 hz) fun k m g h=>by
   rcases Am.mp h with h | h
   ·exact h
   ·rw[Ab]at h;exact nomatch h
 ·exact b
namespace U31
noncomputable def pP(A:Aq)(s:A4)(E Q:Value→A4→Prop)(y:Lay)(st:St)(n:Nat)(t:Tok):Prop:=∀(rm:Rm A 8 110)(B:Bs s.heap)(G:KW y st s.heap)(bs:Bas st)(hcz:st.chg.length≤1990)(hn:n<st.rows.length)(hkn:∀p∈st.known,p.2<st.rows.length)(kk:∀s' y',M6 y y'→Ms y st y' (MI st n) s s'→KW y' (MI st n) s'.heap→Q .none s'),A8 (MD c.w) A (call (.ref 535) [.ref y.lv,.int n t]) Q E s
noncomputable def fF:=unz fun A=>unz fun s=>unz fun E=>unz fun Q=>unz fun y=>unz fun st=>unz fun n=>pP A s E Q y st n
noncomputable def kK:=epz ({},{},default,default,OG,dSt,default) fF
noncomputable def A_:=kK.1
noncomputable def s_:=kK.2.1
noncomputable def y_:=kK.2.2.2.2.1
noncomputable def st_:=kK.2.2.2.2.2.1
noncomputable def n_:=kK.2.2.2.2.2.2.1
noncomputable def t_:=kK.2.2.2.2.2.2.2
inductive Zr(L:Addr)(s2:A4):Prop
 | mk(H2:AE)(m2:A9→Option Value)(a1:Fm s_ H2 [] L m2 s2)(a2:Gd y_ st_ s_.heap y_ (MH st_ n_) H2)(a3:m2 "self" = some (.ref y_.lv))(a4:m2 "n" = some (.int n_ t_))
inductive Zq(L:Addr)(st1:St)(s2:A4):Prop
 | mk(H2:AE)(m2:A9→Option Value)(a1:Fm s_ H2 [] L m2 s2)(a2:Gd y_ st_ s_.heap y_ (M7 st1 n_) H2)(a3:m2 "self" = some (.ref y_.lv))(a4:m2 "n" = some (.int n_ t_))
theorem tT:pP A_ s_ kK.2.2.1 kK.2.2.2.1 y_ st_ n_ t_:=by
 intro rm B G bs hcz hn hkn kk;refine Un ?_;refine Ue rfl ‹_› ‹_› rfl (Dw rfl) (by decide) rfl rfl rfl ?_;dsimp only[Bg,Bj,AV,AW,AF];intro A_ L s1 rm F;have D:=Gd.refl G;have hz:=bs.hn;have hu:=bs.up;have low:=bs.low;refine G.ldK fun t5 t6 hld=>?_;refine VG (P:=Zr L) (L7 (wpAny_isTrue_Compare1 (Kv F rfl (L9 F rfl G.lv hld rfl Se rfl fun s3 P F=>eq_ (Ai ?_))))) ?_
 ·by_cases e:n_=st_.made
  ·refine KC (by simp[e]) ?_;refine xEA (G.ok .chg trivial) fun vc hvc hnc=>?_;refine L8 (La (L9 F rfl G.lv hld rfl Ld rfl fun s4 P F=>Rq (hvc.ext F.keep) (PU (cS F fun s5 t7 P F=>Kv F rfl (KA F (by simp) fun s6 q P F htq hnq=>⟨vc,hvc.ext F.keep,by rw[hnc.1];exact n1 hcz,fun s7 M hl7=>?_⟩)))));refine D.put (r0:=.chg) (st':=(St.s_chg st_ (st_.chg++[.made n_]))) F M trivial (yEA _ hl7 ((hnc.mono fun _ _ x=>x.im (Im.trans F.keep.im (M.imL (hvc.ext F.keep)))).snoc (y:=Chg.made n_) ⟨q,_,rfl,_,htq.im (M.imL (hvc.ext F.keep)),⟨t_,rfl⟩⟩)) hl7.al rfl fun H1 F D _ _=>?_;have G1:=D.good;refine G1.ldK fun t8 t9 hld1=>?_;refine NG (bop (Kv F rfl (cI F fun s8 t10 P F=>SW F fun s9 t11 P F=>Kv F rfl (sa F.ne F.In (F.keep _ _ G1.lv) (hld1.ext F.keep) Nv (by decide) fun s10 M hfd=>?_))));have hfd:Fld s10.heap (y_.ad .ld) (fun z=>if z=("made" : A9)then some (.int ((n_+1:Nat):Int) t11)else lvF y_ (.ref (y_.ad .wait)) (.int st_.backs t8) (.int st_.made t9) z) 11:=hfd;rw[RN]at hfd;refine D.put (r0:=.ld) (st':=(St.s_made (St.s_chg st_ (st_.chg++[.made n_])) (n_+1))) F M trivial (yEE t8 t11 hfd) hfd.al rfl fun H2 F D _ _=>?_;refine Kt (Kw (Kt ⟨rfl,_,_,F,?_,rfl,rfl⟩));unfold MH;rw[if_pos e];exact D
  ·refine Ks (by simp;exact o11 e) (Kt (Kw (Kt ⟨rfl,_,_,F,?_,rfl,rfl⟩)));unfold MH;rw[if_neg e];exact D
 rintro s2 ⟨H2,m2,F,D,m3,m4⟩;have b1:=bs.made n_ (by exact n1 hcz)
 have hc1:(MH st_ n_).chg.length≤1991:=by
  unfold MH;split
  ·simp;exact n1 hcz
  ·exact n1 hcz
 have hk1:(MH st_ n_).known=st_.known:=by unfold MH;split<;>rfl
 have hr1:(MH st_ n_).rows=st_.rows:=by unfold MH;split<;>rfl
 change Gd y_ st_ s_.heap y_ (MH st_ n_) H2 at D
 generalize hst1:MH st_ n_=st1 at *;have hr:=O7 (rows:=st1.rows) (n:=n_) (by rw[hr1];exact hn);have hkd:=b1.kids _ _ hr;have hz1:=b1.hn;have hu1:=b1.up;have G1:=D.good;refine G1.ldK fun t8 t9 hld1=>?_;refine Vj (Lw (Ly Nw (Kv F m3 ⟨_,_,_,_,rfl,F,G1.lv,hld1,rfl,Kv F m4 ⟨F.In,Oe (rm.mono (by decide) (by decide)) (F.base.trans F.keep) (G1.ext F.keep) b1.low (by lia) (by exact A0 ‹_› (by decide)) hr (by lia) (fun k hk=>by have:=hkd.2 k hk;lia) fun s3 q P hq=>?_⟩⟩)));refine F.takeK P fun H3 hE F _ him=>?_;have D:=D.ext hE;have G1:=D.good;refine G1.ldK fun t8 t9 hld1=>?_;have hq:L2 H3 q (KG st1 n_):=hq.im him;refine L4 F fun s4 F=>Kt ⟨rfl,?_⟩;have hkno:HD (OB c.w) H3 (y_.ad .known) st1.known:=G1.ok .known trivial;refine VG (P:=Zq L st1) (L7 (wpAny_isTrue_Compare1 (Kv F rfl (L9 F m3 G1.lv hld1 rfl MP rfl fun s5 P F=>VC F (show A_.in1.units+1<cLine from by have:=rm.u;show A_.units+1+1<9900;exact n10 this) (hq.im F.keep.im) (G1.gt .known trivial rfl) (HD.at2 (fun a e=>L2.im a e) hkno (fun o e=>F.keep _ _ e) F.keep.im) fun s6 P F=>Ai ?_)))) ?_
 ·cases e:lk st1.known (KG st1 n_)with
  | none=>
   refine KC rfl ?_;refine xEA (G1.ok .chg trivial) fun vc hvc hnc=>?_;refine L8 (La (L9 F m3 G1.lv hld1 rfl Ld rfl fun s4 P F=>Rq (hvc.ext F.keep) (PU (cS F fun s5 t7 P F=>Kv F rfl (KA F (by simp) fun s6 q2 P F htq hnq=>⟨vc,hvc.ext F.keep,by rw[hnc.1];exact n1 hc1,fun s7 M hl7=>?_⟩)))))
   refine LZ (D.set (r0:=.chg) (st':=M7 st1 n_) F M trivial (by
    unfold M7;rw[if_pos e];exact (yEA _ hl7 ((hnc.mono fun _ _ x=>x.im (Im.trans F.keep.im (M.imL (hvc.ext F.keep)))).snoc ⟨q2,_,rfl,_,htq.im (M.imL (hvc.ext F.keep)),(hq.im F.keep.im).im (M.imL (hvc.ext F.keep))⟩))) hl7.al (fun r h=>by unfold M7 at h;rw[if_pos e]at h;exact h) (by unfold M7;rw[if_pos e]) (fun r h hr hl h1=>by
    unfold M7;rw[if_pos e]
    induction r<;>first | exact absurd rfl hr | exact h1)) fun H1 F D _ _=>?_
   exact Kt (Kw (Kt ⟨rfl,_,_,F,D,m3,m4⟩))
  | some o=>
   refine Ks rfl (Kt (Kw (Kt ⟨rfl,_,_,F,?_,m3,m4⟩)));unfold M7;rw[if_neg (by rw[e];simp)];exact D
 rintro s5 ⟨H5,m5,F,D,m6,m7⟩;have b2:=b1.know n_ (by exact n1 hc1);have hk2:(M7 st1 n_).known=st1.known:=by unfold M7;split<;>rfl
 have hr2:(M7 st1 n_).rows=st1.rows:=by unfold M7;split<;>rfl
 have hl:MI st_ n_=Nf (M7 st1 n_) n_:=by unfold MI;rw[hst1]
 generalize hst2:M7 st1 n_=st2 at *;have G2:=D.good;refine G2.ldK fun t8 t9 hld2=>?_;refine Ez (JD (Gn ?_));refine Nr F G2.lv hld2 rfl rfl m6 cf_look ce_lv cs_lv si_mro (by decide) rfl rfl rfl rfl (by decide +kernel) (by first | rfl | kernel_rfl) fun so s18 P18 F hso=>?_;refine Nq F hso G2.lv hld2 si_look si_ty_look (by decide) fun q2 s19 P19 F hq2=>RU F.ne si_fn_look (sp1 (Kv F m7 (yAA hq2 F.In ?_)));refine SE (rm.mono (by decide) (by decide)) (F.base.trans F.keep) (G2.ext F.keep) b2 (by rw[hr2,hr1];exact hn) (fun p hp=>?_) fun s20 y' hL M G3=>?_
 ·rw[hr2,hr1];rw[hk2,hk1]at hp;exact hkn p hp
 ·refine D.callG F M G3 fun H6 F D _ _=>?_;refine D.msK F fun G' M'=>?_;refine wpAt_of_wpAny (Fu ?_);exact kk _ _ hL (by rw[hl];exact M') (by rw[hl];exact G')
end U31
theorem OX{A s E Q y st n t}:U31.pP A s E Q y st n t:=@KB _ _ U31.fF U31.kK rfl U31.tT (A,s,E,Q,y,st,n,t)
end
end
section
section
variable{A:Aq}{s:A4}{E Q:Value→A4→Prop}{y:Lay}{st:St}{s0:A4}{H:AE}{Z:List (Addr×Obj)}{L:Addr}{m:A9→Option Value}{env:Env}
theorem PE(rm:Rm A 6 90)(B:Bs s.heap)(G:KW y st s.heap)(bs:Bas st)(ha:a<st.rows.length)(hb:b<st.rows.length)(k0:Ku st.up a=Ku st.up b→∀s',Ms y st y (OZ st (Ku st.up a)) s s'→KW y (OZ st (Ku st.up a)) s'.heap→Q (.bool false) s')(k1:∀k g,Ku st.up a≠Ku st.up b→k=min (Ku st.up a) (Ku st.up b)→g=max (Ku st.up a) (Ku st.up b)→∀s' a',Ms y st (y.set (.ab k) a') (Oi st k g) s s'→KW (y.set (.ab k) a') (Oi st k g) s'.heap→Q (.bool true) s'):A8 (MD c.w) A (call (.ref 424) [.ref y.lv,.int a t,.int b u,rs]) Q E s:=by
 refine LG rfl ‹_› ‹_› rfl (Dw rfl) (by decide) rfl rfl rfl ?_;dsimp only[Bg,Bj,AV,AW,AF];intro A L s1 rm F;have D:=Gd.refl G;refine G.ldK fun t5 t6 hld=>?_;refine KS (Wf OT (Kv F rfl ⟨_,_,_,_,rfl,F,G.lv,hld,rfl,Kv F rfl (Kv F rfl (Kv F rfl ⟨F.In,OY (rm.mono (by decide) (by decide)) (F.base.trans F.keep) (G.ext F.keep) bs ha hb (fun e s10 M G'=>?_) (fun k g hne hk hg s10 a' M G'=>?_)⟩))⟩))
 ·refine D.callG F M G' fun H2 F D _ _=>?_;refine D.msK F fun G' M'=>?_;exact k0 e _ M' G'
 ·refine D.callG F M G' fun H2 F D _ _=>?_;refine D.msK F fun G' M'=>?_;exact k1 k g hne hk hg _ _ M' G'
structure UA(st:St)(n:Nat):Prop where
 bs:Bas st
 hcz:st.chg.length≤1990
 hn:n<st.rows.length
 hkn:∀p∈st.known,p.2<st.rows.length
inductive Zg(s:A4)(y:Lay)(st:St)(J:St→Prop)(L:Addr)(s':A4):Prop
 | mk(m:A9→Option Value)(H':AE)(y':Lay)(st':St)(a1:Fm s H' [] L m s')(a2:Gd y st s.heap y' st' H')(a3:M6 y y')(a4:J st')(a5:st'.wait=[])
inductive Zf(s:A4)(y:Lay)(st:St)(J:St→Prop)(mu:St→Nat)(L:Addr)(n:Nat)(s':A4):Prop
 | mk(m:A9→Option Value)(H':AE)(y':Lay)(st':St)(a1:Fm s H' [] L m s')(a2:Gd y st s.heap y' st' H')(a3:M6 y y')(a4:J st')(a5:mu st'=n)(a6:m "self" = some (.ref y.lv))
theorem QJ(J:St→Prop)(mu:St→Nat)(hJ:∀st,J st→st.wait.length≤1000)(hstep:∀st w n,J st→st.wait=w++[n]→UA (St.s_wait st w) n∧J (MI (St.s_wait st w) n)∧mu (MI (St.s_wait st w) n)<mu st)(rm:Rm A 9 120)(B:Bs s.heap)(G:KW y st s.heap)(h0:J st)(kk:∀s' y' st',M6 y y'→J st'→st'.wait=[]→Ms y st y' st' s s'→KW y' st' s'.heap→Q .none s'):A8 (MD c.w) A (call (.ref 438) [.ref y.lv]) Q E s:=by
 refine LG rfl ‹_› ‹_› rfl (Dw rfl) (by decide) rfl rfl rfl ?_;dsimp only[Bg,Bj,AV,AW,AF];intro A L s1 rm F;have D:=Gd.refl G;refine Nl (OK (P:=Zg s y st J L) (Zf s y st J mu L) (fun n s' hI=>?_) (mu st) ⟨_,_,y,st,F,D,M6.refl y,h0,rfl,rfl⟩) ?_
 ·obtain⟨m,H',y',st',F,D,hL,hj,hmu,m1⟩:=hI;have G:=D.good;refine G.ldK fun t5 t6 hld=>?_;obtain⟨vw,hvw,hnw⟩:NL H' (y'.ad .wait) st'.wait:=G.ok .wait trivial;have hz:=hJ _ hj;rw[←hL.lv]at m1;refine wpAny_isTrue_Compare1 (KN F KL rfl (by decide) (sp1 (L9 F m1 G.lv hld rfl LM rfl fun s3 P F=>Lj F (hvw.ext F.keep) (by rw[hnw.1];exact n1 hz) fun s4 t4 P F=>cI F fun s5 t5 P F=>gt_ (Ai ?_))));rcases EU st'.wait with e | ⟨w,n',e⟩
  ·refine Ks (by rw[hnw.1,e];simp) ⟨m,H',y',st',F,D,hL,hj,e⟩
  ·rw[EV]at e;refine KC (by rw[hnw.1,e];simp) ?_;refine xAA (hstep st' w n' hj e) fun hpre hj2 hmu2=>?_;rw[e]at hnw;refine LR hnw.last ?_;rintro vw _ rfl hnw2 ⟨tw,rfl⟩;refine L8 (Ly Nc (Kv F m1 ⟨_,_,_,_,rfl,F,G.lv,hld,rfl,La (L9 F m1 G.lv hld rfl LM rfl fun s6 P F=>SY (hvw.ext F.keep) (by have:=hnw2.1;rw[e]at hz;simp at hz;simp;exact n2 this hz) fun s7 M hl7=>?_)⟩));refine D.put (r0:=.wait) (st':=(St.s_wait st' w)) F M trivial (yEA _ hl7 hnw2) hl7.al rfl fun H1 F D _ _=>?_;have G1:=D.good;refine⟨F.In,OX (rm.mono (by decide) (by decide)) (F.base.trans F.keep) (G1.ext F.keep) hpre.bs hpre.hcz hpre.hn hpre.hkn fun s8 y2 hL2 M2 G2=>?_⟩;refine D.callG F M2 G2 fun H2 F D _ _=>?_;exact Kt ⟨rfl,_,hmu▸hmu2,m,H2,y2,_,F,D,hL.trans hL2,hj2,rfl,by rw[m1,hL.lv]⟩
 ·rintro s2 ⟨m,H',y',st',F,D,hL,hj,he⟩;refine D.msK F fun G' M'=>?_;exact Kt (kk _ _ _ hL hj he M' G')
end
end
section
section
variable{A:Aq}{s0 s s':A4}{H:AE}{Z:List (Addr×Obj)}{L:Addr}{m:A9→Option Value}{E:Value→A4→Prop}{env:Env}
namespace U32
noncomputable def pP(A:Aq)(s0 s:A4)(H:AE)(Z:List (Addr×Obj))(L:Addr)(m:A9→Option Value)(E:Value→A4→Prop)(env:Env)(elt ct iter:Expr)(x:A9)(px:Pos)(scope:GK)(cl:List (A9×Addr))(pos:Pos)(it:Addr)(n:Nat)(P:Nat→Value→Prop)(St:Nat→AE→Prop):Prop:=∀{RR:Value→Addr→EP→A4→Prop}(W:Walks PG c.w A it [it] [it] n P St)(live:∀i h,St i h→∃o,h.get? it=some o∧L3 o=true)(hcell:∀y∈scope.names,y.2≠.cell)(hkind:scope.kind=.function)(turn:∀C i v m s Z',i<n→Fm s0 H Z' C m s→P i v→
   A8 (MD c.w) A (Dx (.Name x px) (D1 scope cl C env) v) (fun _ s2=>A8 (MD c.w) A (EO ct (D1 scope cl C env) (AJ ct (D1 scope cl C env))) (fun ok s'=>ok=false∧∃m',Fm s0 H Z' C m' s') NoE s2) NoE s)(done:∀C D s1,MW s0 H Z L m C D [] s1→RR (.ref D) C (.ok .next) s1)(F:Fm s0 H Z L m s)(hw:H.get? it=none∧it≠L∧∀z∈Z,z.1≠it)(hst:St 0 s.heap)(hwl:it<s.heap.objs.size),A8 (MD c.w) A (Fk []) (fun acc s₃=>A8 (MD c.w) A (FQ scope env.globals cl [] env.qual none .none (some env)) (fun cenv s₄=>
   BM (MD c.w) A (.compStart (.ListComp elt [⟨.Name x px,iter,[ct],0⟩] scope pos) 0 (.ref it) acc {cenv with scope:=Jo scope env}) (RR acc cenv.locals) s₄) E s₃) E s
noncomputable def fF:=unz fun A=>unz fun s0=>unz fun s=>unz fun H=>unz fun Z=>unz fun L=>unz fun m=>unz fun E=>unz fun env=>unz fun elt=>unz fun ct=>unz fun iter=>unz fun x=>unz fun px=>unz fun scope=>unz fun cl=>unz fun pos=>unz fun it=>unz fun n=>unz fun P=>pP A s0 s H Z L m E env elt ct iter x px scope cl pos it n P
noncomputable def kK:=epz ({},{},{},default) fF
noncomputable def A_:=kK.1
noncomputable def s0_:=kK.2.1
noncomputable def s_:=kK.2.2.1
noncomputable def H_:=kK.2.2.2.1
noncomputable def Z_:=kK.2.2.2.2.1
noncomputable def L_:=kK.2.2.2.2.2.1
noncomputable def env_:=kK.2.2.2.2.2.2.2.2.1
noncomputable def elt_:=kK.2.2.2.2.2.2.2.2.2.1
noncomputable def ct_:=kK.2.2.2.2.2.2.2.2.2.2.1
noncomputable def iter_:=kK.2.2.2.2.2.2.2.2.2.2.2.1
noncomputable def x_:=kK.2.2.2.2.2.2.2.2.2.2.2.2.1
noncomputable def px_:=kK.2.2.2.2.2.2.2.2.2.2.2.2.2.1
noncomputable def scope_:=kK.2.2.2.2.2.2.2.2.2.2.2.2.2.2.1
noncomputable def cl_:=kK.2.2.2.2.2.2.2.2.2.2.2.2.2.2.2.1
noncomputable def pos_:=kK.2.2.2.2.2.2.2.2.2.2.2.2.2.2.2.2.1
noncomputable def it_:=kK.2.2.2.2.2.2.2.2.2.2.2.2.2.2.2.2.2.1
noncomputable def n_:=kK.2.2.2.2.2.2.2.2.2.2.2.2.2.2.2.2.2.2.1
noncomputable def St_:=kK.2.2.2.2.2.2.2.2.2.2.2.2.2.2.2.2.2.2.2.2
theorem tT:pP A_ s0_ s_ H_ Z_ L_ kK.2.2.2.2.2.2.1 kK.2.2.2.2.2.2.2.1 env_ elt_ ct_ iter_ x_ px_ scope_ cl_ pos_ it_ n_ kK.2.2.2.2.2.2.2.2.2.2.2.2.2.2.2.2.2.2.2.1 St_:=by
 intro RR W live hcell hkind turn done F hw hst hwl;refine Bw (IL hcell (by intro y hy;simp at hy) (fun h₁ hns₁ hsb₁=>?_) hkind);dsimp only at hns₁ hsb₁ ⊢;generalize hH2:s_.heap.push {cls:=.type "list",dict:=none,data:=.seq ([]:List Value).toArray}=H2 at hns₁ hsb₁ ⊢;have hC:H2.objs.size=s_.heap.objs.size+1:=by rw[←hH2,Bu]
 have hDC:s_.heap.objs.size≠H2.objs.size:=by rw[hC];exact Az (AS _)
 have below0:∀b:Addr,b<s_.heap.objs.size→b≠H2.objs.size∧b≠s_.heap.objs.size:=fun b hb=>⟨by rw[hC];exact Az (AA hb),Az hb⟩;have hwC:=below0 it_ hwl;have below:∀b o,s_.heap.get? b=some o→b≠H2.objs.size∧b≠s_.heap.objs.size:=fun b o e=>below0 b (AM e);generalize hD:s_.heap.objs.size=D at hDC hC hwC below;generalize hCC:H2.objs.size=C at hDC hC hns₁ hsb₁ hwC below ⊢;have old:∀b o,s_.heap.get? b=some o→h₁.get? b=some o:=fun b o e=>hsb₁.extBut b o (below b o e).1 (Ak _ (hH2▸Ak _ e));have haccD:h₁.get? D=some {cls:=.type "list",dict:=none,data:=.seq ([]:List Value).toArray}:=hsb₁.extBut _ _ hDC (Ak _ (hH2▸hD▸AB _ rfl))
 have freshD:∀G:AE,(∀b o,G.get? b=some o→s_.heap.get? b=some o)→G.get? D=none∧G.get? C=none:=fun G k=>by
  constructor
  ·exact Ky fun o e=>by exact absurd rfl (below _ _ (k _ _ e)).2
  ·exact Ky fun o e=>by exact absurd rfl (below _ _ (k _ _ e)).1
 refine O1 F.ns fun oL esL epL hoL hdL hrL=>?_;have hLlt:=below _ _ hoL;have hst₁:St_ 0 h₁:=W.frame _ _ _ hst fun b _ o e=>old b o e
 have loop:∀s₃:A4,s₃={s_ with heap:=h₁,toks:=s_.toks+([]:List (A9×Value)).length}→
   BM (MD c.w) A_ (.compLoop (.ListComp elt_ [⟨.Name x_ px_,iter_,[ct_],0⟩] scope_ pos_) 0 (.ref it_) (.ref D) (D1 scope_ cl_ C env_)) (RR (.ref D) C) s₃:=by
  rintro s₃ rfl
  refine codeAny_compLoop_tests (fun k s'=>∃i mC,k=n_+1 - i∧i≤n_∧St_ i s'.heap∧Fm s0_ H_ ((D,{cls:=.type "list",dict:=none,data:=.seq ([]:List Value).toArray})::(L_,oL)::Z_) C mC s') ?_ (n_+1)
   (Pj 0 _ rfl (Bi _) hst₁ ⟨F.base,fun b o e=>old _ _ (F.keep _ _ e),(freshD H_ F.keep).2,hns₁,?_,F.gens,F.os⟩)
  ·rintro k s1 ⟨i,mC,rfl,hi,hst,F1⟩
   have hCwr:∀b∈[it_],H_.get? b=none∧b≠C∧∀z∈((D,({cls:=.type "list",dict:=none,data:=.seq ([]:List Value).toArray}:Obj))::(L_,oL)::Z_),z.1≠b:=fun b hb=>by
    rw[Ab]at hb;subst hb;refine (yAA hw.1 hwC.1 (fun z hz=>?_));rcases As.mp hz with rfl | hz
    ·exact fun q=>hwC.2 q.symm
    ·rcases As.mp hz with rfl | hz
     ·exact fun q=>hw.2.1 q.symm
     ·exact hw.2.2 z hz
   by_cases hlt:i<n_
   ·refine W.item i _ _ _ hlt hst fun v h₂ tk₂ hP hst₂ hk₂=>?_;have F₂:=F1.aside (h:=h₂) (tk:=tk₂) hCwr hk₂;refine Al (turn C i v mC _ _ hlt F₂ hP) (fun _ s₂ h₂'=>wpAny_tests_one (Al h₂' (fun ok s₃ h₃=>?_) fun _ _ e=>e.elim)) fun _ _ e=>e.elim;refine xAE h₃ ?_;clear h₃;rintro rfl m' F₃;refine⟨n_+1 - (i+1),by exact o10 hlt,i+1,m',rfl,hlt,?_,F₃.less fun p hp=>AL _ hp⟩;refine W.frame _ _ _ hst₂ fun b hb o e=>?_;exact (F₃.zs (b,o) (AD _ (Le.mpr ⟨hb,e⟩))).1
   ·have hin:i=n_:=by exact o9 hi hlt
    subst hin;refine W.done _ _ _ hst fun h₂ tk₂ hk₂=>?_;have F₂:=F1.past (h:=h₂) (tk:=tk₂) hCwr hk₂;refine xAA (F₂.zs (L_,oL) (Ao _ Aj)) fun aL bL cL'=>?_;refine xAA (F₂.zs (D,_) Aj) fun aD bD cD'=>?_;have cL:=cL' (by show L3 oL=true;unfold L3;rw[hdL]);refine done C D _ ⟨⟨F₂.base,F₂.keep,cL,(PX oL esL epL aL hdL hrL),fun p hp=>?_,F₂.gens,F₂.os⟩,⟨_,F₂.ns⟩,B9 bL,F₂.noL,fun z hz=>(F₂.zs z (Ao _ (Ao _ hz))).2.1,B9 bD,⟨0,aD⟩,cD' rfl⟩;refine xAA (F₂.zs p (Ao _ (Ao _ hp))) fun a _ r=>?_;exact (yAA a ((F.zs p hp).2.1) r)
  ·intro p hp;rcases As.mp hp with rfl | hp
   ·exact (yAA haccD hDC (fun _=>(freshD H_ F.keep).1))
   ·rcases As.mp hp with rfl | hp
    ·exact (yAA (old _ _ hoL) hLlt.1 (fun _=>F.noL))
    ·refine xAA (F.zs p hp) fun a _ r=>?_;exact (yAA (old _ _ a) ((below _ _ a).1) r)
 subst hCC;subst hD;exact Is (loop _ rfl) (W.self _ _ _ _ hst₁ (loop _ rfl))
end U32
theorem Rg{A s0 s H Z L m E env elt ct iter x px scope cl pos it n P St}:U32.pP A s0 s H Z L m E env elt ct iter x px scope cl pos it n P St:=@KB _ _ U32.fF U32.kK rfl U32.tT (A,s0,s,H,Z,L,m,E,env,elt,ct,iter,x,px,scope,cl,pos,it,n,P,St)
theorem Xu(h:A8 (MD c.w) A (AJ iter env) (fun v s1=>A8 (MD c.w) A (Dr v) (fun it s2=>A8 (MD c.w) A (Fk []) (fun acc s₃=>A8 (MD c.w) A (FQ scope env.globals cl [] env.qual none .none (some env)) (fun cenv s₄=>
   BM (MD c.w) A (.compStart (.ListComp elt [⟨target,iter,[ct],0⟩] scope pos) 0 it acc {cenv with scope:=Jo scope env}) (compPost (MD c.w) A E none Q acc cenv.locals) s₄) E s₃) E s2) E s1) E s)(hclos:autoParam (closureFor scope env=pure cl) au1._auto_1)(hkind:autoParam (scope.kind=.function) au1._auto_1)(hnames:autoParam (∀x∈scope.names,x.2=.local→scope.names.lookup x.1=some .local) au2._auto_1)(hs:autoParam (∀x,GG iter env x=pure x) au5._auto_1):A8 (MD c.w) A (AJ (.ListComp elt [⟨target,iter,[ct],0⟩] scope pos) env) Q E s:=by
 rw[eval_ListComp];exact HZ (use:=none) rfl hs hclos hkind hnames (Al h (fun v s1 h1=>Al h1 (fun it s2 h2=>h2) fun _ _ e=>e) fun _ _ e=>e)
end
end
section
structure Rs(k:Nat):Prop where
 lt:k<128
 sp:Txt.isspace ⟨#[k]⟩=false
 ot:(!(Builtin.Str.occurrences ("()[]{},:" : A9) ⟨#[k]⟩ 0 ("()[]{},:" : A9).length 1).isEmpty)=false
theorem XY:Rs 97:=⟨by decide,by decide +kernel,by decide +kernel⟩
theorem XX:Rs 98:=⟨by decide,by decide +kernel,by decide +kernel⟩
theorem Xb:Rs 102:=⟨by decide,by decide +kernel,by decide +kernel⟩
theorem Xa:Rs 103:=⟨by decide,by decide +kernel,by decide +kernel⟩
section
variable{A:Aq}{s:A4}{E Q:Value→A4→Prop}{y:Lay}{st:St}{s0:A4}{H:AE}{Z:List (Addr×Obj)}{L:Addr}{m:A9→Option Value}{env:Env}
theorem Sw{k:Nat}{t:Tok}(rm:Rm A 1 100)(B:Bs s.heap)(hs:Rs k)(kk:∀s',Pu s s'→Q (.bool true) s'):A8 (MD c.w) A (call (.ref 79) [.str ⟨#[k]⟩ t]) Q E s:=by
 refine LG rfl ‹_› ‹_› rfl (Dw rfl) (by decide) rfl rfl rfl ?_;dsimp only[Bg,Bj,AV,AW,AF];intro A L s1 rm F
 refine KS (BoolOp_and (FM (Kv F rfl (cS F fun s2 t2 P F=>ne_str (Ai (KC (by
  show (([k]:List Nat) != ("" : A9).cps.toList)=true;rw[show ("" : A9).cps.toList=[]from by decide +kernel];rfl) (BoolOp_one (FM (Xu (Kv F rfl (wpAny_pyIter_ascii (by have:=hs.lt;simpa using this) ?_)))))))))))
 refine Rg (Walks.strAscii (prog:=PG) (w:=c.w) rm.h _ ⟨#[k]⟩ t) (fun i h st=>?_) (by decide) rfl (fun C i v m s Z' hi F hP=>?_) (fun C D s4 K=>?_) (F.pu (Pu.push _ _)) (F.apart (KM _)) (M1 _ (AB _ rfl) rfl rfl) (by rw[Bu];exact AS _)
 ·refine LY st ?_;clear st;intro o e _ d;exact (yEA o e (by unfold L3;rw[d]))
 ·refine MG hP ?_;clear hP;rintro cc u hcc rfl;have hi0:i=0:=by simp at hi;exact hi
  subst hi0;have:k=cc:=by simpa using hcc
  subst this;refine Aw (L4 F fun s8 F=>CW (CF (wpAny_isTrue_value (Call_method0 rfl rfl (Kv F rfl (SB.isspace ?_))))));rw[hs.sp];refine Ai (Ks rfl (CF (wpAny_isTrue_Compare1 (Kv F rfl (cS F fun s9 t9 P F=>in_str (Ai ?_))))));rw[hs.ot];exact Ks rfl (FL (yAE rfl _ F))
 ·refine K.post fun s5 F hl _=>Qp F fun s6 a P F hla _=>ke_eq_ints (hl.ext P.ext).isList hla.isList .nil .nil (by have:=rm.u;rw[show cLine=9900 from rfl];exact n9 this) ?_;exact kk _ ⟨F.keep,F.gens,F.os⟩
end
end
section
section
variable{A:Aq}{s:A4}{E Q:Value→A4→Prop}{y:Lay}{st:St}{s0:A4}{H:AE}{Z:List (Addr×Obj)}{L:Addr}{m:A9→Option Value}{env:Env}
noncomputable abbrev gcK(E:Value→A4→Prop)(Q:Value→A4→Prop)(A:Aq)(f:Value):List Value→A4→Prop:=fun vs s=>c.K.In s.heap∧A8 (MD c.w) A (call f vs) Q E s
theorem Nj(F:Fm s0 H Z L m s)(e:NE→Dl c.K AO x=some (some (.ref f)))(hkp:NE→Eh c.K (.ref f)=true)(h:A8 (MD c.w) A (EH (BO pos (AG (e1::rest) env))) (gcK E Q A (.ref f)) E s)(hk:autoParam (env.scope.kind=.function) au1._auto_1)(hl:autoParam (env.kindOf x=some .globalImplicit) au1._auto_1)(hL:autoParam (env.globals=AO) au1._auto_1)(hd:autoParam ((x == ("__debug__" : A9))=false) au1._auto_1)(he:autoParam (AG (e1::rest) env=(false,AJ e1 env)::AG rest env) au1._auto_1)(hplain:autoParam ((BO pos (AG rest env)).any (·.1)=false) au1._auto_1):A8 (MD c.w) A (AJ (.Call (.Name x p) (e1::rest) [] pos) env) Q E s:=
 JR rfl (Yy F e (callWith_K (first:=[]) (cX F.ne) (hkp F.ne) h he hplain) hk hl hL hd)
theorem XU(hx:x.cps[0]?=some cc)(h:∀s' t',Pu s s'→Q (.str ⟨#[cc]⟩ t') s')(hs:autoParam (Cn slice false (.str x t) (.int 0 u)=DW [.str x t,.int 0 u] (Cr (.str x t) (.int 0 u))) au3._auto_1):A8 (MD c.w) A (BQ value slice (.str x t) (.int 0 u)) Q E s:=by
 have hlt:0<x.length:=by
  have:=(Bz.mp hx).1;exact this
 refine Dq (T:="str") (typeIs_str s x t) PySem.F.slot_str_getitem.lookup (getItem_str (by decide) (c:=cc) ?_ (h _ _ (Pu.tok _ _))) hs
 rw[show JC 0 x.length=some 0 from by
  unfold JC;simp;exact Cs hlt]
 simpa using hx
theorem Q7(rm:Rm A 2 110)(B:Bs s.heap)(G:KW y st s.heap)(hs:Rs k)(hq:k≠63)(kk:∀s',Pu s s'→Q .none s'):A8 (MD c.w) A (call (.ref 112) [.ref y.bk,.str ⟨#[k]⟩ t]) Q E s:=by
 refine LG rfl ‹_› ‹_› rfl (Dw rfl) (by decide) rfl rfl rfl ?_;dsimp only[Bg,Bj,AV,AW,AF];intro A L s1 rm F;refine L7 (CW (CF (isTrue_not (wpAny_isTrue_value (Nj F Vc Vf (sp1 (Kv F rfl ⟨F.In,Sw (rm.mono (by omega) (by omega)) (F.base.trans F.keep) hs fun s2 P=>Ai ?_⟩)))))));have F:=F.pu P;refine Ks rfl (CF (wpAny_isTrue_Compare1 (Subscript_ (Kv F rfl (cI F fun s3 t3 P F=>XU (cc:=k) rfl fun s4 t4 P=>?_)))));have F:=F.pu P
 refine cS F fun s5 t5 P F=>GT (Ai (Ks (by
  rw[show (Bc "?")=⟨#[63]⟩from by decide +kernel];simpa using hq) (FL (Ks rfl (Kt (Kw (Kt ?_)))))))
 exact kk _ ⟨F.keep,F.gens,F.os⟩
noncomputable def WK(o:A9):Prop:=∃k,o=⟨#[k]⟩∧Rs k∧k≠63
noncomputable def O5(st:St)(r:Row)(w d:Nat):St:={st with rows:=st.rows++[r],nums:=st.nums++[(r,st.rows.length)],wts:=st.wts++[w],dps:=st.dps++[d]}
theorem WZ(F:Fm s0 H Z L m s)(hu:A.in1.units+1<cLine)(hkey:L2 s.heap a k)(hm:HD (OB c.w) s.heap d ps)(hp:lk ps k=some n)(h:∀s' t,Pu s s'→Fm s0 H Z L m s'→Q (.int n t) s')(hs:autoParam (Cn slice false (.ref d) (.ref a)=DW [.ref d,.ref a] (Cr (.ref d) (.ref a))) au3._auto_1):A8 (MD c.w) A (BQ value slice (.ref d) (.ref a)) Q E s:=by
 refine xEA (id hm) fun xs hm' hx=>?_;exact Dq (T:="dict") hm'.typeIs Dg.lookup (VD (knd:=OB c.w) F hu hkey hm hp h) hs
namespace U33
noncomputable def pP(A:Aq)(s:A4)(E Q:Value→A4→Prop)(y:Lay)(st:St)(ks:List Nat)(vs:List Value)(q:Addr)(t:Tok):Prop:=∀{op:A9}(rm:Rm A 3 130)(B:Bs s.heap)(G:KW y st s.heap)(hop:WK op)(hq:Tpl s.heap q vs)(hk:LH vs ks)(hz:st.rows.length≤900)(hnz:st.nums.length≤900)(hwz:st.wts.length≤900)(hdz:st.dps.length≤900)(hkz:ks.length≤100)(hlt:∀k∈ks,k<st.rows.length)(hwl:st.wts.length=st.rows.length)(hdl:st.dps.length=st.rows.length)(k0:∀j,lk st.nums (op,ks)=some j→∀s' t',Pu s s'→Q (.int j t') s')(k1:lk st.nums (op,ks)=none→∀s' t' w d,Ms y st y (O5 st (op,ks) w d) s s'→KW y (O5 st (op,ks) w d) s'.heap→Q (.int (st.rows.length:Nat) t') s'),A8 (MD c.w) A (call (.ref 105) [.ref y.bk,.str op t,.ref q]) Q E s
noncomputable def fF:=unz fun A=>unz fun s=>unz fun E=>unz fun Q=>unz fun y=>unz fun st=>unz fun ks=>unz fun vs=>unz fun q=>pP A s E Q y st ks vs q
noncomputable def kK:=epz ({},{},default,default,OG,dSt,default) fF
noncomputable def A_:=kK.1
noncomputable def s_:=kK.2.1
noncomputable def y_:=kK.2.2.2.2.1
noncomputable def st_:=kK.2.2.2.2.2.1
noncomputable def ks_:=kK.2.2.2.2.2.2.1
noncomputable def vs_:=kK.2.2.2.2.2.2.2.1
noncomputable def q_:=kK.2.2.2.2.2.2.2.2.1
noncomputable def t_:=kK.2.2.2.2.2.2.2.2.2
theorem tT:pP A_ s_ kK.2.2.1 kK.2.2.2.1 y_ st_ ks_ vs_ q_ t_:=by
 intro op rm B G hop hq hk hz hnz hwz hdz hkz hlt hwl hdl k0 k1;refine Mo rfl ‹_› ‹_› rfl rfl rfl rfl rfl ?_;intro A_ L H s1 rm BH F hC;have D:Gd y_ st_ s_.heap y_ st_ H:=⟨G.ext BH,fun b o _ e=>BH _ _ e,fun _ o=>.inl o,fun _ o e=>⟨o,BH _ _ e⟩⟩;have G:=D.good;refine xA (hC "self" (L+1) rfl) fun hc0 _=>?_;replace hc0:H.IsCell (L+1) (some (.ref y_.bk)):=hc0;have hq:Tpl H q_ vs_:=hq.ext BH;have hvl:=hk.1;have hnums:HD (OB c.w) H (y_.ad .nums) st_.nums:=G.ok .nums trivial;have hroom:A_.in1.units+1<cLine:=by have:=rm.u;show A_.units+1+1<9900;exact n10 this
 refine Lw (bop (UI (Kv F rfl (KA F (by simp) fun s2 q1 P F hq1 _=>LB F Nd rfl (by decide) (sp1 (Kv F rfl (XQ (hq.ext F.keep) (WX F hq1 (hq.ext F.keep) (by simp) (by simp;exact aq279 hvl hkz) fun s3 nd P3 F3 hnd=>?_))))))));refine F.takeK P3 fun H2 hH2 F _ him=>?_;have hnd:Tpl H2 nd (.str op t_::vs_):=hnd.im him;have D:=D.ext hH2;have G:=D.good;have hself:=hc0.keeps hH2;have hrow:L2 H2 nd (op,ks_):=(Pi t_ vs_ hnd hk);have hnums:HD (OB c.w) H2 (y_.ad .nums) st_.nums:=G.ok .nums trivial;refine L4 F fun s4 F=>L7 (wpAny_isTrue_Compare1 (Kv F rfl (NH F hself G.bk (G.ok .bd trivial) rfl LN rfl fun s5 P F=>Yj (knd:=OB c.w) F hroom (hrow.im F.keep.im) (G.gt .nums trivial rfl) (HD.at2 (fun a e=>L2.im a e) hnums (fun o e=>F.keep _ _ e) F.keep.im) fun s6 P F=>Ai ?_)))
 cases hlk:lk st_.nums (op,ks_)with
 | some j=>
  refine KC rfl (KS (Subscript_ (NH F hself G.bk (G.ok .bd trivial) rfl LN rfl fun s7 P F=>Kv F rfl (WZ F hroom (hrow.im F.keep.im) (HD.at2 (fun a e=>L2.im a e) hnums (fun o e=>F.keep _ _ e) F.keep.im) hlk fun s8 t8 P F=>?_))));exact k0 j hlk _ _ ⟨BH.trans (hH2.trans F.keep),F.gens,F.os⟩
 | none=>
  refine Ks rfl (Kt (Kw ?_));refine LY hop ?_;clear hop;rintro kc rfl hsg hne;refine L8 (Ly Px (Ln F hself ⟨_,_,_,_,rfl,F,G.bk,G.ok .bd trivial,rfl,Kv F rfl ⟨F.In,Q7 (rm.mono (by decide) (by decide)) (F.base.trans F.keep) (G.ext F.keep) hsg hne fun s7 P=>?_⟩⟩));have F:=F.pu P;refine xEA (G.ok .nodes trivial) fun vn hvn hnn=>?_;have hvn:Lst H2 (y_.ad .nodes) vn:=hvn;have hnn:KJ (PT H2) vn st_.rows:=hnn;have hnl:=hnn.1;refine Mp (Subscript_ (Kv F rfl (Lg (cI F fun s8 t8 P F s9 sl P9 hsl=>L6 (a:=1) (F.pu P9) (hnd.ext (F.pu P9).keep) hsl (by decide) (by simp) (by simp;exact n2 hvl hkz) fun s10 b P10 F hb hbn=>?_))));have hb:Tpl s10.heap b vs_:=hb;refine xE hb ?_;clear hb;intro nb hb;refine On (I:=fun i H' m'=>H'=H2∧m' "node" = some (.ref nd)) (Src.tuple rm.h hb (Pu.refl _)) F (Pu.refl _) (fun p hp=>by rw[Ab]at hp;subst hp;exact (yAA hb ((F.imm_apart hb rfl).1) (fun q_=>by exact nomatch q_))) ⟨rfl,rfl⟩ (fun i v H' m' s11 Z' hi Fi _ hP hI=>?_) (fun H' m' s11 Fi hI=>?_)
  ·refine xA hI ?_;clear hI;rintro rfl m1;refine xEA (hk.get' hP) ?_;rintro j hj ⟨tj,rfl⟩;have hjl:=hlt j (Av hj);refine Aw (L4 Fi fun s12 F=>L7 (isTrue_not (isTrue_chain (cI F fun s13 t13 P F=>test_link (Kv F rfl (le_ (Ai (KC (by rfl) (test_last (KN F KL rfl (by decide) (sp1 (NH F hself G.bk (G.ok .bd trivial) rfl L1 rfl fun s14 P F=>Lj F (hvn.ext F.keep) (by exact n2 hnl hz) fun s15 t15 P F=>lt_ (Ai ?_)))))))))))));rw[show (decide ((j:Int)<(vn.length:Int)))=true from by simp;exact o5 hjl hnl];exact Ks rfl (Kt (Kw (Kt ⟨H',_,F,rfl,m1⟩)))
  refine xA hI ?_;clear hI;rintro rfl m1;refine Kw (OF (KN Fi KL rfl (by decide) (sp1 (NH Fi hself G.bk (G.ok .bd trivial) rfl L1 rfl fun s12 P F=>Lj F (hvn.ext F.keep) (by exact n2 hnl hz) fun s13 t13 P F=>NH F hself G.bk (G.ok .bd trivial) rfl LN rfl fun s14 P F=>Kv F m1 (VB (knd:=OB c.w) hroom (hrow.im F.keep.im) (HD.at2 (fun a e=>L2.im a e) hnums (fun o e=>F.keep _ _ e) F.keep.im) hlk ⟨t13,by rw[hnl]⟩ (by exact n1 hnz) fun s15 M hm=>?_)))));refine D.put (r0:=.nums) (st':=(St.s_nums st_ (st_.nums++[(((⟨#[kc]⟩:A9),ks_),st_.rows.length)]))) F M trivial hm hm.al rfl fun H3 F D _ im3=>?_;have G:=D.good;have hself3:H3.IsCell (L+1) (some (.ref y_.bk)):=KF hself im3;have hnd3:Tpl H3 nd (.str ⟨#[kc]⟩ t_::vs_):=hnd.im im3;refine xEA (G.ok .nodes trivial) fun vn hvn hnn=>?_;have hnn:KJ (PT H3) vn st_.rows:=hnn;have hnl:=hnn.1;refine L8 (La (NH F hself3 G.bk (G.ok .bd trivial) rfl L1 rfl fun s16 P F=>Rq (hvn.ext F.keep) (Kv F m1 ⟨vn,hvn.ext F.keep,by exact n2 hnl hz,fun s17 M hl17=>?_⟩)));refine D.put (r0:=.nodes) (st':=(St.s_rows (St.s_nums st_ (st_.nums++[(((⟨#[kc]⟩:A9),ks_),st_.rows.length)])) (st_.rows++[((⟨#[kc]⟩:A9),ks_)]))) F M trivial (yEA _ hl17 ((Lo hnn (Im.trans F.keep.im (M.imL (hvn.ext F.keep)))).snoc (OJ nd rfl t_ vs_ ((hnd3.ext F.keep).im (M.imL (hvn.ext F.keep))) hk))) hl17.al rfl fun H4 F D _ im4=>?_;have G:=D.good;have hself4:=KF hself3 im4;have hnd4:=hnd3.im im4;obtain⟨vw,hvw,hnw⟩:NL H4 (y_.ad .wts) st_.wts:=G.ok .wts trivial;refine L8 (La (NH F hself4 G.bk (G.ok .bd trivial) rfl Mj rfl fun s18 P F=>Rq (hvw.ext F.keep) (bop (cI F fun s19 t19 P F=>KN F Tw rfl (by decide) (sp1 (MJ (Subscript_ (Kv F m1 (Lg (cI F fun s20 t20 P F s21 sl P21 hsl=>L6 (a:=1) (F.pu P21) (hnd4.ext (F.pu P21).keep) hsl (by decide) (by simp) (by simp;exact n2 hvl hkz) fun s22 b2 P22 F hb2 hbn2=>?_))))))))));have hb2:Tpl s22.heap b2 vs_:=hb2;refine xE hb2 ?_;clear hb2;intro nb2 hb2;refine Lv (Src.tuple rm.h hb2 (Pu.refl _)) F (Pu.refl _) (fun p hp=>by rw[Ab]at hp;subst hp;exact (yAA hb2 ((F.imm_apart hb2 rfl).1) (fun q_=>by exact nomatch q_))) (by exact n2 hvl hkz) (I:=fun i ys H'=>H'=H4∧∃ns,LH ys ns) (yAE rfl [] .nil) (fun C i ys v H' m' s23 Z' hi hlen Fi _ hP hI=>?_) (fun C D' ys H' s23 K hI hlen hD=>?_)
  ·refine xAE hI ?_;clear hI;intro eH ns hI;subst eH;refine xEA (hk.get' hP) ?_;rintro j hj ⟨tj,rfl⟩;have hjl:=hlt j (Av hj);refine xEA (hnw.get (A7 (show j<st_.wts.length by exact o5 hjl hwl))) fun v hv hvv=>?_;refine Aw (L4 Fi fun s24 F=>Subscript_ (NH F hself4 G.bk (G.ok .bd trivial) rfl Mj rfl fun s25 P F=>Kv F rfl (KI (hvw.ext F.keep) (by exact n3) (by exact n5 hjl hz) (by simpa using hv) ⟨_,_,F,rfl,ns++[_],hI.snoc hvv⟩)))
  refine xAE hI ?_;clear hI;intro eH ns hI;subst eH;refine K.post fun s24 F hl24 _=>VS rm.h hl24 hI fun s25 t25 P=>SW (F.pu P) fun s26 t26 P26 F=>⟨vw,hvw.ext F.keep,by rw[hnw.1];exact n2 hwl hz,fun s27 M hl27=>?_⟩;rw[show ((1:Int)+(ns.sum:Nat))=((1+ns.sum:Nat):Int) by exact o84]at hl27;refine D.put (r0:=.wts) (st':=(St.s_wts (St.s_rows (St.s_nums st_ (st_.nums++[(((⟨#[kc]⟩:A9),ks_),st_.rows.length)])) (st_.rows++[((⟨#[kc]⟩:A9),ks_)])) (st_.wts++[1+ns.sum]))) F M trivial (yEA _ hl27 (hnw.snoc ⟨t26,rfl⟩)) hl27.al rfl fun H5 F D _ im5=>?_;have G:=D.good;have hself5:=KF hself4 im5;have hnd5:=hnd4.im im5;obtain⟨vd,hvd,hnd'⟩:NL H5 (y_.ad .dps) st_.dps:=G.ok .dps trivial;refine L8 (La (NH F hself5 G.bk (G.ok .bd trivial) rfl Mw rfl fun s28 P F=>Rq (hvd.ext F.keep) (bop (cI F fun s29 t29 P F=>KN F Of rfl (by decide) (sp1 (bop (MJ (Subscript_ (Kv F m1 (Lg (cI F fun s30 t30 P F s31 sl P31 hsl=>L6 (a:=1) (F.pu P31) (hnd5.ext (F.pu P31).keep) hsl (by decide) (by simp) (by simp;exact n2 hvl hkz) fun s32 b3 P32 F hb3 hbn3=>?_)))))))))));have hb3:Tpl s32.heap b3 vs_:=hb3;refine xE hb3 ?_;clear hb3;intro nb3 hb3;refine Lv (Src.tuple rm.h hb3 (Pu.refl _)) F (Pu.refl _) (fun p hp=>by rw[Ab]at hp;subst hp;exact (yAA hb3 ((F.imm_apart hb3 rfl).1) (fun q_=>by exact nomatch q_))) (by exact n2 hvl hkz) (I:=fun i ys H'=>H'=H5∧∃ns,LH ys ns) (yAE rfl [] .nil) (fun C i ys v H' m' s33 Z' hi hlen Fi _ hP hI=>?_) (fun C D' ys H' s33 K hI hlen hD=>?_)
  ·refine xAE hI ?_;clear hI;intro eH ns2 hI;subst eH;refine xEA (hk.get' hP) ?_;rintro j hj ⟨tj,rfl⟩;have hjl:=hlt j (Av hj);refine xEA (hnd'.get (A7 (show j<st_.dps.length by exact o5 hjl hdl))) fun v hv hvv=>?_;refine Aw (L4 Fi fun s34 F=>Subscript_ (NH F hself5 G.bk (G.ok .bd trivial) rfl Mw rfl fun s35 P F=>Kv F rfl (KI (hvd.ext F.keep) (by exact n3) (by exact n5 hjl hz) (by simpa using hv) ⟨_,_,F,rfl,ns2++[_],hI.snoc hvv⟩)))
  refine xAE hI ?_;clear hI;intro eH ns2 hI;subst eH;refine K.post fun s34 F hl34 _=>TG (cI F fun s35 t35 P35 F=>LA F (by simp) fun s36 l36 P36 F hl36 _=>XE F (hl34.ext (P35.ext.trans P36.ext)) hl36 (by simp;exact n17 hvl hlen hkz) fun s37 l37 P37 F hl37 _=>Y9 rm.h hl37 (hI.append (KJ.cons (x:=BD 0 t35) (y:=0) ⟨t35,rfl⟩ KJ.nil)) (by simp) fun s38 k38 t38 P38 _=>SW (F.pu P38) fun s39 t39 P39 F=>⟨vd,hvd.ext F.keep,by rw[hnd'.1];exact n2 hdl hz,fun s40 M hl40=>?_⟩);rw[show ((1:Int)+(k38:Nat))=((1+k38:Nat):Int) by exact o84]at hl40;refine D.put (r0:=.dps) (st':=O5 st_ (⟨#[kc]⟩,ks_) (1+ns.sum) (1+k38)) F M trivial (yEA _ hl40 (hnd'.snoc (show MK _ _ from⟨t39,rfl⟩))) hl40.al rfl fun H6 F D _ im6=>?_;have G:=D.good;have hself6:=KF hself5 im6;refine xEA (G.ok .nodes trivial) fun vn6 hvn6 hnn6=>?_
  have hnl6:vn6.length=st_.rows.length+1:=by
   have h6:=hnn6.1;rw[h6];show (st_.rows++[_]).length=_;simp
  refine KS (bop (KN F KL rfl (by decide) (sp1 (NH F hself6 G.bk (G.ok .bd trivial) rfl L1 rfl fun s41 P F=>Lj F (hvn6.ext F.keep) (by exact n8 hnl6 hz) fun s42 t42 P F=>cI F fun s43 t43 P F=>Ti F fun s44 t44 P F=>?_))));rw[hnl6,show (((st_.rows.length+1:Nat):Int) - 1)=((st_.rows.length:Nat):Int) by exact o16];refine D.msK F fun G' M'=>?_;exact k1 hlk _ _ _ _ M' G'
end U33
theorem Td{A s E Q y st ks vs q t}:U33.pP A s E Q y st ks vs q t:=@KB _ _ U33.fF U33.kK rfl U33.tT (A,s,E,Q,y,st,ks,vs,q,t)
end
end
section
noncomputable def Kx(abv:List (List Nat))(cs:List Nat)(n:Nat):List (List Nat):=abv.mapIdx fun i l=>if i∈cs then l++[n]else l
theorem KX(abv:List (List Nat))(cs:List Nat)(n:Nat):(Kx abv cs n).length=abv.length:=by unfold Kx;simp
theorem KO(abv:List (List Nat))(cs:List Nat)(n i:Nat):(Kx abv cs n)[i]?=(abv[i]?).map fun l=>if i∈cs then l++[n]else l:=by unfold Kx;simp
theorem NJ(abv:List (List Nat))(n:Nat):Kx abv [] n=abv:=by
 apply BC;intro i;rw[KO];simp
theorem MM{abv:List (List Nat)}{cs cs':List Nat}{n:Nat}(h:∀x,x∈cs↔x∈cs'):Kx abv cs n=Kx abv cs' n:=by
 apply BC;intro i;rw[KO,KO];simp only[h]
theorem MY{abv:List (List Nat)}{cs:List Nat}{c n:Nat}(hc:c∉cs):(Kx abv cs n).set c ((Kx abv cs n).getD c []++[n])=Kx abv (cs++[c]) n:=by
 apply BC;intro i;rw[BU,KO,KO]
 by_cases h:c=i
 ·subst h;rw[if_pos rfl,KX]
  by_cases hl:c<abv.length
  ·rw[if_pos hl,A6,KO,A7 hl];simp[hc]
  ·rw[if_neg hl,AI (by exact o25 hl)];rfl
 ·rw[if_neg h];have:(i∈cs++[c])↔i∈cs:=by simp;intro e;exact absurd e.symm h
  simp only[this]
noncomputable def PB(st:St)(r:Row)(w d:Nat):St:=
 {O5 st r w d with up:=st.up++[st.rows.length],lots:=st.lots++[[st.rows.length]],abv:=st.abv++[[]],akeys:=fun i=>st.akeys i || i == st.rows.length}
noncomputable def OH(st:St)(r:Row)(w d:Nat):St:=
 {PB st r w d with abv:=Kx (st.abv++[[]]) (r.2.map (Ku st.up)) st.rows.length}
theorem WL{rows:List Row}{r:Row}{j:Nat}(h:lk rows.zipIdx r=some j):rows[j]?=some r:=by
 unfold lk at h
 cases e:rows.zipIdx.find? (fun x=>decide (x.1=r))with
 | none=>rw[e]at h;exact nomatch h
 | some p=>
  rw[e]at h;have h1:=Dn e;have h2:=GA e;simp at h2;obtain rfl:=Ag h;obtain⟨a,b⟩:=p;have:=Gx.mp h1;subst h2;exact this
section
variable{A:Aq}{s:A4}{E Q:Value→A4→Prop}{y:Lay}{st:St}{s0:A4}{H:AE}{Z:List (Addr×Obj)}{L:Addr}{m:A9→Option Value}{env:Env}
theorem WA{y:Lay}{st st':St}{n:Nat}{a:Addr}(h:st'.akeys=fun i=>st.akeys i || i == n):abF (y.set (.ab n) a).ad st'=fun j=>if j=(n:Int)then some (.ref a)else abF y.ad st j:=by
 funext j
 unfold abF;rw[h]
 by_cases hj:j=(n:Int)
 ·subst hj;rw[if_pos ⟨by exact n3,by simp⟩,if_pos rfl];show some (AN ((y.set (.ab n) a).ad (.ab n)))=_;rw[y.set_same]
 ·rw[if_neg hj]
  by_cases q:0≤j∧st.akeys j.toNat=true
  ·rw[if_pos q,if_pos ⟨q.1,by simp[q.2]⟩,y.set_ne];intro e;cases e;lia
  ·rw[if_neg q,if_neg];intro z;simp at z;rcases z.2 with z2 | z2
   ·exact q ⟨z.1,z2⟩
   ·lia
theorem Wk{st:St}{y:Lay}{n:Nat}{a:Addr}(bs:Bas st)(hn:st.rows.length≤n){h:AE}{vs:List Value}(x:KJ (T1 y.ad h) vs st.chg):KJ (T1 (y.set (.ab n) a).ad h) vs st.chg:=
 Rj x fun k m g hm hne e=>by cases e;have:=bs.gonl _ _ _ hm;exact o83 this hn
theorem Gd.callI{s':A4}{y0 y':Lay}{st0 st':St}{h0:AE}(D:Gd y0 st0 h0 y st H)(F:Fm s0 H Z L m s)(M:Ms y st y' st' s s')(G':KW y' st' s'.heap):∃H',Fm s0 H' Z L m s'∧Gd y0 st0 h0 y' st' H'∧Im H H'∧(∀b o,L3 o=false→s'.heap.get? b=some o→H'.get? b=some o):=by
 refine D.callG F M G' fun H' F' D' k1 k2=>?_;refine (NT H' F' D' (fun b o hm e=>k1 b o (fun ow=>?_) e) k2);refine xEA (D.good.own_mut ow) fun ob e1 hm1=>?_;rw[e1]at e;obtain rfl:=Ag e;rw[hm1]at hm;exact nomatch hm
theorem Gd.callJ{s':A4}{y0 y':Lay}{st0 st':St}{h0:AE}(D:Gd y0 st0 h0 y st H)(F:Fm s0 H Z L m s)(M:Ms y st y' st' s s')(G':KW y' st' s'.heap){G:Prop}(k:∀H',Fm s0 H' Z L m s'→Gd y0 st0 h0 y' st' H'→Im H H'→(∀b o,L3 o=false→s'.heap.get? b=some o→H'.get? b=some o)→G):G:=LZ (D.callI F M G') k
namespace U34
noncomputable def pP(A:Aq)(s:A4)(E Q:Value→A4→Prop)(y:Lay)(st:St)(op:A9)(ks:List Nat)(vs:List Value)(q:Addr)(t:Tok):Prop:=∀(rm:Rm A 10 150)(B:Bs s.heap)(G:KW y st s.heap)(bs:Bas st)(hop:WK op)(hq:Tpl s.heap q vs)(hk:LH vs ks)(hk2:ks.length≤2)(hlt:∀k∈ks,k<st.rows.length)(hpre:∀w d,UA (OH st (op,ks) w d) st.rows.length)(k0:∀j:Nat,st.rows[j]?=some (op,ks)→∀s' t',Pu s s'→Q (.int j t') s')(k1:lk st.nums (op,ks)=none→∀s' t' w d y',M6 y y'→Ms y st y' (MI (OH st (op,ks) w d) st.rows.length) s s'→KW y' (MI (OH st (op,ks) w d) st.rows.length) s'.heap→Q (.int (st.rows.length:Nat) t') s'),A8 (MD c.w) A (call (.ref 389) [.ref y.lv,.str op t,.ref q]) Q E s
noncomputable def fF:=unz fun A=>unz fun s=>unz fun E=>unz fun Q=>unz fun y=>unz fun st=>unz fun op=>unz fun ks=>unz fun vs=>unz fun q=>pP A s E Q y st op ks vs q
noncomputable def kK:=epz ({},{},default,default,OG,dSt,default) fF
noncomputable def A_:=kK.1
noncomputable def s_:=kK.2.1
noncomputable def y_:=kK.2.2.2.2.1
noncomputable def st_:=kK.2.2.2.2.2.1
noncomputable def op_:=kK.2.2.2.2.2.2.1
noncomputable def ks_:=kK.2.2.2.2.2.2.2.1
noncomputable def vs_:=kK.2.2.2.2.2.2.2.2.1
noncomputable def q_:=kK.2.2.2.2.2.2.2.2.2.1
inductive ZA(L:Addr)(w:Nat)(d:Nat)(a1:Addr)(a2:Addr)(cs':List Nat)(i:Nat)(H':AE)(m':A9→Option Value):Prop
 | mk(a1:Gd y_ st_ s_.heap ((y_.set (.lot st_.rows.length) a1).set (.ab st_.rows.length) a2) (St.s_abv (PB st_ (op_,ks_) w d) (Kx (st_.abv++[[]]) (cs'.take i) st_.rows.length)) H')(a2:H'.IsCell (L+1) (some (.ref y_.lv)))(tn:Tok)(a3:m' "n" = some (.int (st_.rows.length:Nat) tn))
theorem tT:pP A_ s_ kK.2.2.1 kK.2.2.2.1 y_ st_ op_ ks_ vs_ q_ kK.2.2.2.2.2.2.2.2.2.2:=by
 intro rm B G bs hop hq hk hk2 hlt hpre k0 k1;refine Mo rfl ‹_› ‹_› rfl rfl rfl rfl rfl ?_;intro A_ L H s1 rm BH F hC;have D:Gd y_ st_ s_.heap y_ st_ H:=⟨G.ext BH,fun b o _ e=>BH _ _ e,fun _ o=>.inl o,fun _ o e=>⟨o,BH _ _ e⟩⟩;have G:=D.good;refine xA (hC "self" (L+1) rfl) fun hc0 _=>?_;replace hc0:H.IsCell (L+1) (some (.ref y_.lv)):=hc0;have hq:Tpl H q_ vs_:=hq.ext BH;have hvl:=hk.1;have hz:=bs.hn;have hu:=bs.up;have low:=bs.low;have hnz:st_.nums.length≤900:=by rw[bs.nums,FH];exact n1 hz
 refine G.ldK fun t1 t2 hld=>?_;refine Lw (PC Sl (NH F hc0 G.lv hld rfl LQ rfl fun s2 P F=>⟨_,_,_,_,rfl,F,G.bk,G.ok .bd trivial,rfl,Kv F rfl (Kv F rfl ⟨F.In,Td (rm.mono (by decide) (by decide)) (F.base.trans F.keep) (G.ext F.keep) hop (hq.ext F.keep) hk (by exact n1 hz) hnz (by rw[bs.wts];exact n1 hz) (by rw[bs.dps];exact n1 hz) (by exact n1 hk2) hlt bs.wts bs.dps (fun j hj s3 t3 P=>?_) (fun hnone s3 t3 w d M G'=>?_)⟩)⟩))
 ·have F:=F.pu P;rw[bs.nums]at hj;have hjr:=WL hj;have hjl:=(Af.mp hjr).1;refine L4 F fun s4 F=>L7 (wpAny_isTrue_Compare1 (Kv F rfl (PD OR (NH F hc0 G.lv hld rfl KY rfl fun s5 P F=>⟨_,_,_,_,rfl,F,G.un,G.ok .ud trivial,rfl,OM (rm.mono (by decide) (by decide)) (F.base.trans F.keep) (G.ext F.keep) (by exact n2 hu hz) fun s6 t6 P=>lt_ (Ai (KC (by simp;exact o5 hjl hu) (KS (Kv (F.pu P) rfl ?_))))⟩))));have F:=F.pu P;exact k0 j hjr _ _ ⟨BH.trans F.keep,F.gens,F.os⟩
 ·refine D.callJ F M G' fun H2 F D im2 _=>?_;have G:=D.good;have hc2:=KF hc0 im2;have hq2:=hq.im im2;refine L4 F fun s4 F=>L7 (wpAny_isTrue_Compare1 (Kv F rfl (PD OR (NH F hc2 G.lv (G.ok .ld trivial).choose_spec.choose_spec rfl KY rfl fun s5 P F=>⟨_,_,_,_,rfl,F,G.un,G.ok .ud trivial,rfl,OM (rm.mono (by decide) (by decide)) (F.base.trans F.keep) (G.ext F.keep) (by show st_.up.length≤_;exact n2 hu hz) fun s6 t6 P=>?_⟩))));have F:=F.pu P;refine lt_ (Ai (Ks (by show decide (((st_.rows.length:Nat):Int)<((st_.up.length:Nat):Int))=false;rw[hu];simp) (Kt (Kw ?_))));refine L8 (PD Sg (NH F hc2 G.lv (G.ok .ld trivial).choose_spec.choose_spec rfl KY rfl fun s7 P F=>⟨_,_,_,_,rfl,F,G.un,G.ok .ud trivial,rfl,Tz (n:=st_.rows.length) (rm.mono (by decide) (by decide)) (F.base.trans F.keep) (G.ext F.keep) hu bs.lots (by exact n1 hz) fun s8 t8 a1 M G'=>?_⟩));refine D.callJ F M G' fun H3 F D im3 _=>?_;have G:=D.good;have hc3:=KF hc2 im3;have hq3:=hq2.im im3;refine G.ldK fun t9 t10 hld3=>?_;have hab:ID c.w H3 (y_.ad .above) (abF y_.ad st_):=G.ok .above trivial
  have hdom:∀j,(abF y_.ad st_ j).isSome=true→0≤j∧j<1000:=fun j hj=>by
   unfold abF at hj;split at hj
   ·rename_i q_;have:=bs.klt q_.2;grind
   ·exact nomatch hj
  have Fb:=F;refine OF (Qp F fun s9 a2 P9 F hla hna=>NH F hc3 G.lv hld3 rfl KQ rfl fun s10 P10 F=>Kv F rfl (PJ (hab.at2 fun o e=>F.keep _ _ e) hdom fun s11 M hab2=>?_));refine D.freshK Fb hna fun f1 f2 f3 f4 f5=>?_;have hlive0:∀r,live (O5 st_ (op_,ks_) w d) r→r≠.ab st_.rows.length:=fun r h e=>by subst e;have h:st_.rows.length<st_.abv.length:=h;rw[bs.abv]at h;exact o88 h
  refine LZ (D.new (r0:=.above) (r1:=.ab st_.rows.length) (a:=a2) (st':=PB st_ (op_,ks_) w d) F M trivial (QE (by intro q_;exact nomatch q_) (by intro q_;exact nomatch q_) (by intro q_;exact nomatch q_) (by intro q_;exact nomatch q_)) f1 f2 f3 f4 (fun h=>by exact nomatch h) (.inr f5) hab2.al (fun _=>by
    show ID c.w s11.heap (y_.ad .above) (abF ((y_.set (.lot st_.rows.length) a1).set (.ab st_.rows.length) a2).ad (PB st_ (op_,ks_) w d));rw[WA (st:=st_) (n:=st_.rows.length) rfl];exact hab2) (fun l hl=>by
    have e:(st_.abv++[[]])[st_.rows.length]?=some l:=hl;rw[←bs.abv]at e;simp at e;subst e;have hne:a2≠y_.ad .above:=fun q_=>f3 (yEA .above trivial q_.symm);show NL s11.heap (((y_.set (.lot st_.rows.length) a1).set (.ab st_.rows.length) a2).ad (.ab st_.rows.length)) [];rw[Lay.set_same];exact (yEA _ ((hla.ext P10.ext).at2 (fun o e=>M.keep _ _ hne e)) .nil))
   (fun r h=>by
    induction r<;>first | exact .inl h | skip
    rename_i i;have e:i<(st_.abv++[[]]).length:=h;rw[Au,Bx]at e;rcases B8 i st_.abv.length with q_ | q_
    ·exact .inl q_
    ·refine .inr ?_;rw[show i=st_.rows.length by have:=bs.abv;exact o87 e this q_]) rfl (fun r h hr hr1 hl h1=>by
    induction r<;>first | exact absurd rfl hr | exact absurd rfl hr1 | skip
    case chg=>
     refine xEA h1 ?_;clear h1;intro vs_ a1 a2;exact (yEA vs_ a1 (Wk bs (At _) a2))
    case ab i=>
     intro l hl';have e:(st_.abv++[[]])[i]?=some l:=hl'
     have hi:i<st_.abv.length:=by
      have:=(Af.mp e).1;rw[Au,Bx]at this;have:i≠st_.rows.length:=fun q_=>hr1 (by rw[q_]);have:=bs.abv;exact aq43 ‹_› this ‹_›
     rw[Ar hi]at e;show NL h (((y_.set (.lot st_.rows.length) a1).set (.ab st_.rows.length) a2).ad (.ab i)) l;rw[Lay.set_ne _ _ hr1];exact h1 l e
    all_goals exact h1)) fun H4 F D _ im4=>?_
  have hc4:=KF hc3 im4;have hq4:=hq3.im im4;have G:=D.good;refine xE hq4 ?_;clear hq4;intro nq hq5;have hroot:∀k,Ku (st_.up++[st_.rows.length]) k=Ku st_.up k:=fun k=>by rw[←bs.up];exact N8 low k
  have low':Low (st_.up++[st_.rows.length]):=by rw[←bs.up];exact low.snoc
  refine Mp (KN F Mb rfl (by decide) (sp1 (LB F RI rfl (by decide) (sp1 (MJ (Kv F rfl ?_))))))
  refine Lv (Src.tuple rm.h (F.keep _ _ hq5) (Pu.refl _)) F (Pu.refl _) (fun p hp=>by rw[Ab]at hp;subst hp;exact (yAA (F.keep _ _ hq5) ((F.imm_apart (F.keep _ _ hq5) rfl).1) (fun q_=>by exact nomatch q_))) (by exact n2 hvl hk2)
   (I:=fun i ys H'=>H'=H4∧LH ys ((ks_.take i).map (Ku st_.up))) ⟨rfl,.nil⟩ (fun C i ys v H' m' s12 Z' hi hlen Fi _ hP hI=>?_) (fun C D' ys H' s12 K hI hlen hD=>?_)
  ·refine xA hI ?_;clear hI;intro eH hI;subst eH;refine xEA (hk.get' hP) ?_;rintro j hj ⟨tj,rfl⟩;have hjl:=hlt j (Av hj);refine G.ldK fun t11 t12 hld4=>?_;refine Aw (L4 Fi fun s13 F=>Ly Ma (Ln F hc4 ⟨_,_,_,_,rfl,F,G.lv,hld4,rfl,Kv F rfl ⟨F.In,Me (y:=(y_.set (.lot st_.rows.length) a1).set (.ab st_.rows.length) a2) (rm.mono (by decide) (by decide)) (F.base.trans F.keep) (G.ext F.keep) low' (by show j<(st_.up++[st_.rows.length]).length;simp;exact o56 hjl hu) (by show (st_.up++[st_.rows.length]).length≤_;simp;exact n2 hu hz) fun s14 t14 P=>⟨_,_,F.pu P,rfl,?_⟩⟩⟩));rw[GQ,hj,B6];refine hI.snoc ?_;have e:Ku (PB st_ (op_,ks_) w d).up j=Ku st_.up j:=hroot j;rw[e];exact⟨t14,rfl⟩
  refine xA hI ?_;clear hI;intro eH hI;subst eH;rw[hvl,Br]at hI;refine K.post fun s13 F hl13 _=>?_;refine xE hl13 ?_;clear hl13;intro nl hl13;refine Pe (by have:=rm.u;show A_.units+12<9900;exact n9 this) rm.h hl13 hI (by simpa using hk2) fun s14 S cs P14 hS hcs _=>?_;refine S0 hS.raw fun _ _ _ _ _ _ hcsn _ _=>?_;have F:=F.pu P14;refine RC rm.h hS fun s15 l15 out cs' P15 hl15 hn15 hperm hnew=>?_;have Fb:=F;have F:=F.pu P15;refine xAA (Fb.apart hnew) fun g1 g2 g3=>?_;refine xE hl15 ?_;clear hl15;intro nl15 hl15;have hcs':∀x,x∈cs'↔x∈ks_.map (Ku st_.up):=fun x=>by rw[hperm.mem_iff,hcs]
  have hnd':cs'.Nodup:=hperm.nodup_iff.mpr hcsn
  have hcl:∀x∈cs',st_.akeys x=true∧x<st_.rows.length:=fun x hx=>by
   refine xEA (AR.mp ((hcs' x).mp hx)) ?_;rintro k hk1 rfl;exact⟨bs.kr (hlt k hk1),bs.rl (hlt k hk1)⟩
  refine On (I:=ZA L w d a1 a2 cs') (Src.list rm.h hl15 P15) Fb P15 (fun p hp=>by rw[Ab]at hp;subst hp;exact (yAA hl15 g2 (fun _=>g1))) ⟨?_,hc4,t3,rfl⟩ (fun i v H' m' s16 Z' hi Fi _ hP hI=>?_) (fun H' m' s16 Fi hI=>?_)
  ·rw[List.take_zero,NJ];exact D
  ·obtain⟨D,hc5,tn,m1⟩:=hI;refine xEA (hn15.get' hP) ?_;rintro x hx ⟨tx,rfl⟩;have hxm:=Av hx;refine xA (hcl x hxm) fun hxk hxl=>?_;have hxi:i<cs'.length:=(Af.mp hx).1;have hxe:cs'[i]=x:=(Af.mp hx).2
   have hxn:x∉cs'.take i:=fun hm=>by
    obtain⟨j,hj,ej⟩:=Dp hm;rw[Cc]at hj;rw[List.getElem_take]at ej;have:=(Gi (h₀:=by grind) (h₁:=hxi) hnd').mp (ej.trans hxe.symm);exact aq140 hj hxi this
   have G:=D.good;refine G.ldK fun t13 t14 hld5=>?_;have hab5:ID c.w H' (y_.ad .above) (abF ((y_.set (.lot st_.rows.length) a1).set (.ab st_.rows.length) a2).ad (PB st_ (op_,ks_) w d)):=G.ok .above trivial
   have eK:abF ((y_.set (.lot st_.rows.length) a1).set (.ab st_.rows.length) a2).ad (PB st_ (op_,ks_) w d) (x:Int)=some (.ref (((y_.set (.lot st_.rows.length) a1).set (.ab st_.rows.length) a2).ad (.ab x))):=by
    unfold abF;rw[if_pos ⟨by exact n3,by show (st_.akeys (x:Int).toNat || _)=true;simp[hxk]⟩];simp
   have hxv:x<(Kx (st_.abv++[[]]) (cs'.take i) st_.rows.length).length:=by rw[KX];simp;have:=bs.abv;exact o56 hxl this
   obtain⟨vx,hvx,hnx⟩:NL H' (((y_.set (.lot st_.rows.length) a1).set (.ab st_.rows.length) a2).ad (.ab x)) ((Kx (st_.abv++[[]]) (cs'.take i) st_.rows.length).getD x []):=G.ok (.ab x) hxv _ (by rw[A6];show (Kx (st_.abv++[[]]) (cs'.take i) st_.rows.length)[x]?=_;rw[A7 hxv];rfl)
   have hvz:vx.length≤100:=by
    rw[hnx.1,A6,KO,Ar (by have:=bs.abv;exact o5 hxl this),A7 (by have:=bs.abv;exact o5 hxl this)];have hxa:x<st_.abv.length:=by have:=bs.abv;exact o5 hxl this
    have h1:=bs.abvz x st_.abv[x] (A7 hxa);simp only[ED,Et];split
    ·rw[Au,Bx];trivial
    ·exact A0 ‹_› (by decide)
   refine Aw (L4 Fi fun s17 F=>L8 (La (Subscript_ (NH F hc5 G.lv hld5 rfl KQ rfl fun s18 P F=>Kv F rfl (Mq (hab5.at2 fun o e=>F.keep _ _ e) eK fun s19 P=>Rq (hvx.ext (F.pu P).keep) (Kv (F.pu P) m1 ⟨vx,hvx.ext (F.pu P).keep,by exact n1 hvz,fun s20 M hl20=>?_⟩))))));have F:=F.pu P
   refine D.puts (r0:=.ab x) (st':=(St.s_abv (PB st_ (op_,ks_) w d) (Kx (st_.abv++[[]]) (cs'.take (i+1)) st_.rows.length))) F M hxv (fun l hl=>by
     have e:(Kx (st_.abv++[[]]) (cs'.take (i+1)) st_.rows.length)[x]?=some l:=hl;rw[CH hxi,hxe,←MY hxn,BG hxv]at e;obtain rfl:=Ag e;exact (yEA _ hl20 (hnx.snoc ⟨tn,rfl⟩))) hl20.al (.ab1 rfl (by show (Kx _ _ _).length≤(Kx _ _ _).length;rw[KX,KX];exact At _) fun j l q_ hl'=>by
     have e:(Kx (st_.abv++[[]]) (cs'.take (i+1)) st_.rows.length)[j]?=some l:=hl';rw[CH hxi,hxe,←MY hxn,BE (B9 q_)]at e;exact e) fun H6 F D _ im6=>?_
   exact Kt ⟨_,_,F,D,KF hc5 im6,tn,m1⟩
  obtain⟨D,hc5,tn,m1⟩:=hI
  have e1:((St.s_abv (PB st_ (op_,ks_) w d) (Kx (st_.abv++[[]]) (cs'.take out.length) st_.rows.length)):St)=OH st_ (op_,ks_) w d:=by
   unfold OH;rw[hn15.1,Br,MM hcs']
  rw[e1]at D;have G:=D.good;refine G.ldK fun t13 t14 hld5=>?_;have hp:=hpre w d;refine Kw (L8 (Ly Nc (Ln Fi hc5 ⟨_,_,_,_,rfl,Fi,G.lv,hld5,rfl,Kv Fi m1 ⟨Fi.In,OX (y:=(y_.set (.lot st_.rows.length) a1).set (.ab st_.rows.length) a2) (rm.mono (by decide) (by decide)) (Fi.base.trans Fi.keep) (G.ext Fi.keep) hp.bs hp.hcz hp.hn hp.hkn fun s21 y' hL M G'=>?_⟩⟩)));refine D.callJ Fi M G' fun H7 F D _ _=>?_;refine KS (Kv F m1 ?_);refine D.msK F fun G' M'=>?_;exact k1 hnone _ _ w d y' (((M6.set y_ a1 rfl).trans (M6.set _ a2 rfl)).trans hL) M' G'
end U34
theorem Vr{A s E Q y st op ks vs q t}:U34.pP A s E Q y st op ks vs q t:=@KB _ _ U34.fF U34.kK rfl U34.tT (A,s,E,Q,y,st,op,ks,vs,q,t)
end
end
section
section
variable{A:Aq}{s:A4}{E Q:Value→A4→Prop}{y:Lay}{st:St}{s0:A4}{H:AE}{Z:List (Addr×Obj)}{L:Addr}{m:A9→Option Value}{env:Env}
theorem Xl(F:Fm s0 H Z L m s)(hl:Lst s.heap l vs)(hz:vs.length≤16000)(h:∀s' a,Pu s s'→Fm s0 H Z L m s'→Lst s'.heap a vs→s.heap.get? a=none→Q (.ref a) s'):A8 (MD c.w) A (call (.type "list") [.ref l]) Q E s:=by
 refine xE hl ?_;clear hl;intro n hl;refine call_list_seq l (.inl rfl) hl rfl rfl (fun h' c' k e=>?_) (by rw[Ay,AT];exact n1 hz);have p:Pu s {s with heap:=h' }:=⟨k,rfl,rfl⟩;exact h _ _ p (F.pu p) ⟨c',e⟩ (KM _)
noncomputable def Q9(st:St):St:={st with mks:=st.mks++[(st.chg.length,st.wait)]}
namespace U35
noncomputable def pP(A:Aq)(s:A4)(E Q:Value→A4→Prop)(y:Lay)(st:St):Prop:=∀(rm:Rm A 1 60)(B:Bs s.heap)(G:KW y st s.heap)(bs:Bas st)(kk:∀s' a,Ms y st (y.set (.mk st.mks.length) a) (Q9 st) s s'→KW (y.set (.mk st.mks.length) a) (Q9 st) s'.heap→Q .none s'),A8 (MD c.w) A (call (.ref 520) [.ref y.lv]) Q E s
noncomputable def fF:=unz fun A=>unz fun s=>unz fun E=>unz fun Q=>unz fun y=>pP A s E Q y
noncomputable def kK:=epz ({},{},default,default,OG,dSt) fF
noncomputable def A_:=kK.1
noncomputable def s_:=kK.2.1
noncomputable def y_:=kK.2.2.2.2.1
noncomputable def st_:=kK.2.2.2.2.2
theorem tT:pP A_ s_ kK.2.2.1 kK.2.2.2.1 y_ st_:=by
 intro rm B G bs kk;refine LG rfl ‹_› ‹_› rfl (Dw rfl) (by decide) rfl rfl rfl ?_;dsimp only[Bg,Bj,AV,AW,AF];intro A_ L s1 rm F;have D:=Gd.refl G;refine G.ldK fun t5 t6 hld=>?_;refine LY (G.ok .mks trivial) fun vm hvm hnm hmm=>?_;refine xEA (G.ok .chg trivial) fun vc hvc hnc=>?_;obtain⟨vw,hvw,hnw⟩:NL s_.heap (y_.ad .wait) st_.wait:=G.ok .wait trivial;have h1:=bs.chgz;have h2:=bs.waiz;have h3:=bs.mksz
 refine L8 (La (L9 F rfl G.lv hld rfl Mi rfl fun s2 P F=>Rq (hvm.ext F.keep) (PU (KN F KL rfl (by decide) (sp1 (L9 F rfl G.lv hld rfl Ld rfl fun s3 P F=>Lj F (hvc.ext F.keep) (by rw[hnc.1];exact n1 h1) fun s4 t4 P F=>
  LB F QZ rfl (by decide) (sp1 (L9 F rfl G.lv hld rfl LM rfl fun s5 P F5=>Xl F5 (hvw.ext F5.keep) (by rw[hnw.1];exact n1 h2) fun s6 a P6 F6 hla hna=>KA F6 (by simp) fun s7 q P7 F htq hnq=>⟨vm,hvm.ext F.keep,by rw[hnm];exact n1 h3,fun s8 M hl8=>?_⟩))))))))
 refine D.freshK F5 hna fun f1 f2 f3 f4 f5=>?_;have hne:a≠y_.ad .mks:=fun q=>f3 (yEA .mks trivial q.symm);have hla8:Lst s8.heap a vw:=(hla.ext P7.ext).at2 (fun o e=>M.keep _ _ hne e)
 refine LZ (D.new (r0:=.mks) (r1:=.mk st_.mks.length) (a:=a) (st':=Q9 st_) F M trivial (QE (by intro q;exact nomatch q) (by intro q;exact nomatch q) (by intro q;exact nomatch q) (by intro q;exact nomatch q)) f1 f2 f3 f4 (fun h=>by exact nomatch h) (.inr f5) hl8.al (fun _=>by
   refine (M1 _ hl8 (by show (vm++_).length=(st_.mks++_).length;simp[hnm]) (fun i v p hv hp=>?_));have hp:(st_.mks++[(st_.chg.length,st_.wait)])[i]?=some p:=hp;rcases B8 i st_.mks.length with q | q
   ·rw[Ar q]at hp;rw[Ar (by exact o5 q hnm)]at hv;rw[Lay.set_ne _ _ (fun e=>by cases e;exact B3 _ q)];exact (hmm i v p hv hp).im (Im.trans F.keep.im (M.imL (hvm.ext F.keep)))
   ·have hi:i=st_.mks.length:=by
     have:=(Af.mp hp).1;simp at this;exact o42 this q
    subst hi;simp at hp;rw[←hnm]at hv;simp at hv;subst hp hv;rw[Lay.set_same];exact (MN _ _ rfl (htq.im (M.imL (hvm.ext F.keep))) ⟨t4,by rw[hnc.1]⟩)) (fun p hp=>by
   have hp:(st_.mks++[(st_.chg.length,st_.wait)])[st_.mks.length]?=some p:=hp;simp at hp;subst hp;show NL s8.heap ((y_.set (.mk st_.mks.length) a).ad (.mk st_.mks.length)) st_.wait;rw[Lay.set_same];exact (yEA _ hla8 hnw))
  (fun r h=>by
   induction r<;>first | exact .inl h | skip
   rename_i i;have e:i<(st_.mks++[(st_.chg.length,st_.wait)]).length:=h;rw[Au,Bx]at e;rcases B8 i st_.mks.length with q | q
   ·exact .inl q
   ·refine .inr ?_;rw[show i=st_.mks.length by exact o42 e q]) rfl (fun r h hr hr1 hl h1=>by
   induction r<;>first | exact absurd rfl hr | exact absurd rfl hr1 | skip
   case mk i=>
    intro p hp;have hp:(st_.mks++[(st_.chg.length,st_.wait)])[i]?=some p:=hp
    have hi:i<st_.mks.length:=by
     have:=(Af.mp hp).1;rw[Au,Bx]at this;have:i≠st_.mks.length:=fun q=>hr1 (by rw[q]);exact aq202 ‹_› this
    rw[Ar hi]at hp;show NL h ((y_.set (.mk st_.mks.length) a).ad (.mk i)) p.2;rw[Lay.set_ne _ _ hr1];exact h1 p hp
   all_goals exact h1)) fun H1 F D _ _=>?_
 refine D.msK F fun G' M'=>?_;exact Kt (kk _ a M' G')
end U35
theorem To{A s E Q y st}:U35.pP A s E Q y st:=@KB _ _ U35.fF U35.kK rfl U35.tT (A,s,E,Q,y,st)
end
end
section
theorem Pn{α:Type}{l:List α}{n:Nat}(h:l.length=n+1):∃l' x,l=l'++[x]∧l'.length=n:=by
 rcases EU l with rfl | ⟨l',x,e⟩
 ·trivial
 ·rw[EV]at e;subst e;exact (Pi l' x rfl (by simpa using h))
section
variable{A:Aq}{s:A4}{E Q:Value→A4→Prop}{y:Lay}{st:St}{s0:A4}{H:AE}{Z:List (Addr×Obj)}{L:Addr}{m:A9→Option Value}{env:Env}
theorem YX{x1 x2 x3 x4 x5:A9}{p1 p2 p3 p4 p5:Pos}{a1 a2 a3 a4 a5:Value}{Q:Unit→A4→Prop}(h:A8 (MD c.w) A (Cq env x1 a1) (fun _ s₁=>A8 (MD c.w) A (Cq env x2 a2) (fun _ s₂=>A8 (MD c.w) A (Cq env x3 a3) (fun _ s₃=>A8 (MD c.w) A (Cq env x4 a4) (fun _ s₄=>A8 (MD c.w) A (Cq env x5 a5) Q E s₄) E s₃) E s₂) E s₁) E s):A8 (MD c.w) A (Eb ((Fl [.Name x1 p1,.Name x2 p2,.Name x3 p3,.Name x4 p4,.Name x5 p5] env).map (·.2)) [a1,a2,a3,a4,a5]) Q E s:=by
 refine Bq (Aw (Al h (fun _ _ h=>?_) fun _ _ e=>e));refine Bq (Aw (Al h (fun _ _ h=>?_) fun _ _ e=>e));refine Bq (Aw (Al h (fun _ _ h=>?_) fun _ _ e=>e));refine Bq (Aw (Al h (fun _ _ h=>?_) fun _ _ e=>e));refine Bq (Aw (Al h (fun _ _ h=>?_) fun _ _ e=>e));exact EJ h
theorem Ur(p:St){k g:Nat}(hkg:k≠g)(hk:k<p.lots.length)(hgr:p.up[g]?=some g):(p.up.set g k).set g g=p.up∧(p.lots.set k (p.lots.getD k []++p.lots.getD g [])).set k (((p.lots.set k (p.lots.getD k []++p.lots.getD g [])).getD k []).take (((p.lots.set k (p.lots.getD k []++p.lots.getD g [])).getD k []).length - ((p.lots.set k (p.lots.getD k []++p.lots.getD g [])).getD g []).length))=p.lots:=by
 constructor
 ·rw[Js];apply BC;intro i;rw[BU];split
  ·rename_i e;subst e;rw[if_pos (Af.mp hgr).1,hgr]
  ·rfl
 ·have e1:(p.lots.set k (p.lots.getD k []++p.lots.getD g [])).getD k []=p.lots.getD k []++p.lots.getD g []:=by
   rw[A6,BG hk];rfl
  have e2:(p.lots.set k (p.lots.getD k []++p.lots.getD g [])).getD g []=p.lots.getD g []:=by
   rw[A6,BE hkg,←A6]
  rw[e1,e2,Js]
  have e3:(p.lots.getD k []++p.lots.getD g []).take ((p.lots.getD k []++p.lots.getD g []).length - (p.lots.getD g []).length)=p.lots.getD k []:=by
   rw[Au,Iw,Fc]
  rw[e3];apply BC;intro i;rw[BU];split
  ·rename_i e;subst e
   first
    | (rw[if_pos hk,A6,A7 hk];rfl)
    | (rw[A6,A7 hk];rfl)
  ·rfl
theorem Uf{e:Expr}{pos:Pos}{rest:List Stmt}{Q:DB→A4→Prop}(h:A8 (MD c.w) A (AJ e env) (fun _ s'=>A8 (MD c.w) A (execs rest env) Q E s') E s)(hi:autoParam (interactive env=false) au1._auto_1)(hs:autoParam (Ep e none pos.line env=pure false) au1._auto_1):A8 (MD c.w) A (execs (.Expr e pos::rest) env) Q E s:=by
 refine LW ?_;rw[exec_Expr env e pos hi hs];exact A5 (HX (A5 (Al h (fun v s' h'=>wpAny_dropValue h') fun _ _ x=>x)))
theorem Q0{p:St}{k mm:Nat}{q:Addr}{t:Tok}{x1 x2 x3 x4:Value}(rm:Rm A 1 60)(B:Bs s.heap)(G:KW y (St.s_edges p (p.edges+1)) s.heap)(bs:Bas p)(hq:Tpl s.heap q [.str "edge" t,x1,x2,x3,x4])(h1:MK x1 k)(h3:MK x3 k)(kk:∀s',Ms y (St.s_edges p (p.edges+1)) y p s s'→KW y p s'.heap→Q .none s'):A8 (MD c.w) A (call (.ref 555) [.ref y.lv,.ref q]) Q E s:=by
 refine LG rfl ‹_› ‹_› rfl (Dw rfl) (by decide) rfl rfl rfl ?_;dsimp only[Bg,Bj,AV,AW,AF];intro A L s1 rm F;have D:=Gd.refl G;refine xE h1 ?_;clear h1;rintro t1 rfl;refine xE h3 ?_;clear h3;rintro t3 rfl;refine Oq (Kv F rfl (show A8 (MD c.w) _ (BX (.ref q) 5 none) _ _ _ from KR (vs:=[.str "edge" t,_,_,_,_]) rm.h F (hq.ext F.keep) fun s2 P F=>YX (L4 F fun s3 F=>L4 F fun s4 F=>L4 F fun s5 F=>L4 F fun s6 F=>L4 F fun s7 F=>?_)));refine G.ldK fun t5 t6 hld=>?_;refine xEA (G.ok .edges trivial) fun ve hve hne=>?_;have hne:ve.length=p.edges+1:=hne;refine MG (Pn hne) ?_;rintro ve v rfl hne2;have hz:=bs.edgz;refine Uf (La (L9 F rfl G.lv hld rfl LU rfl fun s8 P F=>SY (hve.ext F.keep) (by exact n2 hne2 hz) fun s9 M hl9=>?_));refine D.put (r0:=.edges) (st':=p) F M trivial (yEA _ hl9 hne2) hl9.al rfl fun H1 F D _ _=>?_;refine L7 (wpAny_isTrue_Compare1 (Kv F rfl (Kv F rfl (ne_ (Ai (Ks (by simp) (Kt (Kw (Kt ?_)))))))));refine D.msK F fun G' M'=>?_;exact kk _ M' G'
namespace U36
noncomputable def pP(A:Aq)(s:A4)(E Q:Value→A4→Prop)(y:Lay)(p:St)(k g:Nat)(ww:List Nat)(q:Addr)(t:Tok):Prop:=∀{x1 x2 x3:Value}(rm:Rm A 3 100)(B:Bs s.heap)(G:KW y (St.s_wait (M3 p k g) ww) s.heap)(bs:Bas p)(hq:Tpl s.heap q [.str "edge" t,x1,x2,x3,.ref (y.ad (.ab g))])(h1:MK x1 k)(h2:MK x2 (p.abv.getD k []).length)(h3:MK x3 g)(hkg:k<g)(hkr:Kz p.up k=true)(hgr:Kz p.up g=true)(kk:∀s' a,Ms y (St.s_wait (M3 p k g) ww) (y.set (.ab k) a) (St.s_wait p ww) s s'→KW (y.set (.ab k) a) (St.s_wait p ww) s'.heap→Q .none s'),A8 (MD c.w) A (call (.ref 555) [.ref y.lv,.ref q]) Q E s
noncomputable def fF:=unz fun A=>unz fun s=>unz fun E=>unz fun Q=>unz fun y=>unz fun p=>unz fun k=>unz fun g=>unz fun ww=>unz fun q=>pP A s E Q y p k g ww q
noncomputable def kK:=epz ({},{},default,default,OG,dSt,default) fF
noncomputable def A_:=kK.1
noncomputable def y_:=kK.2.2.2.2.1
noncomputable def p_:=kK.2.2.2.2.2.1
noncomputable def k_:=kK.2.2.2.2.2.2.1
noncomputable def g_:=kK.2.2.2.2.2.2.2.1
noncomputable def ww_:=kK.2.2.2.2.2.2.2.2.1
noncomputable def q_:=kK.2.2.2.2.2.2.2.2.2.1
noncomputable def t_:=kK.2.2.2.2.2.2.2.2.2.2
theorem tT:pP A_ kK.2.1 kK.2.2.1 kK.2.2.2.1 y_ p_ k_ g_ ww_ q_ t_:=by
 intro x1 x2 x3 rm B G bs hq h1 h2 h3 hkg hkr hgr kk;refine LG rfl ‹_› ‹_› rfl (Dw rfl) (by decide) rfl rfl rfl ?_;dsimp only[Bg,Bj,AV,AW,AF];intro A_ L s1 rm F;have D:=Gd.refl G;refine xE h1 ?_;clear h1;rintro t1 rfl;refine xE h2 ?_;clear h2;rintro t2 rfl;refine xE h3 ?_;clear h3;rintro t3 rfl;have hgr':p_.up[g_]?=some g_:=by simpa [Kz]using hgr
 have hgl:g_<p_.up.length:=(Af.mp hgr').1;have hup:=bs.up;have hlo:=bs.lots;have hab:=bs.abv;have hn:=bs.hn;have hkK:p_.akeys k_=true:=(bs.keys k_).trans hkr;have hgK:p_.akeys g_=true:=(bs.keys g_).trans hgr;refine Oq (Kv F rfl (show A8 (MD c.w) _ (BX (.ref q_) 5 none) _ _ _ from KR (vs:=[.str "edge" t_,_,_,_,_]) rm.h F (hq.ext F.keep) fun s2 P F=>YX (L4 F fun s3 F=>L4 F fun s4 F=>L4 F fun s5 F=>L4 F fun s6 F=>L4 F fun s7 F=>?_)));refine G.ldK fun t5 t6 hld=>?_;refine xEA (G.ok .edges trivial) fun ve hve hne=>?_;have hne:ve.length=p_.edges+1:=hne;refine MG (Pn hne) ?_;rintro ve v rfl hne2;have hz:=bs.edgz;refine Uf (La (L9 F rfl G.lv hld rfl LU rfl fun s8 P F=>SY (hve.ext F.keep) (by exact n2 hne2 hz) fun s9 M hl9=>?_));refine D.put (r0:=.edges) (st':=(St.s_edges (St.s_wait (M3 p_ k_ g_) ww_) p_.edges)) F M trivial (yEA _ hl9 hne2) hl9.al rfl fun H1 F D _ _=>?_;refine L7 (wpAny_isTrue_Compare1 (Kv F rfl (Kv F rfl (ne_ (Ai (KC (by simp;exact o17 hkg) ?_))))));have G1:=D.good;refine G1.ldK fun t7 t8 hld1=>?_;refine xEA (G1.ok .forest trivial) fun vf hvf hnf=>?_;have hnf:vf.length=p_.forest+1:=hnf;refine MG (Pn hnf) ?_;rintro vf v rfl hnf2;have hzf:=bs.forz;refine Uf (La (L9 F rfl G1.lv hld1 rfl NN rfl fun s10 P F=>SY (hvf.ext F.keep) (by exact n2 hnf2 hzf) fun s11 M hl11=>?_));refine D.put (r0:=.forest) (st':=(St.s_forest (St.s_edges (St.s_wait (M3 p_ k_ g_) ww_) p_.edges) p_.forest)) F M trivial (yEA _ hl11 hnf2) hl11.al rfl fun H2 F D _ _=>?_;have G2:=D.good;refine G2.ldK fun t9 t10 hld2=>?_;refine xEA (G2.ok .mrg trivial) fun vm hvm hnm=>?_;have hvl:vm.length=p_.mrg.length+1:=by have:=hnm.1;rw[this];show (p_.mrg++[_]).length=_;simp
 have hzm:=bs.mrgz;refine xA (Ur p_ (k:=k_) (g:=g_) (by exact o15 hkg) (by exact o13 hkg hgl hup hlo) hgr') fun ej1 ej2=>?_;have hlk:(p_.lots.set k_ (p_.lots.getD k_ []++p_.lots.getD g_ [])).getD k_ []=p_.lots.getD k_ []++p_.lots.getD g_ []:=by rw[A6,BG (by exact o13 hkg hgl hup hlo)];rfl
 have hlg:(p_.lots.set k_ (p_.lots.getD k_ []++p_.lots.getD g_ [])).getD g_ []=p_.lots.getD g_ []:=by rw[A6,BE (by exact o15 hkg),←A6]
 have hlz:∀i,(p_.lots.getD i []).length≤13:=fun i=>by
  rw[A6]
  cases e:p_.lots[i]? with
  | none=>simp
  | some l=>exact bs.lotz i l e
 refine L8 (Ly Sh (L9 F rfl G2.lv hld2 rfl KY rfl fun s12 P F=>⟨_,_,_,_,rfl,F,G2.un,G2.ok .ud trivial,rfl,bop (KN F KL rfl (by decide) (sp1 (RX (L9 F rfl G2.lv hld2 rfl KY rfl fun s13 P F=>ga F G2.un (G2.ok .ud trivial) rfl LC rfl fun s14 P F=>Lj F (hvm.ext F.keep) (by exact n8 hvl hzm) fun s15 t15 P F=>cI F fun s16 t16 P F=>Ti F fun s17 t17 P F=>⟨F.In,?_⟩))))⟩));rw[hvl,show (((p_.mrg.length+1:Nat):Int) - 1)=((p_.mrg.length:Nat):Int) by exact o16];refine Uq (ms:=p_.mrg) (k:=k_) (g:=g_) (rm.mono (by decide) (by decide)) (F.base.trans F.keep) (G2.ext F.keep) rfl (by exact n1 hzm) (by show k_<(p_.lots.set k_ _).length;rw[By];exact o13 hkg hgl hup hlo) (by show g_<(p_.lots.set k_ _).length;rw[By];exact aq164 hgl hup hlo) (by exact o15 hkg) (by show (p_.up.set g_ k_).length=(p_.lots.set k_ _).length;rw[By,By];lia) (by show (p_.up.set g_ k_).length≤_;rw[By];exact n2 hup hn) (fun i l h=>?_) ?_ fun s18 M G'=>?_
 ·have h:(p_.lots.set k_ (p_.lots.getD k_ []++p_.lots.getD g_ []))[i]?=some l:=h;rw[BU]at h;split at h
  ·split at h
   ·obtain rfl:=Ag h;rw[Au];have:=hlz k_;have:=hlz g_;lia
   ·exact nomatch h
  ·have:=bs.lotz i l h;exact n1 this
 ·show ((p_.lots.set k_ _).getD g_ []).length≤((p_.lots.set k_ _).getD k_ []).length;rw[hlk,hlg,Au];lia
 have e4:Ov (St.s_forest (St.s_edges (St.s_wait (M3 p_ k_ g_) ww_) p_.edges) p_.forest) p_.mrg k_ g_=(St.s_akeys (St.s_abv (St.s_wait p_ ww_) (p_.abv.set k_ (p_.abv.getD k_ []++p_.abv.getD g_ []))) (fun i=>p_.akeys i && i != g_)):=by
  unfold Ov;show ((St.s_lots (St.s_up (St.s_mrg (St.s_forest (St.s_edges (St.s_wait (M3 p_ k_ g_) ww_) p_.edges) p_.forest) p_.mrg) ((p_.up.set g_ k_).set g_ g_)) _):St)=_;have e5:(M3 p_ k_ g_).lots=p_.lots.set k_ (p_.lots.getD k_ []++p_.lots.getD g_ []):=rfl;dsimp only;rw[e5,ej1,ej2]
  rfl
 rw[e4]at G' M;refine D.callJ F M G' fun H3 F D im3 _=>?_;have G3:=D.good;refine G3.ldK fun t11 t12 hld3=>?_;have hab3:ID c.w H3 (y_.ad .above) (abF y_.ad (St.s_akeys p_ (fun i=>p_.akeys i && i != g_))):=G3.ok .above trivial;have hkK':(p_.akeys k_ && k_ != g_)=true:=by rw[hkK];simp;exact o14 hkg
 have eK:abF y_.ad (St.s_akeys p_ (fun i=>p_.akeys i && i != g_)) (k_:Int)=some (.ref (y_.ad (.ab k_))):=by
  unfold abF;rw[if_pos ⟨by exact n3,by assumption⟩];simp
 have hdom:∀j,(abF y_.ad (St.s_akeys p_ (fun i=>p_.akeys i && i != g_)) j).isSome=true→0≤j∧j<1000:=fun j hj=>by
  unfold abF at hj;split at hj
  ·rename_i q_;have h1:(p_.akeys j.toNat && j.toNat != g_)=true:=q_.2;have:=bs.klt (by simp at h1;exact h1.1:p_.akeys j.toNat=true)
   grind
  ·exact nomatch hj
 have hkv:k_<(p_.abv.set k_ (p_.abv.getD k_ []++p_.abv.getD g_ [])).length:=by rw[By];exact o13 hkg hgl hup hab
 obtain⟨vk,hvk,hnk⟩:NL H3 (y_.ad (.ab k_)) (p_.abv.getD k_ []++p_.abv.getD g_ []):=G3.ok (.ab k_) hkv _ (BG (by exact o13 hkg hgl hup hab))
 have haz:∀i,(p_.abv.getD i []).length≤26:=fun i=>by
  rw[A6]
  cases e:p_.abv[i]? with
  | none=>simp
  | some l=>exact bs.abvz i l e
 have hvkz:vk.length≤100:=by rw[hnk.1,Au];have:=haz k_;have:=haz g_;exact aq231 ‹_› this
 refine OF (Subscript_ (Subscript_ (L9 F rfl G3.lv hld3 rfl KQ rfl fun s19 P19 F19=>Kv F19 rfl (Mq (hab3.at2 fun o e=>F19.keep _ _ e) eK fun s20 P20=>QI (Kv (F19.pu P20) rfl fun s21 sl P21 hsl=>Tg ((F19.pu P20).pu P21) (hvk.ext ((F19.pu P20).pu P21).keep) hsl (by exact n1 hvkz) fun s22 a P22 F hla hna=>
  L9 F rfl G3.lv hld3 rfl KQ rfl fun s23 P23 F=>Kv F rfl (PJ (hab3.at2 fun o e=>F.keep _ _ e) hdom fun s24 M hab4=>?_))))))
 refine D.freshK ((F19.pu P20).pu P21) hna fun f1 f2 f3 f4 f5=>?_;have hne:a≠y_.ad .above:=fun q_=>f3 (yEA .above trivial q_.symm);have hla4:Lst s24.heap a (vk.take (p_.abv.getD k_ []).length):=(hla.ext P23.ext).at2 (fun o e=>M.keep _ _ hne e)
 refine LZ (D.new (r0:=.above) (r1:=.ab k_) (a:=a) (st':=(St.s_akeys (St.s_wait p_ ww_) (fun i=>p_.akeys i && i != g_))) F M trivial (QE (by intro q_;exact nomatch q_) (by intro q_;exact nomatch q_) (by intro q_;exact nomatch q_) (by intro q_;exact nomatch q_)) f1 f2 f3 f4 (fun h=>by exact nomatch h) (.inr f5) hab4.al (fun _=>by
   show ID c.w s24.heap (y_.ad .above) (abF (y_.set (.ab k_) a).ad (St.s_akeys (St.s_wait p_ ww_) (fun i=>p_.akeys i && i != g_)));rw[Uv (st:=(St.s_akeys (St.s_wait p_ ww_) (fun i=>p_.akeys i && i != g_))) hkK'];exact hab4) (fun l hl=>by
   have e:p_.abv[k_]?=some l:=hl;show NL s24.heap ((y_.set (.ab k_) a).ad (.ab k_)) l;rw[Lay.set_same];have e5:l=p_.abv.getD k_ []:=by rw[A6,e];rfl
   subst e5;have:=hnk.take (p_.abv.getD k_ []).length;rw[Fc]at this;exact (yEA _ hla4 this))
  (fun r h=>by
   induction r<;>first | exact .inl h | skip
   rename_i i;refine .inl ?_;have e:i<p_.abv.length:=h;show i<(p_.abv.set k_ _).length;rw[By];exact e) rfl (fun r h hr hr1 hl h1=>by
   induction r<;>first | exact absurd rfl hr | exact absurd rfl hr1 | skip
   case chg=>
    refine xEA h1 ?_;clear h1;intro vs a1 a2
    exact (yEA vs a1 (Rj a2 fun k' m g' hm hne q_=>by
     cases q_
     have h1:=bs.gone _ _ _ hm hne;rw[hkr]at h1;exact nomatch h1))
   case ab i=>
    intro l hl';have e:p_.abv[i]?=some l:=hl';have hik:i≠k_:=fun q_=>hr1 (by rw[q_]);show NL h ((y_.set (.ab k_) a).ad (.ab i)) l;rw[Lay.set_ne _ _ hr1];refine h1 l ?_;show (p_.abv.set k_ _)[i]?=some l;rw[BE (B9 hik)];exact e
   all_goals exact h1)) fun H4 F D im4 _=>?_
 have G4:=D.good;refine G4.ldK fun t13 t14 hld4=>?_;have hab5:ID c.w H4 (y_.ad .above) (abF (y_.set (.ab k_) a).ad (St.s_akeys p_ (fun i=>p_.akeys i && i != g_))):=G4.ok .above trivial;refine OF (Kv F rfl (L9 F rfl G4.lv hld4 rfl KQ rfl fun s25 P F=>Kv F rfl (PJ (hab5.at2 fun o e=>F.keep _ _ e) (fun j hj=>?_) fun s26 M hab6=>?_)))
 ·unfold abF at hj;split at hj
  ·rename_i q_;have h1:(p_.akeys j.toNat && j.toNat != g_)=true:=q_.2;have:=bs.klt (by simp at h1;exact h1.1:p_.akeys j.toNat=true)
   grind
  ·exact nomatch hj
 have hgk:(y_.set (.ab k_) a).ad (.ab g_)=y_.ad (.ab g_):=Lay.set_ne _ _ (YJ (Cs hkg))
 refine D.put (r0:=.above) (st':=(St.s_wait p_ ww_)) F M trivial (by
   show ID c.w s26.heap (y_.ad .above) (abF (y_.set (.ab k_) a).ad (St.s_wait p_ ww_))
   have e6:abF (y_.set (.ab k_) a).ad (St.s_wait p_ ww_)=fun j=>if j=(g_:Int)then some (.ref (y_.ad (.ab g_)))else abF (y_.set (.ab k_) a).ad (St.s_akeys p_ (fun i=>p_.akeys i && i != g_)) j:=by
    funext j
    unfold abF
    by_cases hj:j=(g_:Int)
    ·subst hj;rw[if_pos rfl,if_pos ⟨by exact o12 hkg,by simpa using hgK⟩];simp[hgk]
    ·rw[if_neg hj]
     by_cases q_:0≤j∧p_.akeys j.toNat=true
     ·rw[if_pos q_,if_pos];refine⟨q_.1,?_⟩;have:j.toNat≠g_:=by lia
      simp[q_.2,this]
     ·rw[if_neg q_,if_neg];intro z;simp at z;exact q_ ⟨z.1,z.2.1⟩
   rw[e6];exact hab6) hab6.al rfl fun H5 F D _ _=>?_
 refine Kt (Kw (Kt ?_));refine D.msK F fun G' M'=>?_;exact kk _ a M' G'
end U36
theorem QH{A s E Q y p k g ww q t}:U36.pP A s E Q y p k g ww q t:=@KB _ _ U36.fF U36.kK rfl U36.tT (A,s,E,Q,y,p,k,g,ww,q,t)
end
end
section
theorem PZ(hx:x∉cs)(hl:x<abv.length):(Kx abv (x::cs) n).set x (abv.getD x [])=Kx abv cs n:=by
 apply BC;intro i;rw[BU,KO,KO,KX]
 by_cases h:x=i
 ·subst h;rw[if_pos rfl,if_pos hl,A6,A7 hl];simp[hx]
 ·rw[if_neg h];have:(i∈x::cs)↔i∈cs:=by simp;intro e;exact absurd e.symm h
  simp only[this]
section
variable{A:Aq}{s:A4}{E Q:Value→A4→Prop}{y:Lay}{st:St}{s0:A4}{H:AE}{Z:List (Addr×Obj)}{L:Addr}{m:A9→Option Value}{env:Env}
noncomputable def Lm(p:St)(r:Row)(w d:Nat):St:={OH p r w d with made:=p.rows.length+1}
noncomputable def WI(p:St)(r:Row)(w d:Nat)(cs:List Nat):St:={Lm p r w d with abv:=Kx (p.abv++[[]]) cs p.rows.length}
namespace U37
noncomputable def pP(A:Aq)(s:A4)(E Q:Value→A4→Prop)(y:Lay)(p:St)(r:Row)(w d:Nat)(t:Tok):Prop:=∀(rm:Rm A 4 140)(B:Bs s.heap)(G:KW y (Lm p r w d) s.heap)(bs:Bas p)(hp12:p.rows.length≤12)(hmd:p.made=p.rows.length)(hk2:r.2.length≤2)(hlt:∀k∈r.2,k<p.rows.length)(kk:∀s',Ms y (Lm p r w d) y p s s'→KW y p s'.heap→Q .none s'),A8 (MD c.w) A (call (.ref 548) [.ref y.lv,.int (p.rows.length:Nat) t]) Q E s
noncomputable def fF:=unz fun A=>unz fun s=>unz fun E=>unz fun Q=>unz fun y=>unz fun p=>unz fun r=>unz fun w=>unz fun d=>pP A s E Q y p r w d
noncomputable def kK:=epz ({},{},default,default,OG,dSt,default) fF
noncomputable def A_:=kK.1
noncomputable def s_:=kK.2.1
noncomputable def y_:=kK.2.2.2.2.1
noncomputable def p_:=kK.2.2.2.2.2.1
noncomputable def r_:=kK.2.2.2.2.2.2.1
noncomputable def w_:=kK.2.2.2.2.2.2.2.1
noncomputable def d_:=kK.2.2.2.2.2.2.2.2.1
noncomputable def t_:=kK.2.2.2.2.2.2.2.2.2
inductive Zc(L:Addr)(cs':List Nat)(i:Nat)(H':AE)(m':A9→Option Value):Prop
 | mk(a1:Gd y_ (Lm p_ r_ w_ d_) s_.heap y_ (WI p_ r_ w_ d_ (cs'.drop i)) H')(a2:H'.IsCell (L+1) (some (.ref y_.lv)))(tn:Tok)(a3:m' "n" = some (.int (p_.rows.length:Nat) tn))
theorem tT:pP A_ s_ kK.2.2.1 kK.2.2.2.1 y_ p_ r_ w_ d_ t_:=by
 intro rm B G bs hp12 hmd hk2 hlt kk;refine Mo rfl ‹_› ‹_› rfl rfl rfl rfl rfl ?_;intro A_ L H s1 rm BH F hC;have D:Gd y_ (Lm p_ r_ w_ d_) s_.heap y_ (Lm p_ r_ w_ d_) H:=⟨G.ext BH,fun b o _ e=>BH _ _ e,fun _ o=>.inl o,fun _ o e=>⟨o,BH _ _ e⟩⟩;have G:=D.good;refine xA (hC "self" (L+1) rfl) fun hc0 _=>?_;replace hc0:H.IsCell (L+1) (some (.ref y_.lv)):=hc0;have hup:=bs.up;have hlo:=bs.lots;have hab:=bs.abv;have low:=bs.low;have hroot:∀k,Ku (p_.up++[p_.rows.length]) k=Ku p_.up k:=fun k=>by rw[←bs.up];exact N8 low k
 have low':Low (p_.up++[p_.rows.length]):=by rw[←bs.up];exact low.snoc
 refine G.ldK fun t1 t2 hld=>?_;have hr:(Lm p_ r_ w_ d_).rows[p_.rows.length]?=some r_:=by show (p_.rows++[r_])[p_.rows.length]?=_;simp
 refine Mp (KN F Mb rfl (by decide) (sp1 (LB F RI rfl (by decide) (sp1 (MJ (Ly OU (RX (Ln F hc0 (ga F G.lv hld rfl LQ rfl fun s2 P F=>⟨_,_,_,_,rfl,F,G.bk,G.ok .bd trivial,rfl,Kv F rfl ⟨F.In,Qs (rm.mono (by decide) (by decide)) (F.base.trans F.keep) (G.ext F.keep) (by show (p_.rows++[r_]).length≤_;simp;exact n1 hp12) hr (by exact n1 hk2) fun s3 q ks P3 hq hks=>?_⟩⟩)))))))));have hvl:=hks.1;refine F.takeK P3 fun H2 hE F _ him=>?_;have D:=D.ext hE;have G:=D.good;have hc2:=hc0.keeps hE;refine xE hq ?_;clear hq;intro nq hq;have hqH:=him _ _ rfl hq
 refine Lv (Src.tuple rm.h hq (Pu.refl _)) F (Pu.refl _) (fun p_ hp=>by rw[Ab]at hp;subst hp;exact (yAA hq ((F.imm_apart hq rfl).1) (fun q=>by exact nomatch q))) (by exact n2 hvl hk2)
   (I:=fun i ys H'=>H'=H2∧LH ys ((r_.2.take i).map (Ku p_.up))) ⟨rfl,.nil⟩ (fun C i ys v H' m' s12 Z' hi hlen Fi _ hP hI=>?_) (fun C D' ys H' s12 K hI hlen hD=>?_)
 ·refine xA hI ?_;clear hI;intro eH hI;subst eH;refine xEA (hks.get' hP) ?_;rintro j hj ⟨tj,rfl⟩;have hjl:=hlt j (Av hj);refine G.ldK fun t11 t12 hld4=>?_;refine Aw (L4 Fi fun s13 F=>Ly Ma (Ln F hc2 ⟨_,_,_,_,rfl,F,G.lv,hld4,rfl,Kv F rfl ⟨F.In,Me (rm.mono (by decide) (by decide)) (F.base.trans F.keep) (G.ext F.keep) low' (by show j<(p_.up++[p_.rows.length]).length;simp;exact o56 hjl hup) (by show (p_.up++[p_.rows.length]).length≤_;simp;exact n2 hup hp12) fun s14 t14 P=>⟨_,_,F.pu P,rfl,?_⟩⟩⟩));rw[C8,hj,Cv,B6];refine hI.snoc ?_;have e:Ku (Lm p_ r_ w_ d_).up j=Ku p_.up j:=hroot j;rw[e];exact⟨t14,rfl⟩
 refine xA hI ?_;clear hI;intro eH hI;subst eH;rw[hvl,Br]at hI;refine K.post fun s13 F hl13 _=>?_;refine xE hl13 ?_;clear hl13;intro nl hl13;refine Pe (by have:=rm.u;show A_.units+12<9900;exact n9 this) rm.h hl13 hI (by simpa using hk2) fun s14 S cs P14 hS hcs _=>?_;refine S0 hS.raw fun _ _ _ _ _ _ hcsn _ _=>?_;have F:=F.pu P14;refine RC rm.h hS fun s15 l15 out cs' P15 hl15 hn15 hperm hnew=>?_;have Fb:=F;have F:=F.pu P15;refine xAA (Fb.apart hnew) fun g1 g2 g3=>?_;refine xE hl15 ?_;clear hl15;intro nl15 hl15;have hcs':∀x,x∈cs'↔x∈r_.2.map (Ku p_.up):=fun x=>by rw[hperm.mem_iff,hcs]
 have hnd':cs'.Nodup:=hperm.nodup_iff.mpr hcsn
 have hcl:∀x∈cs',p_.akeys x=true∧x<p_.rows.length:=fun x hx=>by
  refine xEA (AR.mp ((hcs' x).mp hx)) ?_;rintro k hk1 rfl;exact⟨bs.kr (hlt k hk1),bs.rl (hlt k hk1)⟩
 have e0:Lm p_ r_ w_ d_=WI p_ r_ w_ d_ cs':=by
  unfold WI;rw[MM hcs'];rfl
 refine On (I:=Zc L cs') (Src.list rm.h hl15 P15) Fb P15 (fun p_ hp=>by rw[Ab]at hp;subst hp;exact (yAA hl15 g2 (fun _=>g1))) ⟨?_,hc2,t_,rfl⟩ (fun i v H' m' s16 Z' hi Fi _ hP hI=>?_) (fun H' m' s16 Fi hI=>?_)
 ·rw[GR,←e0];exact D
 ·obtain⟨D,hc5,tn,m1⟩:=hI;refine xEA (hn15.get' hP) ?_;rintro x hx ⟨tx,rfl⟩;have hxm:=Av hx;refine xA (hcl x hxm) fun hxk hxl=>?_;have hxi:i<cs'.length:=(Af.mp hx).1;have hxe:cs'[i]=x:=(Af.mp hx).2;have hdr:cs'.drop i=x::cs'.drop (i+1):=by rw[Do hxi,hxe]
  have hxn:x∉cs'.drop (i+1):=by
   have:=hnd'.sublist (List.drop_sublist i cs');rw[hdr]at this;exact (C9.mp this).1
  rw[hdr]at D;have G:=D.good;refine G.ldK fun t13 t14 hld5=>?_;have hab5:ID c.w H' (y_.ad .above) (abF y_.ad (Lm p_ r_ w_ d_)):=G.ok .above trivial
  have eK:abF y_.ad (Lm p_ r_ w_ d_) (x:Int)=some (.ref (y_.ad (.ab x))):=by
   unfold abF;rw[if_pos ⟨by exact n3,by show (p_.akeys (x:Int).toNat || _)=true;simp[hxk]⟩];simp
  have hxa:x<p_.abv.length:=by exact o5 hxl hab
  have hxv:x<(Kx (p_.abv++[[]]) (x::cs'.drop (i+1)) p_.rows.length).length:=by rw[KX];simp;exact o56 hxl hab
  have hgx:(Kx (p_.abv++[[]]) (x::cs'.drop (i+1)) p_.rows.length)[x]?=some (p_.abv.getD x []++[p_.rows.length]):=by
   rw[KO,Ar hxa,A6,A7 hxa];simp
  obtain⟨vx,hvx,hnx⟩:NL H' (y_.ad (.ab x)) (p_.abv.getD x []++[p_.rows.length]):=G.ok (.ab x) hxv _ hgx;refine LR hnx.last ?_;rintro vx vl rfl hnx2 ⟨tl,rfl⟩
  have hvz:vx.length≤100:=by
   rw[hnx2.1,A6,A7 hxa];have h1:=bs.abvz x p_.abv[x] (A7 hxa);simp only[Et];exact A0 ‹_› (by decide)
  refine Aw (L4 Fi fun s17 F=>L8 (La (Subscript_ (NH F hc5 G.lv hld5 rfl KQ rfl fun s18 P F=>Kv F rfl (Mq (hab5.at2 fun o e=>F.keep _ _ e) eK fun s19 P=>SY (hvx.ext (F.pu P).keep) (by exact n1 hvz) fun s20 M hl20=>?_)))));have F:=F.pu P
  have eset:(Kx (p_.abv++[[]]) (cs'.drop (i+1)) p_.rows.length)=(Kx (p_.abv++[[]]) (x::cs'.drop (i+1)) p_.rows.length).set x (p_.abv.getD x []):=by
   rw[←PZ hxn (by simp;exact o56 hxl hab)]
   congr 1
   rw[A6,Ar hxa,←A6]
  refine D.puts (r0:=.ab x) (st':=WI p_ r_ w_ d_ (cs'.drop (i+1))) F M hxv (fun l hl=>by
    have e:(Kx (p_.abv++[[]]) (cs'.drop (i+1)) p_.rows.length)[x]?=some l:=hl;rw[eset,BG hxv]at e;obtain rfl:=Ag e;exact (yEA _ hl20 hnx2)) hl20.al (.ab1 rfl (by show (Kx _ _ _).length≤(Kx _ _ _).length;rw[KX,KX];exact At _) fun j l q hl'=>by
    have e:(Kx (p_.abv++[[]]) (cs'.drop (i+1)) p_.rows.length)[j]?=some l:=hl';rw[eset,BE (B9 q)]at e;exact e) fun H6 F D _ im6=>?_
  exact Kt ⟨_,_,F,D,KF hc5 im6,tn,m1⟩
 obtain⟨D,hc5,tn,m1⟩:=hI;rw[hn15.1,List.drop_length]at D;have e1:WI p_ r_ w_ d_ []=(St.s_abv (Lm p_ r_ w_ d_) (p_.abv++[[]])):=by unfold WI;rw[NJ]
 rw[e1]at D;have G:=D.good;refine G.ldK fun t13 t14 hld5=>?_;have hab5:ID c.w H' (y_.ad .above) (abF y_.ad (Lm p_ r_ w_ d_)):=G.ok .above trivial
 have eN:abF y_.ad (Lm p_ r_ w_ d_) ((p_.rows.length:Nat):Int)=some (.ref (y_.ad (.ab p_.rows.length))):=by
  unfold abF;rw[if_pos ⟨by exact n3,by show (p_.akeys ((p_.rows.length:Nat):Int).toNat || _)=true;simp⟩];simp
 have hNk:p_.akeys p_.rows.length=false:=by
  cases e:p_.akeys p_.rows.length with
  | false=>rfl
  | true=>exact absurd (bs.klt e) (B3 _)
 refine Kw (Qx (NH Fi hc5 G.lv hld5 rfl KQ rfl fun s17 P F=>Kv F m1 (Wp (hab5.at2 fun o e=>F.keep _ _ e) eN (fun j hj=>?_) fun s18 M hab6=>?_)))
 ·unfold abF at hj;split at hj
  ·rename_i q;have h1:(p_.akeys j.toNat || j.toNat == p_.rows.length)=true:=q.2;simp at h1;rcases h1 with h1 | h1
   ·have:=bs.klt h1;grind
   ·grind
  ·exact nomatch hj
 refine LZ (D.set (r0:=.above) (st':=(St.s_akeys (St.s_abv (Lm p_ r_ w_ d_) p_.abv) p_.akeys)) F M trivial (by
   show ID c.w s18.heap (y_.ad .above) (abF y_.ad (St.s_akeys (St.s_abv (Lm p_ r_ w_ d_) p_.abv) p_.akeys))
   have e6:abF y_.ad (St.s_akeys (St.s_abv (Lm p_ r_ w_ d_) p_.abv) p_.akeys)=fun j=>if j=((p_.rows.length:Nat):Int)then none else abF y_.ad (Lm p_ r_ w_ d_) j:=by
    funext j
    unfold abF
    by_cases hj:j=((p_.rows.length:Nat):Int)
    ·subst hj;rw[if_pos rfl,if_neg];intro z;have z2:p_.akeys ((p_.rows.length:Nat):Int).toNat=true:=z.2;rw[Dd,hNk]at z2;exact nomatch z2
    ·rw[if_neg hj]
     by_cases q:0≤j∧p_.akeys j.toNat=true
     ·rw[if_pos q,if_pos];exact⟨q.1,by show (p_.akeys j.toNat || _)=true;rw[q.2];rfl⟩
     ·rw[if_neg q,if_neg];intro z;have z2:(p_.akeys j.toNat || j.toNat == p_.rows.length)=true:=z.2;simp at z2;rcases z2 with z2 | z2
      ·exact q ⟨z.1,z2⟩
      ·have:=z.1;lia
   rw[e6];exact hab6) hab6.al (fun r' h=>by
   induction r'<;>first | exact h | skip
   rename_i j;have e:j<p_.abv.length:=h;show j<(p_.abv++[[]]).length;simp;exact AA ‹_›) rfl (fun r' h hr hl h1=>by
   induction r'<;>first | exact absurd rfl hr | skip
   case ab j=>
    intro l hl';have e:p_.abv[j]?=some l:=hl';refine h1 l ?_;show (p_.abv++[[]])[j]?=some l;rw[Ar (Af.mp e).1];exact e
   all_goals exact h1)) fun H6 F D _ im6=>?_
 have G:=D.good;have hc6:=KF hc5 im6;refine G.ldK fun t15 t16 hld6=>?_
 have hlz:∀(i:Nat) (l:List Nat),(p_.lots++[[p_.rows.length]])[i]?=some l→l.length<64:=fun i l h=>by
  rcases B8 i p_.lots.length with q | q
  ·rw[Ar q]at h;have:=bs.lotz i l h;exact n12 this
  ·have hi:i=p_.lots.length:=by have:=(Af.mp h).1;simp at this;exact aq183 this hlo q
   subst hi;simp at h;subst h;simp
 refine L8 (Ly Tq (NH F hc6 G.lv hld6 rfl KY rfl fun s19 P F=>⟨_,_,_,_,rfl,F,G.un,G.ok .ud trivial,rfl,Kv F m1 ⟨F.In,Vk (n:=p_.rows.length) (rm.mono (by decide) (by decide)) (F.base.trans F.keep) (G.ext F.keep) low' (by exact n1 hp12) (by show (p_.up++[_]).length=_;simp;exact o44 hup) (by show (p_.lots++[_]).length=_;simp;exact o44 hlo) (by
   have e:=hroot p_.rows.length;rw[Ls (p:=p_.up) (by exact o22 hup)]at e;exact e) (by show (p_.lots++[[p_.rows.length]]).getD p_.rows.length []=_;rw[←bs.lots];simp) hlz fun s20 M G'=>?_⟩⟩))
 have e7:Ui (St.s_akeys (St.s_abv (Lm p_ r_ w_ d_) p_.abv) p_.akeys) p_.rows.length=(St.s_made (O5 p_ r_ w_ d_) (p_.rows.length+1)):=by
  unfold Ui;have h1:(p_.up++[p_.rows.length]).take p_.rows.length=p_.up:=by rw[←bs.up];exact Fc
  have h2:(p_.lots++[[p_.rows.length]]).take p_.rows.length=p_.lots:=by
   have:=Fc (l₁:=p_.lots) (l₂:=[[p_.rows.length]]);rw[bs.lots]at this;exact this
  show ((St.s_lots (St.s_up (St.s_akeys (St.s_abv (Lm p_ r_ w_ d_) p_.abv) p_.akeys) ((p_.up++[p_.rows.length]).take p_.rows.length)) ((p_.lots++[[p_.rows.length]]).take p_.rows.length)):St)=_;rw[h1,h2];rfl
 rw[e7]at M G';refine D.callJ F M G' fun H7 F D im7 _=>?_;have G:=D.good;have hc7:=KF hc6 im7;refine G.ldK fun t17 t18 hld7=>?_;have hnz:p_.nums.length≤1000:=by rw[bs.nums,FH];exact n1 hp12
 refine L8 (Ly Ts (NH F hc7 G.lv hld7 rfl LQ rfl fun s21 P F=>⟨_,_,_,_,rfl,F,G.bk,G.ok .bd trivial,rfl,Kv F m1 ⟨F.In,Up (rs:=p_.rows) (r:=r_) (ns:=p_.nums) (ws:=p_.wts) (ds:=p_.dps) (x:=w_) (d:=d_) (j:=p_.rows.length) (rm.mono (by decide) (by decide)) (F.base.trans F.keep) (G.ext F.keep) rfl rfl hnz rfl rfl (by exact n1 hp12) (by rw[bs.wts];exact n1 hp12) (by rw[bs.dps];exact n1 hp12) fun s22 M G'=>?_⟩⟩));have e8:Ph (St.s_made (O5 p_ r_ w_ d_) (p_.rows.length+1)) p_.rows p_.nums p_.wts p_.dps=(St.s_made p_ (p_.rows.length+1)):=rfl;rw[e8]at M G';refine D.callJ F M G' fun H8 F D im8 _=>?_;have G:=D.good;have hc8:=KF hc7 im8;refine G.ldK fun t19 t20 hld8=>?_;refine NG (Kv F m1 (Ln F hc8 (sa F.ne F.In (F.keep _ _ G.lv) (hld8.ext F.keep) Nv (by decide) fun s23 M hfd=>?_)));have hfd:Fld s23.heap (y_.ad .ld) (fun z=>if z=("made" : A9)then some (.int ((p_.rows.length:Nat):Int) tn)else lvF y_ (.ref (y_.ad .wait)) (.int p_.backs t19) (.int ((p_.rows.length+1:Nat):Int) t20) z) 11:=hfd;rw[RN]at hfd;refine D.put (r0:=.ld) (st':=p_) F M trivial (yEE t19 tn (by rw[hmd];exact hfd)) hfd.al rfl fun H9 F D _ _=>?_;refine D.msK F fun G' M'=>?_;exact Kt (kk _ M' G')
end U37
theorem QG{A s E Q y p r w d t}:U37.pP A s E Q y p r w d t:=@KB _ _ U37.fF U37.kK rfl U37.tT (A,s,E,Q,y,p,r,w,d,t)
end
end
section
noncomputable def dress(a st:St):St:={a with wait:=st.wait,backs:=st.backs,mks:=st.mks,hasC:=st.hasC,cmark:=st.cmark,cknown:=st.cknown,cells:=st.cells,card:=st.card,lvls:=st.lvls}
inductive Stp:St→St→Prop
 | made (p:St) (r:Row) (w d:Nat):Bas p→p.rows.length≤12→p.made=p.rows.length→r.2.length≤2→(∀k∈r.2,k<p.rows.length)→Stp p (St.s_chg (Lm p r w d) (p.chg++[.made p.rows.length]))
 | known (p:St) (key:Row) (v:Nat):Bas p→Stp p (St.s_chg (St.s_known p (p.known++[(key,v)])) (p.chg++[.known key]))
 | edge0 (p:St) (k mm:Nat):Bas p→Stp p (St.s_chg (St.s_edges p (p.edges+1)) (p.chg++[.edge k mm k]))
 | edge (p:St) (k g:Nat):Bas p→k<g→Kz p.up k=true→Kz p.up g=true→Stp p (St.s_chg (St.s_wait (M3 p k g) p.wait) (p.chg++[.edge k (p.abv.getD k []).length g]))
noncomputable def cz(st:St):St:={st with wait:=[],backs:=0,mks:=[],hasC:=false,cmark:=none,cknown:=[],cells:=[],card:=0,lvls:=[]}
inductive Anc(a:St):St→Prop
 | refl:Anc a a
 | step {b d:St}:Anc a b→Stp b d→Anc a d
theorem Stp.len(h:Stp a b):b.chg.length=a.chg.length+1:=by cases h<;>simp
theorem Anc.len(h:Anc a b):a.chg.length≤b.chg.length:=by
 induction h with
 | refl=>exact At _
 | step _ s ih=>rw[s.len];exact o20 ih
theorem Anc.trans(h:Anc a b)(h2:Anc b d):Anc a d:=by
 induction h2 with
 | refl=>exact h
 | step _ s ih=>exact .step ih s
theorem Bas.dress{p st:St}(b:Bas p)(h1:st.wait.length≤1000)(h2:st.mks.length≤100):Bas (dress p st):=
 {hn:=b.hn,up:=b.up,lots:=b.lots,abv:=b.abv,wts:=b.wts,dps:=b.dps,nums:=b.nums,low:=b.low,keys:=b.keys,lotz:=b.lotz,abvz:=b.abvz,mrgz:=b.mrgz,edgz:=b.edgz,forz:=b.forz,knoz:=b.knoz,chgz:=b.chgz,waiz:=h1,mksz:=h2,kids:=b.kids,gone:=b.gone,gonl:=b.gonl}
section
variable{A:Aq}{s:A4}{E Q:Value→A4→Prop}{y:Lay}{st:St}{s0:A4}{H:AE}{Z:List (Addr×Obj)}{L:Addr}{m:A9→Option Value}{env:Env}
theorem Q2{x z:A9}(h:x≠z):(x == z)=false:=by simpa using h
namespace U38
noncomputable def pP(A:Aq)(s:A4)(E Q:Value→A4→Prop)(y:Lay)(st a cur:St)(ms:List (Nat×List Nat))(ww:List Nat):Prop:=∀(rm:Rm A 6 200)(B:Bs s.heap)(G:KW y st s.heap)(hcur:dress cur st=st)(hanc:Anc a cur)(hmk:st.mks=ms++[(a.chg.length,ww)])(hmz:st.mks.length≤100)(hcz:st.chg.length≤2000)(hwz:st.wait.length≤1000)(kk:∀s' y',M6 y y'→Ms y st y' (St.s_wait (St.s_mks (St.s_backs (dress a st) (st.backs+1)) ms) ww) s s'→KW y' (St.s_wait (St.s_mks (St.s_backs (dress a st) (st.backs+1)) ms) ww) s'.heap→Q .none s'),A8 (MD c.w) A (call (.ref 527) [.ref y.lv]) Q E s
noncomputable def fF:=unz fun A=>unz fun s=>unz fun E=>unz fun Q=>unz fun y=>unz fun st=>unz fun a=>unz fun cur=>unz fun ms=>pP A s E Q y st a cur ms
noncomputable def kK:=epz ({},{},default,default,OG,dSt,dSt,dSt,default) fF
noncomputable def A_:=kK.1
noncomputable def s_:=kK.2.1
noncomputable def y_:=kK.2.2.2.2.1
noncomputable def st_:=kK.2.2.2.2.2.1
noncomputable def a_:=kK.2.2.2.2.2.2.1
noncomputable def cur_:=kK.2.2.2.2.2.2.2.1
noncomputable def ms_:=kK.2.2.2.2.2.2.2.2.1
noncomputable def ww_:=kK.2.2.2.2.2.2.2.2.2
inductive YM(L:Addr)(st1:St)(s':A4):Prop
 | mk(m:A9→Option Value)(H':AE)(y':Lay)(a1:Fm s_ H' [] L m s')(a2:Gd y_ st_ s_.heap y' (dress a_ st1) H')(a3:M6 y_ y')(a4:m "self" = some (.ref y_.lv))(a5:m "waiting" = some (.ref (y_.ad (.mk ms_.length))))(a6:¬Own y' (dress a_ st1) (y_.ad (.mk ms_.length)))(a7:NL H' (y_.ad (.mk ms_.length)) ww_)
inductive YL(L:Addr)(t5:Tok)(st1:St)(n:Nat)(s':A4):Prop
 | mk(m:A9→Option Value)(H':AE)(y':Lay)(cur':St)(a1:Fm s_ H' [] L m s')(a2:Gd y_ st_ s_.heap y' (dress cur' st1) H')(a3:M6 y_ y')(a4:Anc a_ cur')(a5:cur'.chg.length≤2000)(a6:n=cur'.chg.length)(a7:m "self" = some (.ref y_.lv))(a8:m "waiting" = some (.ref (y_.ad (.mk ms_.length))))(a9:m "many" = some (.int (a_.chg.length:Nat) t5))(a10:¬Own y' (dress cur' st1) (y_.ad (.mk ms_.length)))(a11:NL H' (y_.ad (.mk ms_.length)) ww_)
theorem tT:pP A_ s_ kK.2.2.1 kK.2.2.2.1 y_ st_ a_ cur_ ms_ ww_:=by
 intro rm B G hcur hanc hmk hmz hcz hwz kk;refine LG rfl ‹_› ‹_› rfl (Dw rfl) (by decide) rfl rfl rfl ?_;dsimp only[Bg,Bj,AV,AW,AF];intro A_ L s1 rm F;have D:=Gd.refl G;have G0:=G;refine G.ldK fun t1 t2 hld=>?_;refine LY (G.ok .mks trivial) fun vm hvm hnm hmm=>?_;have hml:st_.mks.length=ms_.length+1:=by rw[hmk];simp
 refine L7 (wpAny_isTrue_Compare1 (KN F KL rfl (by decide) (sp1 (L9 F rfl G.lv hld rfl Mi rfl fun s2 P F=>Lj F (hvm.ext F.keep) (by exact n2 hnm hmz) fun s3 t3 P F=>cI F fun s4 t4 P F=>eq_ (Ai (Ks (by rw[hnm,hml];simp;exact aq251 hml) (Kt (Kw ?_))))))));refine MG (Pn (hnm.trans hml)) ?_;rintro vm v rfl hvl;refine LR (hmm ms_.length v (a_.chg.length,ww_) (by rw[←hvl];simp) (by rw[hmk];simp)) ?_;rintro q x rfl htq ⟨t5,rfl⟩;have hmlive:live st_ (.mk ms_.length):=by show ms_.length<st_.mks.length;exact o18 hml
 have hww:NL s_.heap (y_.ad (.mk ms_.length)) ww_:=G.ok (.mk ms_.length) hmlive (a_.chg.length,ww_) (by rw[hmk];simp);refine Oq (La (L9 F rfl G.lv hld rfl Mi rfl fun s5 P F5=>SY (hvm.ext F5.keep) (by exact aq200 hml hvl hmz) fun s6 M hl6=>?_));have imM:Im s_.heap s6.heap:=Im.trans F5.keep.im (M.imL (hvm.ext F5.keep))
 have hnO0:¬Own y_ (St.s_mks st_ ms_) (y_.ad (.mk ms_.length)):=fun⟨r,hl,e⟩=>by
  have hl':live st_ r:=by
   induction r<;>first | exact hl | skip
   rename_i i;have h:i<ms_.length:=hl;show i<st_.mks.length;exact o19 h hml
  have:=G.inj _ _ hl' hmlive e;subst this;exact absurd (show ms_.length<ms_.length from hl) (B3 _)
 refine LZ (D.set (r0:=.mks) (st':=(St.s_mks st_ ms_)) F5 M trivial (M1 _ hl6 hvl (fun i v p hv hp=>by
   have hi:i<ms_.length:=(Af.mp hp).1;exact (hmm i v p (by rw[Ar (by exact aq70 hi hvl)];exact hv) (by rw[hmk,Ar hi];exact hp)).im imM)) hl6.al (fun r h=>by
   induction r<;>first | exact h | skip
   rename_i i;have h:i<ms_.length:=h;show i<st_.mks.length;exact o19 h hml) rfl (fun r h hr hl h1=>by
   induction r<;>first | exact absurd rfl hr | skip
   case mk i=>
    intro p hp;have hp:ms_[i]?=some p:=hp;refine h1 p ?_;rw[hmk,Ar (Af.mp hp).1];exact hp
   all_goals exact h1)) fun H1 F D kp1 im1=>?_
 have hwne:y_.ad (.mk ms_.length)≠y_.ad .mks:=fun e=>by
  have:=G.inj (.mk ms_.length) .mks hmlive trivial e;exact nomatch this
 have hww6:NL s6.heap (y_.ad (.mk ms_.length)) ww_:=hww.at2 (fun o e=>M.keep _ _ hwne (F5.keep _ _ e))
 have hwL:y_.ad (.mk ms_.length)≠L:=fun e=>by
  refine xE hww.al fun o eo=>?_;exact noo e F5.noL eo
 refine LY F.rebase fun H2 hE2 F hback=>?_;have D:=D.ext hE2;have hww2:NL H2 (y_.ad (.mk ms_.length)) ww_:=hww6.at2 (fun o e=>hback _ o hwL (fun p hp=>by exact absurd hp Ah) e);have htq1:=(htq.im im1).ext hE2;refine (show A8 (MD c.w) _ (BX (.ref q) 2 none) _ _ _ from KR (vs:=[BD ((a_.chg.length:Nat):Int) t5,.ref (y_.ad (.mk ms_.length))]) rm.h F (htq1.ext F.keep) fun s7 P F=>VH (L4 F fun s8 F=>L4 F fun s9 F=>?_));have G:=D.good;refine G.ldK fun t6 t7 hld2=>?_;refine NG (bop (L9 F rfl G.lv hld2 rfl Oc rfl fun s10 P F=>cI F fun s11 t8 P F=>SW F fun s12 t9 P F=>Kv F rfl (sa F.ne F.In (F.keep _ _ G.lv) (hld2.ext F.keep) O9 (by decide) fun s13 M hfd=>?_)));have hfd:Fld s13.heap (y_.ad .ld) (fun z=>if z=("backs" : A9)then some (.int ((st_.backs+1:Nat):Int) t9)else lvF y_ (.ref (y_.ad .wait)) (.int st_.backs t6) (.int st_.made t7) z) 11:=hfd;rw[TA]at hfd;refine D.put (r0:=.ld) (st':=(St.s_backs (St.s_mks st_ ms_) (st_.backs+1))) F M trivial (yEE t9 t7 hfd) hfd.al rfl fun H3 F D kp3 im3=>?_;have hww3:NL H3 (y_.ad (.mk ms_.length)) ww_:=hww2.at2 (fun o e=>kp3 _ o hnO0 e)
 have hst1:((St.s_backs (St.s_mks st_ ms_) (st_.backs+1)):St)=dress cur_ (St.s_backs (St.s_mks st_ ms_) (st_.backs+1)):=by
  conv=>lhs;rw[←hcur]
  rfl
 have hcl:cur_.chg=st_.chg:=by rw[←hcur];rfl
 generalize hst:((St.s_backs (St.s_mks st_ ms_) (st_.backs+1)):St)=st1 at *;have hw1:st1.wait.length≤1000:=by rw[←hst];exact hwz
 have hm1:st1.mks.length≤100:=by rw[←hst];show ms_.length≤_;exact n26 hml hmz
 rw[hst1]at D;have hnO1:¬Own y_ (dress cur_ st1) (y_.ad (.mk ms_.length)):=by rw[←hst1,←hst];exact hnO0
 refine Nl (OK (P:=YM L st1)
  (YL L t5 st1) (fun n s' hI=>?_) cur_.chg.length ⟨_,_,y_,cur_,F,D,M6.refl y_,hanc,by rw[hcl];exact hcz,rfl,rfl,rfl,rfl,hnO1,hww3⟩) ?_
 ·obtain⟨m,H',y',cur',F,D,hL,hA,hcz',rfl,m1,m2,m3,hnO,hw⟩:=hI;have G:=D.good;rw[←hL.lv]at m1;refine G.ldK fun t10 t11 hld4=>?_;refine xEA (G.ok .chg trivial) fun vc hvc hnc=>?_;have hnc:KJ (T1 y'.ad H') vc cur'.chg:=hnc;have hncl:=hnc.1;refine wpAny_isTrue_Compare1 (KN F KL rfl (by decide) (sp1 (L9 F m1 G.lv hld4 rfl Ld rfl fun s14 P F=>Lj F (hvc.ext F.keep) (by exact n2 hncl hcz') fun s15 t15 P F=>Kv F m3 (gt_ (Ai ?_)))))
  cases hA with
  | refl=>
   refine Ks (by rw[hncl];simp) ⟨m,H',y',F,D,hL,by rw[m1,hL.lv],m2,hnO,hw⟩
  | @step p _ hA hS=>
   have hlen:=hS.len;have hle:=hA.len;refine KC (by rw[hncl];simp;exact aq192 hlen hle) ?_;obtain⟨ch,hch⟩:∃ch,cur'.chg=p.chg++[ch]:=by cases hS<;>exact⟨_,rfl⟩
   rw[hch]at hnc;refine LR hnc.last ?_;rintro vl v rfl hnl hv;have hpl:p.chg.length≤2000:=by exact n26 hlen hcz'
   have hvl2:=hnl.1;refine Lw (La (L9 F m1 G.lv hld4 rfl Ld rfl fun s16 P F6=>SY (hvc.ext F6.keep) (by exact aq201 hlen hvl2 hcz') fun s17 M hl17=>?_));have imM2:Im H' s17.heap:=Im.trans F6.keep.im (M.imL (hvc.ext F6.keep));refine D.put (r0:=.chg) (st':=(St.s_chg (dress cur' st1) p.chg)) F6 M trivial (yEA _ hl17 (hnl.mono fun _ _ x=>x.im imM2)) hl17.al rfl fun H6 F D kp6 im6=>?_;have hw:=hw.at2 (fun o e=>kp6 _ o hnO e);have hnO:¬Own y' (St.s_chg (dress cur' st1) p.chg) (y_.ad (.mk ms_.length)):=hnO;have hv:=hv.im im6;have G:=D.good;refine G.ldK fun t16 t17 hld6=>?_;have bsp:∀{x:St},Bas x→Bas (dress x st1):=fun h=>h.dress hw1 hm1
   cases hS with
   | made r w d hb h12 hmd hk2 hlt=>
    obtain rfl:ch=.made p.rows.length:=by
     have:=DA hch;simpa using this.symm
    refine Vv hv ?_;clear hv;rintro q t18 rfl x htq ⟨t19,rfl⟩;refine L4 F fun s18 F=>L7 (wpAny_isTrue_Compare1 (Subscript_ (Kv F rfl (cI F fun s19 t20 P F=>Mg (k:=0) (htq.ext F.keep) (by decide) rfl (cS F fun s20 t21 P F=>GT (Ai (KC (by simp) ?_)))))));refine L8 (Ly Qi (Kv F m1 ⟨_,_,_,_,rfl,F,G.lv,hld6,rfl,Subscript_ (Kv F rfl (cI F fun s21 t22 P F21=>Mg (k:=1) (htq.ext F21.keep) (by decide) rfl ⟨F21.In,?_⟩))⟩));refine QG (p:=dress p st1) (r:=r) (w:=w) (d:=d) (rm.mono (by decide) (by decide)) (F21.base.trans F21.keep) (G.ext F21.keep) (bsp hb) h12 hmd hk2 hlt fun s22 M G'=>?_;refine D.callG F21 M G' fun H7 F D kp7 _=>?_
    have hnO7:¬Own y' (dress p st1) (y_.ad (.mk ms_.length)):=fun ow=>by
     rcases M.own _ ow with h | h
     ·exact hnO h
     ·refine xE hw.al fun o eo=>?_;rw[F21.keep _ _ eo]at h;exact nomatch h
    exact Kt (Kw (Kt ⟨rfl,_,by exact o18 hlen,_,H7,y',p,F,D,hL,hA,hpl,rfl,m1.trans (congrArg (fun z=>some (AN z)) hL.lv),m2,m3,hnO7,hw.at2 (fun o e=>kp7 _ o hnO e)⟩))
   | known key v hb=>
    obtain rfl:ch=.known key:=by
     have:=DA hch;simpa using this.symm
    refine Vv hv ?_;clear hv;rintro q t18 rfl b htq hrow;refine L4 F fun s18 F=>L7 (wpAny_isTrue_Compare1 (Subscript_ (Kv F rfl (cI F fun s19 t20 P F=>Mg (k:=0) (htq.ext F.keep) (by decide) rfl (cS F fun s20 t21 P F=>GT (Ai (Ks (Q2 (by decide +kernel)) ?_)))))));refine L7 (wpAny_isTrue_Compare1 (Subscript_ (Kv F rfl (cI F fun s21 t22 P F=>Mg (k:=0) (htq.ext F.keep) (by decide) rfl (cS F fun s22 t23 P F=>GT (Ai (KC (by simp) ?_)))))));have hkno:HD (OB c.w) H6 (y'.ad .known) (p.known++[(key,v)]):=G.ok .known trivial;have hkz:=hb.knoz;refine Qx (L9 F m1 G.lv hld6 rfl MP rfl fun s23 P F=>Subscript_ (Kv F rfl (cI F fun s24 t24 P F24=>Mg (k:=1) (htq.ext F24.keep) (by decide) rfl (Xn (knd:=OB c.w) (show A_.in1.units+1<cLine from by have:=rm.u;show A_.units+1+1<9900;exact n10 this) (hrow.im F24.keep.im) (HD.at2 (fun a_ e=>L2.im a_ e) hkno (fun o e=>F24.keep _ _ e) F24.keep.im) (by exact n1 hkz) fun s25 M hm=>?_))));refine D.put (r0:=.known) (st':=dress p st1) F24 M trivial hm hm.al rfl fun H7 F D kp7 _=>?_;have hnO7:¬Own y' (dress p st1) (y_.ad (.mk ms_.length)):=hnO;exact Kt (Kw (Kt (Kw (Kt ⟨rfl,_,by exact o18 hlen,_,H7,y',p,F,D,hL,hA,hpl,rfl,m1.trans (congrArg (fun z=>some (AN z)) hL.lv),m2,m3,hnO7,hw.at2 (fun o e=>kp7 _ o hnO e)⟩))))
   | edge0 k mm hb=>
    obtain rfl:ch=.edge k mm k:=by
     have:=DA hch;simpa using this.symm
    refine Rw hv ?_;clear hv;rintro q t18 rfl x1 x2 x3 u htq h1 h2 h3 h4;refine L4 F fun s18 F=>L7 (wpAny_isTrue_Compare1 (Subscript_ (Kv F rfl (cI F fun s19 t20 P F=>Mg (k:=0) (htq.ext F.keep) (by exact aq21) rfl (cS F fun s20 t21 P F=>GT (Ai (Ks (Q2 (by decide +kernel)) ?_)))))));refine L7 (wpAny_isTrue_Compare1 (Subscript_ (Kv F rfl (cI F fun s21 t22 P F=>Mg (k:=0) (htq.ext F.keep) (by exact aq21) rfl (cS F fun s22 t23 P F=>GT (Ai (Ks (Q2 (by decide +kernel)) ?_)))))));refine L8 (Ly NO (Kv F m1 ⟨_,_,_,_,rfl,F,G.lv,hld6,rfl,Kv F rfl ⟨F.In,?_⟩⟩));refine Q0 (p:=dress p st1) (mm:=mm) (rm.mono (by exact aq269) (by exact aq270)) (F.base.trans F.keep) (G.ext F.keep) (bsp hb) (htq.ext F.keep) h1 h3 fun s24 M G'=>?_;have F24:=F;refine D.callG F M G' fun H7 F D kp7 _=>?_;have hnO7:¬Own y' (dress p st1) (y_.ad (.mk ms_.length)):=hnO;exact Kt (Kw (Kt (Kw (Kt ⟨rfl,_,by exact o18 hlen,_,H7,y',p,F,D,hL,hA,hpl,rfl,m1.trans (congrArg (fun z=>some (AN z)) hL.lv),m2,m3,hnO7,hw.at2 (fun o e=>kp7 _ o hnO e)⟩))))
   | edge k g hb hkg hkr hgr=>
    obtain rfl:ch=.edge k (p.abv.getD k []).length g:=by
     have:=DA hch;simpa using this.symm
    refine Rw hv ?_;clear hv;rintro q t18 rfl x1 x2 x3 u htq h1 h2 h3 h4;obtain rfl:=h4 (by exact o15 hkg);refine L4 F fun s18 F=>L7 (wpAny_isTrue_Compare1 (Subscript_ (Kv F rfl (cI F fun s19 t20 P F=>Mg (k:=0) (htq.ext F.keep) (by exact aq21) rfl (cS F fun s20 t21 P F=>GT (Ai (Ks (Q2 (by decide +kernel)) ?_)))))));refine L7 (wpAny_isTrue_Compare1 (Subscript_ (Kv F rfl (cI F fun s21 t22 P F=>Mg (k:=0) (htq.ext F.keep) (by exact aq21) rfl (cS F fun s22 t23 P F=>GT (Ai (Ks (Q2 (by decide +kernel)) ?_)))))));refine L8 (Ly NO (Kv F m1 ⟨_,_,_,_,rfl,F,G.lv,hld6,rfl,Kv F rfl ⟨F.In,?_⟩⟩));refine QH (p:=dress p st1) (k:=k) (g:=g) (ww:=st1.wait) (rm.mono (by exact aq246) (by exact aq247)) (F.base.trans F.keep) (G.ext F.keep) (bsp hb) (htq.ext F.keep) h1 h2 h3 hkg hkr hgr fun s24 a2 M G'=>?_;have F24:=F;refine D.callG F M G' fun H7 F D kp7 _=>?_
    have hnO7:¬Own (y'.set (.ab k) a2) (dress p st1) (y_.ad (.mk ms_.length)):=fun ow=>by
     rcases M.own _ ow with h | h
     ·exact hnO h
     ·refine xE hw.al fun o eo=>?_;rw[F24.keep _ _ eo]at h;exact nomatch h
    exact Kt (Kw (Kt (Kw (Kt ⟨rfl,_,by exact o18 hlen,_,H7,_,p,F,D,hL.trans (M6.set y' a2 rfl),hA,hpl,rfl,m1.trans (congrArg (fun z=>some (AN z)) hL.lv),m2,m3,hnO7,hw.at2 (fun o e=>kp7 _ o hnO e)⟩))))
 ·rintro s14 ⟨m,H',y',F,D,hL,m1,m2,hnO,hw⟩;have G:=D.good;refine G.ldK fun t10 t11 hld4=>?_;rw[←hL.lv]at m1;refine NG (Kv F m2 (Kv F m1 (sa F.ne F.In (F.keep _ _ G.lv) (hld4.ext F.keep) N9 (by omega) fun s15 M hfd=>?_)));have hfd:Fld s15.heap (y'.ad .ld) (fun z=>if z=("waiting" : A9)then some (.ref (y_.ad (.mk ms_.length)))else lvF y' (.ref (y'.ad .wait)) (.int (dress a_ st1).backs t10) (.int (dress a_ st1).made t11) z) 11:=hfd;rw[V2]at hfd;have hwne2:y_.ad (.mk ms_.length)≠y'.ad .ld:=fun e=>hnO (yEA .ld trivial e.symm)
  refine LZ (D.new (r0:=.ld) (r1:=.wait) (a:=y_.ad (.mk ms_.length)) (st':=(St.s_wait (dress a_ st1) ww_)) F M trivial (QE (by intro q;exact nomatch q) (by intro q;exact nomatch q) (by intro q;exact nomatch q) (by intro q;exact nomatch q)) hwL (fun p hp=>by exact absurd hp Ah) hnO (G0.h0 _ hmlive) (fun h=>by exact nomatch h) (.inl (yEA _ hmlive rfl)) hfd.al (fun _=>(yEE t10 t11 (by rw[Lay.set_same];exact hfd))) (by
    show NL s15.heap ((y'.set .wait (y_.ad (.mk ms_.length))).ad .wait) ww_;rw[Lay.set_same];exact hw.at2 (fun o e=>M.keep _ _ hwne2 (F.keep _ _ e))) (fun r h=>.inl h) rfl (fun r h hr hr1 hl h1=>by
    induction r<;>first | exact absurd rfl hr | exact absurd rfl hr1 | exact h1)) fun H5 F D _ _=>?_
  refine D.msK F fun G' M'=>?_;refine Kt (kk _ _ (hL.trans (M6.set y' (r:=.wait) (y_.ad (.mk ms_.length)) rfl)) ?_ ?_)
  ·rw[←hst]at M';exact M'
  ·rw[←hst]at G';exact G'
end U38
theorem UW{A s E Q y st a cur ms ww}:U38.pP A s E Q y st a cur ms ww:=@KB _ _ U38.fF U38.kK rfl U38.tT (A,s,E,Q,y,st,a,cur,ms,ww)
end
end
section
theorem NW{l:Atts}(hn:(l.map Ci).Nodup)(z:A9)(v:Value):l.lookup z=some v↔(z,v)∈l:=by
 induction l with
 | nil=>simp
 | cons p l ih=>
  obtain⟨k,w⟩:=p;have hn:=C9.mp hn;rw[Dk]
  by_cases e:z=k
  ·subst e;simp only[beq_self_eq_true,As,Ei,true_and];constructor
   ·intro h;obtain rfl:=Ag h;exact .inl rfl
   ·rintro (rfl | h)
    ·rfl
    ·exact absurd (AR.mpr (yEA _ h rfl)) hn.1
  ·have:(z == k)=false:=by simpa using e
   rw[this];simp only[As,Ei,e,false_and,false_or];exact ih hn.2
theorem RW{l l':Atts}(hn:(l.map Ci).Nodup)(hn':(l'.map Ci).Nodup)(h:∀p,p∈l↔p∈l'):LL l=LL l':=by
 funext z
 unfold LL
 cases e:l.lookup z with
 | some v=>exact (((NW hn' z v).mpr ((h _).mp ((NW hn z v).mp e)))).symm
 | none=>
  cases e':l'.lookup z with
  | none=>rfl
  | some v=>rw[(NW hn z v).mpr ((h _).mpr ((NW hn' z v).mp e'))]at e;exact nomatch e
theorem Mf(l:Atts)(k:A9)(v:Value):(fun z=>if z=k then some v else LL l z)=LL ((k,v)::l):=by
 funext z
 unfold LL;rw[Dk]
 by_cases e:z=k
 ·subst e;simp
 ·have:(z == k)=false:=by simpa using e
  rw[if_neg e,this]
section
variable{A:Aq}{s:A4}{E Q:Value→A4→Prop}{y:Lay}{st:St}{s0:A4}{H:AE}{Z:List (Addr×Obj)}{L:Addr}{m:A9→Option Value}{env:Env}
theorem Wv(F:Fm s0 H Z L m s)(h:∀s' a,Pu s s'→Fm s0 H Z L m s'→s'.heap.get? a=some {cls:=.type "dict",dict:=none,data:=.dict #[] 0,slots:=#[]}→s.heap.get? a=none→(a == Bp)=false→Q (.ref a) s'):A8 (MD c.w) A (AJ (.Dict [] [] pos) env) Q E s:=by
 rw[eval_Dict_empty];refine A5 (HX ?_);refine Bw (h _ _ (Pu.push _ _) (F.pu (Pu.push _ _)) (AB _ rfl) (KM _) ?_) (by first | exact trivial | (unfold sizeOk;trivial) | (unfold sizeOk;simp) | size_fits);have h1:=lo_law F.ne
 cases e:c.K.lookup 592 with
 | none=>rw[e]at h1;exact nomatch h1
 | some o=>
  have:=AM (F.X _ _ e);have h2:(592:Nat)<s.heap.objs.size:=this
  have:¬(s.heap.objs.size=Bp):=fun q=>by
   have q:s.heap.objs.size=1:=q;exact o28 this q
  simpa using this
theorem HD.nil{K:Type}[DecidableEq K](knd:Cy PG w K)(e:h.get? a=some {cls:=.type "dict",dict:=none,data:=.dict #[] 0,slots:=#[]}):HD knd h a []:=
 (yEA [] (QD _ (#[]) 0 e (yAA rfl rfl rfl) rfl rfl (fun x h=>by exact absurd h Ah) BW) .nil)
theorem ID.nil(e:h.get? a=some {cls:=.type "dict",dict:=none,data:=.dict #[] 0,slots:=#[]}):ID w h a fun _=>none:=
 (yEA [] (QD _ (#[]) 0 e (yAA rfl rfl rfl) rfl (fun e h=>by simp at h) (by first | exact .nil | exact trivial | simp[Pairs]) BW) (fun k=>rfl))
theorem RL(ne:NE)(X:c.K.In s.heap)(hm:NE→Ht c.K C=true)(hi:NE→Gp c.K (.ref C) "__init__" = some (some (.ref fI)))(hf:NE→isFn c.K (.ref fI)=true)(rm:Rm A (d+1) (u+1))(h:∀x dx s1 A',Rm A' d u→Pu s s1→s.heap.get? x=none→s.heap.get? dx=none→x≠dx→Ins s1.heap x C dx→Fld s1.heap dx (LL []) 0→
   BM (MD c.w) A' (.call (.ref fI) ⟨.ref x::rest,[]⟩) (RQ (fun v s'=>v=.none∧Q (.ref x) s') E) s1):A8 (MD c.w) A (call (.ref C) rest) Q E s:=by
 obtain⟨hh,g,d',t,os⟩:=s;refine Fh (make_core (makes_of X (hm ne)) (looks_findIn X (hi ne)) (fun self=>bind_fn X self (beq_iff_eq.mp (hf ne))) (.inl rfl) ?_)
 have fr:∀a,hh.objs.size≤a→hh.get? a=none:=fun a ha=>by
  exact Ky fun o e=>by exact absurd (AM e) (Ek.mpr ha)
 refine Ir (h (hh.objs.size+1) hh.objs.size _ _ ⟨?_,?_,?_⟩ ⟨fun b o e=>Ak _ (Ak _ e),rfl,rfl⟩ (fr _ (Cj _)) (fr _ (At _)) (Dm _) ?_ ?_) (fun r s' hr=>?_)
 ·show A.depth+1+d≤1000;have:=rm.d;exact o27 this
 ·show A.units+1+u≤9900;have:=rm.u;exact o26 this
 ·exact rm.h
 ·have:=AB (hh.push emptyDict) (o:=DX C hh.objs.size) rfl;rw[Bu]at this;exact this
 ·refine (Pj (#[]) 0 (Ak _ (AB _ rfl)) ?_ (fun n=>?_) (At _))
  ·intro e he;simp at he
  ·rfl
 ·unfold RQ at hr;unfold InitBack
  induction r with
  | error e=>exact hr
  | ok f=>induction f<;>exact hr
theorem YH(F:Fm s0 H Z L m s)(e:NE→Dl c.K AO x=some (some (.ref C)))(hkp:NE→Eh c.K (.ref C)=true)(h:A8 (MD c.w) A (call (.ref C) []) Q E s)(hk:autoParam (env.scope.kind=.function) au1._auto_1)(hl:autoParam (env.kindOf x=some .globalImplicit) au1._auto_1)(hL:autoParam (env.globals=AO) au1._auto_1)(hd:autoParam ((x == ("__debug__" : A9))=false) au1._auto_1):A8 (MD c.w) A (AJ (.Call (.Name x p) [] [] pos) env) Q E s:=
 Call_Name0 (Yy F e (callWith_K0 (env:=env) (first:=[]) F.X (hkp F.ne) h) hk hl hL hd)
end
end
section
noncomputable abbrev LX:Obj:={cls:=.type "dict",dict:=none,data:=.dict #[] 0,slots:=#[]}
section
variable{A:Aq}{s s':A4}{E Q:Value→A4→Prop}{y:Lay}{st:St}{s0:A4}{H:AE}{Z:List (Addr×Obj)}{L:Addr}{m:A9→Option Value}{env:Env}
structure Mk(dx:Addr)(s0:A4)(H:AE)(l:Atts)(k:Nat)(news:List (Addr×Obj)):Prop where
 fld:Fld H dx (LL l) k
 keep:∀b o,b≠dx→s0.heap.get? b=some o→H.get? b=some o
 old:∃o,s0.heap.get? dx=some o
 new:∀p∈news,s0.heap.get? p.1=none∧H.get? p.1=some p.2
 dis:(news.map Ci).Nodup
theorem Mk.dead{l:Atts}(K:Mk dx s0 H l k news)(F:Fm s0 H Z L m s)(hn:s.heap.get? a=none):a≠dx∧s0.heap.get? a=none∧(∀p∈news,p.1≠a):=by
 refine (yAA (fun e=>?_) ?_ (fun p hp e=>?_))
 ·refine xE K.fld.al fun o eo=>?_;exact nop e (F.keep _ _ eo) hn
 ·cases e:s0.heap.get? a with
  | none=>rfl
  | some o=>
   by_cases q:a=dx
   ·subst q;refine xE K.fld.al fun o eo=>?_;rw[F.keep _ _ eo]at hn;exact nomatch hn
   ·rw[F.keep _ _ (K.keep _ _ q e)]at hn;exact nomatch hn
 ·rw[←e,F.keep _ _ (K.new p hp).2]at hn;exact nomatch hn
theorem Mk.take{l:Atts}(K:Mk dx s0 H l k news)(F:Fm s0 H Z L m s)(P:Pu s s')(more:List (Addr×Obj))(hm:∀p∈more,s.heap.get? p.1=none∧s'.heap.get? p.1=some p.2)(hd:(more.map Ci).Nodup):∃H',Fm s0 H' Z L m s'∧Mk dx s0 H' l k (more++news)∧Ext H H'∧Im s'.heap H':=by
 refine F.takeK P fun H' k' F' t1 t2=>?_;refine (NT H' F' ⟨K.fld.ext k',fun b o hb e=>k' _ _ (K.keep b o hb e),K.old,fun p hp=>?_,?_⟩ k' (fun b o hm e=>t2 b o hm e))
 ·rcases Am.mp hp with hp | hp
  ·refine xA (hm p hp) fun a b=>?_;exact⟨(K.dead F a).2.1,t1 _ _ a b⟩
  ·exact⟨(K.new p hp).1,k' _ _ (K.new p hp).2⟩
 ·rw[B6];refine Ck.mpr (yAA hd K.dis (fun a ha b hb e=>?_));refine xEA (AR.mp ha) ?_;rintro p hp rfl;refine xEA (AR.mp hb) ?_;rintro p2 hp2 rfl;exact (K.dead F (hm p hp).1).2.2 p2 hp2 e.symm
theorem Mk.takeK{dx:Addr}{l:Atts}{k:Nat}{news:List (Addr×Obj)}(K:Mk dx s0 H l k news)(F:Fm s0 H Z L m s)(P:Pu s s')(more:List (Addr×Obj))(hm:∀p∈more,s.heap.get? p.1=none∧s'.heap.get? p.1=some p.2)(hd:(more.map Ci).Nodup){G:Prop}(kk:∀H',Fm s0 H' Z L m s'→Mk dx s0 H' l k (more++news)→Ext H H'→Im s'.heap H'→G):G:=LZ (K.take F P more hm hd) kk
theorem Mk.sa{l l':Atts}(K:Mk dx s0 H l k news)(F:Fm s0 H Z L m s)(M:Mt dx s s')(h0:c.H0.get? dx=none)(hf:Fld s'.heap dx (LL l') k'):∃H',Fm s0 H' Z L m s'∧Mk dx s0 H' l' k' news∧Im H H':=by
 refine xEA (My K.fld) fun o ho hm=>?_;refine LY (F.mt M ho hm h0) fun H' F' b1 b2=>?_;have hL:dx≠L:=fun q=>by exact noo q F.noL ho
 have hZ:∀p∈Z,L3 p.2=true→p.1≠dx:=fun p hp hm q=>by rw[←q,(F.zs p hp).2.2 hm]at ho;exact nomatch ho
 refine (M1 H' F' ⟨hf.at2 fun o e=>b2 _ _ hL hZ e,fun b o hb e=>b1 _ _ hb (K.keep b o hb e),K.old,fun p hp=>?_,K.dis⟩ (fun b o' hm' e=>b1 _ _ (fun q=>by rw[q,ho]at e;obtain rfl:=Ag e;rw[hm]at hm';exact nomatch hm') e));refine xA (K.new p hp) fun a b=>?_;refine⟨a,b1 _ _ (fun q=>?_) b⟩;refine xE K.old fun o2 e2=>?_;exact nop q e2 a
theorem V3(x:Lst h a []):∃o,h.get? a=some o∧∀h':AE,h'.get? a=some o→Lst h' a []:=xE x fun n e=>(yEA _ e (fun h' e'=>⟨n,e'⟩))
theorem Lu{x:A9}{p p1 p2 pos:Pos}{rest:List Stmt}{Q:DB→A4→Prop}{C dx o:Addr}{l:Atts}{k:Nat}{news:List (Addr×Obj)}(F:Fm s0 H Z L m s)(K:Mk dx s0 H l k news)(I:Ins H o C dx)(h0:c.H0.get? dx=none)(hs:m "self" = some (.ref o))(hK:NE→KH c.K C x=true)(hz:k≤100)(hl:LL l x=none)(h:∀s' a H' ob,Fm s0 H' Z L m s'→Mk dx s0 H' ((x,.ref a)::l) (k+1) ((a,ob)::news)→Im H H'→(∀h':AE,h'.get? a=some ob→Lst h' a [])→A8 (MD c.w) A (execs rest env) Q E s')(hk:autoParam (env.scope.kind=.function) au1._auto_1)(hl1:autoParam (env.kindOf "self" = some .local) au1._auto_1)(hL:autoParam (env.locals=L) au1._auto_1)(hsw:autoParam (Ep (.List [] p2) (some (.Attribute (.Name "self" p1) x p)) pos.line env=pure false) au1._auto_1):A8 (MD c.w) A (execs (.Assign [.Attribute (.Name "self" p1) x p] (.List [] p2) pos::rest) env) Q E s:=by
 refine NG (Qp F fun s1 a P F1 hla hna=>Kv F1 hs ?_ hk hl1 hL rfl) hsw;refine xEA (V3 hla) fun ob hob hfin=>?_;refine K.takeK F P [(a,ob)] (by intro p hp;rw[Ab]at hp;subst hp;exact⟨hna,hob⟩) (by simp) fun H1 F2 K2 hE _=>?_;refine sa F2.ne F2.In (F2.keep _ _ (hE _ _ I)) (K2.fld.ext F2.keep) hK (by exact n1 hz) fun s3 M hfd=>?_;rw[Mf,hl]at hfd;refine LY (K2.sa F2 M h0 hfd) fun H3 F3 K3 im3=>?_;exact h s3 a H3 ob F3 K3 (Im.trans hE.im im3) hfin
theorem NY{x:A9}{p p1 p2 pos:Pos}{rest:List Stmt}{Q:DB→A4→Prop}{C dx o:Addr}{l:Atts}{k:Nat}{news:List (Addr×Obj)}(F:Fm s0 H Z L m s)(K:Mk dx s0 H l k news)(I:Ins H o C dx)(h0:c.H0.get? dx=none)(hs:m "self" = some (.ref o))(hK:NE→KH c.K C x=true)(hz:k≤100)(hl:LL l x=none)(h:∀s' a H',Fm s0 H' Z L m s'→Mk dx s0 H' ((x,.ref a)::l) (k+1) ((a,LX)::news)→Im H H'→(a == Bp)=false→A8 (MD c.w) A (execs rest env) Q E s')(hk:autoParam (env.scope.kind=.function) au1._auto_1)(hl1:autoParam (env.kindOf "self" = some .local) au1._auto_1)(hL:autoParam (env.locals=L) au1._auto_1)(hsw:autoParam (Ep (.Dict [] [] p2) (some (.Attribute (.Name "self" p1) x p)) pos.line env=pure false) au1._auto_1):A8 (MD c.w) A (execs (.Assign [.Attribute (.Name "self" p1) x p] (.Dict [] [] p2) pos::rest) env) Q E s:=by
 refine NG (Wv F fun s1 a P F1 hob hna hsys=>Kv F1 hs ?_ hk hl1 hL rfl) hsw;refine K.takeK F P [(a,LX)] (by intro p hp;rw[Ab]at hp;subst hp;exact⟨hna,hob⟩) (by simp) fun H1 F2 K2 hE _=>?_;refine sa F2.ne F2.In (F2.keep _ _ (hE _ _ I)) (K2.fld.ext F2.keep) hK (by exact n1 hz) fun s3 M hfd=>?_;rw[Mf,hl]at hfd;refine LY (K2.sa F2 M h0 hfd) fun H3 F3 K3 im3=>?_;exact h s3 a H3 F3 K3 (Im.trans hE.im im3) hsys
theorem TS{x:A9}{i:Int}{kk:Nat}{p p1 p2 pos:Pos}{rest:List Stmt}{Q:DB→A4→Prop}{C dx o:Addr}{l:Atts}{k:Nat}{news:List (Addr×Obj)}(F:Fm s0 H Z L m s)(K:Mk dx s0 H l k news)(I:Ins H o C dx)(h0:c.H0.get? dx=none)(hs:m "self" = some (.ref o))(hK:NE→KH c.K C x=true)(hz:k≤100)(hl:LL l x=none)(h:∀s' t H',Fm s0 H' Z L m s'→Mk dx s0 H' ((x,.int i t)::l) (k+1) news→Im H H'→A8 (MD c.w) A (execs rest env) Q E s')(hk:autoParam (env.scope.kind=.function) au1._auto_1)(hl1:autoParam (env.kindOf "self" = some .local) au1._auto_1)(hL:autoParam (env.locals=L) au1._auto_1)(hsw:autoParam (Ep (.Constant (.int i) kk p2) (some (.Attribute (.Name "self" p1) x p)) pos.line env=pure false) au1._auto_1):A8 (MD c.w) A (execs (.Assign [.Attribute (.Name "self" p1) x p] (.Constant (.int i) kk p2) pos::rest) env) Q E s:=by
 refine NG (cI F fun s1 t P F1=>Kv F1 hs ?_ hk hl1 hL rfl) hsw;refine sa F1.ne F1.In (F1.keep _ _ I) (K.fld.ext F1.keep) hK (by exact n1 hz) fun s3 M hfd=>?_;rw[Mf,hl]at hfd;refine LY (K.sa F1 M h0 hfd) fun H3 F3 K3 im3=>?_;exact h s3 t H3 F3 K3 im3
theorem TR{v:Value}{x:A9}{s1:A4}{Q:Unit→A4→Prop}{C dx o:Addr}{l:Atts}{k:Nat}{news more:List (Addr×Obj)}(F:Fm s0 H Z L m s)(K:Mk dx s0 H l k news)(I:Ins H o C dx)(h0:c.H0.get? dx=none)(hK:NE→KH c.K C x=true)(hz:k≤100)(hl:LL l x=none)(P:Pu s s1)(hm:∀p∈more,s.heap.get? p.1=none∧s1.heap.get? p.1=some p.2)(hd:(more.map Ci).Nodup)(h:∀s' H',Fm s0 H' Z L m s'→Mk dx s0 H' ((x,v)::l) (k+1) (more++news)→Im H H'→Q () s'):A8 (MD c.w) A (setAttr (.ref o) x v) Q E s1:=by
 refine K.takeK F P more hm hd fun H1 F2 K2 hE _=>?_;refine sa F2.ne F2.In (F2.keep _ _ (hE _ _ I)) (K2.fld.ext F2.keep) hK (by exact n1 hz) fun s3 M hfd=>?_;rw[Mf,hl]at hfd;refine LY (K2.sa F2 M h0 hfd) fun H3 F3 K3 im3=>?_;exact h s3 H3 F3 K3 (Im.trans hE.im im3)
noncomputable abbrev No(o:Obj)(a:Addr):Prop:=∀h':AE,h'.get? a=some o→Lst h' a []
theorem SV{x dx:Addr}(rm:Rm A 1 40)(B:Bs s.heap)(I:Ins s.heap x cBk dx)(D:Fld s.heap dx (LL []) 0)(h0:c.H0.get? dx=none)(kk:∀s' H' a1 a2 a3 a4 o1 o3 o4,Ext H' s'.heap→s'.gens=s.gens→s'.os=s.os→Im s.heap H'→Mk dx s H' [("depths",.ref a4),("weights",.ref a3),("numbers",.ref a2),("nodes",.ref a1)] 4 [(a4,o4),(a3,o3),(a2,LX),(a1,o1)]→No o1 a1→No o3 a3→No o4 a4→(a2 == Bp)=false→Q .none s'):BM (MD c.w) A (.call (.ref 93) ⟨[.ref x],[]⟩) (RQ Q E) s:=by
 refine Pa rfl ‹_› ‹_› rfl (Dw rfl) (by decide) rfl rfl rfl ?_;dsimp only[Bg,Bj,AV,AW,AF];intro A L s1 rm F;have K:Mk dx s s.heap [] 0 []:=⟨D,fun _ _ _ e=>e,D.al,(fun p hp=>by exact absurd hp Ah),BW⟩;refine Lu F K I h0 rfl QU (by omega) rfl fun s2 a1 H1 o1 F K i1 f1=>?_;have I:=I.im i1;refine NY F K I h0 rfl Ps (by omega) rfl fun s3 a2 H2 F K i2 f2=>?_;have I:=I.im i2;refine Lu F K I h0 rfl Pr (by omega) rfl fun s4 a3 H3 o3 F K i3 f3=>?_;have I:=I.im i3;refine Lu F K I h0 rfl Qe (by omega) rfl fun s5 a4 H4 o4 F K i4 f4=>Kt ?_;exact kk _ H4 a1 a2 a3 a4 o1 o3 o4 F.keep F.gens F.os (((i1.trans i2).trans i3).trans i4) K f1 f3 f4 f2
theorem S3{x dx:Addr}(rm:Rm A 1 40)(B:Bs s.heap)(I:Ins s.heap x cUn dx)(D:Fld s.heap dx (LL []) 0)(h0:c.H0.get? dx=none)(kk:∀s' H' a1 a2 a3 o1 o2 o3,Ext H' s'.heap→s'.gens=s.gens→s'.os=s.os→Im s.heap H'→Mk dx s H' [("merged",.ref a3),("lots",.ref a2),("above",.ref a1)] 3 [(a3,o3),(a2,o2),(a1,o1)]→No o1 a1→No o2 a2→No o3 a3→Q .none s'):BM (MD c.w) A (.call (.ref 290) ⟨[.ref x],[]⟩) (RQ Q E) s:=by
 refine Pa rfl ‹_› ‹_› rfl (Dw rfl) (by decide) rfl rfl rfl ?_;dsimp only[Bg,Bj,AV,AW,AF];intro A L s1 rm F;have K:Mk dx s s.heap [] 0 []:=⟨D,fun _ _ _ e=>e,D.al,(fun p hp=>by exact absurd hp Ah),BW⟩;refine Lu F K I h0 rfl QP (by omega) rfl fun s2 a1 H1 o1 F K i1 f1=>?_;have I:=I.im i1;refine Lu F K I h0 rfl Sa (by omega) rfl fun s3 a2 H2 o2 F K i2 f2=>?_;have I:=I.im i2;refine Lu F K I h0 rfl Qa (by omega) rfl fun s4 a3 H3 o3 F K i3 f3=>Kt ?_;exact kk _ H3 a1 a2 a3 o1 o2 o3 F.keep F.gens F.os ((i1.trans i2).trans i3) K f1 f2 f3
structure New(s s':A4)(x C dx:Addr)(l:Atts)(k:Nat)(news:List (Addr×Obj)):Prop where
 pu:Pu s s'
 fld:Fld s'.heap dx (LL l) k
 at':∀p∈(x,DX C dx)::news,s.heap.get? p.1=none∧s'.heap.get? p.1=some p.2
 dxn:s.heap.get? dx=none
 dis:((dx::x::news.map Ci):List Addr).Nodup
theorem New.of{l:Atts}(P:Pu s s1)(hx:s.heap.get? x=none)(hdx:s.heap.get? dx=none)(hne:x≠dx)(I:Ins s1.heap x C dx)(hE:Ext H' s'.heap)(g:s'.gens=s1.gens)(o:s'.os=s1.os)(im:Im s1.heap H')(K:Mk dx s1 H' l k news):New s s' x C dx l k news:=by
 have I':Ins H' x C dx:=I.im im;refine⟨⟨fun b ob e=>hE _ _ (K.keep b ob (fun q=>noo q hdx e) (P.ext _ _ e)),g.trans P.gens,o.trans P.os⟩,K.fld.ext hE,fun p hp=>?_,hdx,?_⟩
 ·rcases As.mp hp with rfl | hp
  ·exact⟨hx,hE _ _ I'⟩
  ·refine xA (K.new p hp) fun a b=>?_;refine⟨?_,hE _ _ b⟩;exact Ky fun o e=>by rw[P.ext _ _ e]at a;exact nomatch a
 ·refine C9.mpr ⟨fun h=>?_,C9.mpr ⟨fun h=>?_,K.dis⟩⟩
  ·rcases As.mp h with h | h
   ·exact hne h.symm
   ·refine xEA (AR.mp h) fun p hp e=>?_;refine xE K.old fun o eo=>?_;rw[←e,(K.new p hp).1]at eo;exact nomatch eo
  ·refine xEA (AR.mp h) fun p hp e=>?_;have h1:=(K.new p hp).1;exact nop e I h1
theorem Vo(rm:Rm A 2 50)(F:Fm s0 H Z L m s)(kk:∀s' x dx a1 a2 a3 a4 o1 o3 o4,New s s' x cBk dx [("depths",.ref a4),("weights",.ref a3),("numbers",.ref a2),("nodes",.ref a1)] 4 [(a4,o4),(a3,o3),(a2,LX),(a1,o1)]→No o1 a1→No o3 a3→No o4 a4→(a2 == Bp)=false→Q (.ref x) s'):A8 (MD c.w) A (call (.ref 183) []) Q E s:=by
 have dead:∀b,s.heap.get? b=none→c.H0.get? b=none:=fun b hb=>by
  exact Ky fun o e=>by rw[F.keep _ _ (F.base.ext _ _ e)]at hb;exact nomatch hb
 refine RL (d:=1) (u:=40) F.ne F.In Y6 Yw Ys (rm.mono (by omega) (by omega)) fun x dx s1 A' rm P hx hdx hne I D=>?_;exact SV rm ((F.base.trans F.keep).trans P.ext) I D (dead _ hdx) fun s' H' a1 a2 a3 a4 o1 o3 o4 hE g o im K f1 f3 f4 f2=>⟨rfl,kk _ x dx a1 a2 a3 a4 o1 o3 o4 (New.of P hx hdx hne I hE g o im K) f1 f3 f4 f2⟩
theorem S1(rm:Rm A 2 50)(F:Fm s0 H Z L m s)(kk:∀s' x dx a1 a2 a3 o1 o2 o3,New s s' x cUn dx [("merged",.ref a3),("lots",.ref a2),("above",.ref a1)] 3 [(a3,o3),(a2,o2),(a1,o1)]→No o1 a1→No o2 a2→No o3 a3→Q (.ref x) s'):A8 (MD c.w) A (call (.ref 354) []) Q E s:=by
 have dead:∀b,s.heap.get? b=none→c.H0.get? b=none:=fun b hb=>by
  exact Ky fun o e=>by rw[F.keep _ _ (F.base.ext _ _ e)]at hb;exact nomatch hb
 refine RL (d:=1) (u:=40) F.ne F.In Y3 Yt Yp (rm.mono (by omega) (by omega)) fun x dx s1 A' rm P hx hdx hne I D=>?_;exact S3 rm ((F.base.trans F.keep).trans P.ext) I D (dead _ hdx) fun s' H' a1 a2 a3 o1 o2 o3 hE g o im K f1 f2 f3=>⟨rfl,kk _ x dx a1 a2 a3 o1 o2 o3 (New.of P hx hdx hne I hE g o im K) f1 f2 f3⟩
end
end
section
section
variable{A:Aq}{s s':A4}{E Q:Value→A4→Prop}{y:Lay}{st:St}{s0:A4}{H:AE}{Z:List (Addr×Obj)}{L:Addr}{m:A9→Option Value}{env:Env}
structure O0 where
 xb:Addr
 db:Addr
 b1:Addr
 b2:Addr
 b3:Addr
 b4:Addr
 xu:Addr
 du:Addr
 u1:Addr
 u2:Addr
 u3:Addr
 e:Addr
 f:Addr
 k:Addr
 a:Addr
 w:Addr
 odb:Obj
 odu:Obj
 ob1:Obj
 ob3:Obj
 ob4:Obj
 ou1:Obj
 ou2:Obj
 ou3:Obj
 oe:Obj
 of':Obj
 ow:Obj
noncomputable def O0.news(b:O0):List (Addr×Obj):=
 [(b.w,b.ow),(b.a,LX),(b.k,LX),(b.f,b.of'),(b.e,b.oe),(b.xu,DX cUn b.du),(b.du,b.odu),(b.u3,b.ou3),(b.u2,b.ou2),(b.u1,b.ou1),(b.xb,DX cBk b.db),(b.db,b.odb),(b.b4,b.ob4),(b.b3,b.ob3),(b.b2,LX),(b.b1,b.ob1)]
noncomputable def O0.atts(b:O0)(t:Tok):Atts:=[("backs",.int 0 t),("waiting",.ref b.w),("above",.ref b.a),("known",.ref b.k),("forest",.ref b.f),("edges",.ref b.e),("unions",.ref b.xu),("bank",.ref b.xb)]
structure O0.Ok(b:O0):Prop where
 fb:∀h:AE,h.get? b.db=some b.odb→Fld h b.db (LL [("depths",.ref b.b4),("weights",.ref b.b3),("numbers",.ref b.b2),("nodes",.ref b.b1)]) 4
 fu:∀h:AE,h.get? b.du=some b.odu→Fld h b.du (LL [("merged",.ref b.u3),("lots",.ref b.u2),("above",.ref b.u1)]) 3
 b1:No b.ob1 b.b1
 b3:No b.ob3 b.b3
 b4:No b.ob4 b.b4
 u1:No b.ou1 b.u1
 u2:No b.ou2 b.u2
 u3:No b.ou3 b.u3
 e:No b.oe b.e
 f:No b.of' b.f
 w:No b.ow b.w
 s2:(b.b2 == Bp)=false
 sk:(b.k == Bp)=false
 sa:(b.a == Bp)=false
theorem SG(rm:Rm A 3 60)(B:Bs s.heap)(I:Ins s.heap x cLv dx)(D:Fld s.heap dx (LL []) 0)(h0:c.H0.get? dx=none)(kk:∀s' H' b t,Ext H' s'.heap→s'.gens=s.gens→s'.os=s.os→Im s.heap H'→Mk dx s H' (O0.atts b t) 8 (O0.news b)→O0.Ok b→Q .none s'):BM (MD c.w) A (.call (.ref 372) ⟨[.ref x],[]⟩) (RQ Q E) s:=by
 refine Pa rfl ‹_› ‹_› rfl (Dw rfl) (by decide) rfl rfl rfl ?_;dsimp only[Bg,Bj,AV,AW,AF];intro A L s1 rm F;have K:Mk dx s s.heap [] 0 []:=⟨D,fun _ _ _ e=>e,D.al,(fun p hp=>by exact absurd hp Ah),BW⟩;refine NG (YH F Yn Yg (Vo (rm.mono (by omega) (by omega)) F fun s2 xb db b1 b2 b3 b4 o1 o3 o4 N g1 g3 g4 g2=>Kv (F.pu N.pu) rfl ?_));refine xE N.fld.al fun odb hodb=>?_;have N1:=N;refine TR (more:=[(xb,DX cBk db),(db,odb),(b4,o4),(b3,o3),(b2,LX),(b1,o1)]) F K I h0 Sb (by omega) rfl N.pu (fun p hp=>?_) ?_ fun s3 H1 F K i1=>?_
 ·simp only[As,Ah,or_false]at hp;rcases hp with rfl | rfl | hp
  ·exact N1.at' _ (by exact Aj)
  ·exact⟨N1.dxn,hodb⟩
  ·exact N1.at' _ (by simp;exact .inr hp)
 ·have:=N1.dis;simp only[Cu,FW]at this ⊢;exact (I7 db xb _).nodup_iff.mpr this
 have fb:∀h:AE,h.get? db=some odb→Fld h db (LL [("depths",.ref b4),("weights",.ref b3),("numbers",.ref b2),("nodes",.ref b1)]) 4:=fun h e=>N1.fld.at2 fun o e'=>by rw[hodb]at e';obtain rfl:=Ag e';exact e
 have I:=I.im i1;refine NG (YH F Yk Yd (S1 (rm.mono (by omega) (by omega)) F fun s4 xu du u1 u2 u3 p1 p2 p3 N k1 k2 k3=>Kv (F.pu N.pu) rfl ?_));refine xE N.fld.al fun odu hodu=>?_;have N2:=N;refine TR (more:=[(xu,DX cUn du),(du,odu),(u3,p3),(u2,p2),(u1,p1)]) F K I h0 Qc (by omega) rfl N.pu (fun p hp=>?_) ?_ fun s5 H2 F K i2=>?_
 ·simp only[As,Ah,or_false]at hp;rcases hp with rfl | rfl | hp
  ·exact N2.at' _ (by exact Aj)
  ·exact⟨N2.dxn,hodu⟩
  ·exact N2.at' _ (by simp;exact .inr hp)
 ·have:=N2.dis;simp only[Cu,FW]at this ⊢;exact (I7 du xu _).nodup_iff.mpr this
 have fu:∀h:AE,h.get? du=some odu→Fld h du (LL [("merged",.ref u3),("lots",.ref u2),("above",.ref u1)]) 3:=fun h e=>N2.fld.at2 fun o e'=>by rw[hodu]at e';obtain rfl:=Ag e';exact e
 have I:=I.im i2;refine Lu F K I h0 rfl QS (by omega) rfl fun s6 e H3 oe F K i3 fe=>?_;have I:=I.im i3;refine Lu F K I h0 rfl Qd (by omega) rfl fun s7 f H4 of' F K i4 ff=>?_;have I:=I.im i4;refine NY F K I h0 rfl QR (by omega) rfl fun s8 k H5 F K i5 sk=>?_;have I:=I.im i5;refine NY F K I h0 rfl QT (by omega) rfl fun s9 a H6 F K i6 sa=>?_;have I:=I.im i6;refine Lu F K I h0 rfl N9 (by omega) rfl fun s10 w H7 ow F K i7 fw=>?_;have I:=I.im i7;refine TS F K I h0 rfl O9 (by omega) rfl fun s11 t H8 F K i8=>Kt ?_;exact kk _ H8 ⟨xb,db,b1,b2,b3,b4,xu,du,u1,u2,u3,e,f,k,a,w,odb,odu,o1,o3,o4,p1,p2,p3,oe,of',ow⟩ t F.keep F.gens F.os (((((((i1.trans i2).trans i3).trans i4).trans i5).trans i6).trans i7).trans i8) K ⟨fb,fu,g1,g3,g4,k1,k2,k3,fe,ff,fw,g2,sk,sa⟩
theorem Mk.call{l l0:Atts}(F:Fm s H [] L m s1)(hsH:Ext s.heap H)(hf:Fld H dx (LL l0) k0)(ho:∃o,s.heap.get? dx=some o)(h0:c.H0.get? dx=none)(K:Mk dx s1 H' l k news)(hE:Ext H' s2.heap)(hg:s2.gens=s1.gens)(hos:s2.os=s1.os):∃H2,Fm s H2 [] L m s2∧Mk dx s H2 l k news∧Im H H2:=by
 refine xEA (My hf) fun o hdo hm=>?_;have hdL:dx≠L:=fun q=>by exact noo q F.noL hdo
 refine LY (F.kp (S:=fun b=>b=dx) (s':=s2) ⟨fun b o hb e=>hE _ _ (K.keep b o hb e),hg,hos⟩ (fun b e=>(yEA o (e▸hdo) hm)) (fun b e=>e▸h0)) fun H2 F2 b1 b2=>?_;have up:∀b o,b≠L→s2.heap.get? b=some o→H2.get? b=some o:=fun b o hb e=>b2 b o hb (fun p hp=>by exact absurd hp Ah) e;refine (M1 H2 F2 ⟨K.fld.at2 fun o e=>up _ _ hdL (hE _ _ e),fun b o hb e=>?_,ho,fun p hp=>?_,K.dis⟩ (fun b o' hm' e=>b1 b o' (fun q=>by rw[q,hdo]at e;obtain rfl:=Ag e;rw[hm]at hm';exact nomatch hm') e))
 ·exact up _ _ (fun q=>by have:=hsH _ _ e;exact noo q F.noL this) (hE _ _ (K.keep b o hb (F.keep _ _ (hsH _ _ e))))
 ·refine xA (K.new p hp) fun a b=>?_;refine⟨?_,up _ _ (F.apart a).2.1 (hE _ _ b)⟩;exact Ky fun o e=>by rw[F.keep _ _ (hsH _ _ e)]at a;exact nomatch a
noncomputable def O0.atts2(b:O0)(t t':Tok)(ch mk:Addr):Atts:=("made",.int 0 t')::("marks",.ref mk)::("changes",.ref ch)::b.atts t
theorem Sr(rm:Rm A 5 80)(B:Bs s.heap)(I:Ins s.heap x cLv dx)(D:Fld s.heap dx (LL []) 0)(h0:c.H0.get? dx=none)(kk:∀s' H' b t t' ch mk och omk,Ext H' s'.heap→s'.gens=s.gens→s'.os=s.os→Im s.heap H'→Mk dx s H' (O0.atts2 b t t' ch mk) 11 ((mk,omk)::(ch,och)::O0.news b)→O0.Ok b→No och ch→No omk mk→Q .none s'):BM (MD c.w) A (.call (.ref 506) ⟨[.ref x],[]⟩) (RQ Q E) s:=by
 refine Ue rfl ‹_› ‹_› rfl (Dw rfl) (by decide) rfl rfl rfl ?_;dsimp only[Bg,Bj,AV,AW,AF];intro A L s1 rm F;refine Ez (JD (Gn ?_));refine Nr F I D rfl rfl rfl cf_init ce_lv cs_lv si_mro (by decide) rfl rfl rfl rfl (by decide +kernel) (by first | rfl | kernel_rfl) fun so s2 P2 F hso=>?_;refine Nq F hso I D si_init si_ty_init (by decide) fun q2 s3 P3 F hq2=>Uh F.ne si_fn_init hq2 F.In ?_;refine SG (rm.mono (by omega) (by omega)) (F.base.trans F.keep) (F.keep _ _ I) (D.ext F.keep) h0 fun s4 H4 b t hE g o im K ok=>?_;refine LY (K.call F (Ext.refl _) D D.al h0 hE g o) fun H2 F K im2=>?_;have I:=I.im im2;refine wpAt_of_wpAny (Lu F K I h0 rfl Pp (by omega) rfl fun s5 ch H5 och F K i5 f5=>?_);have I:=I.im i5;refine Lu F K I h0 rfl QQ (by omega) rfl fun s6 mk H6 omk F K i6 f6=>?_;have I:=I.im i6;refine TS F K I h0 rfl Nv (by omega) rfl fun s7 t' H7 F K i7=>Kt ?_;exact kk _ H7 b t t' ch mk och omk F.keep F.gens F.os (((im2.trans i5).trans i6).trans i7) K ok f5 f6
theorem Ss(rm:Rm A 6 90)(F:Fm s0 H Z L m s)(kk:∀s' x dx b t t' ch mk och omk,New s s' x cLv dx (O0.atts2 b t t' ch mk) 11 ((mk,omk)::(ch,och)::O0.news b)→O0.Ok b→No och ch→No omk mk→Q (.ref x) s'):A8 (MD c.w) A (call (.ref 558) []) Q E s:=by
 have dead:∀b,s.heap.get? b=none→c.H0.get? b=none:=fun b hb=>by
  exact Ky fun o e=>by rw[F.keep _ _ (F.base.ext _ _ e)]at hb;exact nomatch hb
 refine RL (d:=5) (u:=80) F.ne F.In Y4 Yu Yq (rm.mono (by omega) (by omega)) fun x dx s1 A' rm P hx hdx hne I D=>?_;exact Sr rm ((F.base.trans F.keep).trans P.ext) I D (dead _ hdx) fun s' H' b t t' ch mk och omk hE g o im K ok f1 f2=>⟨rfl,kk _ x dx b t t' ch mk och omk (New.of P hx hdx hne I hE g o im K) ok f1 f2⟩
noncomputable def O0.lay(b:O0)(x dx ch mk pk cl lv:Addr):List (Ro×Addr):=
 [(.ld,dx),(.mks,mk),(.chg,ch),(.wait,b.w),(.above,b.a),(.known,b.k),(.forest,b.f),(.edges,b.e),(.ud,b.du),(.mrg,b.u3),(.lots,b.u2),(.up,b.u1),(.bd,b.db),(.dps,b.b4),(.wts,b.b3),(.nums,b.b2),(.nodes,b.b1),(.pack,pk),(.cells,cl),(.lvls,lv)]
noncomputable def OE(l:List (Ro×Addr))(x xb xu:Addr):Lay:={ad:=fun r=>(l.lookup r).getD 0,lv:=x,bk:=xb,un:=xu,ci:=0}
theorem Wl{l:List (Ro×Addr)}(hn:(l.map HT).Nodup):∀{r r':Ro},r∈l.map Ci→r'∈l.map Ci→(l.lookup r).getD 0=(l.lookup r').getD 0→r=r':=by
 induction l with
 | nil=>intro r r' h;exact absurd h Ah
 | cons p l ih=>
  obtain⟨k,a⟩:=p;have hn:=C9.mp hn
  have val:∀{r:Ro},r∈l.map Ci→(l.lookup r).getD 0∈l.map HT:=by
   intro r hr
   cases e:l.lookup r with
   | none=>
    refine xEA (AR.mp hr) ?_;rintro p hp rfl;have:=List.lookup_eq_none_iff.mp e p hp;simp at this
   | some v=>
    refine MG (List.lookup_eq_some_iff.mp e) fun l1 l2 e2 _=>?_;rw[e2];simp
  intro r r' h h' e;rw[Dk,Dk]at e
  by_cases h1:r=k
  ·by_cases h2:r'=k
   ·rw[h1,h2]
   ·exfalso
    have b1:(r == k)=true:=by exact decide_eq_true ‹_›
    have b2:(r' == k)=false:=by exact decide_eq_false ‹_›
    rw[b1,b2]at e;have:=val (r:=r') (by simpa [h2]using h');rw[←e]at this;exact hn.1 this
  ·by_cases h2:r'=k
   ·exfalso
    have b1:(r == k)=false:=by exact decide_eq_false ‹_›
    have b2:(r' == k)=true:=by exact decide_eq_true ‹_›
    rw[b1,b2]at e;have:=val (r:=r) (by simpa [h1]using h);rw[e]at this;exact hn.1 this
   ·have b1:(r == k)=false:=by exact decide_eq_false ‹_›
    have b2:(r' == k)=false:=by exact decide_eq_false ‹_›
    rw[b1,b2]at e;exact ih hn.2 (by simpa [h1]using h) (by simpa [h2]using h') e
noncomputable def St.zero(cells:List Nat)(card:Nat)(lvls:List Value):St:=
 {rows:=[],nums:=[],wts:=[],dps:=[],up:=[],lots:=[],mrg:=[],edges:=0,forest:=0,known:=[],abv:=[],akeys:=fun _=>false,wait:=[],backs:=0,made:=0,chg:=[],mks:=[],hasC:=false,cmark:=none,cknown:=[],cells:=cells,card:=card,lvls:=lvls}
end
end
section
noncomputable def wy(W:Nat→Nat→Nat):List Nat→Nat→Nat
 | [],s=>if s=0 then 1 else 0
 | k::ks,s=>((Ap (s - ks.length)).map fun i=>W k (i+1)*wy W ks (s - (i+1))).sum
theorem MX(W:Nat→Nat→Nat):∀(ks:List Nat) (s:Nat),s<ks.length→wy W ks s=0
 | [],s,h=>by simp at h
 | k::ks,s,h=>by
  simp only[BN]at h;rw[wy,show s - ks.length=0 by exact aq59 h];rfl
theorem Rz {l:List Nat} (h:∀x∈l,x=0):l.sum=0:=by
 induction l with
 | nil=>rfl
 | cons a l ih=>rw[Cf,h a Aj,ih fun x hx=>h x (Ao _ hx)]
theorem O2(W:Nat→Nat→Nat)(k:Nat){s:Nat}(h:1≤s):wy W [k] s=W k s:=by
 obtain⟨n,rfl⟩:∃n,s=n+1:=⟨s - 1,by exact o91 h⟩;rw[wy];simp only[Gy,HI];rw[CD,B6,ES]
 have:((Ap n).map fun i=>W k (i+1)*wy W [] (n+1 - (i+1))).sum=0:=Rz fun x hx=>by
  refine xEA (AR.mp hx) ?_;rintro i hi rfl;have:=Be.mp hi;rw[wy,if_neg (by exact aq95 this)];simp
 rw[this];simp[wy]
theorem VO(W:Nat→Nat→Nat)(k:Nat)(ks:List Nat)(s:Nat):wy W (k::ks) s=((Ap (s - ks.length)).map fun i=>wy W [k] (i+1)*wy W ks (s - (i+1))).sum:=by
 rw[wy]
 congr 1
 refine AZ fun i _=>?_;rw[O2 W k (by exact BL _)]
theorem Rx:∀(ks:List Nat) (s:Nat),(∀k t,1≤t→t≤s→W k t=V k t)→wy W ks s=wy V ks s
 | [],s,h=>rfl
 | k::ks,s,h=>by
  rw[wy,wy]
  congr 1
  refine AZ fun i hi=>?_;have:=Be.mp hi;rw[h k (i+1) (by exact BL _) (by exact o8 this),Rx ks (s - (i+1)) fun k t h1 h2=>h k t h1 (by exact o7 h1 h2)]
theorem WT(h1:ks.length≤1)(hB:1<B)(h:∀k∈ks,W k n<B):wy W ks n<B:=by
 induction ks with
 | nil=>rw[wy];split<;>omega
 | cons k ks=>
  have e:ks=[]:=AX.mp (Fs.mp (HL h1));subst e;rcases D3 n with e | e
  ·rw[e,MX _ _ _ (BL _)];exact aq146 hB
  ·rw[O2 _ _ e];exact h k Aj
noncomputable def tb(N:List (Nat×List Nat)):Nat→Nat→Nat→Nat
 | 0=>fun _ _=>0
 | n+1=>fun c s=>if s=n+1 then ((N.filter fun p=>p.1 == c).map fun p=>wy (tb N n) p.2 n).sum else tb N n c s
theorem UK(N:List (Nat×List Nat))(c s:Nat):∀n,s≤n→tb N n c s=tb N s c s
 | 0,h=>by rw[Fs.mp h]
 | n+1,h=>by
  by_cases e:s=n+1
  ·rw[e]
  ·rw[show tb N (n+1) c s=tb N n c s by rw[tb];exact if_neg ‹_›,UK N c s n (by exact aq305 h e)]
theorem XT (N:List (Nat×List Nat)) {n c s:Nat} (h1:1≤s) (h2:s≤n):tb N n c s=((N.filter fun p=>p.1 == c).map fun p=>wy (tb N n) p.2 (s - 1)).sum:=by
 obtain⟨k,rfl⟩:∃k,s=k+1:=⟨s - 1,by exact o91 h1⟩;rw[UK N c (k+1) n h2,tb];simp only[if_true,Iw]
 congr 1
 refine AZ fun p _=>?_;refine Rx p.2 k fun q t h3 h4=>?_;rw[UK N q t k h4,UK N q t n (by exact aq91 h2 h4)]
end
section
theorem Wq(p:NE):∃t,Dl c.K AO "MOST_SIZE" = some (some (.int 200 t)):=by
 have:=gn_most0 p;unfold Wm at this;split at this
 ·rename_i i t e;rw[e];exact⟨t,by rw[beq_iff_eq.mp this]⟩
 ·exact nomatch this
section
variable{prog:Program}{w:Bo}{A:Aq}{E:Value→A4→Prop}{s:A4}
theorem NU{sl:Addr}{n:Nat}{u:Tok}{Q:Int×Int×Nat→A4→Prop}(hs:s.heap.IsSliceOf sl .none (.int 1 u) .none)(hn:1≤n)(h:Q ((0:Int),1,1) s):A8 (model prog w) A (FA (.ref sl) (pure (n:Int))) Q E s:=by
 refine LY (id hs) fun os hos hcs hds=>?_;unfold FA JS;refine A5 (A5 (EG hos hds (x:=.none) rfl (A5 (EG hos hds (x:=.int 1 u) rfl (A5 (EG hos hds (x:=.none) rfl (Ae ?_)))))));refine A5 (slicePart_none ?_);show A8 _ _ (if ((1:Int) == 0)=true then _ else _) _ _ s;rw[if_neg (by decide)];refine A5 (slicePart_none (A5 (slicePart_int (A5 (Ae ?_)))));show A8 _ _ (match E0 none (some (1:Int)) 1 (n:Int)with | (lo,hi)=>pure (lo,(1:Int),D6 lo hi 1)) _ _ s
 have e1:E0 none (some (1:Int)) 1 (n:Int)=(0,1):=by
  unfold E0;have h1:¬((1:Int)<0):=by decide
  simp only[h1,if_false]
  congr 1
  exact aq261 hn
 rw[e1]
 have e2:D6 (0:Int) 1 1=1:=by
  unfold D6;simp
 show A8 _ _ (pure ((0:Int),(1:Int),D6 (0:Int) 1 1)) _ _ s;rw[e2];exact Ae h
theorem NF{t sl:Addr}{items:Array Value}{x:Value}{u:Tok}{Q:Value→A4→Prop}(ht:IsTup s.heap t items)(hs:s.heap.IsSliceOf sl .none (.int 1 u) .none)(ha:2≤items.size)(hx:items[0]?=some x)(h:Q (.ref s.heap.objs.size) {s with heap:=s.heap.push {cls:=.type "tuple",data:=.seq #[x]}}):A8 (model prog w) A (Cr (.ref t) (.ref sl)) Q E s:=by
 have hdrop:sizeOk (.seq (#[x]:Array Value)):=by
  show (#[x]:Array Value).size≤sizeLine;rw[AT];exact BL _
 refine LY (id hs) fun os hos hcs hds=>?_;have hTs:s.TypeIs (.ref sl) "slice":=(yEA os hos hcs);unfold Cr
 try with_reducible refine B7 ?_
 first | refine A5 (Ae ?_) | skip
 refine A5 (EF ht.typeIs (by decide) ?_)
 refine A5 (Cp (name:=Bc "__getitem__") ht.typeIs Jb
  (BS Jb ht.typeIs entry_tuple_getitem ?_ (args_tuple_getitem _ _)))
 show A8 _ _ (Fy (.ref t) >>= _) _ _ s;refine A5 (tupleItemsOf_ ht ?_);refine A5 (DS hTs ?_);rw[if_pos (by decide)];refine A5 (NU hs (by exact n19 ha) ?_)
 have hno:¬(((0:Int) == 0 && (1:Int) == 1 && 1 == items.size)=true):=by
  have:(1 == items.size)=false:=by rw[beq_eq_false_iff_ne];exact Az ‹_›
  rw[this];simp
 show A8 _ _ (if ((0:Int) == 0 && (1:Int) == 1 && 1 == items.size)=true then _ else _) _ _ s
 have e:((Ap 1).filterMap fun (k:Nat)=>items[((0:Int)+(k:Int)*1).toNat]?).toArray=#[x]:=by
  simp[CD,hx]
 rw[if_neg hno,e]
 first
  | exact A5 (m:=E3 _) (Bw (Ae (yEA _ rfl (Ae h))) hdrop)
  | exact A5 (m:=E3 _) (Bw (A5 (Ae (Ae ⟨_,rfl,Ae h⟩))) hdrop)
  | exact A5 (A5 (m:=E3 _) (Bw (Ae (Ae ⟨_,rfl,Ae h⟩)) hdrop))
end
section
variable{A:Aq}{s:A4}{E Q:Value→A4→Prop}{y:Lay}{st:St}{s0:A4}{H:AE}{Z:List (Addr×Obj)}{L:Addr}{m:A9→Option Value}{env:Env}
theorem UN(F:Fm s0 H Z L m s)(ht:Tpl s.heap t (x::vs))(hs:s.heap.IsSliceOf sl .none (.int 1 u) .none)(h1:1≤vs.length)(h:∀s' b,Pu s s'→Fm s0 H Z L m s'→Tpl s'.heap b [x]→s.heap.get? b=none→Q (.ref b) s')(hs':autoParam (Cn slice false (.ref t) (.ref sl)=DW [.ref sl,.ref t] (Cr (.ref t) (.ref sl))) au3._auto_1):A8 (MD c.w) A (BQ value slice (.ref t) (.ref sl)) Q E s:=
 Dq (T:="tuple") (xE ht fun n e=>(yEA _ e rfl)) slot_tuple_getitem.lookup (NF ht.isTup hs (by simp;exact n19 h1) (x:=x) rfl (h _ _ (Pu.push _ _) (F.pu (Pu.push _ _)) (Tpl.new _ _) (KM _))) hs'
theorem YS(F:Fm s0 H Z L m s)(hb:b<2^60)(h:∀s' t,Pu s s'→Fm s0 H Z L m s'→Q (.int ((a*b:Nat):Int) t) s'):A8 (MD c.w) A (GJ .Mult (.int a t) (.int b u)) Q E s:=
 Gv (by
  have:=h {s with toks:=s.toks+1} s.toks (Pu.tok _ _) (F.tok _)
  rwa [Int.natCast_mul]at this) (IntMulOk.of_right (intBits_le_64 (by lia) (by exact aq249 hb)))
theorem Wg{q:Addr}{x y z mv:Value}{a b d:Nat}{mk:Option (Nat×Nat×Nat)}(hu:A.units+64<cLine)(ht:Tpl s.heap q [x,y,z])(hx:MK x a)(hy:MK y b)(hz:MK z d)(hm:Ox s.heap mv mk)(h:Q (.bool (!decide (mk=some (a,b,d)))) s):A8 (MD c.w) A (CB .NotEq (.ref q) mv) Q E s:=by
 refine xE hx ?_;clear hx;rintro t1 rfl;refine xE hy ?_;clear hy;rintro t2 rfl;refine xE hz ?_;clear hz;rintro t3 rfl;refine xE ht ?_;clear ht;intro n ht;have r1:Reads s.heap (.ref q) (.tuple [.int a,.int b,.int d]) _:=reads_tuple_at ht rfl rfl (.cons (Fa _ _) (.cons (Fa _ _) (.cons (Fa _ _) .nil)))
 induction mk with
 | none=>
  obtain rfl:mv=.none:=hm;refine ne_dataH r1 Reads.none (by rfl) (by simp[E7,ET,FF]) hu ?_
  assumption
 | some mk=>
  obtain⟨a',b',d'⟩:=mk;refine S0 hm ?_;clear hm;rintro q' x' y' z' rfl ⟨n',ht'⟩ ⟨t4,rfl⟩ ⟨t5,rfl⟩ ⟨t6,rfl⟩;have r2:Reads s.heap (.ref q') (.tuple [.int a',.int b',.int d']) _:=reads_tuple_at ht' rfl rfl (.cons (Fa _ _) (.cons (Fa _ _) (.cons (Fa _ _) .nil)));refine ne_dataH r1 r2 (by rfl) (by rfl) hu ?_
  have e:EC (.tuple [.int a,.int b,.int d]) (.tuple [.int a',.int b',.int d'])=decide (some (a',b',d')=some (a,b,d)):=by
   rw[Bool.eq_iff_iff];simp[EC,Fo];exact aq12
  rw[e];exact h
end
end
section
section
variable{A:Aq}{s:A4}{E Q:Value→A4→Prop}{y:Lay}{st:St}{s0:A4}{H:AE}{Z:List (Addr×Obj)}{L:Addr}{m:A9→Option Value}{env:Env}
theorem SQ(rm:Rm A 1 40)(B:Bs s.heap)(I:Ins s.heap x cCt dx)(D:Fld s.heap dx (LL []) 0)(h0:c.H0.get? dx=none)(kk:∀s' H' k,Ext H' s'.heap→s'.gens=s.gens→s'.os=s.os→Im s.heap H'→Mk dx s H' [("known",.ref k),("mark",.none),("heap",.ref h)] 3 [(k,LX)]→(k == Bp)=false→Q .none s'):BM (MD c.w) A (.call (.ref 201) ⟨[.ref x,.ref h],[]⟩) (RQ Q E) s:=by
 refine Pa rfl ‹_› ‹_› rfl (Dw rfl) (by decide) rfl rfl rfl ?_;dsimp only[Bg,Bj,AV,AW,AF];intro A L s1 rm F;have K:Mk dx s s.heap [] 0 []:=⟨D,fun _ _ _ e=>e,D.al,(fun p hp=>by exact absurd hp Ah),BW⟩;refine NG (Kv F rfl (Kv F rfl (sa F.ne F.In (F.keep _ _ I) (K.fld.ext F.keep) Sc (by omega) fun s3 M hfd=>?_)));rw[Mf,show LL [] ("heap" : A9)=none from rfl]at hfd;refine LY (K.sa F M h0 hfd) fun H3 F K i3=>?_;have I:=I.im i3;refine NG (Gk (Kv F rfl (sa F.ne F.In (F.keep _ _ I) (K.fld.ext F.keep) OQ (by show (0+1:Nat)≤_;omega) fun s4 M hfd=>?_)));rw[Mf,show LL [("heap",AN h)] ("mark" : A9)=none from rfl]at hfd;refine LY (K.sa F M h0 hfd) fun H4 F K i4=>?_;have I:=I.im i4;refine NY F K I h0 rfl Oa (by show (0+1+1:Nat)≤_;omega) rfl fun s5 k H5 F K i5 sk=>Kt ?_;exact kk _ H5 k F.keep F.gens F.os ((i3.trans i4).trans i5) K sk
theorem SN(rm:Rm A 2 50)(F:Fm s0 H Z L m s)(kk:∀s' x dx k,New s s' x cCt dx [("known",.ref k),("mark",.none),("heap",.ref h)] 3 [(k,LX)]→(k == Bp)=false→Q (.ref x) s'):A8 (MD c.w) A (call (.ref 272) [.ref h]) Q E s:=by
 have dead:∀b,s.heap.get? b=none→c.H0.get? b=none:=fun b hb=>by
  exact Ky fun o e=>by rw[F.keep _ _ (F.base.ext _ _ e)]at hb;exact nomatch hb
 refine RL (d:=1) (u:=40) F.ne F.In Y5 Yv Yr (rm.mono (by omega) (by omega)) fun x dx s1 A' rm P hx hdx hne I D=>?_;exact SQ rm ((F.base.trans F.keep).trans P.ext) I D (dead _ hdx) fun s' H' k hE g o im K sk=>⟨rfl,kk _ x dx k (New.of P hx hdx hne I hE g o im K) sk⟩
theorem Vl(y:Lay)(mv kn v':Value):(fun z=>if z=("mark" : A9)then some v' else ctF y mv kn z)=ctF y v' kn:=ME [] _ _ _ _ (by intro p hp;exact absurd hp Ah)
theorem Uj(y:Lay)(mv kn v':Value):(fun z=>if z=("known" : A9)then some v' else ctF y mv kn z)=ctF y mv v':=ME [_] _ _ _ _ (by intro p hp;simp only[As,Ah,or_false]at hp;rcases hp with rfl;dsimp only;decide +kernel)
theorem Ox.hh(x:Ox h v mk):IS v=true:=by
 induction mk with
 | none=>have e:v=.none:=x;subst e;rfl
 | some p=>refine XC x ?_;clear x;rintro q _ _ _ rfl _;rfl
noncomputable def Mh(st:St):St:=if st.cmark=some (st.rows.length,st.edges,st.backs)then st else {st with cmark:=some (st.rows.length,st.edges,st.backs),cknown:=[]}
namespace U39
noncomputable def pP(A:Aq)(s:A4)(E Q:Value→A4→Prop)(y:Lay)(st:St)(n:Nat)(t:Tok):Prop:=∀(rm:Rm A 3 120)(B:Bs s.heap)(G:KW y st s.heap)(hC:st.hasC=true)(hn:n≤200)(hz:st.rows.length≤1000)(hez:st.edges≤1000)(kk:∀s' y',M6 y y'→Ms y st y' (Mh st) s s'→KW y' (Mh st) s'.heap→Q .none s'),A8 (MD c.w) A (call (.ref 208) [.ref y.ci,.int n t]) Q E s
noncomputable def fF:=unz fun A=>unz fun s=>unz fun E=>unz fun Q=>unz fun y=>unz fun st=>unz fun n=>pP A s E Q y st n
noncomputable def kK:=epz ({},{},default,default,OG,dSt,default) fF
noncomputable def A_:=kK.1
noncomputable def y_:=kK.2.2.2.2.1
noncomputable def st_:=kK.2.2.2.2.2.1
theorem tT:pP A_ kK.2.1 kK.2.2.1 kK.2.2.2.1 y_ st_ kK.2.2.2.2.2.2.1 kK.2.2.2.2.2.2.2:=by
 intro rm B G hC hn hz hez kk;refine LG rfl ‹_› ‹_› rfl (Dw rfl) (by decide) rfl rfl rfl ?_;dsimp only[Bg,Bj,AV,AW,AF];intro A_ L s1 rm F;have D:=Gd.refl G;refine xE (Wq F.ne) fun t0 hms=>?_;refine L7 (wpAny_isTrue_Compare1 (Kv F rfl (Yy F (fun _=>hms) (gt_ (Ai (Ks (by simp;exact Y1 hn) (Kt (Kw ?_))))))));refine xEA (G.ok .cd hC) fun mv hcd hmv=>?_;refine G.ldK fun t1 t2 hld=>?_;refine xEA (G.ok .edges trivial) fun ve hve hne=>?_
 refine Lw (XR (PD Si (L9 F rfl (G.ci hC) hcd rfl M9 rfl fun s2 P F=>⟨_,_,_,_,rfl,F,G.lv,hld,rfl,SA (rm.mono (by decide) (by decide)) (F.base.trans F.keep) (G.ext F.keep) hz fun s3 t3 P=>
  KN (F.pu P) KL rfl (by decide) (sp1 (RX (L9 (F.pu P) rfl (G.ci hC) hcd rfl M9 rfl fun s4 P F=>ga F G.lv hld rfl LU rfl fun s5 P F=>Lj F (hve.ext F.keep) (by exact n2 hne hez) fun s6 t6 P F=>
   RX (L9 F rfl (G.ci hC) hcd rfl M9 rfl fun s7 P F=>ga F G.lv hld rfl Oc rfl fun s8 P F8=>KA F8 (by simp) fun s9 q P9 F htq _=>?_))))⟩)))
 refine F8.takeK P9 fun H1 hE F _ him=>?_;have htq:=htq.im him;have D:=D.ext hE;have G:=D.good;have hmv:=hmv.im hE.im;have hcd:=hcd.ext hE;refine L4 F fun s10 F=>L7 (wpAny_isTrue_Compare1 (Kv F rfl (L9 F rfl (G.ci hC) hcd rfl Sf hmv.hh fun s11 P F=>Wg (by have:=rm.u;rw[show cLine=9900 from rfl];exact n9 this) (htq.ext F.keep) ⟨t3,rfl⟩ ⟨t6,by rw[hne]⟩ ⟨t1,rfl⟩ (hmv.im F.keep.im) (Ai ?_))))
 by_cases e:st_.cmark=some (st_.rows.length,st_.edges,st_.backs)
 ·refine Ks (by simp[e]) (Kt (Kw (Kt ?_)));refine D.msK F fun G' M'=>?_;have er:Mh st_=st_:=by unfold Mh;rw[if_pos e]
  exact kk _ y_ (M6.refl y_) (by rw[er];exact M') (by rw[er];exact G')
 ·refine KC (by simp[e]) ?_;have hrs:Mh st_=(St.s_cknown (St.s_cmark st_ (some (st_.rows.length,st_.edges,st_.backs))) []):=by unfold Mh;rw[if_neg e]
  refine NG (Kv F rfl (Kv F rfl (sa F.ne F.In (F.keep _ _ (G.ci hC)) (hcd.ext F.keep) OQ (by decide) fun s12 M hfd=>?_)));have hfd:Fld s12.heap (y_.ad .cd) (fun z=>if z=("mark" : A9)then some (.ref q)else ctF y_ mv (.ref (y_.ad .ck)) z) 3:=hfd;rw[Vl]at hfd;refine xEA (My hcd) fun ocd hocd hmcd=>?_;have imM:Im H1 s12.heap:=Im.trans F.keep.im (fun b o hm eb=>M.keep b o (fun qq=>by rw[qq,F.keep _ _ hocd]at eb;obtain rfl:=Ag eb;rw[hmcd]at hm;exact nomatch hm) eb);refine D.put (r0:=.cd) (st':=(St.s_cmark st_ (some (st_.rows.length,st_.edges,st_.backs)))) F M hC ⟨_,hfd,q,_,_,_,rfl,htq.im imM,⟨t3,rfl⟩,⟨t6,by rw[hne]⟩,⟨t1,rfl⟩⟩ hfd.al rfl fun H2 F D _ im2=>?_;have G:=D.good;refine xEA (G.ok .cd hC) fun mv2 hcd2 hmv2=>?_;have Fb:=F;refine NG (Wv F fun s13 a P13 F hob hna hsys=>Kv F rfl (sa F.ne F.In (F.keep _ _ (G.ci hC)) (hcd2.ext F.keep) Oa (by decide) fun s14 M hfd=>?_));have hfd:Fld s14.heap (y_.ad .cd) (fun z=>if z=("known" : A9)then some (.ref a)else ctF y_ mv2 (.ref (y_.ad .ck)) z) 3:=hfd;rw[Uj]at hfd;refine D.freshK Fb hna fun f1 f2 f3 f4 f5=>?_;have hne2:a≠y_.ad .cd:=fun q=>f3 (yEA .cd hC q.symm);refine xEA (My hcd2) fun ocd2 hocd2 hmcd2=>?_;have imM2:Im H2 s14.heap:=Im.trans F.keep.im (fun b o hm eb=>M.keep b o (fun qq=>by rw[qq,F.keep _ _ hocd2]at eb;obtain rfl:=Ag eb;rw[hmcd2]at hm;exact nomatch hm) eb)
  refine LZ (D.new (r0:=.cd) (r1:=.ck) (a:=a) (st':=(St.s_cknown (St.s_cmark st_ (some (st_.rows.length,st_.edges,st_.backs))) [])) F M hC (QE (by intro q;exact nomatch q) (by intro q;exact nomatch q) (by intro q;exact nomatch q) (by intro q;exact nomatch q)) f1 f2 f3 f4 (fun h=>hsys) (.inr f5) hfd.al (fun _=>(yEA mv2 (by
    show Fld s14.heap (y_.ad .cd) (ctF (y_.set .ck a) mv2 (.ref ((y_.set .ck a).ad .ck))) 3;rw[Lay.set_same];exact hfd) (hmv2.im imM2))) (by
    show HD (SZ c.w) s14.heap ((y_.set .ck a).ad .ck) [];rw[Lay.set_same];exact HD.nil _ (M.keep _ _ hne2 hob)) (fun r h=>.inl h) rfl (fun r h hr hr1 hl h1=>by
    induction r<;>first | exact absurd rfl hr | exact absurd rfl hr1 | exact h1)) fun H3 F D _ _=>?_
  refine D.msK F fun G' M'=>?_;exact Kt (Kw (Kt (kk _ _ (M6.set y_ a rfl) (by rw[hrs];exact M') (by rw[hrs];exact G'))))
end U39
theorem Q8{A s E Q y st n t}:U39.pP A s E Q y st n t:=@KB _ _ U39.fF U39.kK rfl U39.tT (A,s,E,Q,y,st,n,t)
end
end
section
noncomputable def YW:List (List Nat):=[]::(Ap 13).map (fun a=>[a])++(Ap 13).flatMap fun a=>(Ap 13).map fun b=>[a,b]
theorem WW(h2:ks.length≤2)(h0:0<ks.length)(h1:¬ks.length=1):∃a b,ks=[a,b]:=
 match ks,h2,h0,h1 with
 | [a,b],_,_,_=>(yEE a b rfl)
noncomputable def allK:List (List Nat×Nat):=YW.flatMap fun l=>(Ap 6).map fun s=>(l,s)
theorem Vq:allK.length=1098:=by decide +kernel
theorem V1(h2:l.length≤2)(hl:∀a∈l,a<13)(hs:s≤5):(l,s)∈allK:=by
 unfold allK;refine List.mem_flatMap.mpr (yEA l ?_ (AR.mpr (yEA s (Be.mpr (by exact n12 hs)) rfl)));unfold YW
 match l,h2,hl with
 | [],_,_=>simp
 | [a],_,hl=>simp;exact hl a (by exact Aj)
 | [a,b],_,hl=>
  simp;exact⟨hl a (by exact Aj),hl b (by exact .tail _ (.head _))⟩
structure KT(W:Nat→Nat→Nat)(kn:List ((List Nat×Nat)×Nat)):Prop where
 val:∀k n,lk kn k=some n→n=wy W k.1 k.2
 key:∀p∈kn,p.1.1.length≤2∧(∀a∈p.1.1,a<13)∧p.1.2≤5
 nod:(kn.map Ci).Nodup
theorem KT.nil(W:Nat→Nat→Nat):KT W []:=⟨fun k n h=>by trivial,(fun p h=>by exact absurd h Ah),BW⟩
theorem KT.len(h:KT W kn):kn.length≤1098:=by
 have:=LF (l:=kn.map Ci) (l':=allK) h.nod fun k hk=>by
  refine xEA (AR.mp hk) ?_;rintro p hp rfl;refine xAA (h.key p hp) fun a b d=>?_;exact V1 a b d
 rw[AQ,Vq]at this;exact this
theorem R4{K:Type}[DecidableEq K](ps:List (K×Nat))(k:K)(n:Nat)(h:lk ps k=none)(j:K):lk (ps++[(k,n)]) j=if j=k then some n else lk ps j:=by
 rw[Qo]
 by_cases e:j=k
 ·subst e;rw[h,if_pos rfl];simp[lk]
 ·rw[if_neg e];have:lk [(k,n)] j=none:=by unfold lk;simp;exact fun q=>e q.symm
  rw[this];simp
theorem TF{K:Type}[DecidableEq K]{ps:List (K×Nat)}{k:K}(h:lk ps k=none):k∉ps.map Ci:=fun hm=>by
 refine xEA (AR.mp hm) fun p hp e=>?_;unfold lk at h;rw[Option.map_eq_none_iff,FI]at h;have:=h p hp;simp[e]at this
theorem KT.snoc(h:KT W kn)(hn:lk kn (ks,s)=none)(hv:n=wy W ks s)(h2:ks.length≤2)(hl:∀a∈ks,a<13)(hs:s≤5):KT W (kn++[((ks,s),n)]):=by
 refine⟨fun k m e=>?_,fun p hp=>?_,?_⟩
 ·rw[R4 _ _ _ hn]at e;split at e
  ·rename_i q;obtain rfl:=Ag e;rw[q];exact hv
  ·exact h.val k m e
 ·rcases Am.mp hp with hp | hp
  ·exact h.key p hp
  ·rw[Ab]at hp;subst hp;exact (yAA h2 hl hs)
 ·rw[B6];refine Ck.mpr (yAA h.nod (by simp) (fun a ha b hb e=>?_));simp at hb;subst hb;subst e;exact TF hn ha
structure Rt(st:St)(W:Nat→Nat→Nat):Prop where
 bs:Bas st
 hC:st.hasC=true
 hmem:∀a,a<st.rows.length→∀n∈st.lots.getD (Ku st.up a) [],n<st.rows.length
 hW:∀a,a<st.rows.length→∀rs:List Row,rs.Nodup→(∀x,x∈rs↔x∈(st.lots.getD (Ku st.up a) []).map (KG st))→∀s,1≤s→s≤5→W a s=(rs.map fun r=>wy W r.2 (s - 1)).sum
 hb:∀a s,s≤5→W a s<2^60
section
variable{A:Aq}{s:A4}{E Q:Value→A4→Prop}{y:Lay}{st:St}{s0:A4}{H:AE}{Z:List (Addr×Obj)}{L:Addr}{m:A9→Option Value}{env:Env}
theorem VT(F:Fm s0 H Z L m s)(hu:(SZ c.w).room A.in1)(hkey:LK s.heap a k)(hm:HD (SZ c.w) s.heap d ps)(hp:lk ps k=some n)(h:∀s' t,Pu s s'→Fm s0 H Z L m s'→Q (.int n t) s')(hs:autoParam (Cn slice false (.ref d) (.ref a)=DW [.ref d,.ref a] (Cr (.ref d) (.ref a))) au3._auto_1):A8 (MD c.w) A (BQ value slice (.ref d) (.ref a)) Q E s:=by
 refine xEA (id hm) fun xs hm' hx=>?_;exact Dq (T:="dict") hm'.typeIs Dg.lookup (VD (knd:=SZ c.w) F hu hkey hm hp h) hs
theorem Gd.callK(D:Gd y0 st0 h0 y st H)(F:Fm s0 H Z L m s)(M:Ms y st y' st' s s')(G':KW y' st' s'.heap):∃H',Fm s0 H' Z L m s'∧Gd y0 st0 h0 y' st' H'∧Im H H'∧(∀b o,¬Own y st b→H.get? b=some o→H'.get? b=some o):=by
 refine D.callG F M G' fun H' F' D' k1 k2=>?_;refine (NT H' F' D' (fun b o hm e=>k1 b o (fun ow=>?_) e) k1);refine xEA (D.good.own_mut ow) fun ob e1 hm1=>?_;rw[e1]at e;obtain rfl:=Ag e;rw[hm1]at hm;exact nomatch hm
theorem Gd.callL{s':A4}{y0 y':Lay}{st0 st':St}{h0:AE}(D:Gd y0 st0 h0 y st H)(F:Fm s0 H Z L m s)(M:Ms y st y' st' s s')(G':KW y' st' s'.heap){G:Prop}(k:∀H',Fm s0 H' Z L m s'→Gd y0 st0 h0 y' st' H'→Im H H'→(∀b o,¬Own y st b→H.get? b=some o→H'.get? b=some o)→G):G:=LZ (D.callK F M G') k
theorem Tv(bs:Bas st)(hn:n<st.rows.length):(KG st n).2.length≤2∧∀k∈(KG st n).2,k<st.rows.length:=by
 have hr:=O7 hn;refine xA (bs.kids _ _ hr) fun h1 h2=>?_;refine⟨by show (Bg _ _).length≤2;rw[AQ];exact h1,fun k hk=>?_⟩;refine xEA (AR.mp (show k∈((st.rows.getD n ("",[])).2.map (Ku st.up))from hk)) ?_;rintro j hj rfl;exact bs.rl (h2 j hj)
namespace U40
noncomputable def pP(y:Lay)(st:St)(W:Nat→Nat→Nat):Prop:=∀(hp:Rt st W),∀(sz:Nat),sz≤5→∀{A:Aq} {s:A4} {E Q:Value→A4→Prop} {kn:List ((List Nat×Nat)×Nat)} {ks:List Nat} {vs:List Value} {q:Addr} {t:Tok} (rm:Rm A (sz+7) (3*sz+150)) (B:Bs s.heap) (G:KW y (St.s_cknown st kn) s.heap) (hk:KT W kn)
  (hq:Tpl s.heap q vs) (hv:LH vs ks) (hk2:ks.length≤2) (hlt:∀k∈ks,k<st.rows.length)
  (kk:∀s' t' kn',Ms y (St.s_cknown st kn) y (St.s_cknown st kn') s s'→KW y (St.s_cknown st kn') s'.heap→KT W kn'→(∀k,sz<k.2→lk kn' k=lk kn k)→Q (.int (wy W ks sz:Nat) t') s'),
  A8 (MD c.w) A (call (.ref 227) [.ref y.ci,.ref q,.int (sz:Nat) t]) Q E s
noncomputable def fF:=unz fun y=>unz fun st=>pP y st
noncomputable def kK:=epz (OG,dSt,default) fF
noncomputable def y_:=kK.1
noncomputable def st_:=kK.2.1
noncomputable def W_:=kK.2.2
inductive Zl(sz:Nat)(s:A4)(kn:List ((List Nat×Nat)×Nat))(ks:List Nat)(L:Addr)(key:Addr)(s':A4):Prop
 | mk(H':AE)(m':A9→Option Value)(kn':List ((List Nat×Nat)×Nat))(a1:Fm s H' [] L m' s')(a2:Gd y_ (St.s_cknown st_ kn) s.heap y_ (St.s_cknown st_ kn') H')(a3:KT W_ kn')(a4:(∀k,sz<k.2→lk kn' k=lk kn k))(a5:lk kn' (ks,sz)=some (wy W_ ks sz))(a6:m' "key" = some (.ref key))(a7:LK H' key (ks,sz))(a8:H'.IsCell (L+1) (some (.ref y_.ci)))
inductive Zk(sz:Nat)(s:A4)(kn:List ((List Nat×Nat)×Nat))(ks:List Nat)(L:Addr)(key:Addr)(s':A4):Prop
 | mk(H':AE)(m':A9→Option Value)(kn':List ((List Nat×Nat)×Nat))(tn:Tok)(a1:Fm s H' [] L m' s')(a2:Gd y_ (St.s_cknown st_ kn) s.heap y_ (St.s_cknown st_ kn') H')(a3:KT W_ kn')(a4:(∀k,sz≤k.2→lk kn' k=lk kn k))(a5:m' "found" = some (.int (wy W_ ks sz:Nat) tn))(a6:m' "key" = some (.ref key))(a7:LK H' key (ks,sz))(a8:H'.IsCell (L+1) (some (.ref y_.ci)))
inductive Zj(sz:Nat)(s:A4)(kn:List ((List Nat×Nat)×Nat))(t:Tok)(L:Addr)(key:Addr)(c0:Nat)(q2:Addr)(vs2:List Value)(rs:List Row)(o_:Obj)(i:Nat)(ys:List Value)(H':AE):Prop
 | mk(kn':List ((List Nat×Nat)×Nat))(a1:Gd y_ (St.s_cknown st_ kn) s.heap y_ (St.s_cknown st_ kn') H')(a2:KT W_ kn')(a3:(∀k,sz≤k.2→lk kn' k=lk kn k))(a4:LH ys ((rs.take i).map fun r=>wy W_ r.2 (sz - 1)))(a5:KJ (PT H') vs2 rs)(a6:H'.get? q2=some o_)(a7:LK H' key ([c0],sz))(a8:H'.IsCell (L+1) (some (.ref y_.ci)))(a9:H'.IsCell (L+2) (some (.int (sz:Nat) t)))
inductive Zh(sz:Nat)(s:A4)(kn:List ((List Nat×Nat)×Nat))(q:Addr)(t:Tok)(L:Addr)(key:Addr)(c0:Nat)(c1:Nat)(tc:Tok)(tc1:Tok)(i:Nat)(H':AE)(m':A9→Option Value):Prop
 | mk(kn':List ((List Nat×Nat)×Nat))(tf:Tok)(a1:Gd y_ (St.s_cknown st_ kn) s.heap y_ (St.s_cknown st_ kn') H')(a2:KT W_ kn')(a3:(∀k,sz≤k.2→lk kn' k=lk kn k))(a4:m' "found" = some (.int ((((Ap i).map fun j=>wy W_ [c0] (j+1)*wy W_ [c1] (sz - (j+1))).sum:Nat):Int) tf))(a5:m' "classes" = some (.ref q))(a6:m' "key" = some (.ref key))(a7:LK H' key ([c0,c1],sz))(a8:H'.IsCell (L+1) (some (.ref y_.ci)))(a9:H'.IsCell (L+2) (some (.int (sz:Nat) t)))(a10:Tpl H' q [.int (c0:Nat) tc,.int (c1:Nat) tc1])
theorem tT:pP y_ st_ W_:=by
 intro hp;intro sz
 induction sz using CG with
 | _ sz ih=>
 intro hsz A s E Q kn ks vs q t rm B G hk hq hv hk2 hlt kk;have rm:Rm A ((sz+6)+1) ((3*sz+147)+3):=rm;refine Mo rfl ‹_› ‹_› rfl rfl rfl rfl rfl ?_;intro A L H s1 rm BH F hC;have D:Gd y_ (St.s_cknown st_ kn) s.heap y_ (St.s_cknown st_ kn) H:=⟨G.ext BH,fun b o _ e=>BH _ _ e,fun _ o=>.inl o,fun _ o e=>⟨o,BH _ _ e⟩⟩;have G:=D.good;refine xA (hC "self" (L+1) rfl) fun hc0 _=>?_;replace hc0:H.IsCell (L+1) (some (.ref y_.ci)):=hc0;refine xA (hC "size" (L+2) rfl) fun hc1 _=>?_;replace hc1:H.IsCell (L+2) (some (.int (sz:Nat) t)):=hc1;have hq:=hq.ext BH;have hvl:=hv.1;have hz:=hp.bs.hn;refine xEA (G.ok .cd hp.hC) fun mv hcd hmv=>?_;refine L7 (CW (CF (wpAny_isTrue_Compare1 (KN F KL rfl (by decide) (sp1 (Kv F rfl (R5 F (hq.ext F.keep) (by exact n2 hvl hk2) fun s2 t2 P F=>cI F fun s3 t3 P F=>eq_ (Ai ?_))))))))
 have early:∀s' m',Fm s H [] L m' s'→∀(v:Int) tt,(v=(wy W_ ks sz:Nat))→Q (.int v tt) s':=fun s' m' F v tt e=>by
  subst e;have D':=D;refine Gd.msK (s0:=s) D' F fun G' M'=>?_;exact kk _ tt kn M' G' hk fun k _=>rfl
 by_cases hnil:ks=[]
 ·subst hnil;obtain rfl:vs=[]:=AX.mp hvl;refine KC (by simp) (KS (IfExp_ (CW (DV (wpAny_isTrue_Compare1 (Ln F hc1 (cI F fun s4 t4 P F=>eq_ (Ai ?_))))))))
  by_cases h0:sz=0
  ·refine KC (by simp[h0]) (DV (wpAny_isTrue_Compare1 (KN F KL rfl (by decide) (sp1 (Kv F rfl (R5 F (hq.ext F.keep) (by simp) fun s5 t5 P F=>cI F fun s6 t6 P F=>eq_ (Ai (KC (by simp) (wpAny_allTrue_And_nil (KC rfl (cI F fun s7 t7 P F=>?_)))))))))));exact early _ _ F 1 _ (by simp[wy,h0])
  ·refine Ks (by simp[h0]) (Ks rfl (cI F fun s7 t7 P F=>?_));exact early _ _ F 0 _ (by simp[wy,h0])
 have hpos:0<ks.length:=I6.mpr hnil;refine Ks (by rw[hvl];simp;omega) (CF (wpAny_isTrue_Compare1 (Ln F hc1 (KN F KL rfl (by decide) (sp1 (Kv F rfl (R5 F (hq.ext F.keep) (by exact n2 hvl hk2) fun s4 t4 P F=>lt_ (Ai ?_))))))))
 by_cases hfew:sz<ks.length
 ·refine KC (by rw[hvl];simp;exact o23 hfew) (KS (IfExp_ (CW (DV (wpAny_isTrue_Compare1 (Ln F hc1 (cI F fun s5 t5 P F=>eq_ (Ai ?_))))))))
  by_cases h0:sz=0
  ·refine KC (by simp[h0]) (DV (wpAny_isTrue_Compare1 (KN F KL rfl (by decide) (sp1 (Kv F rfl (R5 F (hq.ext F.keep) (by exact n2 hvl hk2) fun s6 t6 P F=>cI F fun s7 t7 P F=>eq_ (Ai (Ks (by rw[hvl];simp;omega) (Ks rfl (cI F fun s8 t8 P F=>?_))))))))));exact early _ _ F 0 _ (by rw[MX W_ ks sz hfew];rfl)
  ·refine Ks (by simp[h0]) (Ks rfl (cI F fun s7 t7 P F=>?_));exact early _ _ F 0 _ (by rw[MX W_ ks sz hfew];rfl)
 refine Ks (by rw[hvl];simp;exact o25 hfew) (FL (Ks rfl (Kt (Kw ?_))));have hge:ks.length≤sz:=by exact o25 hfew
 refine Lw (PU (Kv F rfl (Ln F hc1 (KA F (by simp) fun s5 key P5 _ hkey _=>?_))));refine F.takeK P5 fun H2 hE F _ him=>?_;have hkey:LK H2 key (ks,sz):=(T2 q vs _ (hkey.im him) (hq.ext hE) hv ⟨t,rfl⟩);have D:=D.ext hE;have G:=D.good;have hc0:=hc0.keeps hE;have hc1:=hc1.keeps hE;have hq:=hq.ext hE;have hcd:=hcd.ext hE;have hroom:(SZ c.w).room A.in1:=(show A.in1.units+1<cLine from by have:=rm.u;show A.units+1+1<9900;exact aq148 this);have hkn:HD (SZ c.w) H2 (y_.ad .ck) kn:=G.ok .ck hp.hC;refine L4 F fun s6 F=>Nl (P:=Zl sz s kn ks L key) (IP ?_) ?_
 ·refine wpAny_isTrue_Compare1 (Kv F rfl (NH F hc0 (G.ci hp.hC) hcd rfl MQ rfl fun s7 P F=>VC (knd:=SZ c.w) F hroom (hkey.im F.keep.im) (G.gt .ck hp.hC rfl) (HD.at2 (fun a e=>LK.im a e) hkn (fun o e=>F.keep _ _ e) F.keep.im) fun s8 P F=>Ai ?_))
  cases hlk:lk kn (ks,sz)with
  | some v=>
   refine Ks rfl (Kt ⟨rfl,H2,_,kn,F,D,hk,fun k _=>rfl,?_,rfl,hkey,hc0⟩);rw[hlk,hk.val _ _ hlk]
  | none=>
   refine KC rfl ?_;refine Nl (P:=Zk sz s kn ks L key) (IP ?_) ?_
   ·refine wpAny_isTrue_Compare1 (KN F KL rfl (by decide) (sp1 (Kv F rfl (R5 F (hq.ext F.keep) (by exact aq283 hvl hk2) fun s9 t9 P F=>cI F fun s10 t10 P F=>eq_ (Ai ?_)))))
    by_cases h1:ks.length=1
    ·-- one class
     refine KC (by rw[hvl,h1];rfl) ?_;refine xE (List.length_eq_one_iff.mp h1) ?_;rintro c0 rfl;refine hv.unc' ?_;rintro v0 r0 rfl ⟨tc,rfl⟩ hr0;have hc0l:=hlt c0 (by exact Aj);refine G.ldK fun t11 t12 hld=>?_;have hup:=hp.bs.up;refine Lw (KN F Tw rfl (by decide) (sp1 (MJ (Ly OC (NH F hc0 (G.ci hp.hC) hcd rfl M9 rfl fun s11 P F=>⟨_,_,_,_,rfl,F,G.lv,hld,rfl,Subscript_ (Kv F rfl (cI F fun s12 t13 P F12=>Mg (k:=0) (hq.ext F12.keep) (by decide) rfl ⟨F12.In,?_⟩))⟩)))))
     refine PA (st:=(St.s_cknown st_ kn)) (rm.mono (by exact n11) (by simp)) (F12.base.trans F12.keep) (G.ext F12.keep) hp.bs.low (by show c0<st_.up.length;exact o5 hc0l hup) (by show st_.up.length≤_;exact n2 hup hz) (by show st_.lots.length=st_.up.length;rw[hp.bs.lots];exact o40 hup) (by show st_.rows.length=st_.up.length;exact o40 hup) (fun i l h=>by have:=hp.bs.lotz i l h;exact n1 this) (hp.hmem c0 hc0l) (fun n r h=>by
      refine xA (hp.bs.kids n r h) fun a1 a2=>?_;exact⟨by exact n1 a1,fun k hk=>by show k<st_.up.length;have:=a2 k hk;exact o5 this hup⟩) fun s13 q2 vs2 rs P13 hl2 hrs hnd hmem hnew=>?_
     refine xAA (F12.apart hnew) fun nO fL fZ=>?_;refine D.freshK F12 hnew fun g1 g2 g3 g4 g5=>?_;refine F12.takeK P13 fun H3 hE3 F hnw him3=>?_;have D:=D.ext hE3;have hc0:=hc0.keeps hE3;have hc1:=hc1.keeps hE3;have hkey:=hkey.im hE3.im;have hrs3:KJ (PT H3) vs2 rs:=Lo hrs him3;refine xE hl2 ?_;clear hl2;intro nl2 hl2;have hl2H:=hnw _ _ hnew hl2;have hrsl:=hrs.1;have hmem:∀x,x∈rs↔x∈(st_.lots.getD (Ku st_.up c0) []).map (KG st_):=hmem
     have hrz:rs.length≤13:=by
      have:=LF hnd fun x hx=>(hmem x).mp hx;rw[AQ]at this
      have h2:=hp.bs.lotz (Ku st_.up c0) (st_.lots.getD (Ku st_.up c0) []) (by
       have:=hp.bs.rl hc0l;rw[A6,A7 (by rw[hp.bs.lots];exact this)];rfl)
      exact n7 h2 this
     refine Os (Src.list rm.h hl2 (Pu.refl _)) F (Pu.refl _) (by exact n2 hrsl hrz)
      (I:=Zj sz s kn t L key c0 q2 vs2 rs _)
      (fun i ys H' ⟨_,_,_,_,_,_,a,_,_,_⟩ p hp'=>by rw[Ab]at hp';subst hp';exact a) ⟨kn,D,hk,fun k _=>rfl,.nil,hrs3,hl2H,hkey,hc0,hc1⟩ (fun C i ys v H' m' s14 Z' hi hlen Fi hP hI=>?_) (fun C D' ys H' s14 K hI hlen hD=>?_)
     ·obtain⟨kn',D,hk',hfr,hI,hrs',hq2,hkey,hc0,hc1⟩:=hI;have G:=D.good;refine xEA (G.ok .cd hp.hC) fun mv2 hcd2 hmv2=>?_;refine Pk (hrs'.get' hP) ?_;rintro r hr a rfl tr kv htr hkv;refine xEA (AR.mp ((hmem r).mp (Av hr))) fun nn hnn hre=>?_;refine xA (Tv hp.bs (hp.hmem c0 hc0l nn hnn)) fun hr2 hrl=>?_;rw[hre]at hr2 hrl;have hkvl:=hkv.1;refine Aw (L4 Fi fun s15 F=>PC MB (Ln F hc0 ⟨_,_,_,_,rfl,F,G.ci hp.hC,hcd2,rfl,Subscript_ (Kv F rfl (Lg (cI F fun s16 t16 P F s17 sl P17 hsl=>L6 (a:=1) (F.pu P17) (htr.ext (F.pu P17).keep) hsl (by decide) (by simp) (by simp;exact n2 hkvl hr2) fun s18 b P F hb _=>bop (Ln F hc1 (cI F fun s19 t19 P19 F=>Ti F fun s20 t20 P20 F20=>⟨F20.In,?_⟩)))))⟩));have hb:Tpl s20.heap b kv:=(show Tpl s18.heap b kv from hb).ext (P19.ext.trans P20.ext);rw[show ((sz:Int) - 1)=((sz - 1:Nat):Int) by exact aq44 hpos hfew];refine ih (sz - 1) (by exact aq55 hpos hfew) (by exact aq58 hpos hsz hfew) (rm.mono (by exact aq53 hpos hfew) (by exact aq48 hpos hfew)) (F20.base.trans F20.keep) (G.ext F20.keep) hk' hb hkv hr2 hrl fun s21 t21 kn2 M G' hk2' hfr2=>?_;refine D.callL F20 M G' fun H4 F D im4 k4=>?_;refine⟨H4,_,F,kn2,D,hk2',fun k hk=>(hfr2 k (by exact aq38 hpos hk hfew)).trans (hfr k hk),?_,Lo hrs' im4,k4 _ _ g3 hq2,hkey.im im4,KF hc0 im4,KF hc1 im4⟩;rw[C8,hr,Cv,B6];exact hI.snoc ⟨t21,rfl⟩
     ·obtain⟨kn',D,hk',hfr,hI,hrs',hq2,hkey,hc0,hc1⟩:=hI;rw[hrsl,Br]at hI;refine K.post fun s15 F hl15 _=>VS rm.h hl15 hI fun s16 t16 P=>L4 (F.pu P) fun s17 F=>Kt ⟨rfl,H',_,kn',t16,F,D,hk',hfr,?_,rfl,hkey,hc0⟩;rw[←hp.hW c0 hc0l rs hnd hmem sz (by exact o39 h1 hfew) hsz,←O2 W_ c0 (by exact o39 h1 hfew)]
      rfl
    ·-- two
     refine Ks (by rw[hvl];simp;exact aq286 hpos hk2 h1) ?_;refine xEE (WW hk2 hpos h1) ?_;rintro c0 c1 rfl;refine hv.unc' ?_;rintro v0 r0 rfl ⟨tc,rfl⟩ hr0;refine hr0.unc' ?_;rintro v1 r1 rfl ⟨tc1,rfl⟩ hr1;obtain rfl:r1=[]:=AX.mp hr1.1;have hge:2≤sz:=hge
     have hb1:∀n,n≤5→wy W_ [c1] n<2^60:=fun n hn=>by
      rcases D3 n with e | e
      ·subst e;rw[MX W_ [c1] 0 (by simp)];decide
      ·rw[O2 W_ c1 e];exact hp.hb c1 n hn
     refine Lw (cI F fun s11 t11 P F=>L4 F fun s12 F=>?_);refine Mp (LB F LO rfl (by decide) (sp2 (cI F fun s13 t13 P F=>bop (bop (Ln F hc1 (KN F KL rfl (by decide) (sp1 (Kv F rfl (R5 F (hq.ext F.keep) (by simp) fun s14 t14 P F=>Ti F fun s15 t15 P F=>cI F fun s16 t16 P F=>SW F fun s17 t17 P F17=>Tm fun s18 r t18 P18 hr=>?_)))))))));have F:=F17.pu P18;have hlen2:((sz:Int) - ([BD (c0:Nat) tc,BD (c1:Nat) tc1].length:Nat)+2)=((sz:Nat):Int):=by simp
     rw[hlen2]at hr
     refine On (I:=Zh sz s kn q t L key c0 c1 tc tc1)
      (Src.range (a:=1) rm.h hr (Pu.refl _) (by decide) (by exact Y1 hsz) (by simp)) F (Pu.refl _) (fun p hp'=>by exact absurd hp' Ah) ⟨kn,t11,D,hk,fun k _=>rfl,rfl,rfl,rfl,hkey,hc0,hc1,hq⟩ (fun i v H' m' s19 Z' hi Fi _ hP hI=>?_) (fun H' m' s19 Fi hI=>?_)
     ·obtain⟨kn',tf,D,hk',hfr,mf,mcl,mk,hkey,hc0,hc1,hq⟩:=hI;refine xE hP ?_;clear hP;rintro tv rfl;have hi':1+i<sz:=by exact aq60 hge hi
      have G:=D.good;refine xEA (G.ok .cd hp.hC) fun mv2 hcd2 hmv2=>?_;refine Aw (L4 Fi fun s20 F=>Lw (PC MB (Ln F hc0 ⟨_,_,_,_,rfl,F,G.ci hp.hC,hcd2,rfl,Subscript_ (Kv F mcl (QI (cI F fun s21 t21 P F s22 sl P22 hsl=>UN (F.pu P22) (hq.ext (F.pu P22).keep) hsl (by simp) fun s23 b P F23 hb _=>Kv F23 rfl ⟨F23.In,?_⟩)))⟩)));refine ih (1+i) hi' (by exact aq207 hi' hsz) (rm.mono (by exact aq184 hi') (by exact aq151 hi')) (F23.base.trans F23.keep) (G.ext F23.keep) hk' hb (.cons ⟨tc,rfl⟩ .nil) (by simp) (fun k hk=>hlt k (by simp at hk;simp[hk])) fun s24 t24 kn2 M G' hk2' hfr2=>?_;refine D.callL F23 M G' fun H4 F D im4 k4=>?_;have hkey:=hkey.im im4;have hc0:=KF hc0 im4;have hc1:=KF hc1 im4;have hq:=hq.im im4
      have hsum:∀x,x=wy W_ [c0] (1+i)*wy W_ [c1] (sz - (1+i))→((Ap i).map fun j=>wy W_ [c0] (j+1)*wy W_ [c1] (sz - (j+1))).sum+x=((Ap (i+1)).map fun j=>wy W_ [c0] (j+1)*wy W_ [c1] (sz - (j+1))).sum:=fun x e=>by
       rw[CD,B6,ES,e];simp[C1]
      refine L4 F fun s25 F=>L7 (wpAny_isTrue_Compare1 (Kv F rfl (cI F fun s26 t26 P F=>gt_ (Ai ?_))))
      by_cases h0:wy W_ [c0] (1+i)=0
      ·refine Ks (by rw[h0];simp) (Kt (Kw (Kt ⟨H4,_,F,kn2,tf,D,hk2',fun k hk=>(hfr2 k (by exact o36 hi' hk)).trans (hfr k hk),?_,mcl,mk,hkey,hc0,hc1,hq⟩)));rw[←hsum 0 (by rw[h0];simp)];exact mf
      ·refine KC (by simp;exact o38 h0) ?_;have G:=D.good;refine xEA (G.ok .cd hp.hC) fun mv3 hcd3 hmv3=>?_;refine Lw (bop (Kv F mf (bop (Kv F rfl (PC MB (Ln F hc0 ⟨_,_,_,_,rfl,F,G.ci hp.hC,hcd3,rfl,Subscript_ (Kv F mcl (Lg (cI F fun s27 t27 P F s28 sl P28 hsl=>L6 (a:=1) (F.pu P28) (hq.ext (F.pu P28).keep) hsl (by decide) (by exact Cj _) (by simp) fun s29 b2 P F hb2 _=>bop (Ln F hc1 (Kv F rfl (Ti F fun s30 t30 P30 F30=>⟨F30.In,?_⟩))))))⟩))))));have hb2:Tpl s30.heap b2 [.int (c1:Nat) tc1]:=(show Tpl s29.heap b2 [.int (c1:Nat) tc1]from hb2).ext P30.ext;rw[show ((sz:Int) - ((1+i:Nat):Int))=((sz - (1+i):Nat):Int) by exact aq30 hi'];refine ih (sz - (1+i)) (by exact aq61 hi') (by exact o37 hsz) (rm.mono (by exact aq29 hi') (by exact aq17 hi')) (F30.base.trans F30.keep) (G.ext F30.keep) hk2' hb2 (.cons ⟨tc1,rfl⟩ .nil) (by simp) (fun k hk=>hlt k (by simp at hk;simp[hk])) fun s31 t31 kn3 M G' hk3 hfr3=>?_;refine D.callL F30 M G' fun H5 F D im5 k5=>?_;refine YS F (hb1 _ (by exact o37 hsz)) fun s32 t32 P F=>SW F fun s33 t33 P F=>L4 F fun s34 F=>Kt (Kw (Kt ⟨H5,_,F,kn3,t33,D,hk3,fun k hk=>(hfr3 k (by exact aq39 hi' hk)).trans ((hfr2 k (by exact o36 hi' hk)).trans (hfr k hk)),?_,mcl,mk,hkey.im im5,KF hc0 im5,KF hc1 im5,hq.im im5⟩));rw[←hsum _ rfl,Int.natCast_add]
       rfl
     ·obtain⟨kn',tf,D,hk',hfr,mf,mcl,mk,hkey,hc0,hc1,hq⟩:=hI;refine Kw (Kt ⟨rfl,H',m',kn',tf,Fi,D,hk',hfr,?_,mk,hkey,hc0⟩);rw[mf,VO W_ c0 [c1] sz];have e:((sz:Int) - ((1:Nat):Int)).toNat=sz - [c1].length:=by simp
      rw[e]
   ·rintro s11 ⟨H',m',kn',tn,F,D,hk',hfr,mf,mk,hkey,hc0⟩;have G:=D.good;refine xEA (G.ok .cd hp.hC) fun mv2 hcd2 hmv2=>?_;have hkn':HD (SZ c.w) H' (y_.ad .ck) kn':=G.ok .ck hp.hC;have hln:=hfr (ks,sz) (At _);rw[hlk]at hln;have hkl:=hk'.len;refine OF (Kv F mf (NH F hc0 (G.ci hp.hC) hcd2 rfl MQ rfl fun s12 P F=>Kv F mk (VB (knd:=SZ c.w) hroom (hkey.im F.keep.im) (HD.at2 (fun a e=>LK.im a e) hkn' (fun o e=>F.keep _ _ e) F.keep.im) hln ⟨tn,rfl⟩ (by exact n1 hkl) fun s13 M hm=>?_)));refine D.put (r0:=.ck) (st':=(St.s_cknown st_ (kn'++[((ks,sz),wy W_ ks sz)]))) F M hp.hC hm hm.al rfl fun H3 F D _ im3=>?_;refine Kt ⟨rfl,H3,_,_,F,D,hk'.snoc hln rfl hk2 (fun a ha=>by have:=hlt a ha;exact n32 this hz) hsz,fun k hlt'=>?_,?_,mk,hkey.im im3,KF hc0 im3⟩
    ·rw[R4 _ _ _ hln,if_neg (fun e=>by rw[e]at hlt';exact B3 _ hlt')];exact hfr k (B1 hlt')
    ·rw[R4 _ _ _ hln,if_pos rfl]
 ·rintro s9 ⟨H',m',kn',F,D,hk',hfr,hlk,mk,hkey,hc0⟩;have G:=D.good;refine xEA (G.ok .cd hp.hC) fun mv2 hcd2 hmv2=>?_;have hkn':HD (SZ c.w) H' (y_.ad .ck) kn':=G.ok .ck hp.hC;refine KS (Subscript_ (NH F hc0 (G.ci hp.hC) hcd2 rfl MQ rfl fun s10 P F=>Kv F mk (VT F hroom (hkey.im F.keep.im) (HD.at2 (fun a e=>LK.im a e) hkn' (fun o e=>F.keep _ _ e) F.keep.im) hlk fun s11 t11 P F=>?_)));refine D.msK F fun G' M'=>?_;exact kk _ _ kn' M' G' hk' hfr
end U40
theorem Tl{y st W}:U40.pP y st W:=@KB _ _ U40.fF U40.kK rfl U40.tT (y,st,W)
end
end
section
noncomputable def M5(st:St)(cm:Option (Nat×Nat×Nat))(kn:List ((List Nat×Nat)×Nat)):St:={st with cmark:=cm,cknown:=kn}
theorem Bas.ct{st:St}(b:Bas st)(cm:Option (Nat×Nat×Nat))(kn:List ((List Nat×Nat)×Nat)):Bas (M5 st cm kn):=
 {hn:=b.hn,up:=b.up,lots:=b.lots,abv:=b.abv,wts:=b.wts,dps:=b.dps,nums:=b.nums,low:=b.low,keys:=b.keys,lotz:=b.lotz,abvz:=b.abvz,mrgz:=b.mrgz,edgz:=b.edgz,forz:=b.forz,knoz:=b.knoz,chgz:=b.chgz,waiz:=b.waiz,mksz:=b.mksz,kids:=b.kids,gone:=b.gone,gonl:=b.gonl}
theorem Rt.ct{st:St}{W:Nat→Nat→Nat}(h:Rt st W)(cm:Option (Nat×Nat×Nat))(kn:List ((List Nat×Nat)×Nat)):Rt (M5 st cm kn) W:=
 ⟨h.bs.ct cm kn,h.hC,h.hmem,h.hW,h.hb⟩
noncomputable abbrev Ll(st:St):Option (Nat×Nat×Nat):=some (st.rows.length,st.edges,st.backs)
section
variable{A:Aq}{s:A4}{E Q:Value→A4→Prop}{y:Lay}{st:St}{s0:A4}{H:AE}{Z:List (Addr×Obj)}{L:Addr}{m:A9→Option Value}{env:Env}
theorem Tx(hp:Rt st W)(rm:Rm A (sz+9) (3*sz+170))(B:Bs s.heap)(G:KW y (M5 st cm kn) s.heap)(hcm:cm=Ll st→KT W kn)(hn:n<st.rows.length)(h1:1≤sz)(h5:sz≤5)(kk:∀s' t' y' kn',M6 y y'→Ms y (M5 st cm kn) y' (M5 st (Ll st) kn') s s'→KW y' (M5 st (Ll st) kn') s'.heap→KT W kn'→Q (.int (W (Ku st.up n) sz:Nat) t') s'):A8 (MD c.w) A (call (.ref 215) [.ref y.ci,.int n t,.int (sz:Nat) u]) Q E s:=by
 have rm:Rm A ((sz+8)+1) ((3*sz+167)+3):=rm;refine LG rfl ‹_› ‹_› rfl (Dw rfl) (by decide) rfl rfl rfl ?_;dsimp only[Bg,Bj,AV,AW,AF];intro A L s1 rm F;have D:=Gd.refl G;have hz:=hp.bs.hn;have hez:=hp.bs.edgz;have hup:=hp.bs.up;refine xEA (G.ok .cd hp.hC) fun mv hcd hmv=>?_;refine L8 (Ly Pw (Kv F rfl ⟨_,_,_,_,rfl,F,G.ci hp.hC,hcd,rfl,Kv F rfl ⟨F.In,Q8 (st:=M5 st cm kn) (rm.mono (by exact n11) (by simp)) (F.base.trans F.keep) (G.ext F.keep) hp.hC (by exact n1 h5) (by show st.rows.length≤_;exact n1 hz) (by show st.edges≤_;exact n1 hez) fun s2 y' hL M G'=>?_⟩⟩))
 obtain⟨kn1,e1,hk1⟩:∃kn1,Mh (M5 st cm kn)=M5 st (Ll st) kn1∧KT W kn1:=by
  by_cases e:cm=Ll st
  ·refine (yEA kn ?_ (hcm e));unfold Mh;rw[if_pos (show (M5 st cm kn).cmark=some ((M5 st cm kn).rows.length,(M5 st cm kn).edges,(M5 st cm kn).backs)from e),e]
  ·refine (yEA [] ?_ (KT.nil W));unfold Mh;rw[if_neg (show ¬(M5 st cm kn).cmark=some ((M5 st cm kn).rows.length,(M5 st cm kn).edges,(M5 st cm kn).backs)from e)]
   rfl
 rw[e1]at M G';refine D.callJ F M G' fun H2 F D _ _=>?_;have G:=D.good;refine xEA (G.ok .cd hp.hC) fun mv2 hcd2 hmv2=>?_;have hI:=G.ci hp.hC;have hlv:=G.lv;refine G.ldK fun t1 t2 hld=>?_;have mself:∀z,z=AN y.ci→z=.ref y'.ci:=fun z e=>by rw[e,hL.ci]
 refine KS (PC MB (Kv F (congrArg some (mself _ rfl)) ⟨_,_,_,_,rfl,F,hI,hcd2,rfl,UI (Ly Ma (L9 F (congrArg some (mself _ rfl)) hI hcd2 rfl M9 rfl fun s3 P F=>⟨_,_,_,_,rfl,F,hlv,hld,rfl,Kv F rfl ⟨F.In,Me (rm.mono (by exact n11) (by simp)) (F.base.trans F.keep) (G.ext F.keep) hp.bs.low (by show n<st.up.length;exact o5 hn hup) (by show st.up.length≤_;exact n2 hup hz) fun s4 t4 P4=>KA (F.pu P4) (by exact BL _) fun s5 q P5 F5 hq _=>Kv F5 rfl ⟨F5.In,?_⟩⟩⟩))⟩))
 refine Tl (hp.ct (Ll st) kn1) sz h5 (rm.mono (by exact n27) (by simp)) (F5.base.trans F5.keep) (G.ext F5.keep) hk1 hq (.cons ⟨t4,rfl⟩ .nil) (by exact BL _) (fun k hk=>by
  simp at hk;subst hk;exact hp.bs.rl hn) fun s6 t6 kn2 M G' hk2 _=>?_
 refine D.callJ F5 M G' fun H3 F D _ _=>?_;refine D.msK F fun G' M'=>?_;rw[O2 W _ h1];exact kk _ _ y' kn2 hL M' G' hk2
end
end
section
section
variable{A:Aq}{s:A4}{E Q:Value→A4→Prop}{y:Lay}{st:St}{s0:A4}{H:AE}{Z:List (Addr×Obj)}{L:Addr}{m:A9→Option Value}{env:Env}
theorem Tf(hm:SD c.w s.heap d f)(hv:f k=some v)(h:∀s',Pu s s'→Q v s')(hs:autoParam (Cn slice false (.ref d) (.str k u)=DW [.ref d,.str k u] (Cr (.ref d) (.str k u))) au3._auto_1):A8 (MD c.w) A (BQ value slice (.ref d) (.str k u)) Q E s:=by
 refine LY hm ?_;clear hm;intro kvs hm' hz hf;exact Dq hm'.mapOf.typeIs Dg.lookup (Jy (strKind_is PG c.w k u) hm'.mapOf ((hf k).trans hv) (h _ (Pu.tok _ _))) hs
theorem W2{Q:Unit→A4→Prop}(hm:SD w s.heap d f)(hk:f k=some v0)(h:∀s',Mt d s s'→SD w s'.heap d (fun j=>if j=k then some v else f j)→Q () s'):A8 (MD w) A (FU (.ref d) (.str k t) v) Q E s:=by
 refine LY hm ?_;clear hm;intro kvs hm hz hf;refine J3 (strKind_is PG w k t) hm (fun h' hm' hs=>h _ (Mt.mk' hs) (M1 _ hm' ?_ (fun j=>?_))) (by rw[AT];exact n1 hz)
 ·have hany:kvs.any (fun kv=>decide (kv.1=k))=true:=by
   have h1:=(hf k).trans hk;unfold CX at h1
   cases e:kvs.find? (fun kv=>decide (kv.1=k))with
   | none=>rw[e]at h1;exact nomatch h1
   | some kv=>
    rw[Gj];exact (yEA kv (Dn e) (by have:=GA (p:=fun kv:A9×Value=>decide (kv.1=k)) e;exact this))
  unfold Ij;rw[if_pos hany,AQ];exact hz
 ·rw[O4,hf]
theorem Sd(ad:Ro→Addr)(x v:Value):(fun z=>if z=("card" : A9)then some v else W8 ad x z)=W8 ad v:=ME [] _ _ _ _ (by intro p hp;exact absurd hp Ah)
theorem PN{a b:Nat}(hb:0<b):∃r,((a:Int).fmod (b:Int))=(r:Nat)∧r<b:=by
 refine (yEA (a % b) ?_ (ER _ hb));rw[Int.fmod_eq_emod_of_nonneg _ (by simp)];rfl
namespace U41
noncomputable def pP(A:Aq)(s:A4)(E Q:Value→A4→Prop)(y:Lay)(st:St)(mn:Nat)(t:Tok):Prop:=∀(rm:Rm A 1 60)(B:Bs s.heap)(G:KW y st s.heap)(hmn:0<mn)(hz:st.cells.length≤1000)(hcz:st.card≤100000)(kk:∀s' r t',r<mn→Ms y st y (St.s_card st (st.card+1)) s s'→KW y (St.s_card st (st.card+1)) s'.heap→Q (.int (r:Nat) t') s'),A8 (MD c.w) A (call (.ref 567) [.ref (y.ad .pack),.int (mn:Nat) t]) Q E s
noncomputable def fF:=unz fun A=>unz fun s=>unz fun E=>unz fun Q=>unz fun y=>unz fun st=>unz fun mn=>pP A s E Q y st mn
noncomputable def kK:=epz ({},{},default,default,OG,dSt,default) fF
noncomputable def A_:=kK.1
noncomputable def s_:=kK.2.1
noncomputable def Q_:=kK.2.2.2.1
noncomputable def y_:=kK.2.2.2.2.1
noncomputable def st_:=kK.2.2.2.2.2.1
noncomputable def mn_:=kK.2.2.2.2.2.2.1
theorem tT:pP A_ s_ kK.2.2.1 Q_ y_ st_ mn_ kK.2.2.2.2.2.2.2:=by
 intro rm B G hmn hz hcz kk;refine LG rfl ‹_› ‹_› rfl (Dw rfl) (by decide) rfl rfl rfl ?_;dsimp only[Bg,Bj,AV,AW,AF];intro A_ L s1 rm F;have D:=Gd.refl G;refine xE (G.ok .pack trivial) fun tc hpk=>?_;obtain⟨vc,hvc,hnc⟩:NL s_.heap (y_.ad .cells) st_.cells:=G.ok .cells trivial;refine Lw (Subscript_ (Kv F rfl (cS F fun s2 t2 P F=>Tf (hpk.at2 fun o e=>F.keep _ _ e) rfl fun s3 P=>L4 (F.pu P) fun s4 F=>?_)));refine OF (bop (Kv F rfl (cI F fun s5 t5 P F=>SW F fun s6 t6 P F=>Kv F rfl (cS F fun s7 t7 P F=>W2 (hpk.at2 fun o e=>F.keep _ _ e) rfl fun s8 M hsd=>?_))));rw[Sd]at hsd;refine D.put (r0:=.pack) (st':=(St.s_card st_ (st_.card+1))) F M trivial ⟨t6,hsd⟩ hsd.al rfl fun H1 F D _ _=>?_;have G:=D.good;refine xE (G.ok .pack trivial) fun tc2 hpk2=>?_;obtain⟨vc,hvc,hnc⟩:NL H1 (y_.ad .cells) st_.cells:=G.ok .cells trivial;have hnl:=hnc.1
 have fin:∀s' m' (r:Nat) tt,Fm s_ H1 [] L m' s'→r<mn_→Q_ (.int (r:Nat) tt) s':=fun s' m' r tt F hr=>by
  have D':=D;refine Gd.msK (s0:=s_) D' F fun G' M'=>?_;exact kk _ r tt hr M' G'
 refine L7 (wpAny_isTrue_Compare1 (Kv F rfl (KN F KL rfl (by decide) (sp1 (Subscript_ (Kv F rfl (cS F fun s9 t9 P F=>Tf (hpk2.at2 fun o e=>F.keep _ _ e) rfl fun s10 P=>Lj (F.pu P) (hvc.ext (F.pu P).keep) (by exact n2 hnl hz) fun s11 t11 P F=>lt_ (Ai ?_))))))))
 by_cases hlt:st_.card<st_.cells.length
 ·refine KC (by rw[hnl];simp;exact hlt) ?_;refine XJ (hnc.get (A7 hlt)) ?_;rintro v hv tv rfl;refine KS (bop (Subscript_ (Subscript_ (Kv F rfl (cS F fun s12 t12 P F=>Tf (hpk2.at2 fun o e=>F.keep _ _ e) rfl fun s13 P=>Kv (F.pu P) rfl (KI (hvc.ext (F.pu P).keep) (by exact n3) (by exact n5 hlt hz) (by simpa using hv) (Kv (F.pu P) rfl (Er (by exact o24 hmn) ?_))))))));refine xEA (PN (a:=st_.cells[st_.card]) hmn) fun r e hr=>?_;rw[e];exact fin _ _ r _ ((F.pu P).tok _) hr
 ·refine Ks (by rw[hnl];simp;exact o25 hlt) (Kt (Kw ?_));refine KS (bop (bop (bop (bop (cI F fun s12 t12 P F=>Kv F rfl (Gv ?_ (IntMulOk.of_left (intBits_le_64 (by decide) (by decide)))))))));have F:=F.tok (s12.toks+1);refine bop (Kv F rfl (cI F fun s13 t13 P F=>floordiv_int (by decide) ?_ (.inl (PyProof.noPylong_small (by decide)))));have F:=F.tok (s13.toks+1);refine SW F fun s14 t14 P F=>cI F fun s15 t15 P F=>SW F fun s16 t16 P F=>Kv F rfl (Er (by exact o24 hmn) ?_)
  have e0:(5*(st_.card:Int)+(st_.card:Int).fdiv 2+3)=((5*st_.card+st_.card / 2+3:Nat):Int):=by
   rw[Int.fdiv_eq_ediv_of_nonneg _ (by decide)];rfl
  rw[e0];refine xEA (PN (a:=5*st_.card+st_.card / 2+3) hmn) fun r e hr=>?_;rw[e];exact fin _ _ r _ (F.tok _) hr
end U41
theorem Um{A s E Q y st mn t}:U41.pP A s E Q y st mn t:=@KB _ _ U41.fF U41.kK rfl U41.tT (A,s,E,Q,y,st,mn,t)
end
end
section
noncomputable def UC(ta:Nat→Addr)(hm:List Nat):Int→Option Value:=fun k=>if 0≤k∧k.toNat∈hm then some (.ref (ta k.toNat))else none
noncomputable def MV(w:Bo)(h:AE)(d:Addr)(ta:Nat→Addr)(hm:List Nat)(T:Nat→List Nat):Prop:=ID w h d (UC ta hm)∧∀k∈hm,NL h (ta k) (T k)
theorem MV.ext{ta hm T}(x:MV w h d ta hm T)(e:Ext h h'):MV w h' d ta hm T:=⟨x.1.at2 fun o q=>e _ _ q,fun k hk=>(x.2 k hk).at2 fun o q=>e _ _ q⟩
noncomputable abbrev tW(T:Nat→List Nat):Nat→Nat→Nat:=fun k t=>(T k).getD t 0
section
variable{A:Aq}{s:A4}{E Q:Value→A4→Prop}{y:Lay}{st:St}{s0:A4}{H:AE}{Z:List (Addr×Obj)}{L:Addr}{m:A9→Option Value}{env:Env}
theorem Oh(ns:List Int):E7 (.tuple (ns.map Ec))=true:=by
 simp[E7,ET,FF,ke_canLayAll0,ke_depthAll]
theorem Tb(hu:A.units+64<cLine)(ha:Tpl s.heap a vs)(hv:LH vs ks)(hb:Tpl s.heap b [])(h:Q (.bool (decide (ks=[]))) s):A8 (MD c.w) A (CB .Eq (.ref a) (.ref b)) Q E s:=by
 have r1:=reads_newDataT ha.isTup (Jf hv.ints);have r2:=reads_newDataT (ys:=[]) (ds:=[]) hb.isTup .nil;refine eq_dataH r1 r2 (Oh _) (by simp[E7,ET,PyData.canLayAll0,FF,PyData.depthAll]) hu ?_
 have e:EC (.tuple ((ks.map Cw).map Ec)) (.tuple [])=decide (ks=[]):=by
  induction ks<;>rfl
 rw[e];exact h
theorem Ta(hT:∀k∈hm,(T k).length=6)(hTb:∀k∈hm,∀t,t≤5→(T k).getD t 0<2^60):∀(ks:List Nat),ks.length≤2→(∀k∈ks,k∈hm)→∀{A:Aq} {s:A4} {E Q:Value→A4→Prop} {r:Nat} {vs:List Value} {q:Addr} {t:Tok} (rm:Rm A (ks.length+1) (3*ks.length+100)) (B:Bs s.heap)
  (ht:MV c.w s.heap d ta hm T) (hq:Tpl s.heap q vs) (hv:LH vs ks) (hr:r≤5)
  (kk:∀s' t',Pu s s'→Q (.int (wy (tW T) ks r:Nat) t') s'),
  A8 (MD c.w) A (call (.ref 577) [.ref d,.ref q,.int (r:Nat) t]) Q E s:=by
 intro ks
 induction ks with
 | nil=>
  intro _ _ A s E Q r vs q t rm B ht hq hv hr kk;have rm:Rm A (0+1) (97+3):=rm.mono (by simp) (by simp);refine Mo rfl ‹_› ‹_› rfl rfl rfl rfl rfl ?_;intro A L H s1 rm BH F hC;refine xA (hC "table" (L+1) rfl) fun hc0 _=>?_;replace hc0:H.IsCell (L+1) (some (.ref d)):=hc0;refine xA (hC "kids" (L+2) rfl) fun hc1 _=>?_;replace hc1:H.IsCell (L+2) (some (.ref q)):=hc1;refine xA (hC "room" (L+3) rfl) fun hc2 _=>?_;replace hc2:H.IsCell (L+3) (some (.int (r:Nat) t)):=hc2;have hq:=hq.ext BH;have ht:=ht.ext BH;refine L7 (wpAny_isTrue_Compare1 (Ln F hc1 (HF (BR (KA F (by simp) fun s2 q2 P F hq2 _=>Tb (by have:=rm.u;rw[show cLine=9900 from rfl];exact n9 this) (hq.ext F.keep) hv hq2 (Ai (KC (by simp) ?_)))))));refine KS (LB F Xh rfl (by decide) (sp1 (FM (Ln F hc2 (cI F fun s3 t3 P F=>eq_ (call_int_bool ?_))))));have F:=F.tok (s3.toks+1)
  have e:(if ((r:Int) == 0)=true then (1:Int)else 0)=(wy (tW T) [] r:Nat):=by
   rw[wy];by_cases h0:r=0<;>simp[h0]
  rw[e];exact kk _ _ ⟨BH.trans F.keep,F.gens,F.os⟩
 | cons k ks ih=>
  intro hl hin A s E Q r vs q t rm B ht hq hv hr kk;have rm:Rm A ((ks.length+1)+1) ((3*ks.length+100)+3):=rm.mono (by simp) (by simp;exact At _);refine Mo rfl ‹_› ‹_› rfl rfl rfl rfl rfl ?_;intro A L H s1 rm BH F hC;refine xA (hC "table" (L+1) rfl) fun hc0 _=>?_;replace hc0:H.IsCell (L+1) (some (.ref d)):=hc0;refine xA (hC "kids" (L+2) rfl) fun hc1 _=>?_;replace hc1:H.IsCell (L+2) (some (.ref q)):=hc1;refine xA (hC "room" (L+3) rfl) fun hc2 _=>?_;replace hc2:H.IsCell (L+3) (some (.int (r:Nat) t)):=hc2;have hq:=hq.ext BH;have ht:=ht.ext BH;have hkm:=hin k (by exact Aj);have hvl:vs.length=ks.length+1:=hv.1;have hl':ks.length≤1:=by simp at hl;exact hl
  refine hv.unc' ?_;rintro v0 vr rfl ⟨tk,rfl⟩ hvr;refine L7 (wpAny_isTrue_Compare1 (Ln F hc1 (HF (BR (KA F (by simp) fun s2 q2 P F hq2 _=>Tb (by have:=rm.u;rw[show cLine=9900 from rfl];exact aq193 this) (hq.ext F.keep) hv hq2 (Ai (Ks (by rfl) (Kt (Kw ?_)))))))));refine KS (KN F Tw rfl (by decide) (sp1 (MJ (LB F LO rfl (by decide) (sp2 (cI F fun s3 t3 P F=>bop (bop (Ln F hc2 (KN F KL rfl (by decide) (sp1 (Ln F hc1 (R5 F (hq.ext F.keep) (by exact n8 hvl hl') fun s4 t4 P F=>Ti F fun s5 t5 P F=>cI F fun s6 t6 P F=>SW F fun s7 t7 P F7=>Tm fun s8 rg t8 P8 hrg=>?_))))))))))));have F:=F7.pu P8
  refine Lv (Src.range (a:=1) rm.h hrg (Pu.refl _) (by decide) (by lia) (by lia)) F (Pu.refl _) (fun p hp=>by exact absurd hp Ah) (by exact aq62 hvl hr)
   (I:=fun i ys H'=>H'=H∧LH ys ((Ap i).map fun j=>tW T k (j+1)*wy (tW T) ks (r - (j+1)))) ⟨rfl,.nil⟩ (fun C i ys v H' m' s9 Z' hi hlen Fi _ hP hI=>?_) (fun C D' ys H' s9 K hI hlen hD=>?_)
  ·refine xA hI ?_;clear hI;intro eH hI;subst eH;refine xE hP ?_;clear hP;rintro tv rfl;have hir:1+i≤r:=by exact aq13 hi hvl
   refine xEA (ht.2 k hkm) fun vt hvt hnt=>?_;have hlt:=hnt.1;rw[hT k hkm]at hlt;refine XJ (hnt.get (show (T k)[1+i]?=some ((T k).getD (1+i) 0) by rw[A6,A7 (by rw[hT k hkm];exact aq186 hir hr)];rfl)) ?_;rintro x hx tx rfl;have eK:UC ta hm (k:Int)=some (.ref (ta k)):=by unfold UC;rw[if_pos ⟨by exact n3,by simpa using hkm⟩];simp
   refine Aw (L4 Fi fun s10 F=>bop (Subscript_ (Subscript_ (Ln F hc0 (Subscript_ (Ln F hc1 (cI F fun s11 t11 P F=>Mg (k:=0) (hq.ext F.keep) (by decide) rfl (Mq (ht.1.at2 fun o e=>F.keep _ _ e) eK fun s12 P=>Kv (F.pu P) rfl (KI (hvt.ext (F.pu P).keep) (by exact o55) (by exact aq145 hir hr) (by rw[Dd];exact hx) ?_)))))))));have F:=F.pu P;refine Nj F TZ Ua (sp3 (Ln F hc0 (Subscript_ (Ln F hc1 (Lg (cI F fun s13 t13 P F s14 sl P14 hsl=>L6 (a:=1) (F.pu P14) (hq.ext (F.pu P14).keep) hsl (by decide) (by simp) (by exact n8 hvl hl') fun s15 b P F hb _=>bop (Ln F hc2 (Kv F rfl (Ti F fun s16 t16 P16 F16=>⟨F16.In,?_⟩)))))))));rw[show ((r:Int) - ((1+i:Nat):Int))=((r - (1+i):Nat):Int) by exact aq25 hir];refine ih (by exact n1 hl') (fun k hk=>hin k (by exact Ao _ ‹_›)) (rm.mono (by exact n27) (by exact At _)) (F16.base.trans F16.keep) (ht.ext F16.keep) (show Tpl s16.heap b vr from (show Tpl s15.heap b vr from hb).ext P16.ext) hvr (by exact o37 hr) fun s17 t17 P17=>YS (F16.pu P17) ?_ fun s18 t18 P F=>⟨H',_,F,rfl,?_⟩
   ·exact WT hl' (by decide) fun k' hk'=>hTb k' (hin k' (Ao _ hk')) _ (by exact aq32 hir hlen hr)
   ·rw[CD,B6];exact hI.snoc ⟨t18,by simp[tW,C1 1 i,A6]⟩
  ·refine xA hI ?_;clear hI;intro eH hI;subst eH;refine K.post fun s10 F hl10 _=>VS rm.h hl10 hI fun s11 t11 P=>?_
   have e:((r:Int) - ([BD (k:Nat) tk]++vr).length+2 - 1).toNat=r - ks.length:=by
    have:=hvr.1;simp;omega
   have F:=F.pu P;have e2:(((r:Int) - ((BD (k:Nat) tk::vr).length:Nat)+2) - ((1:Nat):Int)).toNat=r - ks.length:=by rw[hvl];exact aq1 hvl
   rw[e2,←wy];exact kk _ _ ⟨BH.trans F.keep,F.gens,F.os⟩
end
end
section
section
variable{A:Aq}{s s':A4}{E Q:Value→A4→Prop}{s0:A4}{H:AE}{Z:List (Addr×Obj)}{L:Addr}{m:A9→Option Value}{env:Env}
theorem TE(hu:A.units<cLine)(ha:Lst s.heap a xs)(hb:Lst s.heap b [])(h:Q (.bool (!xs.isEmpty)) s):A8 (MD c.w) A (CB .NotEq (.ref a) (.ref b)) Q E s:=by
 have hTa:=ha.isList.typeIs;have hTb:=hb.isList.typeIs;refine xE ha ?_;clear ha;intro n ha;refine xE hb ?_;clear hb;intro n2 hb;refine Hs (op:=.NotEq) hTa hTb EQ ?_ hu
 induction xs with
 | nil=>exact Ji EQ hTa Hl (GW _ _) (SeqAt.list_neAt a b _ _ n n2 _ _ _ _ rfl (fun _=>true)) (UE ha hb (fun j h1=>by simp at h1) (fun e=>nomatch e) ‹_›)
 | cons x xs=>exact Ji EQ hTa Hl (GW _ _) (SeqAt.list_ne_lengthsAt a b _ _ n n2 _ _ _ _ (by rfl)) (QE ha hb (fun e=>nomatch e) h)
theorem Xj{r:Addr}{n:Nat}{t u t3:Tok}(hh:A.handled=none)(F:Fm s0 H Z L m s)(hr:Jt s.heap r (0:Int) (n:Int) 1 t u t3)(hn:n≤10000)(h:∀s' a,Pu s s'→Fm s0 H Z L m s'→NL s'.heap a (Ap n)→s.heap.get? a=none→Q (.ref a) s'):A8 (MD c.w) A (call (.type "list") [.ref r]) Q E s:=by
 refine call_list_range (n:=n) hh hr (Mv (by decide) (by decide) (by lia) (by exact n16 hn)) (by rw[I0];split<;>lia) (by exact A0 ‹_› (by decide)) fun h' tk acc' c' k e hi=>?_;have p:Pu s {s with heap:=h',toks:=tk}:=⟨k,rfl,rfl⟩;refine h _ _ p (F.pu p) (M1 acc'.toList ⟨c',by assumption⟩ ?_ (fun i v x hv hx=>?_)) (KM _)
 ·have:=hi.1;simp[this]
 ·refine xE (Af.mp hx) fun hl he=>?_;rw[List.getElem_range]at he;subst he;simp at hl;rw[AC]at hv;refine xE (hi.2 i v hv) fun t' e'=>?_;exact⟨t',by rw[e'];simp⟩
noncomputable def NC(H H':AE):Prop:=∀b o,Li o=true→H.get? b=some o→H'.get? b=some o
theorem Fm.cell(F:Fm s0 H Z L m s)(hz:ZN Z)(hc:H.IsCell a v)(h0:c.H0.get? a=none)(hcell:h'.IsCell a (some v'))(hs:BZ a s.heap h'):∃H',Fm s0 H' Z L m {s with heap:=h' }∧H'.IsCell a (some v')∧NC H H'∧(∀b w,b≠a→H.IsCell b w→H'.IsCell b w)∧(∀b,b≠a→H'.get? b=H.get? b):=by
 refine xEA hc ?_;clear hc;intro o ho hd;refine xEA hcell ?_;clear hcell;intro o' e' d';have hL:a≠L:=fun q=>by exact noo q F.noL ho
 have hZ:∀p∈Z,p.1≠a:=fun p hp q=>by
  have h1:=(F.zs p hp).1;have h2:=F.keep _ _ ho;rw[q,h2]at h1;obtain rfl:=Ag h1;have:=hz p hp;unfold Li at this;rw[hd]at this;exact nomatch this
 have hfr:o'.isFreed=false:=(Heap.get?_some_iff.mp e').2;have es:(H.update a fun _=>o').get? a=some o':=Bl _ ho hfr;have en:∀b,b≠a→(H.update a fun _=>o').get? b=H.get? b:=fun b hb=>Ea _ _ _ _ hb;have up:∀b o,b≠a→H.get? b=some o→(H.update a fun _=>o').get? b=some o:=fun b o n e=>(en b n).trans e;refine (XG (H.update a fun _=>o') ⟨⟨F.base.ne,fun b o e=>up b o (fun q=>noo q h0 e) (F.base.ext _ _ e)⟩,fun b ob e=>?_,(en L (B9 hL)).trans F.noL,?_,fun p hp=>?_,F.gens,F.os⟩ (yEA o' es d') (fun b ob hn e=>up b ob (fun q=>?_) e) (fun b w hb ⟨ob,e,d⟩=>(yEA ob (up b ob hb e) d)) en)
 ·by_cases q:b=a
  ·subst q;rw[es]at e;obtain rfl:=Ag e;exact e'
  ·rw[en b q]at e;exact (hs.2 b q).trans (F.keep _ _ e)
 ·refine T3 F.ns fun oL es' ep e r=>?_;exact (RZ oL es' ep ((hs.2 L (B9 hL)).trans e) r)
 ·refine xAA (F.zs p hp) fun x b d=>?_;exact (yAA ((hs.2 _ (hZ p hp)).trans x) b (fun hm=>(en _ (hZ p hp)).trans (d hm)))
 ·rw[q,ho]at e;obtain rfl:=Ag e;unfold Li at hn;rw[hd]at hn;exact nomatch hn
theorem UP{Q:Unit→A4→Prop}(F:Fm s0 H Z L m s)(hz:ZN Z)(hc:H.IsCell a w)(h0:c.H0.get? a=none)(h:∀s' H',Fm s0 H' Z L m s'→H'.IsCell a (some v)→NC H H'→(∀b w,b≠a→H.IsCell b w→H'.IsCell b w)→(∀b,b≠a→H'.get? b=H.get? b)→Q () s')(hk:autoParam (env.scope.kind=.function) au1._auto_1)(hl:autoParam (env.kindOf x=some .cell) au1._auto_1)(hcc:autoParam (env.cells.lookup x=some a) au1._auto_1):A8 (MD c.w) A (Cq env x v) Q E s:=
 wpAny_storeName_cell hk hl hcc (hc.keeps F.keep) fun h' hc' hs=>by
  refine VL (F.cell hz hc h0 hc' hs) fun H' F' a1 a2 a3 a4=>?_;exact h _ H' F' a1 a2 a3 a4
end
end
section
set_option linter.unusedSectionVars false
section
variable{O:Type}[DecidableEq O]
noncomputable def cno(f:Nat→Nat)(r:O×List Nat):O×List Nat:=(r.1,r.2.map f)
structure Lf(rows:List (O×List Nat))(pairs:List (Nat×Nat))(g:Nat→Nat):Prop where
 pairs:∀p∈pairs,g p.1=g p.2
 cong:∀(i j:Nat) r q,rows[i]?=some r→rows[j]?=some q→cno g r=cno g q→g i=g j
noncomputable def Uz(rows:List (O×List Nat))(pairs:List (Nat×Nat))(f:Nat→Nat):Prop:=∀g,Lf rows pairs g→∀x,g (f x)=g x
theorem Qr{rows:List (O×List Nat)}(sf:Uz rows pairs f)(sh:Uz rows pairs h)(cf:Lf rows pairs f)(ch:Lf rows pairs h)(lf:∀x,f x≤x)(lh:∀x,h x≤x):f=h:=by
 funext x
 have h1:=sf h ch x;have h2:=sh f cf x;have h3:=lh (f x);have h4:=lf (h x);exact aq173 h1 h2 h3 h4
theorem Ul(h:∀x,g (f x)=g x){r q:O×List Nat}(e:cno f r=cno f q):cno g r=cno g q:=by
 unfold cno at e ⊢;refine xA (Prod.mk.inj e) fun e1 e2=>?_
 have key:∀l:List Nat,l.map g=(l.map f).map g:=fun l=>by
  rw[Dj];exact AZ fun x _=>(h x).symm
 rw[e1,key r.2,key q.2,e2]
theorem S6{rows:List (O×List Nat)}(sf:Uz rows pairs f){r q:O×List Nat}(hr:rows[i]?=some r)(hq:rows[j]?=some q)(e:cno f r=cno f q)(g:Nat→Nat)(hg:Lf rows pairs g):g i=g j:=
 hg.cong i j r q hr hq (Ul (sf g hg) e)
noncomputable def lab(hs:List Nat)(x:Nat):Nat:=hs.getD x x
theorem TM(h:hs[x]?=some v):lab hs x=v:=by unfold lab;rw[A6,h];rfl
theorem R6(h:hs.length≤x):lab hs x=x:=by unfold lab;rw[A6,AI h];rfl
theorem LV(h:x<hs.length):hs[x]?=some (lab hs x):=by unfold lab;rw[A6,A7 h];rfl
noncomputable def Mc(hs:List Nat)(lo hi:Nat):List Nat:=hs.map fun h=>if h=hi then lo else h
theorem Vx{l:List Nat}{f:Nat→Nat}(h:∀x∈l,f x≤x):(l.map f).sum≤l.sum:=by
 induction l with
 | nil=>exact Bi _
 | cons a l ih=>
  rw[Cu,Cf,Cf];have:=h a Aj;have:=ih fun x hx=>h x (Ao _ hx);exact aq66 ‹_› this
theorem WY{l:List Nat}{f:Nat→Nat}(h:∀x∈l,f x≤x){a:Nat}(ha:a∈l)(hl:f a<a):(l.map f).sum<l.sum:=by
 induction l with
 | nil=>exact absurd ha Ah
 | cons b l ih=>
  rw[Cu,Cf,Cf];have h1:=h b Aj;have h2:=Vx fun x hx=>h x (Ao _ hx);rcases As.mp ha with rfl | ha
  ·exact aq131 hl h2 h1
  ·have:=ih (fun x hx=>h x (Ao _ hx)) ha;exact aq147 this h1
structure Vu(rows:List (O×List Nat))(pairs:List (Nat×Nat))(hs:List Nat):Prop where
 len:hs.length=rows.length
 le:∀x,lab hs x≤x
 snd:Uz rows pairs (lab hs)
theorem Vu.range(rows:List (O×List Nat))(pairs:List (Nat×Nat)):Vu rows pairs (Ap rows.length)∧∀x,lab (Ap rows.length) x=x:=by
 have e:∀x,lab (Ap rows.length) x=x:=fun x=>by
  rcases B8 x rows.length with h | h
  ·exact TM (CS h)
  ·exact R6 (by simpa using h)
 exact⟨⟨by simp,fun x=>by rw[e];exact At _,fun g _ x=>by rw[e]⟩,e⟩
theorem TL{rows:List (O×List Nat)}(h:Vu rows pairs hs)(ha:a<rows.length)(hb:b<rows.length):∀x,lab (Mc hs (min (lab hs a) (lab hs b)) (max (lab hs a) (lab hs b))) x=if lab hs x=max (lab hs a) (lab hs b)then min (lab hs a) (lab hs b)else lab hs x:=by
 intro x;have h1:=h.le a;have h2:=h.le b;rcases B8 x hs.length with q | q
 ·refine TM ?_;unfold Mc;rw[B4,LV q];rfl
 ·have e1:lab (Mc hs (min (lab hs a) (lab hs b)) (max (lab hs a) (lab hs b))) x=x:=R6 (by unfold Mc;simpa using q);rw[e1,R6 q,if_neg];have:=h.len;exact aq45 ha hb this h1 h2 q
namespace U42
noncomputable def pP(pairs:List (Nat×Nat))(hs:List Nat)(a b:Nat):Prop:=∀{O:Type}[DecidableEq O]{rows:List (O×List Nat)}(h:Vu rows pairs hs)(ha:a<rows.length)(hb:b<rows.length)(hab:∀g,Lf rows pairs g→g a=g b),Vu rows pairs (Mc hs (min (lab hs a) (lab hs b)) (max (lab hs a) (lab hs b)))∧
  lab (Mc hs (min (lab hs a) (lab hs b)) (max (lab hs a) (lab hs b))) a=lab (Mc hs (min (lab hs a) (lab hs b)) (max (lab hs a) (lab hs b))) b∧
  (∀x z,lab hs x=lab hs z→lab (Mc hs (min (lab hs a) (lab hs b)) (max (lab hs a) (lab hs b))) x=lab (Mc hs (min (lab hs a) (lab hs b)) (max (lab hs a) (lab hs b))) z)∧
  (Mc hs (min (lab hs a) (lab hs b)) (max (lab hs a) (lab hs b))).sum≤hs.sum∧
  (lab hs a≠lab hs b→(Mc hs (min (lab hs a) (lab hs b)) (max (lab hs a) (lab hs b))).sum<hs.sum)
noncomputable def fF:=unz fun pairs=>unz fun hs=>unz fun a=>pP pairs hs a
noncomputable def kK:=epz default fF
noncomputable def hs_:=kK.2.1
noncomputable def a_:=kK.2.2.1
noncomputable def b_:=kK.2.2.2
theorem tT:pP kK.1 hs_ a_ b_:=by
 intro O _ rows h ha hb hab;have e:=TL h ha hb;have hlen:=h.len
 have hle:∀x∈hs_,(if x=max (lab hs_ a_) (lab hs_ b_)then min (lab hs_ a_) (lab hs_ b_)else x)≤x:=fun x _=>by
  split<;>lia
 refine (UE ⟨by unfold Mc;simpa using h.len,fun x=>?_,fun g hg x=>?_⟩ ?_ (fun x z q=>?_) (Vx hle) (fun hne=>?_))
 ·rw[e];have:=h.le x;split<;>lia
 ·rw[e];have hx:=h.snd g hg x;have h1:=h.snd g hg a_;have h2:=h.snd g hg b_;have h3:=hab g hg;split
  ·rename_i q;rw[←hx,q];rcases BI (lab hs_ a_) (lab hs_ b_)with r | r
   ·rw[Bh r,BB r,h1,h2,h3]
   ·rw[BK r,BJ r,h1,h2,h3]
  ·exact hx
 ·rw[e,e];split<;>split<;>lia
 ·rw[e,e,q]
 ·have hm:max (lab hs_ a_) (lab hs_ b_)∈hs_:=by
   rcases BI (lab hs_ a_) (lab hs_ b_)with r | r
   ·rw[BB r];exact Av (LV (by exact o5 hb hlen))
   ·rw[BJ r];exact Av (LV (by exact o5 ha hlen))
  refine WY hle hm ?_;rw[if_pos rfl];exact o29 hne
end U42
theorem Vu.merge{pairs hs a b}:U42.pP pairs hs a b:=@KB _ _ U42.fF U42.kK rfl U42.tT (pairs,hs,a,b)
structure Met(rows:List (O×List Nat))(f:Nat→Nat)(i:Nat)(ps:List ((O×List Nat)×Nat))(wish:List (Nat×Nat)):Prop where
 all:∀j,j<i→∀r,rows[j]?=some r→∃m,lk ps (cno f r)=some m∧(f m=f j∨(m,j)∈wish)
 val:∀key m,lk ps key=some m→m<i∧∃r,rows[m]?=some r∧cno f r=key
 wis:∀p∈wish,p.1<i∧p.2<i∧f p.1≠f p.2∧∃r q,rows[p.1]?=some r∧rows[p.2]?=some q∧cno f r=cno f q
theorem Met.nil(rows:List (O×List Nat))(f:Nat→Nat):Met rows f 0 [] []:=⟨fun j h=>by trivial,fun key m h=>by contradiction,fun p h=>by exact absurd h Ah⟩
theorem NX{K:Type}[DecidableEq K](ps:List (K×Nat))(k:K)(n:Nat)(h:lk ps k=none)(j:K):lk (ps++[(k,n)]) j=if j=k then some n else lk ps j:=by
 rw[Qo]
 by_cases e:j=k
 ·subst e;rw[h,if_pos rfl];simp[lk]
 ·rw[if_neg e];have:lk [(k,n)] j=none:=by unfold lk;simp;exact fun q=>e q.symm
  rw[this];simp
theorem Met.fresh{rows:List (O×List Nat)}{ps:List ((O×List Nat)×Nat)}(M:Met rows f i ps wish){r:O×List Nat}(hr:rows[i]?=some r)(hn:lk ps (cno f r)=none):Met rows f (i+1) (ps++[(cno f r,i)]) wish:=by
 refine⟨fun j hj q hq=>?_,fun key m h=>?_,fun p hp=>?_⟩
 ·rcases EB.mp hj with hj | rfl
  ·refine xEA (M.all j hj q hq) fun m h1 h2=>?_;refine (yEA m ?_ h2);rw[NX _ _ _ hn,if_neg (fun e=>noo e hn h1)];exact h1
  ·rw[hr]at hq;obtain rfl:=Ag hq;exact (yEA j (by rw[NX _ _ _ hn,if_pos rfl]) (.inl rfl))
 ·rw[NX _ _ _ hn]at h;split at h
  ·rename_i e;obtain rfl:=Ag h;exact (YN (AS _) r hr e.symm)
  ·refine xA (M.val key m h) fun a b=>?_;exact⟨AA a,b⟩
 ·refine xAA (M.wis p hp) fun a b d=>?_;exact (yAA (AA a) (AA b) d)
theorem Met.again{rows:List (O×List Nat)}{ps:List ((O×List Nat)×Nat)}(M:Met rows f i ps wish){r:O×List Nat}(hr:rows[i]?=some r)(hm:lk ps (cno f r)=some m):Met rows f (i+1) ps (if f m≠f i then wish++[(m,i)]else wish):=by
 have sub:∀p,p∈wish→p∈(if f m≠f i then wish++[(m,i)]else wish):=fun p hp=>by
  split
  ·exact AD _ hp
  ·exact hp
 refine⟨fun j hj q hq=>?_,fun key k h=>?_,fun p hp=>?_⟩
 ·rcases EB.mp hj with hj | rfl
  ·refine xEA (M.all j hj q hq) fun k h1 h2=>?_;exact (yEA k h1 (h2.imp id fun h=>sub _ h))
  ·rw[hr]at hq;obtain rfl:=Ag hq;refine (yEA m hm ?_)
   by_cases e:f m=f j
   ·exact .inl e
   ·right;rw[if_pos e];simp
 ·refine xA (M.val key k h) fun a b=>?_;exact⟨AA a,b⟩
 ·by_cases e:f m=f i
  ·rw[if_neg (fun h=>h e)]at hp;refine xAA (M.wis p hp) fun a b d=>?_;exact (yAA (AA a) (AA b) d)
  ·rw[if_pos e]at hp;rcases Am.mp hp with hp | hp
   ·refine xAA (M.wis p hp) fun a b d=>?_;exact (yAA (AA a) (AA b) d)
   ·rw[Ab]at hp;subst hp;refine YP (M.val _ _ hm) fun a q hq eq=>?_;exact⟨AA a,AS _,e,q,r,hq,hr,eq⟩
theorem Met.closed{rows:List (O×List Nat)}{ps:List ((O×List Nat)×Nat)}(M:Met rows f rows.length ps [])(i j:Nat)(r q:O×List Nat)(hr:rows[i]?=some r)(hq:rows[j]?=some q)(e:cno f r=cno f q):f i=f j:=by
 refine xEA (M.all i (Af.mp hr).1 r hr) fun m h1 h2=>?_;refine xEA (M.all j (Af.mp hq).1 q hq) fun m' h3 h4=>?_;rw[e,h3]at h1;obtain rfl:=Ag h1;rcases h2 with h2 | h2
 ·rcases h4 with h4 | h4
  ·exact h2.symm.trans h4
  ·exact absurd h4 Ah
 ·exact absurd h2 Ah
structure Rv(rows:List (O×List Nat))(pairs:List (Nat×Nat))(hs:List Nat):Prop where
 inv:Vu rows pairs hs
 closed:Lf rows pairs (lab hs)
end
end
section
section
variable{A:Aq}{s s' sb:A4}{E Q:Value→A4→Prop}{s0:A4}{H:AE}{Z:List (Addr×Obj)}{L:Addr}{m:A9→Option Value}{env:Env}
theorem Oo{target:Expr}{body:List Stmt}{v:Value}{n:Nat}{P:Nat→Value→AE→Prop}{lo:List (Addr×Obj)}{R:DB→A4→Prop}(S:Src A target v n P lo sb s)(Fb:Fm s0 H Z L m sb)(p:Pu sb s)(I:Nat→AE→(A9→Option Value)→Prop)(hlo:∀i H m,I i H m→∀p∈lo,H.get? p.1=some p.2)(h0:I 0 H m)(turn:∀i v H m s Z',i<n→(ZN Z→ZN Z')→Fm s0 H Z' L m s→P i v s.heap→I i H m→
   A8 (MD c.w) A (Dx target env v) (exK body NoE (foK s0 Z' L (I (i+1)) R) env A) NoE s)(done:∀H m s,Fm s0 H Z L m s→I n H m→R .next s):A8 (MD c.w) A (Dr v) (itK target body E R env A) E s:=
 S _ _ fun s' it p' X=>by
 refine T5 X ?_;clear X;intro fp wr Md St Y W live hfp hlo' hY hself hst hwr
 have Fz:Fm s0 H (Y++Z) L m s':=by
  have F:=(Fb.pu p).pu p';refine⟨F.base,F.keep,F.noL,F.ns,fun z hz=>?_,F.gens,F.os⟩;rcases Am.mp hz with hz | hz
  ·refine xAA (hY z hz) fun a b _=>?_;exact (yAA a ((F.imm_apart a b).1) (fun q=>by rw[b]at q;exact nomatch q))
  ·exact F.zs z hz
 have wrY:∀b∈wr,∀z∈Y++Z,z.1≠b:=fun b hb z hz=>by
  rcases Am.mp hz with hz | hz
  ·exact fun q=>hlo' z (AL _ hz) (q▸hb)
  ·exact (Fb.apart (hwr b hb).1).2.2 z hz
 have loY:∀s H m i,Fm s0 H (Y++Z) L m s→I i H m→∀p∈lo++Y,s.heap.get? p.1=some p.2:=fun s H m i F hI p hp=>by
  rcases Am.mp hp with hp | hp
  ·exact F.keep _ _ (hlo _ _ _ hI p hp)
  ·exact (F.zs p (AD _ hp)).1
 refine PL W live (lo++Y) hfp hlo' I (fun i v H m s Zi hi F hl hZi hP hI=>?_) (fun H m s F hI _=>done H m s (F.less fun p hp=>AL _ hp) hI) Fz (fun b hb=>(yAA ((Fb.apart (hwr b hb).1).1) ((Fb.apart (hwr b hb).1).2.1) (wrY b hb))) hst (loY _ _ _ _ Fz h0) h0
 refine Al (turn i v H m s _ hi (fun n2 p hp=>by
   rcases Am.mp hp with hp | hp
   ·exact (hZi p hp).2
   ·rcases Am.mp hp with hp | hp
    ·exact (hY p hp).2.2
    ·exact n2 p hp) F hP hI) (fun _ s2 h2=>Al h2 (fun f s3 h3=>?_) fun _ _ e=>e) fun _ _ e=>e
 have fin:TuK s0 (Zi++(Y++Z)) L (I (i+1)) s3→Ow s0 Zi (Y++Z) L (lo++Y) (I (i+1)) s3:=fun⟨H',m',F',hI'⟩=>
  (MN H' m' F' hI' (loY _ _ _ _ (F'.less fun p hp=>AL _ hp) hI'))
 induction f with
 | ret v=>exact h3
 | brk=>exact h3
 | cont=>exact fin h3
 | next=>exact fin h3
theorem Vp{Q:Unit→A4→Prop}(hh:A.handled=none)(F:Fm s0 H Z L m s)(ht:s.heap.IsTuple T #[u,w])(h:∀s',Fm s0 H Z L (upd (upd m x u) z w) s'→Q () s')(hk:autoParam (env.scope.kind=.function) au1._auto_1)(h1:autoParam (env.kindOf x=some .local) au1._auto_1)(h2:autoParam (env.kindOf z=some .local) au1._auto_1)(hL:autoParam (env.locals=L) au1._auto_1):A8 (MD c.w) A (Dx (.Tuple [.Name x px,.Name z pz] k tp) env (.ref T)) Q E s:=by
 refine wpAny_assign_Tuple hh ht rfl rfl fun h₁ he₁=>?_;have p:Pu s {s with heap:=h₁}:=⟨fun b o e=>he₁ b o (Az (AM e)) e,rfl,rfl⟩;show A8 _ _ (Eb [Dx (.Name x px) env,Dx (.Name z pz) env] [u,w]) _ _ _;refine Bq (Aw (L4 (F.pu p) (fun s2 F=>?_) hk h1 hL));refine Bq (Aw (L4 F (fun s3 F=>?_) hk h2 hL));exact EJ (h _ F)
theorem Tpl.isT2(x:Tpl h a [u,w]):h.IsTuple a #[u,w]:=xE x fun n e=>(QB _ e rfl n rfl)
theorem Xs{x z:A9}{px pz tp pos:Pos}{k:Nat}{value:Expr}{rest:List Stmt}{Q:DB→A4→Prop}(h:A8 (MD c.w) A (AJ value env) (fun v s₁=>∃a u w,v=.ref a∧Tpl s₁.heap a [u,w]∧∃s0 H Z L m,Fm s0 H Z L m s₁∧∀s₂,Pu s₁ s₂→A8 (MD c.w) A (Cq env z w) (fun _ s₃=>A8 (MD c.w) A (Cq env x u) (fun _ s₄=>A8 (MD c.w) A (execs rest env) Q E s₄) E s₃) E s₂) E s)(hh:A.handled=none)(hs:autoParam (swapsWithSole [.Tuple [.Name x px,.Name z pz] k tp] value pos.line env=pure false) au1._auto_1)(hw:autoParam (swappedStores [.Tuple [.Name x px,.Name z pz] k tp] value env=pure (some [x,z])) au1._auto_1):A8 (MD c.w) A (execs (.Assign [.Tuple [.Name x px,.Name z pz] k tp] value pos::rest) env) Q E s:=by
 refine LW (Assign_Tuple_swapped (names:=[x,z]) (Al h (fun v s₁ h₁=>?_) fun _ _ x=>x) hs hw);refine UF h₁ ?_;clear h₁;rintro a u w rfl ht s0 H Z L m F hq;refine (show A8 (MD c.w) A (BX (.ref a) 2 none) _ _ _ from KR (vs:=[u,w]) hh F ht fun s₂ P _=>?_);show A8 _ _ (Eb [bindName env z,bindName env x] [w,u]) _ _ _;refine Bq (bindName_ (Al (hq s₂ P) (fun _ s₃ h₃=>?_) fun _ _ e=>e));refine Bq (bindName_ (Al h₃ (fun _ s₄ h₄=>?_) fun _ _ e=>e));exact EJ h₄
theorem Lst.nc(x:Lst H a vs)(n:NC H H'):Lst H' a vs:=xE x fun k e=>⟨k,n _ _ rfl e⟩
theorem NL.nc(x:NL H a ns)(n:NC H H'):NL H' a ns:=xEA x fun vs e r=>(yEA vs (e.nc n) r)
theorem Tpl.nc(x:Tpl H a vs)(n:NC H H'):Tpl H' a vs:=xE x fun k e=>⟨k,n _ _ rfl e⟩
theorem NI.nc(x:NI H v p)(n:NC H H'):NI H' v p:=O1 x fun a b d e t r=>(PX a b d e (t.nc n) r)
end
end
section
section
variable{A:Aq}{s s' sb:A4}{E Q:Value→A4→Prop}{s0:A4}{H:AE}{Z:List (Addr×Obj)}{L:Addr}{m:A9→Option Value}{env:Env}
theorem Rr(L:Addr):(L+2:Addr)≠L+1:=Dm _
theorem Wz(L:Addr):(L+3:Addr)≠L+1:=Cs (AA (AS (L+1)))
theorem Xx(L:Addr):(L+3:Addr)≠L+2:=Dm _
structure HmJ(s:A4)(L:Addr)(rows:List Row)(prs:List (Nat×Nat))(H:AE)(hs:List Nat)(ha:Addr):Prop where
 hE:Ext s.heap H
 hc:H.IsCell (L+1) (some (.ref ha))
 lo:∃w,H.IsCell (L+2) w
 hi:∃w,H.IsCell (L+3) w
 nl:NL H ha hs
 inv:Vu rows prs hs
structure Lx(h:AE)(ra:Addr)(vr:List Value)(rows:List Row):Prop where
 l:Lst h ra vr
 v:KJ (PT h) vr rows
theorem Lx.ext{ra vr rows}(x:Lx h ra vr rows)(e:Ext h h'):Lx h' ra vr rows:=⟨x.l.ext e,Lo x.v e.im⟩
structure Lb(h:AE)(pa:Addr)(vp:List Value)(prs:List (Nat×Nat)):Prop where
 l:Lst h pa vp
 v:KJ (NI h) vp prs
theorem Lb.ext{pa vp prs}(x:Lb h pa vp prs)(e:Ext h h'):Lb h' pa vp prs:=⟨x.l.ext e,x.v.mono fun _ _ q=>q.im e.im⟩
theorem Fm.mtx(F:Fm s0 H Z L m s)(M:Mt l s s')(hl:H.get? l=some o)(hm:L3 o=true)(h0:c.H0.get? l=none):∃H',Fm s0 H' Z L m s'∧But l H H'∧Im H H'∧(∀o',s'.heap.get? l=some o'→H'.get? l=some o')∧(∀b o',L3 o'=false→s'.heap.get? b=some o'→H'.get? b=some o'):=by
 refine LY (F.mt M hl hm h0) fun H' F' b1 b2=>?_;have hL:l≠L:=fun q=>by exact noo q F.noL hl
 have hZ:∀p∈Z,L3 p.2=true→p.1≠l:=fun p hp hm q=>by rw[←q,(F.zs p hp).2.2 hm]at hl;exact nomatch hl
 refine (XG H' F' b1 (fun b o' hm' e=>b1 b o' (fun q=>by rw[q,hl]at e;obtain rfl:=Ag e;rw[hm]at hm';exact nomatch hm') e) (fun o' e=>b2 _ _ hL hZ e) (fun b o' hm' e=>?_));refine xA (F'.imm_apart e hm') fun a1 a2=>?_;exact b2 b o' a1 a2 e
theorem HmJ.but(J:HmJ s L rows prs H hs ha)(b:But l H H')(hf:s.heap.get? l=none)(hl:H.get? l=some o)(hn:Li o=true)(hne:l≠ha):HmJ s L rows prs H' hs ha:=by
 have cell:∀{a v},H.IsCell a v→H'.IsCell a v:=fun {a v} ⟨oc,e,d⟩=>(yEA oc (b a oc (fun q=>by
  rw[q,hl]at e;obtain rfl:=Ag e;unfold Li at hn;rw[d]at hn;exact nomatch hn) e) d)
 exact⟨fun a oa e=>b a oa (fun q=>noo q hf e) (J.hE _ _ e),cell J.hc,xE J.lo fun w h=>⟨w,cell h⟩,xE J.hi fun w h=>⟨w,cell h⟩,J.nl.at2 fun oa e=>b _ oa (B9 hne) e,J.inv⟩
theorem TB(x:Lst h a vs):∃o,h.get? a=some o∧L3 o=true∧Li o=true:=xE x fun n e=>(M1 _ e rfl rfl)
theorem TX{K:Type}[DecidableEq K]{knd:Cy PG w K}{ps}(x:HD knd h d ps):∃o,h.get? d=some o∧L3 o=true∧Li o=true∧∃es ep,o.data=.dict es ep:=by
 refine xEA x ?_;clear x;rintro xs ⟨o,es,ep,e,a1,a2,_⟩ _;exact⟨o,e,by unfold L3;rw[a2],by unfold Li;rw[a2],es,ep,a2⟩
namespace U43
noncomputable def pP(A:Aq)(s:A4)(E Q:Value→A4→Prop)(rows:List Row)(ra pa:Addr)(vr vp:List Value):Prop:=∀{prs:List (Nat×Nat)}(rm:Rm A 1 150)(B:Bs s.heap)(hr:Lx s.heap ra vr rows)(hp:Lb s.heap pa vp prs)(hn:rows.length≤13)(hk:∀(i:Nat) (r:Row),rows[i]?=some r→r.2.length≤2∧∀k∈r.2,k<rows.length)(hpl:∀p∈prs,p.1<rows.length∧p.2<rows.length)(hpz:prs.length≤100)(hnd:rows.Nodup)(kk:∀s' q hs,Pu s s'→NL s'.heap q hs→Rv rows prs hs→s.heap.get? q=none→Q (.ref q) s'),A8 (MD c.w) A (call (.ref 572) [.ref ra,.ref pa]) Q E s
noncomputable def fF:=unz fun A=>unz fun s=>unz fun E=>unz fun Q=>unz fun rows=>unz fun ra=>unz fun pa=>unz fun vr=>pP A s E Q rows ra pa vr
noncomputable def kK:=epz ({},{},default) fF
noncomputable def A_:=kK.1
noncomputable def s_:=kK.2.1
noncomputable def rows_:=kK.2.2.2.2.1
noncomputable def ra_:=kK.2.2.2.2.2.1
noncomputable def vp_:=kK.2.2.2.2.2.2.2.2
inductive Zx(prs:List (Nat×Nat))(L:Addr)(s':A4):Prop
 | mk(H':AE)(m':A9→Option Value)(ha:Addr)(hs:List Nat)(a1:Fm s_ H' [] L m' s')(a2:HmJ s_ L rows_ prs H' hs ha)(a3:s_.heap.get? ha=none)(a4:Lf rows_ prs (lab hs))
inductive Zw(prs:List (Nat×Nat))(L:Addr)(n:Nat)(s':A4):Prop
 | mk(H':AE)(m':A9→Option Value)(ha:Addr)(hs:List Nat)(wa:Addr)(vw:List Value)(wish:List (Nat×Nat))(first:Bool)(a1:Fm s_ H' [] L m' s')(a2:HmJ s_ L rows_ prs H' hs ha)(a3:s_.heap.get? ha=none)(a4:Lst H' wa vw)(a5:KJ (NI H') vw wish)(a6:m' "wish" = some (.ref wa))(a7:m' "rows" = some (.ref ra_))(a8:wish.length≤100)(a9:(∀p∈wish,p.1<rows_.length∧p.2<rows_.length∧∀g,Lf rows_ prs g→g p.1=g p.2))(a10:(first=true→wish=prs∧∀x,lab hs x=x))(a11:(first=false→(∀p∈prs,lab hs p.1=lab hs p.2)∧(∀p∈wish,lab hs p.1≠lab hs p.2)∧(wish=[]→∀(i j:Nat) r q,rows_[i]?=some r→rows_[j]?=some q→cno (lab hs) r=cno (lab hs) q→lab hs i=lab hs j)))(a12:n=hs.sum+if first then 1 else 0)
inductive Zv(prs:List (Nat×Nat))(L:Addr)(hs:List Nat)(wa:Addr)(vw:List Value)(wish:List (Nat×Nat))(first:Bool)(o_:Obj)(i:Nat)(H2:AE)(m2:A9→Option Value):Prop
 | mk(ha2:Addr)(hs2:List Nat)(a1:HmJ s_ L rows_ prs H2 hs2 ha2)(a2:s_.heap.get? ha2=none)(a3:H2.get? wa=some o_)(a4:KJ (NI H2) vw wish)(a5:m2 "rows" = some (.ref ra_))(a6:(∀j,j<i→∀p,wish[j]?=some p→lab hs2 p.1=lab hs2 p.2))(a7:(∀x z,lab hs x=lab hs z→lab hs2 x=lab hs2 z))(a8:hs2.sum≤hs.sum)(a9:(0<i→first=false→hs2.sum<hs.sum))(a10:(i=0→hs2=hs))
inductive Zu(prs:List (Nat×Nat))(L:Addr)(ha2:Addr)(hs2:List Nat)(d:Addr)(w2:Addr)(i:Nat)(H4:AE)(m4:A9→Option Value):Prop
 | mk(a1:HmJ s_ L rows_ prs H4 hs2 ha2)(ps:List (Row×Nat))(w:List (Nat×Nat))(vw2:List Value)(a2:HD (OB c.w) H4 d ps)(a3:Lst H4 w2 vw2)(a4:KJ (NI H4) vw2 w)(a5:Met rows_ (lab hs2) i ps w)(a6:w.length≤i)(a7:ps.length≤i)(a8:m4 "met" = some (.ref d))(a9:m4 "wish" = some (.ref w2))(a10:m4 "rows" = some (.ref ra_))
theorem tT:pP A_ s_ kK.2.2.1 kK.2.2.2.1 rows_ ra_ kK.2.2.2.2.2.2.1 kK.2.2.2.2.2.2.2.1 vp_:=by
 intro prs rm B hr hp hn hk hpl hpz hnd kk;refine Mo rfl ‹_› ‹_› rfl rfl rfl rfl rfl ?_;intro A_ L H s1 rm BH F hC;refine xA (hC "homes" (L+1) rfl) fun hc1 hf1=>?_;refine xA (hC "low" (L+2) rfl) fun hc2 hf2=>?_;refine xA (hC "high" (L+3) rfl) fun hc3 hf3=>?_
 have dead:∀b,s_.heap.get? b=none→c.H0.get? b=none:=fun b hb=>by
  exact Ky fun o e=>by rw[B.ext _ _ e]at hb;exact nomatch hb
 have hvl:=hr.v.1;have hpl2:=hp.v.1;have hr0:=hr.ext BH;have hp0:=hp.ext BH;refine Oq (PU (LB F QZ rfl (by decide) (sp1 (LB F LO rfl (by decide) (sp1 (KN F KL rfl (by decide) (sp1 (Kv F rfl (Lj F (hr0.l.ext F.keep) (by exact n2 hvl hn) fun s2 t2 P F=>UU fun s3 rg t3 t4 P3 hrg=>Xj rm.h (F.pu P3) hrg (by exact n2 hvl hn) fun s4 ha P4 F4 hha hna=>LB F4 QZ rfl (by decide) (sp1 (Kv F4 rfl (Xl F4 (hp0.l.ext F4.keep) (by exact n2 hpl2 hpz) fun s5 wa P5 F5 hwa hnw=>KA F5 (by simp) fun s6 q P6 F6 hq _=>?_))))))))))));rw[hvl]at hha
 have dha:H.get? ha=none:=by
  exact Ky fun o e=>by rw[((F.pu P3).keep) _ _ e]at hna;exact nomatch hna
 have P46:Pu s3 s6:=(P4.trans P5).trans P6;refine (F.pu P3).takeK P46 fun H2 hE2 F hnew him=>?_
 have hHa:NL H2 ha (Ap rows_.length):=by
  refine xEA hha ?_;clear hha;rintro vh ⟨nh,e⟩ hv;exact (yEA vh ⟨nh,hnew _ _ hna ((P5.trans P6).ext _ _ e)⟩ hv)
 have hWa:Lst H2 wa vp_:=by
  refine xE hwa ?_;clear hwa;intro nw e;refine⟨nw,hnew _ _ ?_ (P6.ext _ _ e)⟩;exact Ky fun o e=>by rw[P4.ext _ _ e]at hnw;exact nomatch hnw
 have hc1:=hc1.keeps hE2;have hc2:=hc2.keeps hE2;have hc3:=hc3.keeps hE2;have fH:Ext s_.heap H2:=BH.trans hE2
 have fha:s_.heap.get? ha=none:=by
  exact Ky fun o e=>by rw[BH _ _ e]at dha;exact nomatch dha
 refine xA (Vu.range rows_ prs) fun hi0 hid=>?_;refine (show A8 (MD c.w) A_ (BX (.ref q) 2 none) _ _ _ from KR (vs:=[AN ha,.ref wa]) rm.h F (show Tpl s6.heap q _ from hq) fun s7 P F=>VH (UP F (fun p hp=>by exact absurd hp Ah) hc1 (dead _ hf1) (fun s8 H3 F hc1 nc k3 kb=>L4 F fun s9 F=>?_) rfl rfl rfl));have hE3:Ext s_.heap H3:=fun b o e=>(kb b (fun q=>noo q hf1 e)).trans (fH _ _ e);have J:HmJ s_ L rows_ prs H3 (Ap rows_.length) ha:=⟨hE3,hc1,⟨_,k3 _ _ (Dm _) hc2⟩,⟨_,k3 _ _ (Wz L) hc3⟩,hHa.nc nc,hi0⟩;have hWa:=hWa.nc nc
 refine Nl (OK (P:=Zx prs L)
  (Zw prs L)
  (fun n s' hI=>?_) _ ⟨H3,_,ha,_,wa,vp_,prs,true,F,J,fha,hWa,(hp.ext hE3).v,rfl,rfl,hpz,fun p hp=>(yAA ((hpl p hp).1) ((hpl p hp).2) (fun g hg=>hg.pairs p hp)),fun _=>⟨rfl,hid⟩,(fun e=>by exact nomatch e),rfl⟩) ?_
 ·obtain⟨H',m',ha,hs,wa,vw,wish,first,F,J,fha,hWa,hWv,mw,mr,hwz,hws,hfst,hsnd,rfl⟩:=hI;refine wpAny_isTrue_Compare1 (Kv F mw (Qp F fun s10 e P F he _=>TE (by have:=rm.u;rw[show cLine=9900 from rfl];exact aq292 this) (hWa.ext F.keep) he (Ai ?_)));have hwl:=hWv.1
  by_cases hw0:wish=[]
  ·subst hw0;obtain rfl:vw=[]:=AX.mp hwl;refine Ks rfl ⟨H',m',ha,hs,F,J,fha,?_⟩
   induction first with
   | true=>
    refine xA (hfst rfl) fun e1 e2=>?_;subst e1;refine⟨(fun p hp=>by exact absurd hp Ah),fun i j r q hr hq e=>?_⟩;have e3:lab hs=id:=funext e2;rw[e3]at e;unfold cno at e;simp at e;have e4:r=q:=GN e.1 e.2;subst e4;refine xE (Af.mp hr) fun hi hri=>?_;refine xE (Af.mp hq) fun hj hrj=>?_;have:=(Gi (h₀:=hi) (h₁:=hj) hnd).mp (hri.trans hrj.symm);rw[this]
   | false=>
    refine xAA (hsnd rfl) fun e1 e2 e3=>?_;exact⟨e1,e3 rfl⟩
  ·refine KC (by induction vw with
    | nil=>exact absurd (AX.mp hwl.symm) hw0
    | cons _ _=>rfl) ?_
   refine xE hWa ?_;clear hWa;intro nw hWo;refine Mp (Kv F mw ?_)
   refine Oo (Src.list rm.h (F.keep _ _ hWo) (Pu.refl _)) F (Pu.refl _)
    (I:=Zv prs L hs wa vw wish first _)
    (fun i H2 m2 ⟨_,_,_,_,a,_,_,_,_,_,_,_⟩ p hp'=>by rw[Ab]at hp';subst hp';exact a) ⟨ha,hs,J,fha,hWo,hWv,mr,(fun j h=>by lia),(fun x z e=>e),At _,(fun h=>by trivial),fun _=>rfl⟩ (fun i v H2 m2 s11 Z' hi hZ Fi hP hI=>?_) (fun H2 m2 s11 Fi hI=>?_)
   ·obtain⟨ha2,hs2,J,fha2,hWo,hWv,mr,hdone,hmono,hsum,hlt,hz0⟩:=hI;have zn:ZN Z':=hZ (fun p hp=>by exact absurd hp Ah);refine VK (hWv.get' hP) ?_;rintro p hpi a x z rfl htp ⟨tx,rfl⟩ ⟨tz,rfl⟩;refine xAA (hws p (Av hpi)) fun hp1 hp2 hpg=>?_;refine xEA J.nl fun vh hvh hnh=>?_;have hhl:=hnh.1;have hlen:=J.inv.len;refine xEA (hnh.get (LV (by lia:p.1<hs2.length))) ?_;rintro v1 hv1 ⟨t1,rfl⟩;refine xEA (hnh.get (LV (by lia:p.2<hs2.length))) ?_;rintro v2 hv2 ⟨t2,rfl⟩;refine Vp rm.h Fi (htp.ext Fi.keep).isT2 fun s12 F=>?_;refine Oq (PU (KN F Xg rfl (by decide) (sp2 (Subscript_ (Ln F J.hc (Kv F rfl (KI (hvh.ext F.keep) (by exact n3) (by exact n5 hp1 hn) (by simpa using hv1) (Subscript_ (Ln F J.hc (Kv F rfl (KI (hvh.ext F.keep) (by exact n3) (by exact n5 hp2 hn) (by simpa using hv2) (Y8 rm.h fun s13 t13 P13=>?_))))))))))));have F:=F.pu P13;refine KN F Of rfl (by decide) (sp2 (Subscript_ (Ln F J.hc (Kv F rfl (KI (hvh.ext F.keep) (by exact n3) (by exact n5 hp1 hn) (by simpa using hv1) (Subscript_ (Ln F J.hc (Kv F rfl (KI (hvh.ext F.keep) (by exact n3) (by exact n5 hp2 hn) (by simpa using hv2) (Sq rm.h fun s14 t14 P14=>KA (F.pu P14) (by simp) fun s15 q P15 F hq _=>?_))))))))));refine xE J.lo fun w2 hl2=>?_;refine xE J.hi fun w3 hl3=>?_;refine (show A8 (MD c.w) A_ (BX (.ref q) 2 none) _ _ _ from KR (vs:=[BD ((min (lab hs2 p.1) (lab hs2 p.2):Nat):Int) t13,.int ((max (lab hs2 p.1) (lab hs2 p.2):Nat):Int) t14]) rm.h F hq fun s16 P F=>VH (UP F zn hl2 (dead _ hf2) (fun s17 H3 F hl2 nc2 k2 kb2=>UP F zn (k2 _ _ (Xx L) hl3) (dead _ hf3) (fun s18 H4 F hl3 nc3 k3 kb3=>?_) rfl rfl rfl) rfl rfl rfl));have hcc:=k3 _ _ (B9 (Wz L)) (k2 _ _ (B9 (Rr L)) J.hc);have hl2:=k3 _ _ (B9 (Xx L)) hl2;have hE4:Ext s_.heap H4:=fun b o e=>(kb3 b (fun q=>noo q hf3 e)).trans ((kb2 b (fun q=>noo q hf2 e)).trans (J.hE _ _ e));have nc4:NC H2 H4:=fun b o n e=>nc3 b o n (nc2 b o n e);have hvh4:=hvh.nc nc4;refine xE hvh4 ?_;clear hvh4;intro nvh hvh4;refine Lw (MJ (Ln F hcc ?_))
    refine Os (Src.list rm.h (F.keep _ _ hvh4) (Pu.refl _)) F (Pu.refl _) (by lia)
     (I:=fun i ys H'=>H'=H4∧LH ys ((hs2.take i).map fun h=>if h=max (lab hs2 p.1) (lab hs2 p.2)then min (lab hs2 p.1) (lab hs2 p.2)else h)) (fun i ys H' hh p hp'=>by rw[Ab]at hp';subst hp';rw[hh.1];exact hvh4) ⟨rfl,.nil⟩ (fun C i' ys v H' m' s19 Z2 hi' hlen' Fi' hP' hI'=>?_) (fun C D' ys H' s19 K hI' hlen' hD'=>?_)
    ·refine xA hI' ?_;clear hI';intro eH hI';subst eH;refine xEA (hnh.get' hP') ?_;rintro x hx ⟨tx',rfl⟩;refine Aw (L4 Fi' fun s20 F=>IfExp_ (wpAny_isTrue_Compare1 (Kv F rfl (Ln F hl3 (eq_ (Ai ?_))))))
     have e5:(hs2.take (i'+1)).map (fun h=>if h=max (lab hs2 p.1) (lab hs2 p.2)then min (lab hs2 p.1) (lab hs2 p.2)else h)=(hs2.take i').map (fun h=>if h=max (lab hs2 p.1) (lab hs2 p.2)then min (lab hs2 p.1) (lab hs2 p.2)else h)++[if x=max (lab hs2 p.1) (lab hs2 p.2)then min (lab hs2 p.1) (lab hs2 p.2)else x]:=by
      rw[C8,hx];simp
     by_cases hxe:x=max (lab hs2 p.1) (lab hs2 p.2)
     ·refine KC (by rw[hxe];simp) (Ln F hl2 ⟨H',_,F,rfl,?_⟩);rw[e5,if_pos hxe];exact hI'.snoc ⟨t13,rfl⟩
     ·refine Ks (by simp;exact aq311 hxe) (Kv F rfl ⟨H',_,F,rfl,?_⟩);rw[e5,if_neg hxe];exact hI'.snoc ⟨tx',rfl⟩
    ·refine xA hI' ?_;clear hI';intro eH hI';subst eH;rw[hhl,Br]at hI';refine K.post fun s20 F20 hlD _=>?_;have hDn:s18.heap.get? D'=none:=hD';refine xAA (F.apart hDn) fun dD1 dD2 dD3=>?_;refine LY F20.rebase fun H6 hE6 F hback=>?_
     have hNL:NL H6 D' (Mc hs2 (min (lab hs2 p.1) (lab hs2 p.2)) (max (lab hs2 p.1) (lab hs2 p.2))):=by
      refine xE hlD ?_;clear hlD;intro nD e;exact (yEA ys ⟨nD,hback _ _ dD2 (fun z hz _=>dD3 z hz) e⟩ hI')
     have fD:s_.heap.get? D'=none:=by
      exact Ky fun o e=>by rw[hE4 _ _ e]at dD1;exact nomatch dD1
     refine UP F zn (hcc.keeps hE6) (dead _ hf1) (fun s21 H5 F hc5 nc5 k5 kb5=>?_) rfl rfl rfl;refine WR (J.inv.merge hp1 hp2 hpg) fun m1 m2' m3 m4 m5=>?_;have ncA:NC H2 H5:=fun b o n e=>nc5 b o n (hE6 _ _ (nc4 b o n e));refine Kt ⟨H5,_,F,D',_,⟨fun b o e=>(kb5 b (fun q=>noo q hf1 e)).trans (hE6 _ _ (hE4 _ _ e)),hc5,⟨_,k5 _ _ (Rr L) (hl2.keeps hE6)⟩,⟨_,k5 _ _ (Wz L) (hl3.keeps hE6)⟩,hNL.nc nc5,m1⟩,fD,ncA _ _ rfl hWo,hWv.mono fun _ _ x=>x.nc ncA,mr,fun j hj pp hpp=>?_,fun x z e=>m3 _ _ (hmono x z e),A0 m4 hsum,fun _ hf=>?_,fun h=>by trivial⟩
     ·rcases EB.mp hj with hj | rfl
      ·exact m3 _ _ (hdone j hj pp hpp)
      ·rw[hpi]at hpp;obtain rfl:=Ag hpp;exact m2'
     ·rcases D3 i with hi0' | hi0'
      ·subst hi0';refine xAA (hsnd hf) fun _ hne _=>?_;have e0:=hz0 rfl;have:=m5 (by rw[e0];exact hne p (Av hpi));rw[e0]at this ⊢;exact this
      ·exact An m4 (hlt hi0' hf)
   ·obtain⟨ha2,hs2,J,fha2,hWo,hWv,mr,hdone,hmono,hsum,hlt,_⟩:=hI;have hpos:0<vw.length:=by rw[hwl];exact I6.mpr hw0
    have hpk:∀p∈prs,lab hs2 p.1=lab hs2 p.2:=fun p hp=>by
     induction first with
     | true=>
      refine xA (hfst rfl) fun e1 _=>?_;rw[←e1]at hp;obtain⟨j,hj,e⟩:=Dp hp;exact hdone j (by exact aq70 hj hwl) p (by rw[A7 hj,e])
     | false=>exact hmono _ _ ((hsnd rfl).1 p hp)
    refine Kw (Xs (PU (Wv Fi fun s12 d P12 F12 hd hnd hsys=>Qp F12 fun s13 w2 P13 F13 hw2 hnw2=>KA F13 (by simp) fun s14 q P14 F14 hq _=>⟨q,.ref d,.ref w2,rfl,hq,_,_,_,_,_,F14,fun s15 P15=>?_⟩)) rm.h);have Fi':=Fi;refine Fi'.takeK (P12.trans (P13.trans (P14.trans P15))) fun H3 hE3 F hnew _=>?_
    have hw2n:s11.heap.get? w2=none:=by
     exact Ky fun o e=>by rw[P12.ext _ _ e]at hnw2;exact nomatch hnw2
    have hd3:HD (OB c.w) H3 d []:=HD.nil _ (hnew _ _ hnd ((P13.trans (P14.trans P15)).ext _ _ hd));have hw3:Lst H3 w2 []:=xE hw2 fun n e=>⟨n,hnew _ _ hw2n ((P14.trans P15).ext _ _ e)⟩;refine xAA (Fi'.apart hnd) fun dd1 dd2 dd3=>?_;refine xAA (Fi'.apart hw2n) fun dw1 dw2 dw3=>?_
    have fdead:∀b,H2.get? b=none→s_.heap.get? b=none:=fun b hb=>by
     exact Ky fun o e=>by rw[J.hE _ _ e]at hb;exact nomatch hb
    have neW:w2≠ha2:=fun q=>by
     refine xE J.nl.al fun o e=>?_;rw[←q,dw1]at e;exact nomatch e
    have neD:d≠ha2:=fun q=>by
     refine xE J.nl.al fun o e=>?_;rw[←q,dd1]at e;exact nomatch e
    have neDW:d≠w2:=fun q=>by rw[q]at hd;have:=P12.ext;refine xE hw2 ?_;clear hw2;intro n e;rw[hd]at hnw2;exact nomatch hnw2
    have J:HmJ s_ L rows_ prs H3 hs2 ha2:=⟨J.hE.trans hE3,J.hc.keeps hE3,xE J.lo fun w h=>⟨w,h.keeps hE3⟩,xE J.hi fun w h=>⟨w,h.keeps hE3⟩,J.nl.at2 fun o e=>hE3 _ _ e,J.inv⟩;have fd:=fdead d dd1;have fw:=fdead w2 dw1;refine L4 F fun s16 F=>L4 F fun s17 F=>?_;refine xE hr.l fun nr hrl=>?_
    refine Mp (LB F NP rfl (by decide) (sp1 (Kv F mr (Xr rm.h (F.keep _ _ (J.hE _ _ hrl)) fun e s18 P18 S18=>Oo S18 F P18
     (I:=Zu prs L ha2 hs2 d w2)
     (fun i H4 m4 ⟨J,_,_,_,_,_,_,_,_,_,_,_,_⟩ p hp'=>by rw[Ab]at hp';subst hp';exact J.hE _ _ hrl) ⟨J,[],[],[],hd3,hw3,.nil,Met.nil _ _,At _,At _,rfl,rfl,mr⟩ (fun i v H4 m4 s19 Z' hi _ Fi hP hI=>?_) (fun H4 m4 s19 Fi hI=>?_)))))
    ·obtain⟨J,ps,w,vw2,hd4,hw4,hv4,hM,hwl4,hpl4,mm,mw4,mr4⟩:=hI;refine O1 hP ?_;clear hP;rintro T x tn rfl hx hT;refine T4 ((hr.ext J.hE).v.get' hx) ?_;rintro r hri a rfl hrow;refine MG hrow ?_;clear hrow;intro tr kv htr hkv;have hir:i<rows_.length:=(Af.mp hri).1;refine xA (hk i r hri) fun hk2 hkl=>?_;have hkvl:=hkv.1;have hroom:(OB c.w).room A_.in1:=(show A_.in1.units+1<cLine from by have:=rm.u;show A_.units+1+1<9900;exact n10 this);refine xEA J.nl fun vh hvh hnh=>?_;have hhl:=hnh.1;have hlen:=J.inv.len;refine LZ (TX hd4) fun od hod hodm hodn _=>?_;refine Vp rm.h Fi hT fun s20 F=>?_;refine Lw (La (Kv F mm (VA (knd:=OB c.w) hsys (HD.at2 (fun a e=>L2.im a e) hd4 (fun o e=>F.keep _ _ e) F.keep.im) (bop (UI (Subscript_ (Kv F rfl (cI F fun s21 t21 P F21=>Mg (k:=0) (htr.ext F21.keep) (by decide) rfl (KA F21 (by simp) fun s22 q1 P22 F hq1 _=>LB F Nd rfl (by decide) (sp1 (MJ (Subscript_ (Kv F rfl (Lg (cI F fun s23 t23 P23 F s24 sl P24 hsl=>L6 (a:=1) (F.pu P24) (htr.ext (F.pu P24).keep) hsl (by decide) (by simp) (by simp;exact n2 hkvl hk2) fun s25 b P25 F25 hb _=>?_)))))))))))))));have hb:Tpl s25.heap b kv:=hb;refine F21.takeK (P22.trans (P23.trans (P24.trans P25))) fun H5 hE5 F25 _ him5=>?_;have hq1:Tpl H5 q1 _:=xE (hq1.ext (P23.ext.trans (P24.ext.trans P25.ext))) fun n e=>⟨n,him5 _ _ rfl e⟩;have J:HmJ s_ L rows_ prs H5 hs2 ha2:=⟨J.hE.trans hE5,J.hc.keeps hE5,xE J.lo fun w h=>⟨w,h.keeps hE5⟩,xE J.hi fun w h=>⟨w,h.keeps hE5⟩,J.nl.at2 fun o e=>hE5 _ _ e,J.inv⟩;have hd4:HD (OB c.w) H5 d ps:=HD.at2 (fun a e=>L2.im a e) hd4 (fun o e=>hE5 _ _ e) hE5.im;have hw4:=hw4.ext hE5;have hv4:KJ (NI H5) vw2 w:=hv4.mono fun _ _ q=>q.im hE5.im;have hvh:=hvh.ext hE5;have hod:=hE5 _ _ hod;refine xE hb ?_;clear hb;intro nb hb
     refine Lv (Src.tuple rm.h hb (Pu.refl _)) F25 (Pu.refl _) (fun p hp=>by rw[Ab]at hp;subst hp;exact (yAA hb ((F25.imm_apart hb rfl).1) (fun q=>by exact nomatch q))) (by exact n2 hkvl hk2)
      (I:=fun j ys H'=>H'=H5∧LH ys ((r.2.take j).map (lab hs2))) ⟨rfl,.nil⟩ (fun C j ys v H' m' s26 Z2 hj hlen' Fj _ hP' hI'=>?_) (fun C D' ys H' s26 K hI' hlen' hD'=>?_)
     ·refine xA hI' ?_;clear hI';intro eH hI';subst eH;refine xEA (hkv.get' hP') ?_;rintro kx hkx ⟨tkx,rfl⟩;have hkxl:=hkl kx (Av hkx);refine xEA (hnh.get (LV (by lia:kx<hs2.length))) ?_;rintro v1 hv1 ⟨t1,rfl⟩;refine Aw (L4 Fj fun s27 F=>Subscript_ (Ln F J.hc (Kv F rfl (KI (hvh.ext F.keep) (by exact n3) (by exact n5 hkxl hn) (by simpa using hv1) ⟨H',_,F,rfl,?_⟩))));rw[C8,hkx,Cv,B6];exact hI'.snoc ⟨t1,rfl⟩
     refine xA hI' ?_;clear hI';intro eH hI';subst eH;rw[hkvl,Br]at hI';refine K.post fun s27 F hl27 hkC=>UH F hl27 (by exact n17 hkvl hlen' hk2) fun s28 q2 P28 F hq2=>WX F (hq1.ext F.keep) hq2 (by simp) (by simp;exact o85 hkvl hlen' hk2) fun s29 key P29 F hkey=>Kv F rfl ⟨key,cno (lab hs2) r,i,rfl,⟨tn,rfl⟩,hroom,(Pi tr ys hkey hI'),HD.at2 (fun a e=>L2.im a e) hd4 (fun o e=>F.keep _ _ e) F.keep.im,by exact aq156 hi hvl hn hpl4,fun mm' hm' s30 t30 P30=>?_,fun hnone s30 t30 M hm=>?_⟩
     ·-- one has been met
      have F:=F.pu P30;refine YP (hM.val _ _ hm') fun hmi r' hr' he'=>?_;refine xEA (hnh.get (LV (by lia:mm'<hs2.length))) ?_;rintro v1 hv1 ⟨t1,rfl⟩;refine xEA (hnh.get (LV (by lia:i<hs2.length))) ?_;rintro v2 hv2 ⟨t2,rfl⟩;have hM':=hM.again hri hm';refine L4 F fun s31 F=>L7 (wpAny_isTrue_Compare1 (Subscript_ (Ln F J.hc (Kv F rfl (KI (hvh.ext F.keep) (by exact n3) (by exact aq113 hi hmi hvl hn) (by simpa using hv1) (Subscript_ (Ln F J.hc (Kv F rfl (KI (hvh.ext F.keep) (by exact n3) (by exact n15 hi hvl hn) (by simpa using hv2) (ne_ (Ai ?_)))))))))))
      by_cases hne:lab hs2 mm'=lab hs2 i
      ·refine Ks (by rw[hne];simp) (Kt (Kw (Kt ⟨H',_,F,J,ps,w,vw2,hd4,hw4,hv4,?_,by exact o20 hwl4,by exact o20 hpl4,mm,mw4,mr4⟩)));rw[if_neg (fun h=>h hne)]at hM';exact hM'
      ·refine KC (by simp;exact o11 hne) ?_;refine LY (TB hw4) fun ow how hom hon=>?_;have hwl2:=hv4.1;refine L8 (La (Kv F mw4 (Rq (hw4.ext F.keep) (PU (Kv F rfl (Kv F rfl (KA F (by simp) fun s32 q P32 F32 hq _=>⟨vw2,hw4.ext F32.keep,by exact aq128 hi hvl hwl2 hn hwl4,fun s33 M hl33=>?_⟩)))))));refine VL (F32.mtx M how hom (dead _ fw)) fun H6 F bt im6 at6 him6=>?_;refine Kt (Kw (Kt ⟨H6,_,F,J.but bt fw how hon neW,ps,w++[(mm',i)],_,HD.at2 (fun a e=>L2.im a e) hd4 (fun o e=>bt _ _ neDW e) im6,xE hl33 fun n e=>⟨n,at6 _ e⟩,(hv4.mono fun _ _ q=>q.im im6).snoc (T2 q _ _ rfl ?_ ⟨t30,rfl⟩ ⟨tn,rfl⟩),?_,by simp;exact o32 hwl4,by exact o20 hpl4,mm,mw4,mr4⟩))
       ·refine xE hq ?_;clear hq;intro n e;exact⟨n,him6 _ _ rfl (M.keep _ _ (fun qq=>by refine xE (hw4.ext F32.keep) fun n2 e2=>?_;rw[qq,e2]at e;lia) e)⟩
       ·rw[if_pos hne]at hM';exact hM'
     ·-- the first of its kind
      have hM':=hM.fresh hri hnone;refine VL (F.mtx M hod hodm (dead _ fd)) fun H6 F bt im6 at6 him6=>?_;have J:=J.but bt fd hod hodn neD;refine xEA (hnh.get (LV (by lia:i<hs2.length))) ?_;rintro v2 hv2 ⟨t2,rfl⟩;have hvh:Lst H6 ha2 vh:=hvh.at2 fun o e=>bt _ _ (B9 neD) e;refine L4 F fun s31 F=>L7 (wpAny_isTrue_Compare1 (Subscript_ (Ln F J.hc (Kv F rfl (KI (hvh.ext F.keep) (by exact n3) (by exact n15 hi hvl hn) (by simpa using hv2) (Subscript_ (Ln F J.hc (Kv F rfl (KI (hvh.ext F.keep) (by exact n3) (by exact n15 hi hvl hn) (by simpa using hv2) (ne_ (Ai (Ks (by simp) (Kt (Kw (Kt ⟨H6,_,F,J,ps++[(cno (lab hs2) r,i)],w,vw2,?_,hw4.at2 (fun o e=>bt _ _ (B9 neDW) e),hv4.mono (fun _ _ q=>q.im im6),hM',by exact o20 hwl4,by simp;exact o32 hpl4,mm,mw4,mr4⟩)))))))))))))));refine xEA (TX hm) fun o ho _=>?_;exact HD.at2 (fun a e=>L2.im a e) hm (fun o' e=>at6 _ e) (fun b o' hmm e=>him6 b o' hmm e)
    ·obtain⟨J,ps,w,vw2,hd4,hw4,hv4,hM,hwl4,hpl4,mm,mw4,mr4⟩:=hI;rw[hvl]at hM hwl4;refine Kw (Kt ⟨rfl,_,?_,H4,m4,ha2,hs2,w2,vw2,w,false,Fi,J,fha2,hw4,hv4,mw4,mr4,by exact n7 hn hwl4,fun p hp=>?_,(fun e=>by exact nomatch e),fun _=>(yAA hpk (fun p hp=>(hM.wis p hp).2.2.1) (fun e=>?_)),rfl⟩)
     ·induction first with
      | true=>simp;exact o79 hsum
      | false=>have:=hlt hpos rfl;simp;omega
     ·refine VN (hM.wis p hp) fun a1 a2 a3 r q h1 h2 h3=>?_;exact (yAA a1 a2 (fun g hg=>S6 J.inv.snd h1 h2 h3 g hg))
     ·subst e;exact hM.closed
 ·rintro s10 ⟨H',m',ha,hs,F,J,fha,hcl⟩;refine KS (Ln F J.hc ?_);exact kk _ ha hs ⟨J.hE.trans F.keep,F.gens,F.os⟩ (J.nl.at2 fun o e=>F.keep _ _ e) ⟨J.inv,hcl⟩ fha
end U43
theorem SC{A s E Q rows ra pa vr vp}:U43.pP A s E Q rows ra pa vr vp:=@KB _ _ U43.fF U43.kK rfl U43.tT (A,s,E,Q,rows,ra,pa,vr,vp)
end
end
section
section
variable{w:Bo}{A:Aq}{E:Value→A4→Prop}{s:A4}
theorem Wr(hx:s.heap.get? l=some {cls:=.type "list",dict:=none,data:=.seq xs k,slots:=#[]})(hA:A.handled=none)(h:∀s',Pu s s'→Q none s'):A8 (MD w) A (getAttr? (.ref l) "keys") Q E s:=by
 have hmiss:typeLookup (.type "list") ("keys" : A9)=pure none:=am_miss_of_fast (by decide +kernel);have hname:(["__module__","__name__","__qualname__","__doc__","__annotations__"]:List A9).contains ("keys" : A9)=false:=by decide +kernel
 have hsz:("keys" : A9).length+100≤sizeLine:=by rw[AT];decide +kernel
 generalize ("keys" : A9)=name at *;obtain⟨hp,g,d,tk,os⟩:=s;have hT:∀tk',(⟨hp,g,d,tk',os⟩:A4).TypeIs (.ref l) "list":=fun _=>(yEA _ hx rfl);have f1:=sub_AttributeError;have f3:=DG.lookup;have f4:=DG.bind (.ref l);have f5:=am_list_getattr_none;unfold getAttr? getAttrBy? getAttrBy
 repeat (any_goals (first | assumption | exact hT _ | ((with_reducible show A8 _ _ (call (GU "list.__getattribute__") _ _) _ _ _);refine Ji DG (hT _) am_entry_list_getattribute (PySem.F.args_list_getattribute_2 _ _) (meets_getattribute_miss_list l xs k #[] name _ hmiss hname hsz) (yAA hx hA (fun h' tk' e hx'=>?_))) | wp_step))
 refine xEE hx'.there fun t' u' he=>?_;have hTe:∀tk,(⟨h',g,d,tk,os⟩:A4).TypeIs (.ref e) "AttributeError":=fun _=>(yEA _ he rfl);show A8 _ _ (Jh _ _ _ _ _ _ _) _ _ _;unfold Jh;refine A5 (CZ (hTe _) f1 ?_);rw[if_pos rfl];refine A5 ?_;unfold hookBehind;rw[if_neg (show ¬(onTheHeap (.type "list")=true) by decide)];refine Hf f5 ?_;unfold hookOrError attributeErrorLeaves;rw[if_pos (by rfl)];refine A5 (wpAny_throw ?_);show A8 _ _ (do if ←Jg (.ref e) (.type "AttributeError")then pure none else throw (.ref e)) _ _ _;refine A5 (CZ (hTe _) f1 ?_);rw[if_pos rfl];exact Ae (h _ ⟨fun b o q=>hx'.keeps b o q,rfl,rfl⟩)
theorem Qw:IT table "dict.update.loop" = some CT.«dict.update.loop»:=JF (by kernel_rfl)
theorem Na:plainId "dict.update.loop" = true:=by decide +kernel
noncomputable def PV(h:AE)(v:Value)(p:Nat×Value):Prop:=∃a t,v=.ref a∧Tpl h a [.int p.1 t,p.2]
noncomputable def fl(ps:List (Nat×Value)):Int→Option Value:=ps.foldl (fun f p=>fun j=>if j=(p.1:Int)then some p.2 else f j) fun _=>none
theorem Wt(ps:List (Nat×Value))(p:Nat×Value):fl (ps++[p])=fun j=>if j=(p.1:Int)then some p.2 else fl ps j:=by unfold fl;rw[List.foldl_append];rfl
noncomputable def IDl(w:Bo)(h:AE)(d:Addr)(f:Int→Option Value)(n:Nat):Prop:=∃kvs,h.DictOf (Dt PG w) d kvs∧kvs.length≤n∧∀k,CX kvs k=f k
theorem IDl.at2{f n}(x:IDl w h d f n)(k:∀o,h.get? d=some o→h'.get? d=some o):IDl w h' d f n:=by
 refine xEA x ?_;clear x;rintro kvs ⟨o,es,ep,e,r⟩ q;exact (yEA kvs (RZ o es ep (k _ e) r) q)
theorem IDl.id{f n}(x:IDl w h d f n):ID w h d f:=LY x fun kvs a _ b=>(yEA kvs a b)
theorem S5{K:Type}[DecidableEq K](kvs:List (K×Value))(k:K)(v:Value):(Ij kvs k v).length≤kvs.length+1:=by
 unfold Ij;split
 ·rw[AQ];exact o3
 ·simp
theorem Wd{f n}(x:IDl w h d f n):∃o,h.get? d=some o∧L3 o=true:=Qm x.id
theorem Ug{R:EP→A4→Prop}(hh:A.handled=none)(hdi:d≠it)(hdl:d≠l)(hil:l≠it)(hz:vs.length≤10000):∀(k i:Nat) (tk:Tok) (s:A4),vs.length - i=k→i≤vs.length→s.heap.IsListIter it l i→s.heap.IsList l vs.toArray→IDl w s.heap d (fl (ps.take i)) i→KJ (PV s.heap) vs ps→
   (∀s',Kp (fun b=>b=d∨b=it) s s'→ID w s'.heap d (fl ps)→R (.ok (.ret .none)) s')→
   BM (MD w) A (.builtin "dict.update.loop" ⟨[.ref d,.ref it,.int i tk,.none],[]⟩) R s:=by
 intro k
 induction k with
 | zero=>
  intro i tk s hk hi hit hl hI hv hR;have hin:i=vs.length:=by exact o54 hk hi
  subst hin;refine CQ Qw ?_;rw[CC Na _];show A8 _ A.in1 (Gm (.ref it) >>= _) _ _ s;refine A5 (Fw hh hit hl (by simp) fun h' he=>?_);show A8 _ A.in1 (Kq d [] >>= _) _ _ _;refine A5 (Ae ?_);show A8 _ A.in1 (ret Df) _ _ _;refine Ae (hR _ ⟨fun b o hb e=>he b o (fun q=>hb (.inr q)) e,rfl,rfl⟩ ?_);have:=(hI.at2 fun o e=>he _ _ hdi e).id;rw[hv.1,Br]at this;exact this
 | succ k ih=>
  intro i tk s hk hi hit hl hI hv hR;have hlt:i<vs.length:=by exact o53 hk hi
  refine CQ Qw ?_;rw[CC Na _];show A8 _ A.in1 (Gm (.ref it) >>= _) _ _ s;refine A5 (Fg hit hl (x:=vs[i]) (by simp[hlt]) fun h₁ hit₁ hs₁=>?_);refine LY (id hit) fun oi hoi _ hdo=>?_;have im1:Im s.heap h₁:=Im.same hoi (by unfold L3;rw[hdo]) hs₁;have hI1:=hI.at2 (h':=h₁) fun o e=>hs₁.extBut _ _ hdi e;have hl1:h₁.IsList l vs.toArray:=hl.extBut hs₁.extBut hil;refine WN (hv.get' (A7 hlt)) fun p hp a tp e ht=>?_;refine xE (ht.im im1) fun na hta=>?_;rw[e];show A8 _ A.in1 (Di [.ref a] _ >>= _) _ _ _;refine A5 (B7 (A5 (wpAny_tryCatch ?_)));unfold Kn;refine A5 (DS (yEA _ hta rfl) ?_);rw[if_pos (by decide)];refine A5 (Ex hta rfl (Ae ?_));show A8 _ A.in1 (Di [.int p.1 tp,p.2] (dictSet d (.int p.1 tp) p.2)) _ _ _;refine LY hI1 ?_;clear hI1;intro kvs hm hkl hf;refine B7 (wpAny_dictSet_pairs (Go PG w p.1 tp) hm (fun h' hm' hs'=>?_) (by rw[AT];exact n31 hlt hz hkl));refine xEA (Wd (w:=w) (M1 kvs hm hkl hf)) fun od hod hodm=>?_;have im2:Im h₁ h':=Im.same hod hodm hs';have kp2:∀b o,b≠d→h₁.get? b=some o→h'.get? b=some o:=fun b o hb e=>(hs'.2 b hb).trans e;refine Ae ⟨EN Na _,ih (i+1) 0 _ (by exact o52 hk hlt) hlt (hit₁.at fun o e=>kp2 _ _ (fun q=>hdi q.symm) e) (hl1.at fun o e=>kp2 _ _ (fun q=>hdl q.symm) e) (M1 _ hm' ?_ (fun j=>?_)) (hv.mono fun v q z=>MG z fun a t e x=>(Pi a t e ((x.im im1).im im2))) fun s'' Kp' hI''=>hR s'' ⟨fun b o hb e=>Kp'.keep b o hb (kp2 b o (fun q=>hb (.inl q)) (hs₁.extBut b o (fun q=>hb (.inr q)) e)),Kp'.gens,Kp'.os⟩ hI''⟩
  ·have:=S5 kvs (p.1:Int) p.2;exact aq65 this hkl
  ·rw[O4,C8,hp,Cv,Wt,hf]
theorem Rn(F:Fm s0 H Z L m s)(hh:A.handled=none)(hl:Lst s.heap l vs)(hv:KJ (PV s.heap) vs ps)(hz:vs.length≤10000)(h:∀s' d,Pu s s'→Fm s0 H Z L m s'→ID c.w s'.heap d (fl ps)→s.heap.get? d=none→Q (.ref d) s'):A8 (MD c.w) A (call (.type "dict") [.ref l]) Q E s:=by
 refine xE hl ?_;clear hl;intro nl hl;refine callType_codes (Q₁:=fun obj s₁=>obj=.ref s.heap.objs.size∧s₁={s with heap:=s.heap.push {cls:=.type "dict",data:=.dict #[]}}) PySem.F.kt_called_dict (PySem.F.kt_typeCall_dict_1 _) PySem.F.entry_dict_init (kt_code_dict_new _ ⟨rfl,rfl⟩) ?_;rintro obj s₁ ⟨rfl,rfl⟩;have hnew:(s.heap.push {cls:=.type "dict",data:=.dict #[]}).DictOf (Dt PG c.w) s.heap.objs.size []:=Heap.DictOf.new s.heap;have hlt:l<s.heap.objs.size:=AM hl;have hl1:(s.heap.push {cls:=.type "dict",data:=.dict #[]}).get? l=some {cls:=.type "list",dict:=none,data:=.seq vs.toArray nl,slots:=#[]}:=Ak _ hl;refine (yAA hnew.typeIs (PySem.F.args_dict_init_2 _ _) ?_);unfold CT.«dict.__init__»;refine A5 ?_;unfold Kl;refine A5 (E4 hnew.typeIs ?_);show A8 _ _ (pure (s.heap.objs.size,[AN l])) _ _ _;refine Ae ?_;show A8 _ _ (Ge "dict.__init__" s.heap.objs.size (.ref l) [] .none) _ _ _;unfold Ge;refine A5 (DS (yEA _ hl1 rfl) ?_);rw[if_pos (show ((CK "list") != (CK "dict"))=true by decide)];refine A5 (Wr hl1 (by first | exact hh | simp[hh]) fun s2 P2=>?_);rw[if_pos (show (none:Option Value).isNone=true from rfl)];refine A5 (E5 ?_);have hl2:=P2.ext _ _ hl1;have hl3:s2.heap.IsList l vs.toArray:=(QB _ hl2 rfl nl rfl);refine A5 (DU hl3 ?_);have p0:Pu s s2:=(Pu.push s {cls:=.type "dict",data:=.dict #[]}).trans P2;have hsz1:s.heap.objs.size<s2.heap.objs.size:=AM (P2.ext _ _ (AB s.heap rfl))
 have hID:IDl c.w (s2.heap.push {cls:=.type "list_iterator",data:=.fields #[.ref l,.int 0 0]}) s.heap.objs.size (fl (ps.take 0)) 0:=by
  refine IDl.at2 (h:=s.heap.push {cls:=.type "dict",data:=.dict #[]}) (M1 [] hnew (At _) (fun k=>rfl)) fun o e=>Ak _ (P2.ext _ _ e)
 refine Ae ⟨EN Na _,Ug (by first | exact hh | simp[hh]) (Az hsz1) (Cs hlt) (Az (Ct hlt hsz1)) hz vs.length 0 0 _ rfl (Bi _) (M1 _ (AB _ rfl) rfl rfl) (hl3.push _) hID (hv.mono fun v q z=>MG z fun a t e x=>(Pi a t e (x.ext fun b o e=>Ak _ (p0.ext _ _ e)))) fun s' K hI=>?_⟩
 have p:Pu s s':=⟨fun b o e=>K.keep b o (fun q=>by
  have hb:=AM e;rcases q with q | q
  ·exact Az hb q
  ·exact Az (Ct hb hsz1) q) (Ak _ (p0.ext _ _ e)),K.gens.trans p0.gens,K.os.trans p0.os⟩
 exact⟨rfl,h _ _ p (F.pu p) hI (KM _)⟩
end
end
section
theorem O3:∀(ks:List Nat) (s:Nat),(∀k∈ks,∀t,1≤t→t≤s→W k t=V k t)→wy W ks s=wy V ks s
 | [],s,h=>rfl
 | k::ks,s,h=>by
  rw[wy,wy]
  congr 1
  refine AZ fun i hi=>?_;have:=Be.mp hi;rw[h k Aj (i+1) (by exact BL _) (by exact o8 this),O3 ks (s - (i+1)) fun k hk t h1 h2=>h k (Ao _ hk) t h1 (by exact o7 h1 h2)]
theorem Q1{α:Type}(l:List α)(f:α→Nat)(b:Nat)(h:∀x∈l,f x≤b):(l.map f).sum≤l.length*b:=by
 induction l with
 | nil=>exact Bi _
 | cons a l ih=>
  rw[Cu,Cf,BN,JL];have:=h a Aj;have:=ih fun x hx=>h x (Ao _ hx);exact aq110 ‹_› this
theorem UG(hn:n≤5)(h:∀k t,1≤t→t≤n→W k t≤65^t):∀ks:List Nat,ks.length≤2→wy W ks n≤5*65^n
 | [],_=>by
  rw[wy];have:0<65^n:=Nat.pow_pos (by decide);split<;>lia
 | [k],_=>by
  rcases D3 n with e | e
  ·subst e;rw[MX _ _ _ (by simp)];omega
  ·rw[O2 _ _ e];have:=h k n e (At _);exact aq285 this
 | [k,j],_=>by
  rw[wy]
  have hb:=Q1 (Ap (n - [j].length)) (fun i=>W k (i+1)*wy W [j] (n - (i+1))) (65^n) (fun i hi=>by
   have:=Be.mp hi;simp at this;rw[O2 _ _ (by exact o6 this)];have h1:=h k (i+1) (by exact BL _) (by exact aq85 this);have h2:=h j (n - (i+1)) (by exact o6 this) (by simp);have h3:=Nat.mul_le_mul h1 h2;rw[←Nat.pow_add,show i+1+(n - (i+1))=n by exact aq10 this]at h3;exact h3)
  rw[CI]at hb;have h4:(n - [j].length)*65^n≤5*65^n:=CM _ (by simp;exact n1 hn);exact A0 ‹_› ‹_›
 | _::_::_::_,h=>by simp at h
theorem UL(hN:N.length≤13)(hk:∀p∈N,p.2.length≤2)(c s:Nat)(hs:s≤5):∀n,tb N n c s≤65^s:=by
 intro n
 induction n generalizing c s with
 | zero=>rw[tb];exact Bi _
 | succ n ih=>
  rw[tb]
  by_cases e:s=n+1
  ·simp only[e,if_true];have h1:=Q1 (N.filter fun p=>p.1 == c) (fun p=>wy (tb N n) p.2 n) (5*65^n) fun p hp=>UG (by exact n26 e hs) (fun k t _ ht=>ih k t (by exact aq229 e hs ht)) p.2 (hk p (CE.mp hp).1);have h2:(N.filter fun p=>p.1 == c).length≤13:=A0 (HM _ _) hN;have h3:=CM (5*65^n) h2;rw[JM];exact aq63 h3 h1
  ·simp only[e,if_false];exact ih c s hs
theorem Pl(hN:N.length≤13)(hk:∀p∈N,p.2.length≤2)(c s n:Nat)(hs:s≤5):tb N n c s<2^60:=by
 have h1:=UL hN hk c s hs n;have h2:65^s≤65^5:=Fq (by decide) hs;have h3:(65:Nat)^5<2^60:=by decide
 exact aq206 h2 h1
theorem Tc(N:List (Nat×List Nat))(c s:Nat):∀n,n<s→tb N n c s=0
 | 0,_=>rfl
 | n+1,h=>by
  rw[tb];simp only[show ¬s=n+1 by exact Cs ‹_›,if_false];exact Tc N c s n (by exact o4 h)
theorem QV {α:Type} [DecidableEq α]:∀{l l':List α},l.Nodup→l'.Nodup→(∀x,x∈l↔x∈l')→l.Perm l'
 | [],l',_,_,h=>by
  induction l' with
  | nil=>exact .nil
  | cons b t=>exact absurd ((h b).mpr Aj) (by simp)
 | a::l,l',hn,hn',h=>by
  have hn:=C9.mp hn;have ha:=(h a).mp Aj;refine List.Perm.trans (I8 a (QV hn.2 (hn'.erase a) fun x=>?_)) (List.perm_cons_erase ha).symm;constructor
  ·intro hx;exact (HU (fun e=>hn.1 (by rw[←e];exact hx))).mpr ((h x).mp (Ao _ hx))
  ·intro hx;have:=(h x).mpr (List.mem_of_mem_erase hx);rcases As.mp this with e | e
   ·subst e;exact absurd hx (fun hx=>(List.Nodup.mem_erase_iff hn').mp hx |>.1 rfl)
   ·exact e
theorem Pt{l l':List Nat}(p:l.Perm l'):l.sum=l'.sum:=by
 induction p with
 | nil=>rfl
 | cons a _ ih=>rw[Cf,Cf,ih]
 | swap a b l=>simp only[Cf];lia
 | trans _ _ h1 h2=>exact h1.trans h2
theorem VP{N N':List (Nat×List Nat)}(p:N.Perm N')(c s:Nat):∀n,tb N n c s=tb N' n c s:=by
 intro n
 induction n generalizing c s with
 | zero=>rfl
 | succ n ih=>
  have hW:tb N n=tb N' n:=by funext c s;exact ih c s
  rw[tb,tb,hW]
  by_cases e:s=n+1
  ·simp only[e,if_true];exact Pt ((p.filter _).map _)
  ·simp only[e,if_false]
theorem Xq(ps:List (Nat×DY)):∀(f0:Int→Option DY) (j:Int) (v:DY),ps.foldl (fun f p=>fun j=>if j=(p.1:Int)then some p.2 else f j) f0 j=some v→(∃p∈ps,(p.1:Int)=j∧p.2=v)∨f0 j=some v:=by
 induction ps with
 | nil=>intro f0 j v h;exact .inr h
 | cons p ps ih=>
  intro f0 j v h;rw[Gz]at h;rcases ih _ j v h with⟨q,hq,e⟩ | h
  ·exact .inl (yEA q (Ao _ hq) e)
  ·split at h
   ·rename_i e;obtain rfl:=Ag h;exact .inl (M1 p Aj e.symm rfl)
   ·exact .inr h
theorem Ws(ps:List (Nat×DY)):∀(f0:Int→Option DY) (j:Int),((∃p∈ps,(p.1:Int)=j)∨(f0 j).isSome=true)→(ps.foldl (fun f p=>fun j=>if j=(p.1:Int)then some p.2 else f j) f0 j).isSome=true:=by
 induction ps with
 | nil=>
  intro f0 j h;rcases h with⟨p,hp,_⟩ | h
  ·exact absurd hp Ah
  ·exact h
 | cons p ps ih=>
  intro f0 j h;rw[Gz];refine ih _ j ?_
  by_cases e:j=(p.1:Int)
  ·exact .inr (by simp only[e,if_true];rfl)
  ·rcases h with⟨q,hq,e2⟩ | h
   ·rcases As.mp hq with rfl | hq
    ·exact absurd e2.symm e
    ·exact .inl (yEA q hq e2)
   ·exact .inr (by simp only[e,if_false];exact h)
noncomputable def VQ(ps:List (Nat×DY))(k:Nat):JK:=match fl ps (k:Int)with | some (.ref a)=>a | _=>0
theorem Xp{as:List JK}(hl:as.length=hs.length)(hn:as.Nodup):fl (hs.zip (as.map CR))=UC (VQ (hs.zip (as.map CR))) hs∧(∀k∈hs,VQ (hs.zip (as.map CR)) k∈as)∧(∀k∈hs,∀k'∈hs,VQ (hs.zip (as.map CR)) k=VQ (hs.zip (as.map CR)) k'→k=k'):=by
 generalize hp:hs.zip (as.map CR)=ps
 have inz:∀p,p∈ps→∃i,∃a,hs[i]?=some p.1∧as[i]?=some a∧p.2=.ref a:=fun p h=>by
  rw[←hp]at h;obtain⟨i,hi,e⟩:=Dp h;have e2:(hs.zip (as.map CR))[i]?=some p:=by rw[A7 hi,e]
  rw[Ha]at e2;refine xA e2 ?_;clear e2;intro h1 h2;rw[B4]at h2
  cases e3:as[i]? with
  | none=>rw[e3]at h2;exact nomatch h2
  | some a=>rw[e3]at h2;exact (MN i a h1 (by rw[e3]) ((Ag h2).symm))
 have mem:∀k,k∈hs→∃p∈ps,p.1=k:=fun k h=>by
  obtain⟨i,hi,e⟩:=Dp h;refine (yEA (k,.ref (as[i]'(by exact o5 hi hl))) ?_ rfl);rw[←hp];refine Av (i:=i) ?_;rw[Ha];exact⟨by rw[A7 hi,e],by rw[B4,A7 (by exact o5 hi hl)];rfl⟩
 have val:∀k,k∈hs→∃i a,hs[i]?=some k∧as[i]?=some a∧fl ps (k:Int)=some (.ref a)∧VQ ps k=a:=fun k h=>by
  refine xEA (mem k h) fun p hp1 hp2=>?_;have h1:=Ws ps (fun _=>none) (k:Int) (.inl (yEA p hp1 (by rw[hp2])));refine xE (GO.mp h1) fun v hv=>?_;rcases Xq ps (fun _=>none) (k:Int) v hv with⟨q,hq,e1,e2⟩ | h2
  ·refine LR (inz q hq) fun i a h3 h4 h5=>?_;have e3:q.1=k:=DE e1;have hv':fl ps (k:Int)=some (.ref a):=by rw[←h5,e2];exact hv
   exact (Pj i a (by rw[←e3];exact h3) h4 hv' (by unfold VQ;rw[hv']))
  ·exact nomatch h2
 refine (yAA ?_ (fun k hk=>?_) (fun k hk k' hk' e=>?_))
 ·funext j
  unfold UC
  by_cases q:0≤j∧j.toNat∈hs
  ·rw[if_pos q];refine PY (val _ q.2) fun i a _ _ h3 h4=>?_;rw[h4,←h3]
   congr 1;lia
  ·rw[if_neg q]
   cases e:fl ps j with
   | none=>rfl
   | some v=>
    rcases Xq ps (fun _=>none) j v e with⟨p,hp1,e1,e2⟩ | h2
    ·refine LR (inz p hp1) fun i a h3 _ _=>?_;exact absurd ⟨by lia,by rw[←e1];exact Av h3⟩ q
    ·exact nomatch h2
 ·refine PY (val k hk) fun i a _ h2 _ h4=>?_;rw[h4];exact Av h2
 ·refine PY (val k hk) fun i a h1 h2 _ h4=>?_;refine PY (val k' hk') fun i' a' h1' h2' _ h4'=>?_;rw[h4,h4']at e;subst e;refine xE (Af.mp h2) fun l1 g1=>?_;refine xE (Af.mp h2') fun l2 g2=>?_;have:=(Gi (h₀:=l1) (h₁:=l2) hn).mp (g1.trans g2.symm);subst this;rw[h1]at h1';obtain rfl:=Ag h1';rfl
end
section
noncomputable def Qh(N:List (Nat×List Nat))(n:Nat)(ps:List (Nat×List Nat))(j k:Nat):Nat:=(((ps.take j).filter fun p=>p.1 == k).map fun p=>wy (tb N n) p.2 n).sum
noncomputable def TI(N:List (Nat×List Nat))(n:Nat)(ps:List (Nat×List Nat))(j k:Nat):List Nat:=(Ap 6).map fun t=>if t=n+1 then Qh N n ps j k else tb N n k t
noncomputable def TN(N:List (Nat×List Nat))(n k:Nat):List Nat:=(Ap 6).map fun t=>tb N n k t
theorem WB(N:List (Nat×List Nat))(k:Nat):TN N 0 k=[0,0,0,0,0,0]:=rfl
theorem Qg(p:ps.Perm N)(n k:Nat):Qh N n ps ps.length k=tb N (n+1) k (n+1):=by
 unfold Qh;rw[Br,tb];simp only[if_true];exact Pt ((p.filter _).map _)
theorem Ob(h:ps[j]?=some p)(k:Nat):Qh N n ps (j+1) k=Qh N n ps j k+if p.1=k then wy (tb N n) p.2 n else 0:=by
 unfold Qh;rw[C8,h,Cv,List.filter_append,B6,ES]
 congr 1
 by_cases e:p.1=k
 ·rw[if_pos e];simp[e]
 ·rw[if_neg e];simp[e]
theorem Qf(k:Nat):∀(d j:Nat),j+d=ps.length→Qh N n ps j k≤Qh N n ps ps.length k
 | 0,j,h=>by rw[show j=ps.length by exact o62 h];exact At _
 | d+1,j,h=>by
  have h1:=Qf (N:=N) (ps:=ps) (n:=n) k d (j+1) (by exact o61 h);have h2:=Ob (N:=N) (n:=n) (ps:=ps) (j:=j) (p:=ps[j]'(by exact o60 h)) (A7 (by exact o60 h)) k;exact aq96 h h2 h1
theorem W7(p:ps.Perm N)(n k j:Nat)(hj:j≤ps.length):Qh N n ps j k≤tb N (n+1) k (n+1):=by
 rw[←Qg p n k];exact Qf k (ps.length - j) j (by exact o59 hj)
theorem WD(N ps:List (Nat×List Nat))(n k:Nat):TI N n ps 0 k=TN N n k:=by
 unfold TI TN;refine AZ fun t _=>?_
 by_cases e:t=n+1
 ·rw[if_pos e,e,Tc N k (n+1) n (by exact o58)];rfl
 ·rw[if_neg e]
theorem XA(p:ps.Perm N)(n k:Nat):TI N n ps ps.length k=TN N (n+1) k:=by
 unfold TI TN;refine AZ fun t _=>?_
 by_cases e:t=n+1
 ·rw[if_pos e,e,Qg p]
 ·rw[if_neg e,tb];simp[e]
theorem Qy(N ps:List (Nat×List Nat))(n j k:Nat):(TI N n ps j k).length=6:=by unfold TI;rfl
theorem Xy(N:List (Nat×List Nat))(n k:Nat):(TN N n k).length=6:=by unfold TN;rfl
theorem RY(h:t≤5):(TI N n ps j k)[t]?=some (if t=n+1 then Qh N n ps j k else tb N n k t):=by
 unfold TI;rw[B4,CS (by exact n12 h)];rfl
theorem Uy(h:t≤5):(TI N n ps j k).getD t 0=if t=n+1 then Qh N n ps j k else tb N n k t:=by
 rw[A6,RY h];rfl
theorem Vs(hN:N.length≤13)(hk:∀p∈N,p.2.length≤2)(p:ps.Perm N)(hj:j≤ps.length)(h:t≤5):(TI N n ps j k).getD t 0<2^60:=by
 rw[Uy h]
 by_cases e:t=n+1
 ·rw[if_pos e];exact An (W7 p n k j hj) (Pl hN hk k (n+1) (n+1) (by exact aq282 e h))
 ·rw[if_neg e];exact Pl hN hk k t n h
theorem WE(h:ps[j]?=some p)(hk:p.1≠k):TI N n ps (j+1) k=TI N n ps j k:=by
 unfold TI;refine AZ fun t _=>?_;rw[Ob h,if_neg hk];rfl
theorem Xz(h:ps[j]?=some p)(hn:n+1≤5):(TI N n ps j p.1).set (n+1) (Qh N n ps j p.1+wy (tb N n) p.2 n)=TI N n ps (j+1) p.1:=by
 refine BC fun t=>?_;rw[BU]
 by_cases ht:t≤5
 ·rw[RY ht,RY ht,Ob h,if_pos rfl]
  by_cases e:n+1=t
  ·rw[if_pos e,if_pos e.symm,if_pos (by rw[Qy];exact n9 hn)]
  ·rw[if_neg e,if_neg (fun q=>e q.symm)];rw[if_neg (fun q=>e q.symm)]
 ·rw[if_neg (by exact aq250 hn ht),AI (by rw[Qy];exact o57 ht),AI (by rw[Qy];exact o57 ht)]
theorem YK(hn:n≤5)(ks:List Nat):wy (fun k t=>(TI N n ps j k).getD t 0) ks n=wy (tb N n) ks n:=
 O3 ks n fun k _ t _ h2=>by
  show (TI N n ps j k).getD t 0=_;rw[Uy (by exact n7 hn h2),if_neg (by lia)]
end
section
section
variable{A:Aq}{s s' sb:A4}{E Q:Value→A4→Prop}{s0:A4}{H:AE}{Z:List (Addr×Obj)}{L:Addr}{m:A9→Option Value}{env:Env}
theorem sp6{e1 e2 e3 e4 e5 e6:Expr}{pos:Pos}{Q:List Value→A4→Prop}(h:A8 (MD c.w) A (AJ e1 env) (fun v1 s1=>A8 (MD c.w) A (AJ e2 env) (fun v2 s2=>A8 (MD c.w) A (AJ e3 env) (fun v3 s3=>A8 (MD c.w) A (AJ e4 env) (fun v4 s4=>A8 (MD c.w) A (AJ e5 env) (fun v5 s5=>A8 (MD c.w) A (AJ e6 env) (fun v6 s6=>Q [v1,v2,v3,v4,v5,v6] s6) E s5) E s4) E s3) E s2) E s1) E s)(he:autoParam (AG [e1,e2,e3,e4,e5,e6] env=[(false,AJ e1 env),(false,AJ e2 env),(false,AJ e3 env),(false,AJ e4 env),(false,AJ e5 env),(false,AJ e6 env)]) au1._auto_1):A8 (MD c.w) A (EH (BO pos (AG [e1,e2,e3,e4,e5,e6] env))) Q E s:=by
 rw[he];exact AK (Al h (fun _ _ h=>AK (Al h (fun _ _ h=>AK (Al h (fun _ _ h=>AK (Al h (fun _ _ h=>AK (Al h (fun _ _ h=>AK (Al h (fun _ _ h=>BR h) fun _ _ x=>x)) fun _ _ x=>x)) fun _ _ x=>x)) fun _ _ x=>x)) fun _ _ x=>x)) fun _ _ x=>x)
theorem VZ{R:EP→A4→Prop}(hh:A.handled=none)(X:OI c.w s.heap S o es ep t)(hz:es.size≤16000)(p:Pu sb s)(h:∀(vs:List Value) s' it,vs.Perm (es.toList.map (·.2))→Pu s s'→NS A target it es.size (fun i v _=>vs[i]?=some v) [(S,o)] sb s'→BM (MD c.w) A (.forLoop target (.ref it) body [] env) R s'):A8 (MD c.w) A (Dr (.ref S)) (fun it s2=>BM (MD c.w) A (.forLoop target it body [] env) R s2) E s:=VY hh X hz p h
noncomputable def hkey(hs:List Nat)(rows:List Row)(i:Nat):Nat×Row:=(lab hs i,cno (lab hs) (rows.getD i ("",[])))
namespace U44
noncomputable def pP(A:Aq)(s:A4)(E Q:Value→A4→Prop)(rows:List Row)(hs:List Nat)(ra ha:Addr)(vr:List Value):Prop:=∀(rm:Rm A 5 170)(B:Bs s.heap)(hr:Lx s.heap ra vr rows)(hh:NL s.heap ha hs)(hn:rows.length≤13)(hlen:hs.length=rows.length)(hle:∀x,lab hs x≤x)(hk:∀(i:Nat) (r:Row),rows[i]?=some r→r.2.length≤2∧∀k∈r.2,k<rows.length)(kk:∀s' d ta (ks:List (Nat×Row)),Pu s s'→MV c.w s'.heap d ta hs (TN (ks.map fun p=>(p.1,p.2.2)) 5)→ks.Nodup→(∀p,p∈ks↔p∈(Ap rows.length).map (hkey hs rows))→s.heap.get? d=none→(∀k∈hs,s.heap.get? (ta k)=none)→Q (.ref d) s'),A8 (MD c.w) A (call (.ref 582) [.ref ra,.ref ha]) Q E s
noncomputable def fF:=unz fun A=>unz fun s=>unz fun E=>unz fun Q=>unz fun rows=>unz fun hs=>unz fun ra=>unz fun ha=>pP A s E Q rows hs ra ha
noncomputable def kK:=epz ({},{},default) fF
noncomputable def A_:=kK.1
noncomputable def s_:=kK.2.1
noncomputable def rows_:=kK.2.2.2.2.1
noncomputable def hs_:=kK.2.2.2.2.2.1
noncomputable def ha_:=kK.2.2.2.2.2.2.2.1
inductive Ze(H7:AE)(i:Nat)(ys:List Value)(H':AE):Prop
 | mk(a1:Ext H7 H')(as:List Addr)(a2:as.length=i)(a3:KJ (PV H') ys ((hs_.take i).zip (as.map AN)))(a4:as.Nodup)(a5:∀a∈as,s_.heap.get? a=none∧H7.get? a=none∧NL H' a [0,0,0,0,0,0])
inductive Zd(S:Addr)(ks:List (Nat×Row))(d:Addr)(ta:Nat→Addr)(N:List (Nat×List Nat))(i:Nat)(H':AE)(m':A9→Option Value):Prop
 | mk(a1:Ext s_.heap H')(a2:PS (R8 c.w) H' S ks)(a3:MV c.w H' d ta hs_ (TN N i))(a4:m' "table" = some (.ref d))(a5:m' "nodes" = some (.ref S))
theorem tT:pP A_ s_ kK.2.2.1 kK.2.2.2.1 rows_ hs_ kK.2.2.2.2.2.2.1 ha_ kK.2.2.2.2.2.2.2.2:=by
 intro rm B hr hh hn hlen hle hk kk;have rm:Rm A_ (4+1) (167+3):=rm;refine Mo rfl ‹_› ‹_› rfl rfl rfl rfl rfl ?_;intro A_ L H s1 rm BH F hC;refine xA (hC "homes" (L+1) rfl) fun hc1 hf1=>?_;replace hc1:H.IsCell (L+1) (some (.ref ha_)):=hc1
 have dead:∀b,s_.heap.get? b=none→c.H0.get? b=none:=fun b hb=>by
  exact Ky fun o e=>by rw[B.ext _ _ e]at hb;exact nomatch hb
 have hvl:=hr.v.1;have hr0:=hr.ext BH;refine xEA hh ?_;clear hh;intro vh hvh hnh;have hhl:=hnh.1;have hvh:=hvh.ext BH;refine xE hr0.l fun nr hrl=>?_;have hgd:∀i,i<rows_.length→rows_[i]?=some (rows_.getD i ("",[])):=fun i h=>by rw[A6,A7 h];rfl
 refine Lw (LB F RI rfl (by decide) (sp1 (MJ (LB F NP rfl (by decide) (sp1 (Kv F rfl (Xr rm.h (F.keep _ _ hrl) fun e s2 P2 S2=>Os S2 F P2 (by exact n2 hvl hn)
  (I:=fun i ys H'=>Ext H H'∧KJ (WG (R8 c.w) H') ys ((Ap i).map (hkey hs_ rows_))) (fun i ys H' hh p hp=>by rw[Ab]at hp;subst hp;exact hh.1 _ _ hrl) ⟨Ext.refl _,.nil⟩ (fun C i ys v H' m' s3 Z' hi hlen' Fi hP hI=>?_) (fun C D' ys H' s3 K hI hlen' hD=>?_))))))))
 ·refine xA hI ?_;clear hI;intro hE hI;refine O1 hP ?_;clear hP;rintro T x tn rfl hx hT;refine T4 ((hr0.ext hE).v.get' hx) ?_;rintro r hri a rfl hrow;refine MG hrow ?_;clear hrow;intro tr kv htr hkv;have hir:i<rows_.length:=(Af.mp hri).1;refine xA (hk i r hri) fun hk2 hkl=>?_;have hkvl:=hkv.1;have hvh:=hvh.ext hE;have hc1:=hc1.keeps hE;refine xEA (hnh.get (LV (by exact aq150 hi hlen hvl:i<hs_.length))) ?_;rintro v1 hv1 ⟨t1,rfl⟩;refine Vp rm.h Fi hT fun s4 F=>?_;refine PU (Subscript_ (Ln F hc1 (Kv F rfl (KI (hvh.ext F.keep) (by exact n3) (by exact n15 hi hvl hn) (by simpa using hv1) (bop (UI (Subscript_ (Kv F rfl (cI F fun s5 t5 P F5=>Mg (k:=0) (htr.ext F5.keep) (by decide) rfl (KA F5 (by simp) fun s6 q1 P6 F hq1 _=>LB F Nd rfl (by decide) (sp1 (MJ (Subscript_ (Kv F rfl (Lg (cI F fun s7 t7 P7 F s8 sl P8 hsl=>L6 (a:=1) (F.pu P8) (htr.ext (F.pu P8).keep) hsl (by decide) (by simp) (by simp;exact n2 hkvl hk2) fun s9 b P9 F9 hb _=>?_))))))))))))))));have hb:Tpl s9.heap b kv:=hb;refine F5.takeK (P6.trans (P7.trans (P8.trans P9))) fun H5 hE5 F9 _ him5=>?_;have hq1:Tpl H5 q1 _:=xE (hq1.ext (P7.ext.trans (P8.ext.trans P9.ext))) fun n e=>⟨n,him5 _ _ rfl e⟩;have hvh:=hvh.ext hE5;have hc1:=hc1.keeps hE5;refine xE hb ?_;clear hb;intro nb hb
  refine Lv (Src.tuple rm.h hb (Pu.refl _)) F9 (Pu.refl _) (fun p hp=>by rw[Ab]at hp;subst hp;exact (yAA hb ((F9.imm_apart hb rfl).1) (fun q=>by exact nomatch q))) (by exact n2 hkvl hk2)
   (I:=fun j zs H'=>H'=H5∧LH zs ((r.2.take j).map (lab hs_))) ⟨rfl,.nil⟩ (fun C2 j zs v H2 m2 s10 Z2 hj hlen2 Fj _ hP2 hI2=>?_) (fun C2 D2 zs H2 s10 K hI2 hlen2 hD2=>?_)
  ·refine xA hI2 ?_;clear hI2;intro eH hI2;subst eH;refine xEA (hkv.get' hP2) ?_;rintro kx hkx ⟨tkx,rfl⟩;have hkxl:=hkl kx (Av hkx);refine xEA (hnh.get (LV (by exact o5 hkxl hlen:kx<hs_.length))) ?_;rintro v2 hv2 ⟨t2,rfl⟩;refine Aw (L4 Fj fun s11 F=>Subscript_ (Ln F hc1 (Kv F rfl (KI (hvh.ext F.keep) (by exact n3) (by exact n5 hkxl hn) (by simpa using hv2) ⟨H2,_,F,rfl,?_⟩))));rw[C8,hkx,Cv,B6];exact hI2.snoc ⟨t2,rfl⟩
  refine xA hI2 ?_;clear hI2;intro eH hI2;subst eH;rw[hkvl,Br]at hI2;refine K.post fun s11 F11 hl11 hkC=>UH F11 hl11 (by exact n17 hkvl hlen2 hk2) fun s12 q2 P12 F hq2=>WX F (hq1.ext F.keep) hq2 (by simp) (by simp;exact o85 hkvl hlen2 hk2) fun s13 key P13 F hkey=>KA F (by simp) fun s14 q3 P14 F hq3 _=>?_;refine F11.takeK (P12.trans (P13.trans P14)) fun H6 hE6 F _ him6=>?_;refine⟨H6,_,F,hE.trans (hE5.trans hE6),?_⟩;rw[CD,B6];refine (NA hI (hE5.trans hE6).im).snoc (yEA q3 rfl ?_)
  have eg:rows_.getD i ("",[])=r:=by
   have:=hgd i hir;rw[hri]at this;exact (Ag this).symm
  refine xE hq3 ?_;clear hq3;intro n3 e3;refine xE (hkey.ext P14.ext) fun n4 e4=>?_;refine (MN _ key ⟨n3,him6 _ _ rfl e3⟩ ⟨t1,rfl⟩ ?_);show L2 H6 key (cno (lab hs_) (rows_.getD i ("",[])));rw[eg];exact (Pi tr zs ⟨n4,him6 _ _ rfl e4⟩ hI2)
 refine xA hI ?_;clear hI;intro hE hI;have hyl:ys.length=rows_.length:=by lia
 rw[hvl]at hI;have hkz:((Ap rows_.length).map (hkey hs_ rows_)).length=rows_.length:=by simp
 refine K.post fun s4 F4 hl4 _=>?_;refine xE hl4 ?_;clear hl4;intro nl4 hl4;refine Pd (sk:=R8 c.w) (keys:=(Ap rows_.length).map (hkey hs_ rows_)) (by have:=rm.u;show A_.units+12<9900;exact n9 this) rm.h hl4 (NA hI F4.keep.im) (by exact n2 hkz hn) fun s5 S ks P5 hS hm hSn=>?_;refine F4.takeK P5 fun H7 hE7 F7 hnew7 him7=>?_;have hS7:PS (R8 c.w) H7 S ks:=hS.keep (fun o e=>hnew7 _ _ hSn e) him7;have fH7:Ext s_.heap H7:=BH.trans (hE.trans hE7)
 have fS:s_.heap.get? S=none:=by
  exact Ky fun o e=>by rw[F4.keep _ _ ((BH.trans hE) _ _ e)]at hSn;exact nomatch hSn
 have hvh:=hvh.ext (hE.trans hE7);have hc1:=hc1.keeps (hE.trans hE7);refine xE hvh ?_;clear hvh;intro nvh hvo;refine L4 F7 fun s6 F=>?_
 refine Lw (LB F Wc rfl (by decide) (sp1 (MJ (Ln F hc1 (Os (Src.list rm.h (F.keep _ _ hvo) (Pu.refl _)) F (Pu.refl _) (by exact n17 hlen hhl hn)
  (I:=Ze H7) (fun i ys H' hh p hp=>by rw[Ab]at hp;subst hp;exact hh.1 _ _ hvo) ⟨Ext.refl _,[],rfl,by simpa using .nil,BW,fun a h=>by exact absurd h Ah⟩ (fun C i ys v H' m' s7 Z' hi hlen' Fi hP hI=>?_) (fun C D' ys H' s7 K hI hlen' hD=>?_))))))
 ·obtain⟨hE8,as,hal,hpv,hnd,hal2⟩:=hI;refine xEA (hnh.get' hP) ?_;rintro x hx ⟨tx,rfl⟩;refine Aw (L4 Fi fun s8 F8=>PU (Kv F8 rfl (List_ (sp6 (cI F8 fun s9 t9 P9 F=>cI F fun s10 t10 P10 F=>cI F fun s11 t11 P11 F=>cI F fun s12 t12 P12 F=>cI F fun s13 t13 P13 F=>cI F fun s14 t14 P14 F=>LA F (by simp) fun s15 a P15 F hla hna=>KA F (by simp) fun s16 q P16 F hq _=>?_)))));have P8:=P9.trans (P10.trans (P11.trans (P12.trans (P13.trans P14))));refine F8.takeK (P8.trans (P15.trans P16)) fun H9 hE9 F hnew9 him9=>?_
  have hna8:s8.heap.get? a=none:=by
   exact Ky fun o e=>by rw[P8.ext _ _ e]at hna;exact nomatch hna
  have hna':H'.get? a=none:=(F8.apart hna8).1
  have fa:s_.heap.get? a=none:=by
   exact Ky fun o e=>by rw[hE8 _ _ (fH7 _ _ e)]at hna';exact nomatch hna'
  have fa7:H7.get? a=none:=by
   exact Ky fun o e=>by rw[hE8 _ _ e]at hna';exact nomatch hna'
  refine⟨H9,_,F,hE8.trans hE9,as++[a],by simp[hal],?_,?_,?_⟩
  ·have e1:(hs_.take (i+1)).zip ((as++[a]).map AN)=(hs_.take i).zip (as.map AN)++[(x,.ref a)]:=by
    rw[C8,hx,Cv,B6,List.zip_append (by rw[Cc,AQ];exact aq137 hi hlen hhl hal)];rfl
   rw[e1];refine (hpv.mono fun _ _ ⟨b,t,e,h⟩=>(Pi b t e (h.im hE9.im))).snoc (Pi q tx rfl ?_);refine xE hq ?_;clear hq;intro nq e;exact⟨nq,him9 _ _ rfl e⟩
  ·refine Ck.mpr (yAA hnd (by simp) (fun x hx y hy=>?_));rw[Ab]at hy;subst hy;intro q;subst q;refine xE ((hal2 _ hx).2.2.al) fun o e=>?_;rw[hna']at e;exact nomatch e
  ·intro b hb;rcases Am.mp hb with hb | hb
   ·refine xAA (hal2 b hb) fun a1 a2 a3=>?_;exact (yAA a1 a2 (a3.at2 fun o e=>hE9 _ _ e))
   ·rw[Ab]at hb;subst hb;refine xE hla ?_;clear hla;intro nl e;exact⟨fa,fa7,_,⟨nl,hnew9 _ _ hna8 (P16.ext _ _ e)⟩,KJ.cons ⟨t9,rfl⟩ (KJ.cons ⟨t10,rfl⟩ (KJ.cons ⟨t11,rfl⟩ (KJ.cons ⟨t12,rfl⟩ (KJ.cons ⟨t13,rfl⟩ (KJ.cons ⟨t14,rfl⟩ .nil)))))⟩
 obtain⟨hE8,as,hal,hpv,hnd,hal2⟩:=hI;rw[hhl,Br]at hpv;have hal':as.length=hs_.length:=by exact aq314 hlen hhl hal
 refine xAA (Xp hal' hnd) fun ft1 ft2 ft3=>?_;refine K.post fun s8 F8 hl8 _=>Rn F8 rm.h hl8 (hpv.mono fun _ _ ⟨b,t,e,h⟩=>(Pi b t e (h.ext F8.keep))) (by exact aq237 hlen hhl hlen' hn) fun s9 d P9 _ hd hdn=>?_;generalize hta:VQ (hs_.zip (as.map AN))=ta at ft1 ft2 ft3;refine F8.takeK P9 fun H10 hE10 F10 hnew10 him10=>?_
 have hd10:ID c.w H10 d (UC ta hs_):=by
  rw[←ft1];exact hd.at2 fun o e=>hnew10 _ _ hdn e
 have tn:∀k∈hs_,s_.heap.get? (ta k)=none∧H7.get? (ta k)=none∧NL H10 (ta k) [0,0,0,0,0,0]:=fun k hk=>by
  refine xAA (hal2 _ (ft2 k hk)) fun a1 a2 a3=>?_;exact (yAA a1 a2 (a3.at2 fun o e=>hE10 _ _ e))
 have fd:s_.heap.get? d=none:=by
  exact Ky fun o e=>by rw[F8.keep _ _ (hE8 _ _ (fH7 _ _ e))]at hdn;exact nomatch hdn
 have hS10:PS (R8 c.w) H10 S ks:=hS7.keep (fun o e=>hE10 _ _ (hE8 _ _ e)) (hE8.trans hE10).im;have fH10:Ext s_.heap H10:=fH7.trans (hE8.trans hE10)
 have SneT:∀k∈hs_,S≠ta k:=fun k hk q=>by
  refine xEA (R3 hS7) fun o e _=>?_;exact noo q ((tn k hk).2.1) e
 have dne:∀k∈hs_,d≠ta k:=fun k hk q=>by
  refine xE ((hal2 _ (ft2 k hk)).2.2.al) fun o e=>?_;rw[←q]at e;rw[F8.keep _ _ e]at hdn;exact nomatch hdn
 have ksn:ks.Nodup:=T7 hS7.raw fun _ _ _ _ _ _ n _=>n
 have ksz:ks.length≤13:=by
  have:=LF (l:=ks) (l':=(Ap rows_.length).map (hkey hs_ rows_)) ksn (fun x=>(hm x).mp);exact aq198 hkz hn this
 have kinfo:∀p∈ks,p.1∈hs_∧p.2.2.length≤2∧∀k∈p.2.2,k∈hs_:=fun p hp=>by
  refine xEA (AR.mp ((hm p).mp hp)) fun i hi e=>?_;have hi:=Be.mp hi;subst e;refine xA (hk i _ (hgd i hi)) fun b1 b2=>?_;refine (yAA (Av (LV (by exact o5 hi hlen))) (by show ((rows_.getD i ("",[])).2.map (lab hs_)).length≤2;rw[AQ];exact b1) (fun k hk'=>?_));refine xEA (AR.mp (show k∈(rows_.getD i ("",[])).2.map (lab hs_)from hk')) ?_;rintro x hx rfl;exact Av (LV (by have:=b2 x hx;exact o5 this hlen))
 generalize hN:ks.map (fun p=>(p.1,p.2.2))=N;have hNl:N.length≤13:=by rw[←hN,AQ];exact ksz
 have hNk:∀p∈N,p.2.length≤2:=fun p hp=>by
  rw[←hN]at hp;refine xEA (AR.mp hp) ?_;rintro q hq rfl;exact (kinfo q hq).2.1
 refine L4 F10 fun s10 F=>?_
 refine Mp (LB F LO rfl (by decide) (sp2 (cI F fun s11 t11 P11 F=>cI F fun s12 t12 P12 F=>Tm fun s13 rg t13 P13 hrg=>Xo (Src.range (a:=1) rm.h hrg (Pu.refl _) (by decide) (by decide) (by decide)) (F.pu P13) (Pu.refl _)
  (I:=Zd S ks d ta N) (fun i H' m' _ p hp=>by exact absurd hp Ah) ⟨fH10,hS10,⟨hd10,fun k hk=>by rw[WB];exact (tn k hk).2.2⟩,rfl,rfl⟩ (fun n v H' m' s14 Z' hn5 Fi hP hI=>?_) (fun H' m' s14 Fi hI=>?_))))
 ·obtain⟨hE,hS,hT,mt,mn⟩:=hI;refine xE hP ?_;clear hP;rintro tv rfl;have hn5:n<5:=by assumption
  refine Aw (L4 Fi fun s15 F15=>?_);refine T7 hS.raw fun o es ep tt R hkv _ hsz=>?_;have R15:OI c.w s15.heap S o es ep tt:=R.keep fun o e=>F15.keep _ _ e;refine Mp (Kv F15 (by first | exact mn | rfl) (VZ rm.h R15 (by exact n2 hsz ksz) (Pu.refl _) fun vs s16 it hpm P16 X=>?_));refine xEA (KJ.perm hkv hpm) fun ks' hpk hkv'=>?_;have hpN:(ks'.map fun p=>(p.1,p.2.2)).Perm N:=by rw[←hN];exact hpk.map _
  generalize hps:ks'.map (fun p=>(p.1,p.2.2))=ps at hpN;have psl:ps.length=es.size:=by rw[←hps,AQ,hpk.length_eq,hsz]
  have hRo:H'.get? S=some o:=R.at'
  refine Qt X F15 (Pu.refl _) P16
   (fun j H2 m2=>Ext s_.heap H2∧H2.get? S=some o∧PS (R8 c.w) H2 S ks∧KJ (WG (R8 c.w) H2) vs ks'∧MV c.w H2 d ta hs_ (TI N n ps j)∧m2 "table" = some (.ref d)∧m2 "nodes" = some (.ref S)∧∃t,m2 "room" = some (.int ((1+n:Nat):Int) t)) (fun j H2 m2 hh p hp=>by rw[Ab]at hp;subst hp;exact hh.2.1)
   ⟨hE,hRo,hS,hkv',⟨hT.1,fun k hk=>by rw[WD];exact hT.2 k hk⟩,by first | exact mt | rfl,by first | exact mn | rfl,⟨tv,rfl⟩⟩ (fun j v H2 m2 s17 Z2 hj Fj hPj hIj=>?_) (fun H2 m2 s17 Fj hIj=>?_)
  ·refine YQ hIj ?_;clear hIj;intro hE2 hRo2 hS2 hkv2 hT2 mt2 mn2 tr mr2;refine T4 (hkv2.get' hPj) ?_;rintro p hp b rfl hom;refine LR hom ?_;clear hom;rintro vn bb htp ⟨th,rfl⟩ hrow;refine MG hrow ?_;clear hrow;intro tr' kv htr hkvr;have hpm:p∈ks:=hpk.mem_iff.mp (Av hp);refine xAA (kinfo p hpm) fun kin1 kin2 kin3=>?_;have hkvl:=hkvr.1;have hpp:ps[j]?=some (p.1,p.2.2):=by rw[←hps,B4,hp];rfl
   refine xEA (hT2.2 p.1 kin1) fun vt hvt hnt=>?_;have hvtl:vt.length=6:=by rw[hnt.1,Qy]
   refine xEA (hnt.get (RY (t:=n+1) ‹_›)) ?_;rintro x hx ⟨tx,rfl⟩;have hx':vt[(((1+n:Nat):Int)).toNat]?=some (.int (((if n+1=n+1 then Qh N n ps j p.1 else tb N n p.1 (n+1):Nat):Int)) tx):=by rw[Dd,C1 1 n];exact hx
   have eK:UC ta hs_ (p.1:Int)=some (.ref (ta p.1)):=by unfold UC;rw[if_pos ⟨by exact n3,by simpa using kin1⟩];simp
   refine Vp rm.h Fj (htp.ext Fj.keep).isT2 fun s18 F=>?_;refine OF (bop (Subscript_ (Subscript_ (Kv F mt2 (Kv F rfl (Mq (hT2.1.at2 fun o e=>F.keep _ _ e) eK fun s19 P19=>Kv (F.pu P19) mr2 (KI (hvt.ext (F.pu P19).keep) (by exact o55) (by exact aq182 ‹_›) hx' ?_)))))));have F:=F.pu P19;refine Nj F TZ Ua (sp3 (Kv F mt2 (Subscript_ (Kv F rfl (Lg (cI F fun s20 t20 P20 F s21 sl P21 hsl=>L6 (a:=1) (F.pu P21) (htr.ext (F.pu P21).keep) hsl (by decide) (by simp) (by simp;exact n2 hkvl kin2) fun s22 b2 P22 F hb2 _=>bop (Kv F mr2 (cI F fun s23 t23 P23 F=>Ti F fun s24 t24 P24 F24=>⟨F24.In,?_⟩))))))));have hb2:Tpl s22.heap b2 kv:=hb2;rw[show ((1+n:Nat):Int) - 1=((n:Nat):Int) by lia];refine Ta (hm:=hs_) (T:=TI N n ps j) (fun k _=>Qy ..) (fun k _ t ht=>Vs hNl hNk hpN (by exact aq159 hj hsz psl) ht) p.2.2 kin2 kin3 (rm.mono (by exact n13 kin2) (by exact aq312 kin2)) (F24.base.trans F24.keep) (hT2.ext F24.keep) (hb2.ext (P23.ext.trans P24.ext)) hkvr (by exact B1 ‹_›) fun s25 t25 P25=>SW (F24.pu P25) fun s26 t26 P26 F26=>Subscript_ (Kv F26 mt2 (Kv F26 rfl (Mq (hT2.1.at2 fun o e=>F26.keep _ _ e) eK fun s27 P27=>Kv (F26.pu P27) mr2 (XW (hvt.ext (F26.pu P27).keep) (by exact n20 hvtl) (by exact aq152 ‹_› hvtl) fun s28 M hl28=>?_))));refine LY (TB hvt) fun ol hol hom1 hom2=>?_;refine VL ((F26.pu P27).mtx M hol hom1 (dead _ (tn p.1 kin1).1)) fun H3 F bt im3 at3 him3=>?_
   have hval:(((if n+1=n+1 then Qh N n ps j p.1 else tb N n p.1 (n+1):Nat):Int)+((wy (tW (TI N n ps j)) p.2.2 n:Nat):Int))=((Qh N n ps j p.1+wy (tb N n) p.2.2 n:Nat):Int):=by
    rw[if_pos rfl,show wy (tW (TI N n ps j)) p.2.2 n=wy (tb N n) p.2.2 n from YK (by exact B1 ‹_›) p.2.2];rfl
   rw[hval]at hl28;refine Kt ⟨H3,_,F,fun b' ob e=>bt b' ob (fun q=>by exact noo q ((tn p.1 kin1).1) e) (hE2 _ _ e),bt _ _ (SneT p.1 kin1) hRo2,hS2.keep (fun o e=>bt _ _ (SneT p.1 kin1) e) im3,NA hkv2 im3,⟨hT2.1.at2 fun o e=>bt _ _ (dne p.1 kin1) e,fun k hk=>?_⟩,mt2,mn2,tr,mr2⟩
   by_cases e:p.1=k
   ·subst e;refine xE hl28 ?_;clear hl28;intro nl e3;refine (yEA _ ⟨nl,at3 _ e3⟩ ?_);have:=hnt.set (n+1) (x:=BD ((Qh N n ps j p.1+wy (tb N n) p.2.2 n:Nat):Int) t26) (y:=Qh N n ps j p.1+wy (tb N n) p.2.2 n) ⟨t26,rfl⟩;rw[Xz hpp ‹_›]at this;rw[C1 1 n];exact this
   ·rw[WE hpp e];exact (hT2.2 k hk).at2 fun o e'=>bt _ _ (fun q=>e (ft3 _ kin1 _ hk q.symm)) e'
  ·refine YQ hIj ?_;clear hIj;intro hE2 hRo2 hS2 hkv2 hT2 mt2 mn2 tr mr2;rw[←psl]at hT2;refine Kw (Kt ⟨H2,_,Fj,hE2,hS2,⟨hT2.1,fun k hk=>?_⟩,mt2,mn2⟩);rw[←XA hpN];exact hT2.2 k hk
 ·obtain⟨hE,hS,hT,mt,mn⟩:=hI;refine Kw (KS (Kv Fi mt ?_));exact kk s14 d ta ks ⟨hE.trans Fi.keep,Fi.gens,Fi.os⟩ (by rw[hN];exact hT.ext Fi.keep) ksn hm fd (fun k hk=>(tn k hk).1)
end U44
theorem S4{A s E Q rows hs ra ha vr}:U44.pP A s E Q rows hs ra ha vr:=@KB _ _ U44.fF U44.kK rfl U44.tT (A,s,E,Q,rows,hs,ra,ha,vr)
end
end
section
theorem L2.nc(x:L2 h a r)(n:NC h h'):L2 h' a r:=MG x fun t ks y z=>(Pi t ks (y.nc n) z)
theorem PT.nc(x:PT h v r)(n:NC h h'):PT h' v r:=xEA x fun a e y=>(yEA a e (y.nc n))
theorem LK.nc{r}(x:LK h a r)(n:NC h h'):LK h' a r:=O1 x fun b ks m y y' z=>(PX b ks m (y.nc n) (y'.nc n) z)
theorem T1.nc{ad:Ro→Addr}{h h':AE}{v ch}(x:T1 ad h v ch)(n:NC h h'):T1 ad h' v ch:=by
 refine MG x ?_;clear x;intro a t e x;refine (Pi a t e ?_)
 induction ch with
 | made m=>refine xEA x ?_;clear x;intro x h1 h2;exact (yEA x (h1.nc n) h2)
 | known r=>refine xEA x ?_;clear x;intro b h1 h2;exact (yEA b (h1.nc n) (h2.nc n))
 | edge k m g=>refine XC x ?_;clear x;intro x y z u h1 h2;exact (XH x y z u (h1.nc n) h2)
theorem MkV.nc{v p u}(x:MkV h v p u)(n:NC h h'):MkV h' v p u:=LR x fun a b e t r=>(MN a b e (t.nc n) r)
theorem Ox.nc{v p}(x:Ox h v p)(n:NC h h'):Ox h' v p:=by
 induction p with
 | none=>exact x
 | some p=>refine WP x ?_;clear x;intro q a b c e t r;exact⟨q,a,b,c,e,t.nc n,r⟩
theorem HD.nc{K:Type}[DecidableEq K]{knd:Cy PG w K}(hi:∀{h h':AE} {k:K} {a:Addr},knd.is h k a→NC h h'→knd.is h' k a){ps}(x:HD knd h d ps)(n:NC h h'):HD knd h' d ps:=by
 refine LZ (TX x) fun o2 e2 _ e4 _=>?_;refine xEA x ?_;clear x;rintro xs ⟨o,es,ep,e,a1,a2,a3,a4,a5⟩ r;rw[e]at e2;obtain rfl:=Ag e2;exact (yEA xs (QD _ es ep (n _ _ e4 e) a1 a2 a3 (fun x hx=>hi (a4 x hx) n) a5) r)
theorem Fld.nc{mp k}(x:Fld h a mp k)(n:NC h h'):Fld h' a mp k:=x.at2 fun o e=>n _ _ (by refine MG x ?_;clear x;intro es ep e' _;rw[e']at e;obtain rfl:=Ag e;rfl) e
theorem ID.nc{f}(x:ID w h d f)(n:NC h h'):ID w h' d f:=by
 refine xEA (Qm x) fun o e m=>?_;exact x.at2 fun o' e'=>n _ _ (by rw[e]at e';obtain rfl:=Ag e';exact Nx m) e'
theorem SD.nc{f}(x:SD w h d f)(n:NC h h'):SD w h' d f:=by
 refine xEA (RJ x) fun o e m=>?_;exact x.at2 fun o' e'=>n _ _ (by rw[e]at e';obtain rfl:=Ag e';exact Nx m) e'
theorem Ok.nc{w:Bo}{y:Lay}{st:St}{h h':AE}{r:Ro}(x:Ok w y st h r)(n:NC h h'):Ok w y st h' r:=by
 induction r with
 | bd=>exact Fld.nc x n
 | ud=>exact Fld.nc x n
 | ld=>refine xEE x ?_;clear x;intro t t' x;exact (yEE t t' (x.nc n))
 | nodes=>refine xEA x ?_;clear x;intro vs a b;exact (yEA vs (a.nc n) (b.mono fun _ _ q=>q.nc n))
 | nums=>exact HD.nc (fun a e=>L2.nc a e) x n
 | wts=>exact NL.nc x n
 | dps=>exact NL.nc x n
 | up=>exact NL.nc x n
 | lots=>exact Lst.nc x n
 | mrg=>refine xEA x ?_;clear x;intro vs a b;exact (yEA vs (a.nc n) (b.mono fun _ _ q=>q.nc n))
 | edges=>refine xEA x ?_;clear x;intro vs a b;exact (yEA vs (a.nc n) b)
 | forest=>refine xEA x ?_;clear x;intro vs a b;exact (yEA vs (a.nc n) b)
 | known=>exact HD.nc (fun a e=>L2.nc a e) x n
 | above=>exact ID.nc x n
 | wait=>exact NL.nc x n
 | chg=>refine xEA x ?_;clear x;intro vs a b;exact (yEA vs (a.nc n) (b.mono fun _ _ q=>q.nc n))
 | mks=>refine LY x ?_;clear x;intro vs a b e;exact (M1 vs (a.nc n) b (fun j v p h1 h2=>(e j v p h1 h2).nc n))
 | cd=>refine xEA x ?_;clear x;intro mv a b;exact (yEA mv (a.nc n) (b.nc n))
 | ck=>exact HD.nc (fun a e=>LK.nc a e) x n
 | pack=>refine xE x ?_;clear x;intro t x;exact⟨t,x.nc n⟩
 | cells=>exact NL.nc x n
 | lvls=>exact Lst.nc x n
 | lot j=>exact fun l hl=>(x l hl).nc n
 | ab j=>exact fun l hl=>(x l hl).nc n
 | mk j=>exact fun l hl=>(x l hl).nc n
theorem KW.nc{y:Lay}{st:St}{h h':AE}(G:KW y st h)(n:NC h h'):KW y st h':=
 ⟨n _ _ rfl G.lv,n _ _ rfl G.bk,n _ _ rfl G.un,fun e=>n _ _ rfl (G.ci e),G.inj,G.h0,G.gt,fun r hl=>(G.ok r hl).nc n⟩
theorem Gd.nc{y0 y:Lay}{st0 st:St}{h0 H H':AE}{a:Addr}{w:Option Value}(D:Gd y0 st0 h0 y st H)(n:NC H H')(hb:∀b,b≠a→H'.get? b=H.get? b)(ha:h0.get? a=none)(hc:H'.IsCell a w):Gd y0 st0 h0 y st H':=
 ⟨D.good.nc n,fun b o no e=>(hb b (fun q=>noo q ha e)).trans (D.keep b o no e),D.own,fun b o e=>by
  refine xE (D.alive b o e) fun o' e'=>?_;exact⟨o',(hb b (fun q=>noo q ha e)).trans e'⟩⟩
section
variable{A:Aq}{s s' sb:A4}{E Q:Value→A4→Prop}{s0:A4}{H:AE}{Z:List (Addr×Obj)}{L:Addr}{m:A9→Option Value}{env:Env}{y:Lay}{st:St}
theorem TJ{l sl:Addr}{vs:List Value}{a:Nat}{u:Tok}(F:Fm s0 H Z L m s)(hl:Lst s.heap l vs)(hs:s.heap.IsSliceOf sl (.int a u) .none .none)(ha:a≤vs.length)(hz:vs.length≤16000)(h:∀s' b,Pu s s'→Fm s0 H Z L m s'→Lst s'.heap b (vs.drop a)→s.heap.get? b=none→Q (.ref b) s'):A8 (MD c.w) A (Cr (.ref l) (.ref sl)) Q E s:=by
 refine EM hl.isList hs (.int a u) .none .none (by simp) ?_ (by rw[Ay,AT];exact n1 hz)
 have e:JB vs.toArray (some (a:Int)) none none=(vs.drop a).toArray:=by
  rw[Io vs.toArray (a:=a) (b:=vs.length) (by
   unfold FN;have h1:¬((a:Int)<0):=by exact n25
   simp only[Eu,Ay,h1,if_false];simp;exact o76 ha h1)]
  rw[Co,Hw (by rw[IJ];exact At _)]
 rw[e];exact h _ _ (Pu.push _ _) (F.pu (Pu.push _ _)) (Lst.new _ _) (KM _)
theorem Th{value slice:Expr}{t sl:Addr}{vs:List Value}{a:Nat}{u:Tok}(F:Fm s0 H Z L m s)(ht:Lst s.heap t vs)(hs:s.heap.IsSliceOf sl (.int a u) .none .none)(ha:a≤vs.length)(hz:vs.length≤16000)(h:∀s' b,Pu s s'→Fm s0 H Z L m s'→Lst s'.heap b (vs.drop a)→s.heap.get? b=none→Q (.ref b) s')(hs':autoParam (Cn slice false (.ref t) (.ref sl)=DW [.ref sl,.ref t] (Cr (.ref t) (.ref sl))) au3._auto_1):A8 (MD c.w) A (BQ value slice (.ref t) (.ref sl)) Q E s:=
 Dq (T:="list") (xE ht fun n e=>(yEA _ e rfl)) slot_list_getitem.lookup (TJ F ht hs ha hz h) hs'
theorem Mz(ns:List Int):E7 (.list (ns.map Ec))=true:=by
 simp[E7,ET,FF,ke_canLayAll0,ke_depthAll]
theorem Vh(ns:List Int):Fo (ns.map Ec) (ns.map Ec)=true:=by
 induction ns with
 | nil=>simp[Fo]
 | cons n ns ih=>simp[Fo,EC,ih]
theorem V4(hu:A.units+64<cLine)(ha:NL s.heap a ns)(hb:NL s.heap b ns)(h:Q (.bool false) s):A8 (MD c.w) A (CB .NotEq (.ref a) (.ref b)) Q E s:=by
 refine xEA ha ?_;clear ha;intro xs la na;refine xEA hb ?_;clear hb;intro ys lb nb;have r1:=reads_newData la.isList (Jf na.ints);have r2:=reads_newData lb.isList (Jf nb.ints);refine ne_dataH r1 r2 (Mz _) (Mz _) hu ?_
 have e:EC (.list ((ns.map Cw).map Ec)) (.list ((ns.map Cw).map Ec))=true:=by
  rw[EC];exact Vh _
 rw[e];exact h
structure IsJ(W:Nat→Nat→Nat)(y:Lay)(st:St)(cm:Option (Nat×Nat×Nat))(kn:List ((List Nat×Nat)×Nat))(h0:AE)(L:Addr)(ha d:Addr)(ta:Nat→Addr)(hs:List Nat)(T:Nat→List Nat)(y':Lay)(cm':Option (Nat×Nat×Nat))(kn':List ((List Nat×Nat)×Nat))(H:AE):Prop where
 D:Gd y (M5 st cm kn) h0 y' (M5 st cm' kn') H
 lk:M6 y y'
 ok:cm'=Ll st→KT W kn'
 nl:NL H ha hs
 tb:MV c.w H d ta hs T
 no:∀b,(b=ha∨b=d∨∃k∈hs,b=ta k)→¬Own y' (M5 st cm' kn') b
 cc:H.IsCell (L+1) (some (.ref y.ci))
theorem MV.to{ta hm T}(x:MV w h d ta hm T)(kd:∀o,h.get? d=some o→h'.get? d=some o)(kt:∀k∈hm,∀o,h.get? (ta k)=some o→h'.get? (ta k)=some o):MV w h' d ta hm T:=⟨x.1.at2 kd,fun k hk=>(x.2 k hk).at2 (kt k hk)⟩
theorem MV.nc{ta hm T}(x:MV w h d ta hm T)(n:NC h h'):MV w h' d ta hm T:=⟨x.1.nc n,fun k hk=>(x.2 k hk).nc n⟩
theorem IsJ.call{cm kn h0 ha d ta hs T}{cm' kn'}{kn''}(J:IsJ W y st cm kn h0 L ha d ta hs T y' cm' kn' H)(F:Fm s0 H Z C m s)(hL:M6 y' y'')(M:Ms y' (M5 st cm' kn') y'' (M5 st (Ll st) kn'') s s')(G':KW y'' (M5 st (Ll st) kn'') s'.heap)(hk:KT W kn''):∃H',Fm s0 H' Z C m s'∧IsJ W y st cm kn h0 L ha d ta hs T y'' (Ll st) kn'' H'∧Im H H':=by
 refine J.D.callL F M G' fun H' F' D' im k1=>?_;refine (M1 H' F' ⟨D',J.lk.trans hL,fun _=>hk,J.nl.at2 (k1 _ · (J.no _ (.inl rfl))),J.tb.to (k1 _ · (J.no _ (.inr (.inl rfl)))) fun k hk=>(k1 _ · (J.no _ (.inr (.inr (yEA k hk rfl))))),fun b hb ow=>?_,KF J.cc im⟩ im)
 have:∃o,H.get? b=some o:=by
  rcases hb with rfl | rfl | ⟨k,hk,rfl⟩
  ·exact J.nl.al
  ·refine xEA (Qm J.tb.1) fun o e _=>?_;exact⟨o,e⟩
  ·exact (J.tb.2 k hk).al
 refine xE this ?_;clear this;intro o e;rcases M.own b ow with q | q
 ·exact J.no b hb q
 ·rw[F.keep _ _ e]at q;exact nomatch q
theorem IsJ.nc{cm kn h0 ha d ta hs T}{cm' kn'}(J:IsJ W y st cm kn h0 L ha d ta hs T y' cm' kn' H)(n:NC H H')(hb:∀b,b≠a→H'.get? b=H.get? b)(hc:H'.IsCell a w)(hf:h0.get? a=none)(hne:L+1≠a):IsJ W y st cm kn h0 L ha d ta hs T y' cm' kn' H':=
 ⟨J.D.nc n hb hf hc,J.lk,J.ok,J.nl.nc n,J.tb.nc n,J.no,xEA J.cc fun o e r=>(yEA o ((hb _ hne).trans e) r)⟩
theorem WC(N:List (Nat×List Nat))(k:Nat):(TN N 5 k).drop 1=(Ap 5).map fun j=>tb N 5 k (j+1):=rfl
namespace U45
noncomputable def pP(A:Aq)(s:A4)(E Q:Value→A4→Prop)(y:Lay)(st:St)(W:Nat→Nat→Nat)(prs:List (Nat×Nat))(ra pa:Addr)(vr vp:List Value)(cm:Option (Nat×Nat×Nat))(kn:List ((List Nat×Nat)×Nat)):Prop:=∀(hp:Rt st W)(rm:Rm A 16 250)(B:Bs s.heap)(G:KW y (M5 st cm kn) s.heap)(hcm:cm=Ll st→KT W kn)(hr:Lx s.heap ra vr st.rows)(hpp:Lb s.heap pa vp prs)(hpl:∀p∈prs,p.1<st.rows.length∧p.2<st.rows.length)(hpz:prs.length≤100)(hnd:st.rows.Nodup)(hpos:0<st.rows.length)(hlab:∀hs,Rv st.rows prs hs→∀i,i<st.rows.length→lab hs i=Ku st.up i)(hWt:∀ks:List (Nat×Row),ks.Nodup→(∀p,p∈ks↔p∈(Ap st.rows.length).map fun i=>(Ku st.up i,KG st i))→∀i,i<st.rows.length→∀t,1≤t→t≤5→W (Ku st.up i) t=tb (ks.map fun p=>(p.1,p.2.2)) 5 (Ku st.up i) t)(kk:∀s' y' kn',M6 y y'→Ms y (M5 st cm kn) y' (M5 st (Ll st) kn') s s'→KW y' (M5 st (Ll st) kn') s'.heap→KT W kn'→Q (.bool true) s'),A8 (MD c.w) A (call (.ref 587) [.ref y.ci,.ref ra,.ref pa]) Q E s
noncomputable def fF:=unz fun A=>unz fun s=>unz fun E=>unz fun Q=>unz fun y=>unz fun st=>unz fun W=>unz fun prs=>unz fun ra=>unz fun pa=>unz fun vr=>unz fun vp=>unz fun cm=>pP A s E Q y st W prs ra pa vr vp cm
noncomputable def kK:=epz ({},{},default,default,OG,dSt,default) fF
noncomputable def A_:=kK.1
noncomputable def s_:=kK.2.1
noncomputable def y_:=kK.2.2.2.2.1
noncomputable def st_:=kK.2.2.2.2.2.1
noncomputable def W_:=kK.2.2.2.2.2.2.1
noncomputable def cm_:=kK.2.2.2.2.2.2.2.2.2.2.2.2.1
noncomputable def kn_:=kK.2.2.2.2.2.2.2.2.2.2.2.2.2
inductive Zt(L:Addr)(ha:Addr)(hs:List Nat)(d:Addr)(ta:Nat→Addr)(N:List (Nat×List Nat))(n:Nat)(H':AE)(m':A9→Option Value):Prop
 | mk(y':Lay)(cm':Option (Nat×Nat×Nat))(kn':List ((List Nat×Nat)×Nat))(a1:IsJ W_ y_ st_ cm_ kn_ s_.heap L ha d ta hs (TN N 5) y' cm' kn' H')(a2:(0<n→cm'=Ll st_))(a3:(∃w,H'.IsCell (L+2) w))(a4:m' "table" = some (.ref d))(a5:m' "homes" = some (.ref ha))
inductive Zs(L:Addr)(ha:Addr)(hs:List Nat)(d:Addr)(ta:Nat→Addr)(N:List (Nat×List Nat))(n:Nat)(tv:Tok)(i:Nat)(ys:List Value)(H':AE):Prop
 | mk(y':Lay)(cm':Option (Nat×Nat×Nat))(kn':List ((List Nat×Nat)×Nat))(a1:IsJ W_ y_ st_ cm_ kn_ s_.heap L ha d ta hs (TN N 5) y' cm' kn' H')(a2:(0<i→cm'=Ll st_))(a3:H'.IsCell (L+2) (some (.int (n:Nat) tv)))(a4:LH ys ((Ap i).map fun j=>W_ (Ku st_.up n) (j+1)))
theorem tT:pP A_ s_ kK.2.2.1 kK.2.2.2.1 y_ st_ W_ kK.2.2.2.2.2.2.2.1 kK.2.2.2.2.2.2.2.2.1 kK.2.2.2.2.2.2.2.2.2.1 kK.2.2.2.2.2.2.2.2.2.2.1 kK.2.2.2.2.2.2.2.2.2.2.2.1 cm_ kn_:=by
 intro hp rm B G hcm hr hpp hpl hpz hnd hpos hlab hWt kk;have rm:Rm A_ (15+1) (247+3):=rm;refine Mo rfl ‹_› ‹_› rfl rfl rfl rfl rfl ?_;intro A_ L H s1 rm BH F hC;refine xA (hC "counts" (L+1) rfl) fun hc1 hf1=>?_;replace hc1:H.IsCell (L+1) (some (.ref y_.ci)):=hc1;refine xA (hC "n" (L+2) rfl) fun hc2 hf2=>?_
 have dead:∀b,s_.heap.get? b=none→c.H0.get? b=none:=fun b hb=>by
  exact Ky fun o e=>by rw[B.ext _ _ e]at hb;exact nomatch hb
 have hn:=hp.bs.hn;have D0:Gd y_ (M5 st_ cm_ kn_) s_.heap y_ (M5 st_ cm_ kn_) H:=⟨G.ext BH,fun b o _ e=>BH _ _ e,fun _ o=>.inl o,fun _ o e=>⟨o,BH _ _ e⟩⟩;refine Lw (Nj F Vd Vg (sp2 (Kv F rfl (Kv F rfl ⟨F.In,SC (rm.mono (by decide) (by decide)) (F.base.trans F.keep) (hr.ext (BH.trans F.keep)) (hpp.ext (BH.trans F.keep)) hn hp.bs.kids hpl hpz hnd fun s2 ha hs P2 hha hok hna=>?_⟩))));refine F.takeK P2 fun H2 hE2 F2 hnew2 him2=>?_;have hha:NL H2 ha hs:=hha.at2 fun o e=>hnew2 _ _ hna e;have hna':H.get? ha=none:=(F.apart hna).1
 have fha:s_.heap.get? ha=none:=by
  exact Ky fun o e=>by rw[BH _ _ e]at hna';exact nomatch hna'
 refine L4 F2 fun s3 F=>?_;have hlab2:=hlab hs hok;refine Lw (Nj F Vb Ve (sp2 (Kv F rfl (Kv F rfl ⟨F.In,S4 (rm.mono (by decide) (by decide)) (F.base.trans F.keep) (hr.ext ((BH.trans hE2).trans F.keep)) (hha.at2 fun o e=>F.keep _ _ e) hn hok.inv.len hok.inv.le hp.bs.kids fun s4 d ta ks P4 hT hkn hkm hdn htn=>?_⟩))));refine F.takeK P4 fun H4 hE4 F4 hnew4 him4=>?_;have hT:MV c.w H4 d ta hs _:=hT.to (fun o e=>hnew4 _ _ hdn e) (fun k hk o e=>hnew4 _ _ (htn k hk) e)
 have down:∀b,s3.heap.get? b=none→s_.heap.get? b=none:=fun b hb=>by
  exact Ky fun o e=>by rw[F.keep _ _ (hE2 _ _ (BH _ _ e))]at hb;exact nomatch hb
 have eks:∀i,i<st_.rows.length→hkey hs st_.rows i=(Ku st_.up i,KG st_ i):=fun i hi=>by
  unfold hkey KG;rw[hlab2 i hi];have hri:st_.rows[i]?=some (st_.rows.getD i ("",[])):=by rw[A6,A7 hi];rfl
  have hk2:=(hp.bs.kids i _ hri).2;generalize st_.rows.getD i ("",[])=r at hk2;show (_,(r.1,r.2.map (lab hs)))=(_,(r.1,r.2.map (Ku st_.up)));rw[AZ fun k hk=>hlab2 k (hk2 k hk)]
 have hkm2:∀p,p∈ks↔p∈(Ap st_.rows.length).map fun i=>(Ku st_.up i,KG st_ i):=fun p=>by
  rw[hkm p,AZ fun i hi=>eks i (Be.mp hi)]
 have hWt:=hWt ks hkn hkm2
 have hno:∀b,(b=ha∨b=d∨∃k∈hs,b=ta k)→¬Own y_ (M5 st_ cm_ kn_) b:=fun b hb ow=>by
  refine xEA (G.own_mut ow) fun o e _=>?_;rcases hb with rfl | rfl | ⟨k,hk,rfl⟩
  ·rw[fha]at e;exact nomatch e
  ·rw[down _ hdn]at e;exact nomatch e
  ·rw[down _ (htn k hk)]at e;exact nomatch e
 have J:IsJ W_ y_ st_ cm_ kn_ s_.heap L ha d ta hs (TN (ks.map fun p=>(p.1,p.2.2)) 5) y_ cm_ kn_ H4:=⟨D0.ext (hE2.trans hE4),M6.refl y_,hcm,hha.at2 (fun o e=>hE4 _ _ e),hT,hno,hc1.keeps (hE2.trans hE4)⟩;have hc2:=hc2.keeps (hE2.trans hE4);generalize hN:ks.map (fun p=>(p.1,p.2.2))=N at hWt J hT;refine L4 F4 fun s5 F=>?_;refine xE hr.l fun nr hrl=>?_
 refine Mp (LB F LO rfl (by decide) (sp1 (KN F KL rfl (by decide) (sp1 (Kv F rfl (Lj F (hr.l.ext ((BH.trans (hE2.trans hE4)).trans F.keep)) (by rw[hr.v.1];exact n1 hn) fun s6 t6 P6 F=>UU fun s7 rg t7 t8 P7 hrg=>Oo (Src.range (a:=0) rm.h hrg (Pu.refl _) (by decide) (by rw[hr.v.1];exact Y1 hn) (by simp)) (F.pu P7) (Pu.refl _)
  (I:=Zt L ha hs d ta N) (fun i H' m' _ p hp=>by exact absurd hp Ah) ⟨y_,cm_,kn_,J,(fun h=>by exact if_pos ‹_›),⟨_,hc2⟩,rfl,rfl⟩ (fun n v H' m' s8 Z' hn' hzn Fi hP hI=>?_) (fun H' m' s8 Fi hI=>?_)))))))
 ·obtain⟨y',cm',kn',J,hcm',⟨w,hcn⟩,mt,mh⟩:=hI;have zn:ZN Z':=hzn (fun p hp=>by exact absurd hp Ah);refine xE hP ?_;clear hP;rintro tv rfl;have hnl:n<st_.rows.length:=by rw[hr.v.1]at hn';assumption
  refine Aw (UP Fi zn hcn (dead _ hf2) (fun s9 H3 F hcn nc kc kb=>?_) rfl rfl rfl);have J:=J.nc nc kb hcn hf2 (B9 (Rr L));rw[Ga]at hcn
  refine L7 (wpAny_isTrue_Compare1 (MJ (LB F LO rfl (by decide) (sp2 (cI F fun s11 t11 P11 F=>cI F fun s12 t12 P12 F=>Tm fun s13 rg2 t13 P13 hrg2=>Lv (Src.range (a:=1) rm.h hrg2 (Pu.refl _) (by decide) (by decide) (by decide)) (F.pu P13) (Pu.refl _) (fun p hp=>by exact absurd hp Ah) (by decide)
   (I:=Zs L ha hs d ta N n tv) ⟨y',cm',kn',J,(fun h=>by exact if_pos ‹_›),hcn,.nil⟩ (fun C i ys v H' m' s14 Z2 hi hlen Fi _ hP hI=>?_) (fun C D' ys H' s14 K hI hlen hD=>?_))))))
  ·obtain⟨y',cm',kn',J,hcm',hcn,hI⟩:=hI;refine xE hP ?_;clear hP;rintro tr rfl;have hi5:1+i≤5:=by exact aq308 hi
   have G:=J.D.good;refine xEA (G.ok .cd hp.hC) fun mv hcd hmv=>?_;have hcI:=G.ci hp.hC;have hcc:H'.IsCell (L+1) (some (.ref y'.ci)):=by rw[J.lk.ci];exact J.cc
   refine Aw (L4 Fi fun s15 F=>PC Sk (Ln F hcc ⟨_,_,_,_,rfl,F,hcI,hcd,rfl,Ln F hcn (Kv F rfl ⟨F.In,Tx (cm:=cm') hp (rm.mono (by exact aq262 hi) (by exact aq210 hi)) (F.base.trans F.keep) (G.ext F.keep) J.ok hnl (by simp) hi5 fun s16 t16 y'' kn'' hL M G' hk=>?_⟩)⟩));refine LY (J.call F hL M G' hk) fun H5 F J im=>?_;refine⟨H5,_,F,y'',_,kn'',J,fun _=>rfl,KF hcn im,?_⟩;rw[CD,B6];exact hI.snoc ⟨t16,by simp[C1 1 i]⟩
  ·obtain⟨y',cm',kn',J,hcm',hcn,hI⟩:=hI;refine K.post fun s15 F hl15 _=>?_;refine xEA J.nl fun vh hvh hnh=>?_;have hhl:=hnh.1;have hsl:=hok.inv.len;refine xEA (hnh.get (LV (by lia:n<hs.length))) ?_;rintro v1 hv1 ⟨t1,rfl⟩;have hmem:lab hs n∈hs:=Av (LV (by lia));refine xEA (J.tb.2 _ hmem) fun vt hvt hnt=>?_;have hvtl:vt.length=6:=by rw[hnt.1,Xy]
   have eK:UC ta hs (lab hs n:Int)=some (.ref (ta (lab hs n))):=by unfold UC;rw[if_pos ⟨by exact n3,by simpa using hmem⟩];simp
   refine Subscript_ (Subscript_ (Kv F mt (Subscript_ (Kv F mh (Ln F hcn (KI (hvh.ext F.keep) (by exact n3) (by exact n5 hnl hn) (by simpa using hv1) (Mq (J.tb.1.at2 fun o e=>F.keep _ _ e) eK fun s16 P16=>Lg (cI (F.pu P16) fun s17 t17 P17 F s18 sl P18 hsl=>Th (a:=1) (F.pu P18) (hvt.ext (F.pu P18).keep) hsl (by exact n14 hvtl) (by exact n20 hvtl) fun s19 b P19 F19 hb _=>?_))))))));have hD:NL s15.heap D' _:=(yEA ys hl15 hI)
   have hns:(Ap ((((6:Int)) - ((1:Nat):Int)).toNat)).map (fun j=>W_ (Ku st_.up n) (j+1))=(TN N 5 (lab hs n)).drop 1:=by
    rw[WC,hlab2 n hnl];refine AZ fun j hj=>?_;have hj:j<5:=Be.mp hj;exact hWt n hnl (j+1) (by exact BL _) ‹_›
   have hb2:NL s19.heap b ((TN N 5 (lab hs n)).drop 1):=(yEA _ hb (hnt.drop 1));rw[hns]at hD;refine V4 (by have:=rm.u;rw[show cLine=9900 from rfl];exact n9 this) (hD.at2 fun o e=>(P16.trans (P17.trans (P18.trans P19))).ext _ _ e) hb2 (Ai (Ks rfl (Kt (Kw (Kt ⟨_,_,F19,y',cm',kn',J,fun _=>hcm' (by decide),⟨_,hcn⟩,mt,mh⟩)))))
 ·obtain⟨y',cm',kn',J,hcm',_,mt,mh⟩:=hI;have e:cm'=Ll st_:=hcm' (by rw[hr.v.1];assumption);subst e;refine Kw (KS (G8 ?_));refine J.D.msK Fi fun G' M=>?_;exact kk _ y' kn' J.lk M G' (J.ok rfl)
end U45
theorem V7{A s E Q y st W prs ra pa vr vp cm kn}:U45.pP A s E Q y st W prs ra pa vr vp cm kn:=@KB _ _ U45.fF U45.kK rfl U45.tT (A,s,E,Q,y,st,W,prs,ra,pa,vr,vp,cm,kn)
end
end
section
variable{st:St}
noncomputable def Nt(up:List Nat)(n:Nat)(F:Nat→Nat):Nat:=((Ap n).map fun i=>if Kz up i=true then F i else 0).sum
theorem Mu(F:Nat→Nat)(n:Nat):((Ap (n+1)).map F).sum=((Ap n).map F).sum+F n:=by
 rw[CD,B6,ES];rfl
theorem MA{F G:Nat→Nat}{n:Nat}(h:∀i,i<n→F i=G i):((Ap n).map F).sum=((Ap n).map G).sum:=by
 rw[AZ fun i hi=>h i (Be.mp hi)]
theorem OO{F G:Nat→Nat}{k:Nat}:∀{n:Nat},k<n→(∀i,i≠k→F i=G i)→((Ap n).map F).sum+G k=((Ap n).map G).sum+F k
 | 0,h,_=>by lia
 | n+1,h,e=>by
  rw[Mu,Mu]
  by_cases q:k=n
  ·subst q;have:=MA (n:=k) fun i hi=>e i (by exact o15 hi)
   lia
  ·have:=OO (n:=n) (by exact aq217 h q) e;have:=e n (fun z=>q z.symm);exact aq108 ‹_› this
theorem Xc(F:Nat→Nat){k n:Nat}(h:k<n):F k≤((Ap n).map F).sum:=by
 have:=OO (F:=F) (G:=fun i=>if i=k then 0 else F i) h fun i hi=>by simp[hi]
 simp at this;exact aq168 this
theorem MC(h:k<g)(hg:g<up.length)(i:Nat):Kz (up.set g k) i=(Kz up i && i != g):=by
 unfold Kz;rw[BU]
 by_cases e:g=i
 ·subst e;simp[hg];exact o14 h
 ·simp[e];lia
theorem MU(i:Nat):Kz (up++[up.length]) i=(Kz up i || i == up.length):=by
 unfold Kz;rcases Bv i up.length with q | q | q
 ·rw[Ar q];simp;lia
 ·subst q;simp
 ·rw[AI (by simp;exact o63 q),AI (by exact o45 q)];simp;exact o47 q
theorem Ng(h:Kz up i=true):i<up.length:=by
 unfold Kz at h;exact (Af.mp (by simpa using h:up[i]?=some i)).1
theorem Lr(h:Kz up i=true):up[i]?=some i:=by unfold Kz at h;simpa using h
theorem O6{up:List Nat}{g k:Nat}(h:k<g)(hg:Kz up g=true)(hk:Kz up k=true){n:Nat}(hn:g<n){F G:Nat→Nat}(h1:∀i,i≠k→G i=F i):Nt (up.set g k) n G+F g+F k=Nt up n F+G k:=by
 have hgl:=Ng hg
 have e:Nt (up.set g k) n G=((Ap n).map fun i=>if i=g then 0 else if i=k then G k else (if Kz up i=true then F i else 0)).sum:=by
  refine MA fun i hi=>?_;rw[MC h hgl]
  by_cases e1:i=g
  ·simp[e1]
  ·by_cases e2:i=k
   ·subst e2;simp[e1,hk]
   ·simp[e1,e2,h1 i e2]
 have u1:=OO (n:=n) (k:=g) (F:=fun i=>if i=g then 0 else if i=k then G k else (if Kz up i=true then F i else 0)) (G:=fun i=>if i=k then G k else (if Kz up i=true then F i else 0)) hn fun i hi=>by exact if_neg ‹_›
 have u2:=OO (n:=n) (k:=k) (F:=fun i=>if i=k then G k else (if Kz up i=true then F i else 0)) (G:=fun i=>if Kz up i=true then F i else 0) (by exact o46 h hn) fun i hi=>by exact if_neg ‹_›
 simp only[if_true,hk,hg,show ¬g=k by exact o47 h,if_false]at u1 u2;rw[e];unfold Nt;exact aq51 u1 u2
theorem Q4{up:List Nat}(F G:Nat→Nat):Nt (up++[up.length]) (up.length+1) G=((Ap up.length).map fun i=>if Kz up i=true then G i else 0).sum+G up.length:=by
 unfold Nt;rw[Mu]
 congr 1
 ·refine MA fun i hi=>?_;rw[MU];simp[show ¬i=up.length by exact o14 hi]
 ·rw[MU];simp
structure Inv(st:St)(prs:List (Nat×Nat))(ex:List Nat):Prop where
 hn:st.rows.length≤13
 up:st.up.length=st.rows.length
 lots:st.lots.length=st.rows.length
 abv:st.abv.length=st.rows.length
 wts:st.wts.length=st.rows.length
 dps:st.dps.length=st.rows.length
 nums:st.nums=st.rows.zipIdx
 low:Low st.up
 keys:∀i,st.akeys i=Kz st.up i
 kids:∀(n:Nat) (r:Row),st.rows[n]?=some r→r.2.length≤2∧∀k∈r.2,k<st.rows.length
 gone:∀k m g,Chg.edge k m g∈st.chg→k≠g→Kz st.up g=false
 gonl:∀k m g,Chg.edge k m g∈st.chg→g<st.rows.length
 made:st.made=st.rows.length
 chgn:st.chg.length=st.made+st.known.length+st.edges
 edgn:st.edges≤prs.length+st.mrg.length
 forn:st.forest=st.mrg.length
 mrgn:st.mrg.length+Nt st.up st.rows.length (fun _=>1)=st.rows.length
 pot:st.known.length+st.wait.length+ex.length+26*Nt st.up st.rows.length (fun _=>1)≤27*st.rows.length
 abvn:Nt st.up st.rows.length (fun i=>(st.abv.getD i []).length)≤2*st.rows.length
 abvz:∀i,(st.abv.getD i []).length≤26
 abvm:∀i,∀x∈st.abv.getD i [],x<st.rows.length
 lotn:∀i,(st.lots.getD i []).Nodup∧∀x∈st.lots.getD i [],x<st.rows.length
 lotm:∀i,Kz st.up i=true→∀x,x∈st.lots.getD i []↔x<st.rows.length∧Ku st.up x=i
 uses:∀(u:Nat) (r:Row),st.rows[u]?=some r→∀k∈r.2,u∈st.abv.getD (Ku st.up k) []
 prsm:∀p∈prs,p.1<st.rows.length∧p.2<st.rows.length
 prsa:∀p∈prs,Ku st.up p.1=Ku st.up p.2
 snd:Uz st.rows prs (Ku st.up)
 knv:∀p∈st.known,p.2<st.rows.length∧∀g,Lf st.rows prs g→cno g p.1=cno g (st.rows.getD p.2 ("",[]))
 waitm:∀x∈st.wait,x<st.rows.length
 exm:∀x∈ex,x<st.rows.length
 cov:∀u,u<st.rows.length→u∈st.wait∨u∈ex∨∃m,lk st.known (KG st u)=some m∧Ku st.up m=Ku st.up u
theorem Inv.bas(h:Inv st prs ex)(hp:prs.length≤50)(hm:st.mks.length≤100):Bas st where
 hn:=h.hn
 up:=h.up
 lots:=h.lots
 abv:=h.abv
 wts:=h.wts
 dps:=h.dps
 nums:=h.nums
 low:=h.low
 keys:=h.keys
 lotz:=fun i l e=>by
  refine xA (h.lotn i) fun a b=>?_;have e2:st.lots.getD i []=l:=by rw[A6,e];rfl
  rw[e2]at a b;have:=LF (l:=l) (l':=Ap st.rows.length) a fun x hx=>Be.mpr (b x hx);rw[CI]at this;have:=h.hn;exact A0 ‹_› ‹_›
 abvz:=fun i l e=>by
  have:=h.abvz i;have e2:st.abv.getD i []=l:=by rw[A6,e];rfl
  rw[e2]at this;exact this
 mrgz:=by have:=h.mrgn;have:=h.hn;exact aq218 ‹_› this
 edgz:=by have:=h.mrgn;have:=h.hn;have:=h.edgn;exact aq126 ‹_› this ‹_› hp
 forz:=by have:=h.mrgn;have:=h.hn;have:=h.forn;exact aq161 ‹_› this ‹_›
 knoz:=by have:=h.pot;have:=h.hn;exact aq109 ‹_› this
 chgz:=by have:=h.pot;have:=h.hn;have:=h.chgn;have:=h.edgn;have:=h.mrgn;have:=h.made;exact aq15 ‹_› ‹_› ‹_› this ‹_› ‹_› hp
 waiz:=by have:=h.pot;have:=h.hn;exact aq19 ‹_› this
 mksz:=hm
 kids:=h.kids
 gone:=h.gone
 gonl:=h.gonl
theorem Inv.chl(h:Inv st prs ex)(hp:prs.length≤50):st.chg.length≤1000:=by
 have:=h.pot;have:=h.hn;have:=h.chgn;have:=h.edgn;have:=h.mrgn;have:=h.made;exact aq16 ‹_› ‹_› ‹_› this ‹_› ‹_› hp
theorem Inv.same(h:Inv st prs ex)(a:Nat)(b:List (Nat×List Nat))(c:Bool)(d:Option (Nat×Nat×Nat))(e:List ((List Nat×Nat)×Nat))(f:List Nat)(g:Nat)(i:List DY):Inv {st with backs:=a,mks:=b,hasC:=c,cmark:=d,cknown:=e,cells:=f,card:=g,lvls:=i} prs ex:=
 ⟨h.hn,h.up,h.lots,h.abv,h.wts,h.dps,h.nums,h.low,h.keys,h.kids,h.gone,h.gonl,h.made,h.chgn,h.edgn,h.forn,h.mrgn,h.pot,h.abvn,h.abvz,h.abvm,h.lotn,h.lotm,h.uses,h.prsm,h.prsa,h.snd,h.knv,h.waitm,h.exm,h.cov⟩
end
section
variable{st:St}
theorem M4(l:List (List Nat))(k i:Nat)(v:List Nat)(hk:k<l.length):(l.set k v).getD i []=if i=k then v else l.getD i []:=by
 rw[A6,BU]
 by_cases e:k=i
 ·subst e;simp[hk]
 ·rw[if_neg e,if_neg (fun q=>e q.symm),A6]
theorem Lf.pairs_mono(h:Lf rows prs' g)(hs:∀p∈prs,p∈prs'):Lf rows prs g:=⟨fun p hp=>h.pairs p (hs p hp),h.cong⟩
theorem Ql(h:Inv st prs ex)(hkg:k<g)(hk:Kz st.up k=true)(hg:Kz st.up g=true)(hu:u<st.rows.length):u∈st.abv.getD g []∨KG (Oi st k g) u=KG st u:=by
 have hr:=O7 hu
 by_cases e:∃x∈(st.rows.getD u ("",[])).2,Ku st.up x=g
 ·refine xEA e ?_;clear e;intro x hx e;have:=h.uses u _ hr x hx;rw[e]at this;exact .inl this
 ·refine .inr ?_;show Rk (st.up.set g k) (st.rows.getD u ("",[]))=Rk st.up (st.rows.getD u ("",[]));unfold Rk
  congr 1
  refine AZ fun x hx=>?_;rw[NV h.low (Lr hg) (Lr hk) hkg,if_neg fun q=>e (yEA x hx q)]
namespace U46
noncomputable def pP(st:St):Prop:=∀{prs prs':List (Nat×Nat)}{ex:List Nat}(h:Inv st prs ex){k g:Nat}(hkg:k<g)(hk:Kz st.up k=true)(hg:Kz st.up g=true)(hs:∀p∈prs,p∈prs')(hl:prs.length≤prs'.length)(hm:∀p∈prs',p.1<st.rows.length∧p.2<st.rows.length)(ha:∀p∈prs',Ku (st.up.set g k) p.1=Ku (st.up.set g k) p.2)(hc:∀G,Lf st.rows prs' G→G k=G g),Inv (Oi st k g) prs' ex
noncomputable def fF:=pP
noncomputable def kK:=epz dSt fF
noncomputable def st_:=kK
theorem tT:pP st_:=by
 intro prs prs' ex h k g hkg hk hg hs hl hm ha hc;have hgn:g<st_.rows.length:=by rw[←h.up];exact Ng hg
 have hR:=NV h.low (Lr hg) (Lr hk) hkg;have hgl:g<st_.up.length:=Ng hg;have hlk:k<st_.lots.length:=by rw[h.lots];exact o46 hkg hgn
 have hak:k<st_.abv.length:=by rw[h.abv];exact o46 hkg hgn
 have s1:=O6 hkg hg hk hgn (F:=fun _=>1) (G:=fun _=>1) (fun _ _=>rfl);have s2:=O6 hkg hg hk hgn (F:=fun i=>(st_.abv.getD i []).length) (G:=fun i=>(((st_.abv.set k (st_.abv.getD k []++st_.abv.getD g []))).getD i []).length) (fun i hi=>by rw[M4 _ _ _ _ hak,if_neg hi]);simp only[M4 _ _ _ _ hak,if_true,Au,show ¬g=k by exact o47 hkg,if_false]at s2;have q1:=h.mrgn;have q2:=h.pot;have q3:=h.abvn;have q4:=h.abvz g;have q5:=h.hn;have q7:=h.abvz k
 have cK:(if Kz st_.up k=true then (st_.abv.getD k []).length else 0)+(if Kz st_.up g=true then (st_.abv.getD g []).length else 0)≤2*st_.rows.length:=by
  have u1:=OO (n:=st_.rows.length) (k:=g) (F:=fun i=>if Kz st_.up i=true then (st_.abv.getD i []).length else 0) (G:=fun i=>if i=g then 0 else if Kz st_.up i=true then (st_.abv.getD i []).length else 0) hgn fun i hi=>by simp[hi]
  have u2:=Xc (fun i=>if i=g then 0 else if Kz st_.up i=true then (st_.abv.getD i []).length else 0) (k:=k) (n:=st_.rows.length) (by exact o46 hkg hgn);simp only[if_true,show ¬k=g by exact o14 hkg,if_false]at u1 u2;have q3':((Ap st_.rows.length).map fun i=>if Kz st_.up i=true then (st_.abv.getD i []).length else 0).sum≤2*st_.rows.length:=q3
  lia
 rw[if_pos hk,if_pos hg]at cK
 have dis:∀x,x∈st_.lots.getD k []→x∈st_.lots.getD g []→False:=fun x a b=>by
  have:=((h.lotm k hk x).mp a).2;have:=((h.lotm g hg x).mp b).2;exact aq301 hkg ‹_› this
 exact {
  hn:=h.hn
  up:=by show (st_.up.set g k).length=_;rw[By];exact h.up
  lots:=by show (st_.lots.set k _).length=_;rw[By];exact h.lots
  abv:=by show (st_.abv.set k _).length=_;rw[By];exact h.abv
  wts:=h.wts
  dps:=h.dps
  nums:=h.nums
  low:=h.low.set (by exact o45 hkg)
  keys:=fun i=>by show (st_.akeys i && i != g)=Kz (st_.up.set g k) i;rw[MC hkg hgl,h.keys]
  kids:=h.kids
  gone:=fun k' m g' hm' hne=>by
   show Kz (st_.up.set g k) g'=false;rw[MC hkg hgl];rcases Am.mp hm' with q | q
   ·rw[h.gone k' m g' q hne];rfl
   ·rw[Ab]at q;cases q;simp
  gonl:=fun k' m g' hm'=>by
   rcases Am.mp hm' with q | q
   ·exact h.gonl k' m g' q
   ·rw[Ab]at q;cases q;exact hgn
  made:=h.made
  chgn:=by
   show (st_.chg++[_]).length=st_.made+st_.known.length+(st_.edges+1);rw[Au,h.chgn];simp;exact o35
  edgn:=by
   show st_.edges+1≤prs'.length+(st_.mrg++[(k,g)]).length;rw[Au];have:=h.edgn;simp;exact aq68 s1 q1 this hl
  forn:=by
   show st_.forest+1=(st_.mrg++[(k,g)]).length;rw[Au,h.forn];rfl
  mrgn:=by
   show (st_.mrg++[(k,g)]).length+Nt (st_.up.set g k) st_.rows.length _=st_.rows.length;rw[Au];simp;exact aq141 s1 q1
  pot:=by
   show st_.known.length+(st_.wait++st_.abv.getD g []).length+ex.length+26*Nt (st_.up.set g k) st_.rows.length _≤27*st_.rows.length;rw[Au];exact aq40 q2 s1 q4
  abvn:=by
   show Nt (st_.up.set g k) st_.rows.length (fun i=>(((st_.abv.set k (st_.abv.getD k []++st_.abv.getD g []))).getD i []).length)≤2*st_.rows.length;simp only[M4 _ _ _ _ hak];exact aq93 s2 q3
  abvz:=fun i=>by
   show ((st_.abv.set k (st_.abv.getD k []++st_.abv.getD g [])).getD i []).length≤26;rw[M4 _ _ _ _ hak];split
   ·rw[Au];exact aq205 cK q5
   ·exact h.abvz i
  abvm:=fun i x hx=>by
   have hx:x∈(st_.abv.set k (st_.abv.getD k []++st_.abv.getD g [])).getD i []:=hx;rw[M4 _ _ _ _ hak]at hx;split at hx
   ·rcases Am.mp hx with q | q
    ·exact h.abvm _ x q
    ·exact h.abvm _ x q
   ·exact h.abvm _ x hx
  lotn:=fun i=>by
   show ((st_.lots.set k (st_.lots.getD k []++st_.lots.getD g [])).getD i []).Nodup∧∀x∈(st_.lots.set k (st_.lots.getD k []++st_.lots.getD g [])).getD i [],x<st_.rows.length;rw[M4 _ _ _ _ hlk];split
   ·refine⟨Ck.mpr (yAA ((h.lotn k).1) ((h.lotn g).1) (fun x hx y hy e=>?_)),fun x hx=>?_⟩
    ·subst e;exact dis x hx hy
    ·rcases Am.mp hx with q | q
     ·exact (h.lotn k).2 x q
     ·exact (h.lotn g).2 x q
   ·exact h.lotn i
  lotm:=fun i hi x=>by
   show x∈(st_.lots.set k (st_.lots.getD k []++st_.lots.getD g [])).getD i []↔x<st_.rows.length∧Ku (st_.up.set g k) x=i;have hi:Kz (st_.up.set g k) i=true:=hi;rw[MC hkg hgl]at hi;simp only[Ce,bne_iff_ne,ne_eq]at hi;rw[M4 _ _ _ _ hlk,hR]
   by_cases e:i=k
   ·subst e;rw[if_pos rfl,Am,h.lotm i hk x,h.lotm g hg x];constructor
    ·rintro (⟨a,b⟩ | ⟨a,b⟩)
     ·exact⟨a,by split<;>lia⟩
     ·exact⟨a,by rw[if_pos b]⟩
    ·rintro⟨a,b⟩
     by_cases q:Ku st_.up x=g
     ·exact .inr ⟨a,q⟩
     ·rw[if_neg q]at b;exact .inl ⟨a,b⟩
   ·rw[if_neg e,h.lotm i hi.1 x];constructor
    ·rintro⟨a,b⟩;exact⟨a,by rw[if_neg (by lia)];exact b⟩
    ·rintro⟨a,b⟩
     by_cases q:Ku st_.up x=g
     ·rw[if_pos q]at b;lia
     ·rw[if_neg q]at b;exact⟨a,b⟩
  uses:=fun u r hu x hx=>by
   show u∈(st_.abv.set k (st_.abv.getD k []++st_.abv.getD g [])).getD (Ku (st_.up.set g k) x) [];have:=h.uses u r hu x hx;rw[M4 _ _ _ _ hak,hR]
   by_cases q:Ku st_.up x=g
   ·rw[if_pos q,if_pos rfl];rw[q]at this;exact AL _ this
   ·rw[if_neg q]
    by_cases e:Ku st_.up x=k
    ·rw[if_pos e];rw[e]at this;exact AD _ this
    ·rw[if_neg e];exact this
  prsm:=hm
  prsa:=ha
  snd:=fun G hG x=>by
   show G (Ku (st_.up.set g k) x)=G x;have:=h.snd G (hG.pairs_mono hs) x;rw[hR]
   by_cases q:Ku st_.up x=g
   ·rw[if_pos q,hc G hG,←q];exact this
   ·rw[if_neg q];exact this
  knv:=fun p hp=>⟨(h.knv p hp).1,fun G hG=>(h.knv p hp).2 G (hG.pairs_mono hs)⟩
  waitm:=fun x hx=>by
   rcases Am.mp (show x∈st_.wait++st_.abv.getD g []from hx)with q | q
   ·exact h.waitm x q
   ·exact h.abvm g x q
  exm:=h.exm
  cov:=fun u hu=>by
   rcases Ql h hkg hk hg hu with q | q
   ·exact .inl (AL _ q)
   ·rcases h.cov u hu with a | a | ⟨m,a,b⟩
    ·exact .inl (AD _ a)
    ·exact .inr (.inl a)
    ·refine .inr (.inr (yEA m (by rw[q];exact a) ?_));show Ku (st_.up.set g k) m=Ku (st_.up.set g k) u;rw[hR,hR,b]}
end U46
theorem Inv.join{st}:U46.pP st:=@KB _ _ U46.fF U46.kK rfl U46.tT (st)
end
section
variable{st:St}
noncomputable def MT(st:St)(n:Nat):St:=Nf (M7 st n) n
theorem TC(h:n≠st.made):MI st n=MT st n:=by unfold MI MT MH;rw[if_neg h]
theorem TD(h:n=st.made):MI st n=MT (St.s_made (St.s_chg st (st.chg++[.made n])) (n+1)) n:=by unfold MI MT MH;rw[if_pos h]
theorem Mm(st:St)(n:Nat):(lk st.known (KG st n)=none∧MT st n=(St.s_chg (St.s_known st (st.known++[(KG st n,n)])) (st.chg++[.known (KG st n)])))
  ∨(∃o,lk st.known (KG st n)=some o∧Ku st.up o=Ku st.up n∧MT st n=st)
  ∨∃o,lk st.known (KG st n)=some o∧Ku st.up o≠Ku st.up n∧MT st n=Oi st (min (Ku st.up o) (Ku st.up n)) (max (Ku st.up o) (Ku st.up n)):=by
 unfold MT
 cases e:lk st.known (KG st n)with
 | none=>
  refine .inl ⟨rfl,?_⟩;have e1:M7 st n=(St.s_chg st (st.chg++[.known (KG st n)])):=by unfold M7;rw[if_pos e]
  rw[e1];unfold Nf;rw[show lk ((St.s_chg st (st.chg++[.known (KG st n)])):St).known (KG (St.s_chg st (st.chg++[.known (KG st n)])) n)=none from e]
  rfl
 | some o=>
  have e1:M7 st n=st:=by unfold M7;rw[if_neg (by rw[e];simp)]
  rw[e1]
  by_cases q:Ku st.up o=Ku st.up n
  ·refine .inr (.inl (M1 o rfl q ?_));unfold Nf;rw[e];exact if_pos ‹_›
  ·refine .inr (.inr (M1 o rfl q ?_));unfold Nf;rw[e];exact if_neg ‹_›
theorem RO{K:Type}[DecidableEq K]{ps:List (K×Nat)}{k:K}(h:lk ps k=some n):(k,n)∈ps:=by
 unfold lk at h
 cases e:ps.find? (fun x=>decide (x.1=k))with
 | none=>rw[e]at h;exact nomatch h
 | some p=>
  rw[e]at h;have h1:=Dn e;have h2:=GA e;simp at h2;obtain rfl:=Ag h;rw[←h2];exact h1
theorem Inv.rt(h:Inv st prs ex)(ha:a<st.rows.length):Kz st.up (Ku st.up a)=true:=by
 unfold Kz;rw[Po h.low (by rw[h.up];exact ha)];exact if_pos rfl
theorem Inv.drop(h:Inv st prs [n])(hc:n∈st.wait∨∃m,lk st.known (KG st n)=some m∧Ku st.up m=Ku st.up n):Inv st prs []:=
 {hn:=h.hn,up:=h.up,lots:=h.lots,abv:=h.abv,wts:=h.wts,dps:=h.dps,nums:=h.nums,low:=h.low,keys:=h.keys,kids:=h.kids,gone:=h.gone,gonl:=h.gonl,made:=h.made,chgn:=h.chgn,edgn:=h.edgn,forn:=h.forn,mrgn:=h.mrgn,
  pot:=by have:=h.pot;simp at this ⊢;exact aq129 this
  abvn:=h.abvn,abvz:=h.abvz,abvm:=h.abvm,lotn:=h.lotn,lotm:=h.lotm,uses:=h.uses,prsm:=h.prsm,prsa:=h.prsa,snd:=h.snd,knv:=h.knv,waitm:=h.waitm
  exm:=fun x hx=>by exact absurd hx Ah
  cov:=fun u hu=>by
   rcases h.cov u hu with a | a | a
   ·exact .inl a
   ·rw[Ab]at a;subst a;rcases hc with q | q
    ·exact .inl q
    ·exact .inr (.inr q)
   ·exact .inr (.inr a)}
theorem Inv.take(h:Inv st prs [])(hw:st.wait=w++[n]):Inv (St.s_wait st w) prs [n]:=
 {hn:=h.hn,up:=h.up,lots:=h.lots,abv:=h.abv,wts:=h.wts,dps:=h.dps,nums:=h.nums,low:=h.low,keys:=h.keys,kids:=h.kids,gone:=h.gone,gonl:=h.gonl,made:=h.made,chgn:=h.chgn,edgn:=h.edgn,forn:=h.forn,mrgn:=h.mrgn,
  pot:=by
   have:=h.pot;rw[hw]at this;simp at this ⊢;omega
  abvn:=h.abvn,abvz:=h.abvz,abvm:=h.abvm,lotn:=h.lotn,lotm:=h.lotm,uses:=h.uses,prsm:=h.prsm,prsa:=h.prsa,snd:=h.snd,knv:=h.knv
  waitm:=fun x hx=>h.waitm x (by rw[hw];exact AD _ hx)
  exm:=fun x hx=>by rw[Ab]at hx;subst hx;exact h.waitm x (by rw[hw];simp)
  cov:=fun u hu=>by
   rcases h.cov u hu with a | a | a
   ·rw[hw]at a;rcases Am.mp a with q | q
    ·exact .inl q
    ·exact .inr (.inl q)
   ·exact absurd a Ah
   ·exact .inr (.inr a)}
namespace U47
noncomputable def pP(st:St):Prop:=∀{prs:List (Nat×Nat)}{n:Nat}(h:Inv st prs [n]),Inv (MT st n) prs []
noncomputable def fF:=pP
noncomputable def kK:=epz dSt fF
noncomputable def st_:=kK
theorem tT:pP st_:=by
 intro prs n h;have hn:n<st_.rows.length:=h.exm n (by exact Aj);have hrn:=O7 hn;rcases Mm st_ n with⟨e1,e2⟩ | ⟨o,e1,e3,e2⟩ | ⟨o,e1,e3,e2⟩
 ·rw[e2];refine {hn:=h.hn,up:=h.up,lots:=h.lots,abv:=h.abv,wts:=h.wts,dps:=h.dps,nums:=h.nums,low:=h.low,keys:=h.keys,kids:=h.kids,gone:=fun k m g hm=>h.gone k m g ?_,gonl:=fun k m g hm=>h.gonl k m g ?_,made:=h.made,chgn:=?_,edgn:=h.edgn,forn:=h.forn,mrgn:=h.mrgn,pot:=?_,abvn:=h.abvn,abvz:=h.abvz,abvm:=h.abvm,lotn:=h.lotn,lotm:=h.lotm,uses:=h.uses,prsm:=h.prsm,prsa:=h.prsa,snd:=h.snd,knv:=fun p hp=>?_,waitm:=h.waitm,exm:=fun x hx=>(by exact absurd hx Ah),cov:=fun u hu=>?_}
  ·rcases Am.mp hm with q | q
   ·exact q
   ·rw[Ab]at q;exact nomatch q
  ·rcases Am.mp hm with q | q
   ·exact q
   ·rw[Ab]at q;exact nomatch q
  ·show (st_.chg++[_]).length=st_.made+(st_.known++[_]).length+st_.edges;rw[Au,Au,h.chgn];simp;lia
  ·have:=h.pot;show (st_.known++[_]).length+st_.wait.length+0+26*Nt st_.up st_.rows.length (fun _=>1)≤27*st_.rows.length;rw[Au];simp at this ⊢;exact aq136 this
  ·rcases Am.mp hp with q | q
   ·exact h.knv p q
   ·rw[Ab]at q;subst q;refine⟨hn,fun g hg=>?_⟩;show cno g (cno (Ku st_.up) (st_.rows.getD n ("",[])))=cno g (st_.rows.getD n ("",[]));unfold cno
    congr 1
    rw[Dj];exact AZ fun x _=>h.snd g hg x
  ·show u∈st_.wait∨u∈[]∨∃m,lk (st_.known++[(KG st_ n,n)]) (KG st_ u)=some m∧Ku st_.up m=Ku st_.up u;rw[NX _ _ _ e1]
   by_cases q:KG st_ u=KG st_ n
   ·rcases h.cov u hu with a | a | ⟨m,a,b⟩
    ·exact .inl a
    ·rw[Ab]at a;subst a;exact .inr (.inr (yEA u (by rw[if_pos rfl]) rfl))
    ·exact noo q e1 a
   ·rw[if_neg q];rcases h.cov u hu with a | a | a
    ·exact .inl a
    ·rw[Ab]at a;subst a;exact absurd rfl q
    ·exact .inr (.inr a)
 ·rw[e2];exact h.drop (.inr (yEA o e1 e3))
 ·rw[e2];refine xA (h.knv _ (RO e1)) fun ho hog=>?_;have ro:=h.rt ho;have rn:=h.rt hn
  have like:∀G,Lf st_.rows prs G→G o=G n:=fun G hG=>by
   refine hG.cong o n _ _ (O7 ho) hrn ?_;rw[←hog G hG];show cno G (cno (Ku st_.up) (st_.rows.getD n ("",[])))=cno G (st_.rows.getD n ("",[]));unfold cno
   congr 1
   rw[Dj];exact AZ fun x _=>h.snd G hG x
  have like2:∀G,Lf st_.rows prs G→G (Ku st_.up o)=G (Ku st_.up n):=fun G hG=>by rw[h.snd G hG,h.snd G hG];exact like G hG
  have hkg:min (Ku st_.up o) (Ku st_.up n)<max (Ku st_.up o) (Ku st_.up n):=by exact o29 e3
  have hk:Kz st_.up (min (Ku st_.up o) (Ku st_.up n))=true:=by
   rcases BI (Ku st_.up o) (Ku st_.up n)with q | q
   ·rw[Bh q];exact ro
   ·rw[BK q];exact rn
  have hg:Kz st_.up (max (Ku st_.up o) (Ku st_.up n))=true:=by
   rcases BI (Ku st_.up o) (Ku st_.up n)with q | q
   ·rw[BB q];exact rn
   ·rw[BJ q];exact ro
  have hc:∀G,Lf st_.rows prs G→G (min (Ku st_.up o) (Ku st_.up n))=G (max (Ku st_.up o) (Ku st_.up n)):=fun G hG=>by
   have:=like2 G hG;rcases BI (Ku st_.up o) (Ku st_.up n)with q | q
   ·rw[Bh q,BB q];exact this
   ·rw[BK q,BJ q];exact this.symm
  have hR:=NV h.low (Lr hg) (Lr hk) hkg;have J:=h.join hkg hk hg (prs':=prs) (fun _ hp=>hp) (At _) h.prsm (fun p hp=>by rw[hR,hR,h.prsa p hp]) hc;refine J.drop ?_;rcases Ql h hkg hk hg hn with q | q
  ·exact .inl (AL _ q)
  ·refine .inr (yEA o (by rw[q];exact e1) ?_);show Ku (st_.up.set _ _) o=Ku (st_.up.set _ _) n;rw[hR,hR];rcases BI (Ku st_.up o) (Ku st_.up n)with q | q
   ·rw[Bh q,BB q,if_neg e3,if_pos rfl]
   ·rw[BK q,BJ q,if_pos rfl,if_neg (fun z=>e3 z.symm)]
end U47
theorem Inv.look{st}:U47.pP st:=@KB _ _ U47.fF U47.kK rfl U47.tT (st)
theorem Inv.join0(h:Inv st prs ex)(ha:a<st.rows.length)(hb:b<st.rows.length)(e:Ku st.up a=Ku st.up b)(k:Nat)(hk:k<st.rows.length):Inv (OZ st k) (prs++[(a,b)]) ex:=
 {hn:=h.hn,up:=h.up,lots:=h.lots,abv:=h.abv,wts:=h.wts,dps:=h.dps,nums:=h.nums,low:=h.low,keys:=h.keys,kids:=h.kids
  gone:=fun k' m g hm hne=>by
   rcases Am.mp hm with q | q
   ·exact h.gone k' m g q hne
   ·rw[Ab]at q;cases q;exact absurd rfl hne
  gonl:=fun k' m g hm=>by
   rcases Am.mp hm with q | q
   ·exact h.gonl k' m g q
   ·rw[Ab]at q;cases q;exact hk
  made:=h.made
  chgn:=by
   show (st.chg++[_]).length=st.made+st.known.length+(st.edges+1);rw[Au,h.chgn];simp;exact o35
  edgn:=by
   show st.edges+1≤(prs++[(a,b)]).length+st.mrg.length;have:=h.edgn;rw[Au];simp;exact aq225 this
  forn:=h.forn,mrgn:=h.mrgn,pot:=h.pot,abvn:=h.abvn,abvz:=h.abvz,abvm:=h.abvm,lotn:=h.lotn,lotm:=h.lotm,uses:=h.uses
  prsm:=fun p hp=>by
   rcases Am.mp hp with q | q
   ·exact h.prsm p q
   ·rw[Ab]at q;subst q;exact⟨ha,hb⟩
  prsa:=fun p hp=>by
   rcases Am.mp hp with q | q
   ·exact h.prsa p q
   ·rw[Ab]at q;subst q;exact e
  snd:=fun G hG x=>h.snd G (hG.pairs_mono fun _ hp=>AD _ hp) x
  knv:=fun p hp=>⟨(h.knv p hp).1,fun G hG=>(h.knv p hp).2 G (hG.pairs_mono fun _ hp=>AD _ hp)⟩
  waitm:=h.waitm,exm:=h.exm,cov:=h.cov}
theorem Inv.told(h:Inv st prs ex)(ha:a<st.rows.length)(hb:b<st.rows.length)(e:Ku st.up a≠Ku st.up b):Inv (Oi st (min (Ku st.up a) (Ku st.up b)) (max (Ku st.up a) (Ku st.up b))) (prs++[(a,b)]) ex:=by
 have ra:=h.rt ha;have rb:=h.rt hb;have hkg:min (Ku st.up a) (Ku st.up b)<max (Ku st.up a) (Ku st.up b):=by exact o29 e
 have hk:Kz st.up (min (Ku st.up a) (Ku st.up b))=true:=by
  rcases BI (Ku st.up a) (Ku st.up b)with q | q
  ·rw[Bh q];exact ra
  ·rw[BK q];exact rb
 have hg:Kz st.up (max (Ku st.up a) (Ku st.up b))=true:=by
  rcases BI (Ku st.up a) (Ku st.up b)with q | q
  ·rw[BB q];exact rb
  ·rw[BJ q];exact ra
 have hR:=NV h.low (Lr hg) (Lr hk) hkg;refine h.join hkg hk hg (fun _ hp=>AD _ hp) (by simp) (fun p hp=>?_) (fun p hp=>?_) fun G hG=>?_
 ·rcases Am.mp hp with q | q
  ·exact h.prsm p q
  ·rw[Ab]at q;subst q;exact⟨ha,hb⟩
 ·rcases Am.mp hp with q | q
  ·rw[hR,hR,h.prsa p q]
  ·rw[Ab]at q;subst q;show Ku _ a=Ku _ b;rw[hR,hR];rcases BI (Ku st.up a) (Ku st.up b)with q | q
   ·rw[Bh q,BB q,if_neg e,if_pos rfl]
   ·rw[BK q,BJ q,if_pos rfl,if_neg (fun z=>e z.symm)]
 ·have h0:=hG.pairs (a,b) (by simp);have h1:=h.snd G (hG.pairs_mono fun _ hp=>AD _ hp);have h2:G (Ku st.up a)=G (Ku st.up b):=by rw[h1,h1];exact h0
  rcases BI (Ku st.up a) (Ku st.up b)with q | q
  ·rw[Bh q,BB q];exact h2
  ·rw[BK q,BJ q];exact h2.symm
end
section
variable{st:St}
theorem TT(n:Nat):∀cs:List Nat,((Ap n).map fun i=>if i∈cs then 1 else 0).sum≤cs.length
 | []=>by
  have:=MA (F:=fun i=>if i∈([]:List Nat)then 1 else 0) (G:=fun _=>0) (n:=n) fun i _=>by rfl
  rw[this]
  have h2:∀n,((Ap n).map fun _=>0).sum=0:=fun n=>Rz fun x hx=>by
   refine xEA (AR.mp hx) ?_;rintro _ _ rfl;rfl
  rw[h2];exact At _
 | a::cs=>by
  have ih:=TT n cs
  by_cases ha:a<n
  ·have u1:=OO (F:=fun i=>if i∈a::cs then 1 else 0) (G:=fun i=>if i∈cs then 1 else 0) ha fun i hi=>by simp[hi]
   simp only[As,true_or,if_true]at u1;simp only[As,BN];exact aq88 u1 ih
  ·have:=MA (F:=fun i=>if i∈a::cs then 1 else 0) (G:=fun i=>if i∈cs then 1 else 0) (n:=n) fun i hi=>by simp[show ¬i=a by exact aq195 hi ha]
   rw[this,BN];exact o20 ih
theorem Te(F G:Nat→Nat):∀n,((Ap n).map fun i=>F i+G i).sum=((Ap n).map F).sum+((Ap n).map G).sum
 | 0=>rfl
 | n+1=>by rw[Mu,Mu,Mu,Te F G n];lia
theorem RA {F G:Nat→Nat}:∀{n:Nat},(∀i,i<n→F i≤G i)→((Ap n).map F).sum≤((Ap n).map G).sum
 | 0,_=>At _
 | n+1,h=>by
  rw[Mu,Mu];have:=RA (n:=n) fun i hi=>h i (by exact o78 hi);have:=h n (by exact o58);exact aq66 ‹_› this
theorem Lf.rows_mono(h:Lf (rows++[r]) prs g):Lf rows prs g:=
 ⟨h.pairs,fun i j a b h1 h2 e=>h.cong i j a b (by rw[Ar (Af.mp h1).1];exact h1) (by rw[Ar (Af.mp h2).1];exact h2) e⟩
theorem Om{α:Type}(l:List α)(x d:α)(i:Nat):(l++[x]).getD i d=if i=l.length then x else l.getD i d:=by
 rw[A6,A6];rcases Bv i l.length with q | q | q
 ·rw[Ar q,if_neg (by exact o14 q)]
 ·subst q;simp
 ·rw[AI (by simp;exact o63 q),AI (by exact o45 q),if_neg (by exact o47 q)]
noncomputable def UB(st:St)(r:Row)(w d:Nat):St:={OH st r w d with chg:=st.chg++[.made st.rows.length],made:=st.rows.length+1}
namespace U48
noncomputable def pP(st:St)(prs:List (Nat×Nat))(r:Row):Prop:=∀(h:Inv st prs [])(hn:st.rows.length≤12)(hk2:r.2.length≤2)(hlt:∀k∈r.2,k<st.rows.length)(w d:Nat),Inv (UB st r w d) prs [st.rows.length]
noncomputable def fF:=unz fun st=>unz fun prs=>pP st prs
noncomputable def kK:=epz (dSt,default) fF
noncomputable def st_:=kK.1
noncomputable def r_:=kK.2.2
theorem tT:pP st_ kK.2.1 r_:=by
 intro h hn hk2 hlt w d;generalize hcs:r_.2.map (Ku st_.up)=cs;have csl:cs.length≤2:=by rw[←hcs,AQ];exact hk2
 have csr:∀i∈cs,Kz st_.up i=true∧i<st_.rows.length:=fun i hi=>by
  rw[←hcs]at hi;refine xEA (AR.mp hi) ?_;rintro x hx rfl;exact⟨h.rt (hlt x hx),An (LI _ _) (hlt x hx)⟩
 have ncs:st_.rows.length∉cs:=fun q=>by have:=(csr _ q).2;exact o88 this
 have hup:=h.up;have habv:=h.abv;have hlots:=h.lots
 have uadd:∀i,(Kx (st_.abv++[[]]) cs st_.rows.length).getD i []=if i∈cs then st_.abv.getD i []++[st_.rows.length]else st_.abv.getD i []:=fun i=>by
  rw[A6,KO,A6];rcases Bv i st_.abv.length with q | q | q
  ·rw[Ar q,A7 q]
   by_cases e:i∈cs<;>rfl
  ·rw[q,AI (At _)];have:st_.abv.length∉cs:=by rw[habv];exact ncs
   simp[this]
  ·rw[AI (by simp;assumption),AI (by exact B1 ‹_›)];have:i∉cs:=fun z=>by have:=(csr _ z).2;exact aq227 q this habv
   simp[this]
 have uR:∀x,Ku (st_.up++[st_.rows.length]) x=Ku st_.up x:=fun x=>by rw[←hup];exact N8 h.low x
 have iR:∀i,Kz (st_.up++[st_.rows.length]) i=(Kz st_.up i || i == st_.rows.length):=fun i=>by rw[←hup];exact MU i
 have nR:Kz st_.up st_.rows.length=false:=by
  unfold Kz;rw[AI (by exact o22 hup)];rfl
 have s1:Nt (st_.up++[st_.rows.length]) (st_.rows.length+1) (fun _=>1)=Nt st_.up st_.rows.length (fun _=>1)+1:=by
  rw[←hup];exact Q4 (fun _=>1) (fun _=>1)
 have s2:Nt (st_.up++[st_.rows.length]) (st_.rows.length+1) (fun i=>((Kx (st_.abv++[[]]) cs st_.rows.length).getD i []).length)≤Nt st_.up st_.rows.length (fun i=>(st_.abv.getD i []).length)+2:=by
  have e1:=Q4 (up:=st_.up) (fun _=>0) (fun i=>((Kx (st_.abv++[[]]) cs st_.rows.length).getD i []).length);rw[hup]at e1;rw[e1,uadd,if_neg ncs];have e2:(st_.abv.getD st_.rows.length []).length=0:=by rw[A6,AI (by exact o22 habv)];rfl
  rw[e2]
  have e3:=RA (n:=st_.rows.length) (F:=fun i=>if Kz st_.up i=true then ((Kx (st_.abv++[[]]) cs st_.rows.length).getD i []).length else 0) (G:=fun i=>(if Kz st_.up i=true then (st_.abv.getD i []).length else 0)+(if i∈cs then 1 else 0)) fun i hi=>by
   simp only[uadd]
   by_cases q:i∈cs<;>by_cases z:Kz st_.up i=true<;>simp[q,z]
  rw[Te]at e3;have e4:=TT st_.rows.length cs;have e5:Nt st_.up st_.rows.length (fun i=>(st_.abv.getD i []).length)=((Ap st_.rows.length).map fun i=>if Kz st_.up i=true then (st_.abv.getD i []).length else 0).sum:=rfl;exact aq24 e5 e3 csl e4
 have q1:=h.mrgn;have q2:=h.pot;have q3:=h.abvn;have rl:(st_.rows++[r_]).length=st_.rows.length+1:=by simp
 have rget:∀i,i<st_.rows.length→(st_.rows++[r_]).getD i ("",[])=st_.rows.getD i ("",[]):=fun i hi=>by rw[Om,if_neg (by exact o14 hi)]
 have rsplit:∀{i:Nat} {q:Row},(st_.rows++[r_])[i]?=some q→(i<st_.rows.length∧st_.rows[i]?=some q)∨(i=st_.rows.length∧q=r_):=fun {i q} e=>by
  rcases Bv i st_.rows.length with z | z | z
  ·rw[Ar z]at e;exact .inl ⟨z,e⟩
  ·subst z;simp at e;exact .inr ⟨rfl,e.symm⟩
  ·rw[AI (by simp;exact o63 z)]at e;exact nomatch e
 unfold UB;unfold OH;rw[hcs]
 exact {
  hn:=by show (st_.rows++[r_]).length≤13;exact n8 rl hn
  up:=by show (st_.up++[_]).length=(st_.rows++[r_]).length;rw[Au,rl,hup];rfl
  lots:=by show (st_.lots++[_]).length=(st_.rows++[r_]).length;rw[Au,rl,hlots];rfl
  abv:=by show (Kx (st_.abv++[[]]) cs _).length=(st_.rows++[r_]).length;rw[KX,Au,rl,habv];rfl
  wts:=by show (st_.wts++[_]).length=(st_.rows++[r_]).length;rw[Au,rl,h.wts];rfl
  dps:=by show (st_.dps++[_]).length=(st_.rows++[r_]).length;rw[Au,rl,h.dps];rfl
  nums:=by show st_.nums++[(r_,st_.rows.length)]=(st_.rows++[r_]).zipIdx;rw[h.nums,List.zipIdx_append];simp
  low:=by show Low (st_.up++[st_.rows.length]);rw[←hup];exact h.low.snoc
  keys:=fun i=>by show (st_.akeys i || i == st_.rows.length)=Kz (st_.up++[st_.rows.length]) i;rw[iR,h.keys]
  kids:=fun i q e=>by
   show q.2.length≤2∧∀k∈q.2,k<(st_.rows++[r_]).length;rw[rl];rcases rsplit e with⟨z,e⟩ | ⟨z,e⟩
   ·refine xA (h.kids i q e) fun a b=>?_;exact⟨a,fun k hk=>by have:=b k hk;exact o78 this⟩
   ·subst e;exact⟨hk2,fun k hk=>by have:=hlt k hk;exact o78 this⟩
  gone:=fun k m g hm hne=>by
   show Kz (st_.up++[st_.rows.length]) g=false;rcases Am.mp hm with q | q
   ·rw[iR,h.gone k m g q hne];have:=h.gonl k m g q;simp;exact o14 this
   ·rw[Ab]at q;exact nomatch q
  gonl:=fun k m g hm=>by
   show g<(st_.rows++[r_]).length;rw[rl];rcases Am.mp hm with q | q
   ·have:=h.gonl k m g q;exact o78 this
   ·rw[Ab]at q;exact nomatch q
  made:=by show st_.rows.length+1=(st_.rows++[r_]).length;rw[rl]
  chgn:=by
   show (st_.chg++[_]).length=st_.rows.length+1+st_.known.length+st_.edges;rw[Au,h.chgn,h.made];simp;lia
  edgn:=h.edgn
  forn:=h.forn
  mrgn:=by
   show st_.mrg.length+Nt (st_.up++[st_.rows.length]) (st_.rows++[r_]).length (fun _=>1)=(st_.rows++[r_]).length;rw[rl,s1];exact aq313 q1
  pot:=by
   show st_.known.length+st_.wait.length+1+26*Nt (st_.up++[st_.rows.length]) (st_.rows++[r_]).length (fun _=>1)≤27*(st_.rows++[r_]).length;rw[rl,s1];simp at q2;exact aq135 q2
  abvn:=by
   show Nt (st_.up++[st_.rows.length]) (st_.rows++[r_]).length (fun i=>((Kx (st_.abv++[[]]) cs st_.rows.length).getD i []).length)≤2*(st_.rows++[r_]).length;rw[rl];exact aq107 q3 s2
  abvz:=fun i=>by
   show ((Kx (st_.abv++[[]]) cs st_.rows.length).getD i []).length≤26
   by_cases q:i∈cs
   ·refine xA (csr i q) fun z1 z2=>?_;have:=Xc (fun i=>if Kz (st_.up++[st_.rows.length]) i=true then ((Kx (st_.abv++[[]]) cs st_.rows.length).getD i []).length else 0) (k:=i) (n:=st_.rows.length+1) (by exact o78 z2);simp only[iR,z1,Jw,if_true]at this
    have e:Nt (st_.up++[st_.rows.length]) (st_.rows.length+1) (fun i=>((Kx (st_.abv++[[]]) cs st_.rows.length).getD i []).length)=((Ap (st_.rows.length+1)).map fun i=>if (Kz st_.up i || i == st_.rows.length)=true then ((Kx (st_.abv++[[]]) cs st_.rows.length).getD i []).length else 0).sum:=by
     unfold Nt;refine MA fun i _=>?_;rw[iR]
    rw[e]at s2;exact aq22 q3 s2 hn this
   ·rw[uadd,if_neg q];exact h.abvz i
  abvm:=fun i x hx=>by
   have hx:x∈(Kx (st_.abv++[[]]) cs st_.rows.length).getD i []:=hx;show x<(st_.rows++[r_]).length;rw[rl];rw[uadd]at hx;split at hx
   ·rcases Am.mp hx with q | q
    ·have:=h.abvm i x q;exact o78 this
    ·rw[Ab]at q;exact o90 q
   ·have:=h.abvm i x hx;exact o78 this
  lotn:=fun i=>by
   show ((st_.lots++[[st_.rows.length]]).getD i []).Nodup∧∀x∈(st_.lots++[[st_.rows.length]]).getD i [],x<(st_.rows++[r_]).length;rw[rl,Om];split
   ·exact⟨by simp,fun x hx=>by rw[Ab]at hx;exact o90 hx⟩
   ·exact⟨(h.lotn i).1,fun x hx=>by have:=(h.lotn i).2 x hx;exact o78 this⟩
  lotm:=fun i hi x=>by
   have hi:Kz (st_.up++[st_.rows.length]) i=true:=hi;show x∈(st_.lots++[[st_.rows.length]]).getD i []↔x<(st_.rows++[r_]).length∧Ku (st_.up++[st_.rows.length]) x=i;rw[rl,Om,uR,hlots];have rle:=LI st_.up x;split
   ·rename_i e;subst e;rw[Ab];constructor
    ·rintro rfl;exact⟨by exact o58,Ls (by exact o22 hup)⟩
    ·rintro⟨a,b⟩;exact aq194 a b rle
   ·rename_i e;rw[iR]at hi;have hi:Kz st_.up i=true:=by simpa [e]using hi
    rw[h.lotm i hi x];constructor
    ·rintro⟨a,b⟩;exact⟨by exact o78 a,b⟩
    ·rintro⟨a,b⟩;refine⟨?_,b⟩;rcases B8 x st_.rows.length with z | z
     ·exact z
     ·rw[Ls (by exact aq171 a hup z)]at b;exact aq163 a b z e
  uses:=fun u q e k hk=>by
   show u∈(Kx (st_.abv++[[]]) cs st_.rows.length).getD (Ku (st_.up++[st_.rows.length]) k) [];rw[uR,uadd];rcases rsplit e with⟨z,e⟩ | ⟨z,e⟩
   ·have:=h.uses u q e k hk;split
    ·exact AD _ this
    ·exact this
   ·subst e;rw[if_pos (by rw[←hcs];exact I5 hk),z];simp
  prsm:=fun p hp=>by
   show p.1<(st_.rows++[r_]).length∧p.2<(st_.rows++[r_]).length;rw[rl];refine xA (h.prsm p hp) fun a b=>?_;exact⟨by exact o78 a,by exact o78 b⟩
  prsa:=fun p hp=>by
   show Ku (st_.up++[st_.rows.length]) p.1=Ku (st_.up++[st_.rows.length]) p.2;rw[uR,uR];exact h.prsa p hp
  snd:=fun G hG x=>by
   show G (Ku (st_.up++[st_.rows.length]) x)=G x;rw[uR];exact h.snd G (Lf.rows_mono hG) x
  knv:=fun p hp=>by
   refine xA (h.knv p hp) fun a b=>?_;refine⟨by show p.2<(st_.rows++[r_]).length;exact o19 a rl,fun G hG=>?_⟩;show cno G p.1=cno G ((st_.rows++[r_]).getD p.2 ("",[]));rw[rget _ a];exact b G (Lf.rows_mono hG)
  waitm:=fun x hx=>by
   show x<(st_.rows++[r_]).length;have:=h.waitm x hx;exact o19 this rl
  exm:=fun x hx=>by
   show x<(st_.rows++[r_]).length;rw[Ab]at hx;exact aq180 rl hx
  cov:=fun u hu=>by
   have hu:u<(st_.rows++[r_]).length:=hu;rcases B8 u st_.rows.length with z | z
   ·have en:Rk (st_.up++[st_.rows.length]) ((st_.rows++[r_]).getD u ("",[]))=KG st_ u:=by
     rw[rget _ z];show (_,Bg (Ku (st_.up++[st_.rows.length])) _)=(_,Bg (Ku st_.up) _);rw[AZ fun x _=>uR x]
    rcases h.cov u z with a | a | ⟨m,a,b⟩
    ·exact .inl a
    ·exact absurd a Ah
    ·refine .inr (.inr (yEA m ?_ ?_))
     ·show lk st_.known (Rk (st_.up++[st_.rows.length]) ((st_.rows++[r_]).getD u ("",[])))=some m;rw[en];exact a
     ·show Ku (st_.up++[st_.rows.length]) m=Ku (st_.up++[st_.rows.length]) u;rw[uR,uR];exact b
   ·refine .inr (.inl ?_);rw[Ab];exact aq162 hu rl z}
end U48
theorem Inv.add{st prs r}:U48.pP st prs r:=@KB _ _ U48.fF U48.kK rfl U48.tT (st,prs,r)
end
section
variable{st:St}
noncomputable def YR{α:Type}[DecidableEq α](l:List α):List α:=l.eraseDups
noncomputable def Kst(st:St):List (Nat×Row):=YR ((Ap st.rows.length).map fun i=>(Ku st.up i,KG st i))
noncomputable def Nst(st:St):List (Nat×List Nat):=(Kst st).map fun p=>(p.1,p.2.2)
noncomputable def Wst(st:St)(a s:Nat):Nat:=tb (Nst st) 5 (Ku st.up a) s
theorem Mx{α:Type}[DecidableEq α]:∀(n:Nat) (l:List α),l.length≤n→l.eraseDups.Nodup
 | _,[],_=>by simp
 | 0,a::l,h=>by simp at h
 | n+1,a::l,h=>by
  rw[List.eraseDups_cons,C9];refine⟨fun q=>?_,Mx n _ ?_⟩
  ·rw[Ih,CE]at q;simp at q
  ·have:=HM (fun b=>!b == a) l;simp at h;exact A0 ‹_› ‹_›
theorem UX{α:Type}[DecidableEq α](l:List α)(x:α):x∈YR l↔x∈l:=Ih
theorem Oy(st:St):(Kst st).Nodup:=Mx _ _ (At _)
theorem Oz(st:St)(p:Nat×Row):p∈Kst st↔p∈(Ap st.rows.length).map fun i=>(Ku st.up i,KG st i):=by
 exact UX _ _
theorem WF(st:St):(Kst st).length≤st.rows.length:=by
 have:=LF (Oy st) (l':=(Ap st.rows.length).map fun i=>(Ku st.up i,KG st i)) fun x hx=>(Oz st x).mp hx;rw[AQ,CI]at this;exact this
theorem Ux(h1:st'.up=st.up)(h2:st'.rows=st.rows):Wst st'=Wst st:=by
 funext a s
 unfold Wst Nst Kst KG;rw[h1,h2]
theorem Inv.kroot(h:Inv st prs ex)(hp:p∈Kst st):p.2.2.length≤2∧∀k∈p.2.2,Ku st.up k=k:=by
 rw[Oz]at hp;refine xEA (AR.mp hp) ?_;rintro i hi rfl;have hi:=Be.mp hi;refine xA (h.kids i _ (O7 hi)) fun a b=>?_;refine⟨by show (Bg _ _).length≤2;rw[AQ];exact a,fun k hk=>?_⟩;refine xEA (AR.mp (show k∈(st.rows.getD i ("",[])).2.map (Ku st.up)from hk)) ?_;rintro x hx rfl;exact Q5 h.low x
theorem Inv.rw(h:Inv st prs ex)(bs:Bas st)(hC:st.hasC=true):Rt st (Wst st) where
 bs:=bs
 hC:=hC
 hmem:=fun a ha n hn=>((h.lotm _ (h.rt ha) n).mp hn).1
 hb:=fun a s hs=>Pl (by unfold Nst;rw[AQ];have:=WF st;have:=h.hn;exact A0 ‹_› ‹_›) (fun p hp=>by
  unfold Nst at hp;refine xEA (AR.mp hp) ?_;rintro q hq rfl;exact (h.kroot hq).1) _ _ _ hs
 hW:=fun a ha rs hrs hmem s h1 h2=>by
  unfold Wst;rw[XT _ h1 h2]
  have e1:((Nst st).filter fun p=>p.1 == Ku st.up a)=((Kst st).filter fun p=>p.1 == Ku st.up a).map fun p=>(p.1,p.2.2):=by
   unfold Nst;rw[List.filter_map];rfl
  rw[e1,Dj]
  have e2:(((Kst st).filter fun p=>p.1 == Ku st.up a).map fun p=>p.2).Perm rs:=by
   refine QV ?_ hrs fun x=>?_
   ·refine FV.mpr ?_;refine FS ?_ ((Oy st).filter _);intro p q hp hq hne e;have h1:=(CE.mp hp).2;have h2:=(CE.mp hq).2;simp at h1 h2;exact hne (GN (h1.trans h2.symm) e)
   ·rw[hmem x];constructor
    ·intro hx;refine xEA (AR.mp hx) ?_;rintro p hp rfl;refine xA (CE.mp hp) fun h3 h4=>?_;rw[Oz]at h3;refine xEA (AR.mp h3) ?_;rintro i hi rfl;have hi:=Be.mp hi;exact I5 ((h.lotm _ (h.rt ha) i).mpr ⟨hi,by simpa using h4⟩)
    ·intro hx;refine xEA (AR.mp hx) ?_;rintro i hi rfl;refine xA ((h.lotm _ (h.rt ha) i).mp hi) fun h3 h4=>?_;refine AR.mpr (yEA (Ku st.up i,KG st i) (CE.mpr ⟨(Oz st _).mpr (AR.mpr (yEA i (Be.mpr h3) rfl)),by exact decide_eq_true ‹_›⟩) rfl)
  rw[←Pt (e2.map fun r=>wy (fun a s=>tb (Nst st) 5 (Ku st.up a) s) r.2 (s - 1)),Dj]
  congr 1
  refine AZ fun p hp=>?_;refine O3 _ _ fun k hk t _ _=>?_;show tb (Nst st) 5 k t=tb (Nst st) 5 (Ku st.up k) t;rw[(h.kroot (CE.mp hp).1).2 k hk]
theorem Inv.wt(h:Inv st prs ex)(ks:List (Nat×Row))(hk:ks.Nodup)(hm:∀p,p∈ks↔p∈(Ap st.rows.length).map fun i=>(Ku st.up i,KG st i))(i:Nat)(hi:i<st.rows.length)(t:Nat):Wst st (Ku st.up i) t=tb (ks.map fun p=>(p.1,p.2.2)) 5 (Ku st.up i) t:=by
 unfold Wst;rw[Q5 h.low];exact VP ((QV (Oy st) hk fun x=>(Oz st x).trans (hm x).symm).map _) _ _ _
theorem Inv.closed(h:Inv st prs [])(hw:st.wait=[]):Lf st.rows prs (Ku st.up):=
 ⟨h.prsa,fun i j r q hr hq e=>by
  have hi:=(Af.mp hr).1;have hj:=(Af.mp hq).1
  have e1:KG st i=KG st j:=by
   have h1:st.rows.getD i ("",[])=r:=by rw[A6,hr];rfl
   have h2:st.rows.getD j ("",[])=q:=by rw[A6,hq];rfl
   show cno (Ku st.up) (st.rows.getD i ("",[]))=cno (Ku st.up) (st.rows.getD j ("",[]));rw[h1,h2];exact e
  rcases h.cov i hi with a | a | ⟨m,a,b⟩
  ·rw[hw]at a;exact absurd a Ah
  ·exact absurd a Ah
  ·rcases h.cov j hj with a' | a' | ⟨m',a',b'⟩
   ·rw[hw]at a';exact absurd a' Ah
   ·exact absurd a' Ah
   ·rw[e1,a']at a;obtain rfl:=Ag a;exact b.symm.trans b'⟩
theorem Inv.lab(h:Inv st prs [])(hw:st.wait=[])(hs:List Nat)(ho:Rv st.rows prs hs)(i:Nat):lab hs i=Ku st.up i:=by
 rw[Qr ho.inv.snd h.snd ho.closed (h.closed hw) ho.inv.le (LI st.up)]
end
section
variable{st:St}
noncomputable def mu(st:St):Nat:=st.wait.length+30*Nt st.up st.rows.length (fun _=>1)
structure Fol(a b:St):Prop where
 anc:Anc (cz a) (cz b)
 backs:b.backs=a.backs
 mks:b.mks=a.mks
 hasC:b.hasC=a.hasC
 cmark:b.cmark=a.cmark
 cknown:b.cknown=a.cknown
 cells:b.cells=a.cells
 card:b.card=a.card
 lvls:b.lvls=a.lvls
 rl:a.rows.length≤b.rows.length
 el:a.edges≤b.edges
 same:b.rows.length=a.rows.length→b.edges=a.edges→b.rows=a.rows∧b.up=a.up
theorem Fol.refl(a:St):Fol a a:=⟨.refl,rfl,rfl,rfl,rfl,rfl,rfl,rfl,rfl,At _,At _,fun _ _=>⟨rfl,rfl⟩⟩
theorem Fol.trans{a b c:St}(x:Fol a b)(y:Fol b c):Fol a c:=
 ⟨x.anc.trans y.anc,y.backs.trans x.backs,y.mks.trans x.mks,y.hasC.trans x.hasC,y.cmark.trans x.cmark,y.cknown.trans x.cknown,y.cells.trans x.cells,y.card.trans x.card,y.lvls.trans x.lvls,A0 x.rl y.rl,A0 x.el y.el,fun h1 h2=>by
  have:=x.rl;have:=y.rl;have:=x.el;have:=y.el;refine xA (x.same (by exact aq100 h1 ‹_› ‹_›) (by exact aq100 h2 ‹_› this)) fun a1 a2=>?_;refine xA (y.same (by lia) (by exact aq241 h2 ‹_› this)) fun b1 b2=>?_;exact⟨b1.trans a1,b2.trans a2⟩⟩
theorem Bas.cz(b:Bas st):Bas (cz st):=
 {hn:=b.hn,up:=b.up,lots:=b.lots,abv:=b.abv,wts:=b.wts,dps:=b.dps,nums:=b.nums,low:=b.low,keys:=b.keys,lotz:=b.lotz,abvz:=b.abvz,mrgz:=b.mrgz,edgz:=b.edgz,forz:=b.forz,knoz:=b.knoz,chgz:=b.chgz,waiz:=Bi _,mksz:=Bi _,kids:=b.kids,gone:=b.gone,gonl:=b.gonl}
theorem Fol.wait(st:St)(w:List Nat):Fol st (St.s_wait st w):=⟨.refl,rfl,rfl,rfl,rfl,rfl,rfl,rfl,rfl,At _,At _,fun _ _=>⟨rfl,rfl⟩⟩
theorem Fol.know(bs:Bas st)(key:Row)(v:Nat):Fol st (St.s_chg (St.s_known st (st.known++[(key,v)])) (st.chg++[.known key])):=
 ⟨.step .refl (.known (Mine.Internal.cz st) key v bs.cz),rfl,rfl,rfl,rfl,rfl,rfl,rfl,rfl,At _,At _,fun _ _=>⟨rfl,rfl⟩⟩
theorem Fol.join(bs:Bas st)(h:k<g)(hk:Kz st.up k=true)(hg:Kz st.up g=true):Fol st (Oi st k g):=
 ⟨.step .refl (.edge (Mine.Internal.cz st) k g bs.cz h hk hg),rfl,rfl,rfl,rfl,rfl,rfl,rfl,rfl,At _,Cj _,fun _ e=>absurd (show st.edges+1=st.edges from e) (by exact o86)⟩
theorem Fol.join0(bs:Bas st)(k:Nat):Fol st (OZ st k):=
 ⟨.step .refl (.edge0 (Mine.Internal.cz st) k (st.abv.getD k []).length bs.cz),rfl,rfl,rfl,rfl,rfl,rfl,rfl,rfl,At _,Cj _,fun _ e=>absurd (show st.edges+1=st.edges from e) (by exact o86)⟩
theorem Fol.add(bs:Bas st)(hn:st.rows.length≤12)(hm:st.made=st.rows.length)(hk2:r.2.length≤2)(hlt:∀k∈r.2,k<st.rows.length)(w d:Nat):Fol st (UB st r w d):=
 ⟨.step .refl (.made (Mine.Internal.cz st) r w d bs.cz hn hm hk2 hlt),rfl,rfl,rfl,rfl,rfl,rfl,rfl,rfl,by show st.rows.length≤(st.rows++[r]).length;simp,At _,fun e _=>absurd (show (st.rows++[r]).length=st.rows.length from e) (by simp)⟩
theorem NB(h:Inv st prs ex)(ha:a<st.rows.length)(hb:b<st.rows.length)(e:Ku st.up a≠Ku st.up b):min (Ku st.up a) (Ku st.up b)<max (Ku st.up a) (Ku st.up b)∧Kz st.up (min (Ku st.up a) (Ku st.up b))=true∧Kz st.up (max (Ku st.up a) (Ku st.up b))=true:=by
 have ra:=h.rt ha;have rb:=h.rt hb;refine (yAA (by exact o29 e) ?_ ?_)
 ·rcases BI (Ku st.up a) (Ku st.up b)with q | q
  ·rw[Bh q];exact ra
  ·rw[BK q];exact rb
 ·rcases BI (Ku st.up a) (Ku st.up b)with q | q
  ·rw[BB q];exact rb
  ·rw[BJ q];exact ra
theorem Fol.look(h:Inv st prs [n])(bs:Bas st):Fol st (MT st n)∧(MT st n).rows=st.rows:=by
 have hn:n<st.rows.length:=h.exm n (by exact Aj);rcases Mm st n with⟨e1,e2⟩ | ⟨o,e1,e3,e2⟩ | ⟨o,e1,e3,e2⟩
 ·rw[e2];exact⟨Fol.know bs _ _,rfl⟩
 ·rw[e2];exact⟨Fol.refl _,rfl⟩
 ·rw[e2];refine xAA (NB h (h.knv _ (RO e1)).1 hn e3) fun a b c=>?_;exact⟨Fol.join bs a b c,rfl⟩
theorem We(h:Inv st prs [n]):mu (MT st n)≤mu st:=by
 have hn:n<st.rows.length:=h.exm n (by exact Aj);rcases Mm st n with⟨e1,e2⟩ | ⟨o,e1,e3,e2⟩ | ⟨o,e1,e3,e2⟩
 ·rw[e2];exact At _
 ·rw[e2];exact At _
 ·rw[e2];refine xAA (NB h (h.knv _ (RO e1)).1 hn e3) fun a b c=>?_;generalize hk:min (Ku st.up o) (Ku st.up n)=k at a b;generalize hg:max (Ku st.up o) (Ku st.up n)=g at a c;have s1:=O6 a c b (n:=st.rows.length) (by rw[←h.up];exact Ng c) (F:=fun _=>1) (G:=fun _=>1) (fun _ _=>rfl);have:=h.abvz g;show (st.wait++st.abv.getD g []).length+30*Nt (st.up.set g k) st.rows.length (fun _=>1)≤st.wait.length+30*Nt st.up st.rows.length (fun _=>1);rw[Au];exact aq102 s1 this
structure SJ(st0:St)(prs:List (Nat×Nat))(st:St):Prop where
 inv:Inv st prs []
 fol:Fol st0 st
 rows:st.rows=st0.rows
theorem Inv.lkpre(h:Inv st prs [n])(hp:prs.length≤50)(hm:st.mks.length≤100):UA st n:=
 ⟨h.bas hp hm,by have:=h.chl hp;exact n1 this,h.exm n (by exact Aj),fun p hp=>(h.knv p hp).1⟩
theorem SJ.step(hp:prs.length≤50)(hm:st0.mks.length≤100)(st:St)(w:List Nat)(n:Nat)(J:SJ st0 prs st)(hw:st.wait=w++[n]):UA (St.s_wait st w) n∧SJ st0 prs (MI (St.s_wait st w) n)∧mu (MI (St.s_wait st w) n)<mu st:=by
 have h1:=J.inv.take hw;have hm1:st.mks.length≤100:=by rw[J.fol.mks];exact hm
 have hb:=h1.bas hp hm1;have hn:n<st.rows.length:=h1.exm n (by exact Aj);have e:MI (St.s_wait st w) n=MT (St.s_wait st w) n:=TC (by have:=J.inv.made;show n≠st.made;exact aq304 hn this);rw[e];refine xA (Fol.look h1 hb) fun f1 f2=>?_;refine (yAA (h1.lkpre hp hm1) ⟨h1.look,(J.fol.trans (Fol.wait st w)).trans f1,f2.trans J.rows⟩ ?_);have:=We h1
 have e2:mu (St.s_wait st w)+1=mu st:=by
  unfold mu;rw[hw,Au];show w.length+30*Nt st.up st.rows.length (fun _=>1)+1=_;simp;lia
 exact aq111 e2 this
noncomputable def Cok(st:St):Prop:=∀s e b,st.cmark=some (s,e,b)→b<st.backs∨(b=st.backs∧s≤st.rows.length∧e≤st.edges∧(s=st.rows.length→e=st.edges→KT (Wst st) st.cknown))
theorem Cok.fol(h:Cok a)(f:Fol a b):Cok b:=fun s e k hc=>by
 rw[f.cmark]at hc;have:=f.rl;have:=f.el;rcases h s e k hc with q | ⟨q1,q2,q3,q4⟩
 ·exact .inl (by rw[f.backs];exact q)
 ·refine .inr (QE (by rw[f.backs];exact q1) (by exact A0 ‹_› ‹_›) (by exact o33 this q3) (fun z1 z2=>?_));refine xA (f.same (by exact aq99 z1 ‹_› q2) (by exact aq99 z2 this q3)) fun a1 a2=>?_;rw[f.cknown,Ux a2 a1];exact q4 (by lia) (by exact aq242 z2 this q3)
theorem Cok.use(h:Cok st)(e:st.cmark=Ll st):KT (Wst st) st.cknown:=by
 rcases h _ _ _ e with q | ⟨_,_,_,q⟩
 ·exact absurd q (by exact absurd ‹_› (B3 _))
 ·exact q rfl rfl
theorem Cok.now(h:KT (Wst st) kn):Cok (M5 st (Ll st) kn):=fun s e b hc=>by
 cases hc
 exact .inr (QE rfl (At _) (At _) (fun _ _=>h))
end
section
structure PW where
 st:St
 prs:List (Nat×Nat)
 ra:Addr
 pa:Addr
 q:Addr
section
variable{s0 s s':A4}{H H':AE}{Z:List (Addr×Obj)}{L:Addr}{m:A9→Option Value}{y y':Lay}{st st':St}
structure Two(H:AE)(y:Lay)(st:St)(ra pa:Addr)(rows:List Row)(prs:List (Nat×Nat)):Prop where
 r:∃vr,Lx H ra vr rows
 p:∃vp,Lb H pa vp prs
 nr:¬Own y st ra
 np:¬Own y st pa
theorem Lx.to{ra vr rows}(x:Lx h ra vr rows)(k:∀o,h.get? ra=some o→h'.get? ra=some o)(i:Im h h'):Lx h' ra vr rows:=⟨x.l.at2 k,Lo x.v i⟩
theorem Lb.to{pa vp prs}(x:Lb h pa vp prs)(k:∀o,h.get? pa=some o→h'.get? pa=some o)(i:Im h h'):Lb h' pa vp prs:=⟨x.l.at2 k,x.v.mono fun _ _ q=>q.im i⟩
theorem Lx.nc{ra vr rows}(x:Lx h ra vr rows)(n:NC h h'):Lx h' ra vr rows:=⟨x.l.nc n,x.v.mono fun _ _ q=>q.nc n⟩
theorem Lb.nc{pa vp prs}(x:Lb h pa vp prs)(n:NC h h'):Lb h' pa vp prs:=⟨x.l.nc n,x.v.mono fun _ _ q=>q.nc n⟩
theorem Lx.al{ra vr rows}(x:Lx h ra vr rows):∃o,h.get? ra=some o:=xE x.l fun n e=>⟨_,e⟩
theorem Lb.al{ra vr rows}(x:Lb h ra vr rows):∃o,h.get? ra=some o:=xE x.l fun n e=>⟨_,e⟩
theorem Two.to{ra pa rows prs}(t:Two H y st ra pa rows prs)(k:∀b o,¬Own y st b→H.get? b=some o→H'.get? b=some o)(i:Im H H')(hno:∀b,(∃o,H.get? b=some o)→¬Own y st b→¬Own y' st' b):Two H' y' st' ra pa rows prs:=by
 obtain⟨⟨vr,r⟩,⟨vp,p⟩,nr,np⟩:=t;exact⟨⟨vr,r.to (fun o e=>k _ _ nr e) i⟩,⟨vp,p.to (fun o e=>k _ _ np e) i⟩,hno _ r.al nr,hno _ p.al np⟩
theorem Two.nc{ra pa rows prs}(t:Two H y st ra pa rows prs)(n:NC H H'):Two H' y st ra pa rows prs:=by
 obtain⟨⟨vr,r⟩,⟨vp,p⟩,nr,np⟩:=t;exact⟨⟨vr,r.nc n⟩,⟨vp,p.nc n⟩,nr,np⟩
theorem Two.ext{ra pa rows prs}(t:Two H y st ra pa rows prs)(e:Ext H H'):Two H' y st ra pa rows prs:=by
 obtain⟨⟨vr,r⟩,⟨vp,p⟩,nr,np⟩:=t;exact⟨⟨vr,r.ext e⟩,⟨vp,p.ext e⟩,nr,np⟩
structure Lh(H:AE)(y:Lay)(st:St)(rows:List Row)(prs:List (Nat×Nat))(ra pa:Addr)(stk:List PW):Prop where
 good:KW y st H
 cur:Two H y st ra pa rows prs
 sn:∀p∈stk,Tpl H p.q [.ref p.ra,.ref p.pa]∧Two H y st p.ra p.pa p.st.rows p.prs
theorem Lh.call{rows prs ra pa stk}(X:Lh H y st rows prs ra pa stk)(F:Fm s0 H Z L m s)(M:Ms y st y' st' s s')(G':KW y' st' s'.heap):∃H',Fm s0 H' Z L m s'∧Lh H' y' st' rows prs ra pa stk∧Im H H'∧(∀b o,¬Own y st b→H.get? b=some o→H'.get? b=some o):=by
 refine VL (F.ms X.good M G') fun H' F' G2 k1 k2 k3=>?_
 have im:Im H H':=fun b o hm e=>k1 b o (fun ow=>by
  refine xEA (X.good.own_mut ow) fun ob e1 hm1=>?_;rw[e1]at e;obtain rfl:=Ag e;rw[hm1]at hm;exact nomatch hm) e
 have hno:∀b,(∃o,H.get? b=some o)→¬Own y st b→¬Own y' st' b:=fun b ⟨o,e⟩ n ow=>by
  rcases M.own b ow with q | q
  ·exact n q
  ·rw[F.keep _ _ e]at q;exact nomatch q
 exact (NT H' F' ⟨G2,X.cur.to k1 im hno,fun p hp=>⟨(X.sn p hp).1.im im,(X.sn p hp).2.to k1 im hno⟩⟩ im k1)
theorem Lh.callG{rows prs ra pa stk}(X:Lh H y st rows prs ra pa stk)(F:Fm s0 H Z L m s)(M:Ms y st y' st' s s')(G':KW y' st' s'.heap){G:Prop}(k:∀H',Fm s0 H' Z L m s'→Lh H' y' st' rows prs ra pa stk→Im H H'→(∀b o,¬Own y st b→H.get? b=some o→H'.get? b=some o)→G):G:=LZ (X.call F M G') k
theorem Lh.nc{rows prs ra pa stk}(X:Lh H y st rows prs ra pa stk)(n:NC H H'):Lh H' y st rows prs ra pa stk:=
 ⟨X.good.nc n,X.cur.nc n,fun p hp=>⟨(X.sn p hp).1.nc n,(X.sn p hp).2.nc n⟩⟩
theorem Lh.ext{rows prs ra pa stk}(X:Lh H y st rows prs ra pa stk)(e:Ext H H'):Lh H' y st rows prs ra pa stk:=
 ⟨X.good.ext e,X.cur.ext e,fun p hp=>⟨(X.sn p hp).1.ext e,(X.sn p hp).2.ext e⟩⟩
end
noncomputable def Chn:List PW→St→Prop
 | [],_=>True
 | p::r,cur=>Anc (cz p.st) (cz cur)∧Chn r p.st
theorem Chn.fol(h:Chn stk a)(f:Anc (cz a) (cz b)):Chn stk b:=by
 induction stk with
 | nil=>trivial
 | cons p r=>exact⟨h.1.trans f,h.2⟩
structure Lp(st:St)(prs:List (Nat×Nat))(stk:List PW)(i:Nat):Prop where
 inv:Inv st prs []
 nod:st.rows.Nodup
 cok:Cok st
 hC:st.hasC=true
 mks:st.mks=stk.reverse.map fun p=>(p.st.chg.length,[])
 lvls:st.lvls=stk.reverse.map fun p=>AN p.q
 chn:Chn stk st
 b4:4≤st.rows.length
 bn:st.rows.length≤4+i
 bp:prs.length≤i
 bs:stk.length≤i
 sn:∀p∈stk,Inv p.st p.prs []∧p.st.wait=[]∧p.st.rows.Nodup∧4≤p.st.rows.length∧p.st.rows.length≤4+i∧p.prs.length≤i
 cz:st.cells.length≤50
namespace Lp
variable{st st':St}{prs prs':List (Nat×Nat)}{stk:List PW}{i j:Nat}
theorem mz(h:Lp st prs stk i)(hi:i≤20):st.mks.length≤100:=by
 rw[h.mks];simp;have:=h.bs;exact n7 hi this
theorem bas(h:Lp st prs stk i)(hi:i≤20):Bas st:=h.inv.bas (by have:=h.bp;exact n7 hi this) (h.mz hi)
theorem fol(h:Lp st prs stk i)(hij:i≤j)(f:Fol st st')(inv:Inv st' prs' [])(nod:st'.rows.Nodup)(b4:4≤st'.rows.length)(bn:st'.rows.length≤4+j)(bp:prs'.length≤j):Lp st' prs' stk j where
 inv:=inv
 nod:=nod
 cok:=h.cok.fol f
 hC:=f.hasC.trans h.hC
 mks:=f.mks.trans h.mks
 lvls:=f.lvls.trans h.lvls
 chn:=h.chn.fol f.anc
 b4:=b4
 bn:=bn
 bp:=bp
 bs:=by have:=h.bs;exact o33 hij this
 sn:=fun p hp=>by
  refine xA5 (h.sn p hp) fun a b c d e f=>?_;exact (yA5 a b c d (by exact o34 e hij) (by exact o33 hij f))
 cz:=by rw[f.cells];exact h.cz
theorem up(h:Lp st prs stk i)(hij:i≤j):Lp st prs stk j:=h.fol hij (Fol.refl _) h.inv h.nod h.b4 (by have:=h.bn;exact o34 this hij) (by have:=h.bp;exact o33 hij this)
theorem card(h:Lp st prs stk i)(k:Nat):Lp (St.s_card st k) prs stk i where
 inv:=h.inv.same st.backs st.mks st.hasC st.cmark st.cknown st.cells k st.lvls
 nod:=h.nod
 cok:=h.cok
 hC:=h.hC
 mks:=h.mks
 lvls:=h.lvls
 chn:=h.chn.fol .refl
 b4:=h.b4
 bn:=h.bn
 bp:=h.bp
 bs:=h.bs
 sn:=h.sn
 cz:=h.cz
theorem ct(h:Lp st prs stk i)(hk:KT (Wst st) kn):Lp (M5 st (Ll st) kn) prs stk i where
 inv:=h.inv.same st.backs st.mks st.hasC (Ll st) kn st.cells st.card st.lvls
 nod:=h.nod
 cok:=Cok.now hk
 hC:=h.hC
 mks:=h.mks
 lvls:=h.lvls
 chn:=h.chn.fol .refl
 b4:=h.b4
 bn:=h.bn
 bp:=h.bp
 bs:=h.bs
 sn:=h.sn
 cz:=h.cz
noncomputable def lev(st:St)(v:Value):St:={st with lvls:=st.lvls++[v]}
theorem push(h:Lp st prs stk i)(hw:st.wait=[])(ra pa q:Addr):Lp (Q9 (lev st (.ref q))) prs (⟨st,prs,ra,pa,q⟩::stk) (i+1) where
 inv:=by
  have:=h.inv.same st.backs (st.mks++[(st.chg.length,st.wait)]) st.hasC st.cmark st.cknown st.cells st.card (st.lvls++[AN q]);exact this
 nod:=h.nod
 cok:=h.cok
 hC:=h.hC
 mks:=by
  show st.mks++[(st.chg.length,st.wait)]=_;rw[hw,h.mks,Ix,B6];rfl
 lvls:=by
  show st.lvls++[.ref q]=_;rw[h.lvls,Ix,B6];rfl
 chn:=⟨.refl,h.chn⟩
 b4:=h.b4
 bn:=by show st.rows.length≤_;have:=h.bn;exact o31 this
 bp:=by have:=h.bp;exact o20 this
 bs:=by have:=h.bs;simp;exact o32 this
 sn:=fun p hp=>by
  have:=h.bn;have:=h.bp;rcases As.mp hp with rfl | hp
  ·exact (yA5 h.inv hw h.nod h.b4 (by show st.rows.length≤_;exact Db ‹_›) (by show prs.length≤_;exact o20 this))
  ·refine xA5 (h.sn p hp) fun a b c d e f=>?_;exact (yA5 a b c d (by exact o31 e) (by exact o20 f))
 cz:=h.cz
noncomputable def back(st:St)(p:PW)(ms:List (Nat×List Nat))(lv:List Value):St:={dress (Mine.Internal.cz p.st) {st with lvls:=lv} with backs:=st.backs+1,mks:=ms,wait:=[]}
theorem Sy(h:Inv st prs [])(hw:st.wait=[]):Inv (St.s_wait st []) prs []:=by
 have e:(St.s_wait st [])=st:=by cases st;simp only at hw;subst hw;rfl
 rw[e];exact h
theorem pop(h:Lp st prs (p::stk) i):Lp (back st p (stk.reverse.map fun p=>(p.st.chg.length,[])) (stk.reverse.map fun p=>AN p.q)) p.prs stk i where
 inv:=by
  have:=(Sy (h.sn p Aj).1 (h.sn p Aj).2.1).same (st.backs+1) (stk.reverse.map fun p:PW=>(p.st.chg.length,([]:List Nat))) st.hasC st.cmark st.cknown st.cells st.card (stk.reverse.map fun p:PW=>AN p.q);exact this
 nod:=(h.sn p Aj).2.2.1
 cok:=fun s e b hc=>by
  refine .inl ?_;show b<st.backs+1;rcases h.cok s e b hc with q | ⟨q,_⟩<;>lia
 hC:=h.hC
 mks:=rfl
 lvls:=rfl
 chn:=h.chn.2.fol .refl
 b4:=(h.sn p Aj).2.2.2.1
 bn:=(h.sn p Aj).2.2.2.2.1
 bp:=(h.sn p Aj).2.2.2.2.2
 bs:=by have:=h.bs;simp at this;exact o30 this
 sn:=fun q hq=>h.sn q (Ao _ hq)
 cz:=h.cz
end Lp
end
section
section
variable{A:Aq}{s s':A4}{E Q:Value→A4→Prop}{s0:A4}{H:AE}{Z:List (Addr×Obj)}{L:Addr}{m:A9→Option Value}{env:Env}
theorem YV{a b:Expr}{pos:Pos}{whole:Sem Value}{Q:Bool→A4→Prop}(h:A8 (MD c.w) A (EO a env (AJ a env)) (fun x s₁=>if x=true then A8 (MD c.w) A (EO b env (AJ b env)) Q E s₁ else Q false s₁) E s):A8 (MD c.w) A (EO (.BoolOp .And [a,b] pos) env whole) Q E s:=by
 refine CW ?_
 show A8 _ _ (do match Jv,←EO a env (AJ a env)with
  | .And,false=>pure false
  | .Or,true=>pure true
  | _,_=>allTrue .And [b] env) _ _ _
 refine A5 (Al h (fun x s₁ h₁=>?_) fun _ _ x=>x)
 induction x with
 | false=>exact Ae h₁
 | true=>
  show A8 _ _ (do match Jv,←EO b env (AJ b env)with
   | .And,false=>pure false
   | .Or,true=>pure true
   | _,_=>allTrue .And [] env) _ _ _
  refine A5 (Al h₁ (fun x s₂ h₂=>?_) fun _ _ x=>x)
  induction x with
  | false=>exact Ae h₂
  | true=>exact Ae h₂
theorem Yi(hq:Tpl s.heap q [.int a u,.int b v])(h:Q (.bool (a == k || b == k)) s):A8 (MD c.w) A (CB .In (.int k t) (.ref q)) Q E s:=by
 refine SeqAt.in_tupleAt (e:=fun y=>match y with | .int x _=>x == k | _=>false) hq.isT2 (fun y hy=>?_) (by simpa using h);simp at hy;rcases hy with rfl | rfl
 ·exact Hh _ _ _ _
 ·exact Hh _ _ _ _
theorem RB(hl:Lst s.heap l (vs++[v]))(hz:vs.length≤16000)(h:Q v s)(hs:autoParam (Cn slice false (.ref l) (.int (-1) u)=DW [.ref l,.int (-1) u] (Cr (.ref l) (.int (-1) u))) au3._auto_1):A8 (MD c.w) A (BQ value slice (.ref l) (.int (-1) u)) Q E s:=
 Dq hl.isList.typeIs slot_list_getitem.lookup (wpAny_getItem_list_neg hl.isList (by decide) (by simp;lia) (by decide) (by
  simp;rw[show ((-1:Int)+(↑vs.length+1)).toNat=vs.length by lia];simp) h) hs
theorem VU(F:Fm s0 H Z L m s)(hn:n<1000)(h:∀s' x t',Pu s s'→Fm s0 H Z L m s'→Q (.str x t') s'):A8 (MD c.w) A (call (.type "str") [.int (n:Nat) t]) Q E s:=by
 have h0:((n:Nat):Int).natAbs.log2<1920:=by
  have e:((n:Nat):Int).natAbs=n:=by rfl
  rw[e];rcases D3 n with q | q
  ·subst q;decide
  ·refine (Nat.log2_lt (by exact Cs ‹_›)).mpr ?_;exact Ac (show n<2^10 by exact Ac ‹_› (by decide)) (Fq (by decide) (by decide))
 exact PySem.P.str_of_int h0 (h _ _ _ (Pu.tok _ _) (F.tok _))
theorem Z3(h:A8 (MD c.w) A (AJ e env) (fun v s'=>A8 (MD c.w) A (AJ e2 env) (fun v2 s''=>A8 (MD c.w) A (AJ e3 env) (fun v3 s3=>A8 (MD c.w) A (AJ e4 env) (fun v4 s4=>A8 (MD c.w) A (FP [v,v2,v3,v4]) Q E s4) E s3) E s'') E s') E s)(he:autoParam (AG [e,e2,e3,e4] env=[(false,AJ e env),(false,AJ e2 env),(false,AJ e3 env),(false,AJ e4 env)]) au1._auto_1):A8 (MD c.w) A (AJ (.Tuple [e,e2,e3,e4] k pos) env) Q E s:=by
 refine HF ?_;rw[he];exact AK (Al h (fun _ _ h=>AK (Al h (fun _ _ h=>AK (Al h (fun _ _ h=>AK (Al h (fun _ _ h=>BR h) fun _ _ x=>x)) fun _ _ x=>x)) fun _ _ x=>x)) fun _ _ x=>x)
theorem Z6(h:A8 (MD c.w) A (AJ e env) (fun v s'=>A8 (MD c.w) A (AJ e2 env) (fun v2 s''=>A8 (MD c.w) A (AJ e3 env) (fun v3 s3=>A8 (MD c.w) A (AJ e4 env) (fun v4 s4=>A8 (MD c.w) A (Fk [v,v2,v3,v4]) Q E s4) E s3) E s'') E s') E s)(he:autoParam (AG [e,e2,e3,e4] env=[(false,AJ e env),(false,AJ e2 env),(false,AJ e3 env),(false,AJ e4 env)]) au1._auto_1):A8 (MD c.w) A (AJ (.List [e,e2,e3,e4] pos) env) Q E s:=by
 refine List_ ?_;rw[he];exact AK (Al h (fun _ _ h=>AK (Al h (fun _ _ h=>AK (Al h (fun _ _ h=>AK (Al h (fun _ _ h=>BR h) fun _ _ x=>x)) fun _ _ x=>x)) fun _ _ x=>x)) fun _ _ x=>x)
theorem Zb{Q:Unit→A4→Prop}(h:A8 (MD c.w) A (Cq env x a) (fun _ s₁=>A8 (MD c.w) A (Cq env y b) (fun _ s₂=>A8 (MD c.w) A (Cq env z d) (fun _ s₃=>A8 (MD c.w) A (Cq env u e) Q E s₃) E s₂) E s₁) E s):A8 (MD c.w) A (Eb ((Fl [.Name x p,.Name y q,.Name z r,.Name u t] env).map (·.2)) [a,b,d,e]) Q E s:=by
 refine Bq (Aw (Al h (fun _ s₁ h=>?_) fun _ _ x=>x));refine Bq (Aw (Al h (fun _ s₁ h=>?_) fun _ _ x=>x));refine Bq (Aw (Al h (fun _ s₁ h=>?_) fun _ _ x=>x));refine Bq (Aw (Al h (fun _ s₁ h=>?_) fun _ _ x=>x));exact EJ h
noncomputable abbrev dict0O':Obj:={cls:=.type "dict",dict:=none,data:=.dict #[] 0,slots:=#[]}
theorem VR(ne:NE)(X:c.K.In s.heap):(s.heap.objs.size == Bp)=false:=by
 have h1:=lo_law ne
 cases e:c.K.lookup 592 with
 | none=>rw[e]at h1;exact nomatch h1
 | some o=>
  have h3:=AM (X _ _ e);have h2:(592:Nat)<s.heap.objs.size:=h3
  have:¬(s.heap.objs.size=Bp):=fun q=>by
   have q:s.heap.objs.size=1:=q;exact o28 h3 q
  simpa using this
theorem YC(F:Fm s0 H Z L m s)(hne:x2≠x1)(h:∀s1 d,Pu s s1→Fm s0 H Z L m s1→s.heap.get? d=none→s1.heap.get? d=some dict0O'→(d == Bp)=false→
   A8 (MD c.w) A (AJ e1 env) (fun v1 s2=>∀s3,Pu s2 s3→A8 (MD c.w) A (AJ e2 env) (fun v2 s4=>s4.heap.get? d=some dict0O'∧∀s5,Mt d s4 s5→(∃kvs,s5.heap.DictOf (DO PG c.w) d kvs∧kvs=[(x1,v1),(x2,v2)])→Q (.ref d) s5) E s3) E s1):A8 (MD c.w) A (AJ (.Dict [some (.Constant (.str x1) k1 p1),some (.Constant (.str x2) k2 p2)] [e1,e2] pos) env) Q E s:=by
 refine wpAny_Dict_walk (knd:=DO PG c.w) rfl rfl (by simp) (by simp) ?_;have hn:s.heap.get? s.heap.objs.size=none:=KM _;refine J4 (cS (F.pu (Pu.push _ _)) fun s1 t1 P1 F1=>?_);have hd1:s1.heap.get? s.heap.objs.size=some dict0O':=P1.ext _ _ (AB _ rfl);refine Al (h s1 _ ((Pu.push _ _).trans P1) F1 hn hd1 (VR F.ne F.In)) (fun v1 s2 h2=>?_) fun _ _ x=>x;refine J4 (Ja ?_);refine Al (h2 _ (Pu.tok _ _)) (fun v2 s4 ⟨hd4,h5⟩=>?_) fun _ _ x=>x;refine pairTrees_nil_walk ?_;refine (M1 [(x1,v1),(x2,v2)] (UE (by exact if_pos rfl:(DO PG c.w).is x1 (.str x1 t1)=true) rfl (by exact if_pos rfl:(DO PG c.w).is x2 (.str x2 s2.toks)=true) rfl trivial) ?_ (fun h' hm hs=>h5 _ ?_ (yEA _ hm ?_)))
 ·exact (QD _ (#[]) 0 hd4 (yAA rfl rfl rfl) rfl (fun e h=>by simp at h) (by first | exact .nil | exact trivial | simp[Pairs]) BW)
 ·exact⟨fun b o hb q=>(hs.2 b hb).trans q,rfl,rfl⟩
 ·simp[merged,Ij,B9 hne]
end
end
section
theorem Pu.dead(P:Pu s s')(h:s'.heap.get? b=none):s.heap.get? b=none:=by
 exact Ky fun o e=>by rw[P.ext _ _ e]at h;exact nomatch h
theorem Uu{st:St}{prs:List (Nat×Nat)}(h:Inv st prs [])(hn:st.rows.length≤12){r:Row}(hk2:r.2.length≤2)(hlt:∀k∈r.2,k<st.rows.length)(w d:Nat):(MT (UB st r w d) st.rows.length).wait=st.wait:=by
 have hI:=h.add hn hk2 hlt w d;rcases Mm (UB st r w d) st.rows.length with⟨e1,e2⟩ | ⟨o,e1,e3,e2⟩ | ⟨o,e1,e3,e2⟩
 ·rw[e2];rfl
 ·rw[e2];rfl
 ·rw[e2];have ho:=(hI.knv _ (RO e1)).1;have hup:=h.up
  have uR:∀x,Ku (UB st r w d).up x=Ku st.up x:=fun x=>by
   show Ku (st.up++[st.rows.length]) x=Ku st.up x;rw[←hup];exact N8 h.low x
  have rn:Ku (UB st r w d).up st.rows.length=st.rows.length:=by rw[uR];exact Ls (by exact o22 hup)
  have ro:Ku (UB st r w d).up o≤o:=LI _ _
  have hol:o<st.rows.length+1:=by
   have:(UB st r w d).rows.length=st.rows.length+1:=by show (st.rows++[r]).length=_;simp
   lia
  rw[rn]at e3 ⊢;rw[BB (by exact aq167 hol ro)];show st.wait++(Kx (st.abv++[[]]) (r.2.map (Ku st.up)) st.rows.length).getD st.rows.length []=st.wait;have ha:=h.abv;rw[A6,KO];have:(st.abv++[[]])[st.rows.length]?=some []:=by rw[←ha];simp
  rw[this]
  have hnc:st.rows.length∉r.2.map (Ku st.up):=fun q=>by
   refine xEA (AR.mp q) fun x hx e=>?_;have:=hlt x hx;have:=LI st.up x;exact aq245 ‹_› e this
  simp[hnc]
theorem SX{st:St}{prs:List (Nat×Nat)}(h:Inv st prs [])(hn:st.rows.length≤12){r:Row}(hk2:r.2.length≤2)(hlt:∀k∈r.2,k<st.rows.length)(hp:prs.length≤50)(hm:st.mks.length≤100)(w d:Nat):UA (OH st r w d) st.rows.length:=by
 have hI:=h.add hn hk2 hlt w d;have L:=hI.lkpre hp hm;refine⟨L.bs.chg (ch:=st.chg) (md:=st.made) (by have:=h.chl hp;exact n1 this) fun k m g hm=>AD _ hm,by have:=h.chl hp;show st.chg.length≤1990;exact n1 this,L.hn,L.hkn⟩
theorem UD{rows:List Row}{r:Row}(h:lk rows.zipIdx r=none)(j:Nat):rows[j]?≠some r:=fun e=>by
 refine TF h ?_;refine AR.mpr (yEA (r,j) (Gx.mpr e) rfl)
section
variable{A:Aq}{s s':A4}{E Q:Value→A4→Prop}{s0:A4}{H:AE}{Z:List (Addr×Obj)}{L:Addr}{m:A9→Option Value}{y:Lay}{st:St}{rows:List Row}{prs:List (Nat×Nat)}{ra pa:Addr}{stk:List PW}
theorem Ut{op:A9}{ks:List Nat}{vs:List Value}{q:Addr}{t:Tok}(X:Lh H y st rows prs ra pa stk)(F:Fm s0 H Z L m s)(rm:Rm A 10 150)(h:Inv st prs [])(hm:st.mks.length≤100)(hp:prs.length≤50)(hn:st.rows.length≤12)(hop:WK op)(hq:Tpl s.heap q vs)(hk:LH vs ks)(hk2:ks.length≤2)(hlt:∀k∈ks,k<st.rows.length)(k0:∀j:Nat,st.rows[j]?=some (op,ks)→∀s' t',Pu s s'→Q (.int j t') s')(k1:(∀j:Nat,st.rows[j]?≠some (op,ks))→∀s' t' y' st' H',M6 y y'→Fm s0 H' Z L m s'→Lh H' y' st' rows prs ra pa stk→Im H H'→(∀b o,¬Own y st b→H.get? b=some o→H'.get? b=some o)→Inv st' prs []→Fol st st'→st'.rows=st.rows++[(op,ks)]→st'.wait=st.wait→Q (.int (st.rows.length:Nat) t') s'):A8 (MD c.w) A (call (.ref 389) [.ref y.lv,.str op t,.ref q]) Q E s:=by
 have bs:=h.bas hp hm;refine Vr rm (F.base.trans F.keep) (X.good.ext F.keep) bs hop hq hk hk2 hlt (fun w d=>SX (r:=(op,ks)) h hn hk2 hlt hp hm w d) k0 fun hnone s' t' w d y' hL M G'=>?_;have hnew:MI (OH st (op,ks) w d) st.rows.length=MT (UB st (op,ks) w d) st.rows.length:=TD (show st.rows.length=st.made from h.made.symm);rw[hnew]at M G';refine X.callG F M G' fun H' F' X' im kp=>?_;have hI:=h.add (r:=(op,ks)) hn hk2 hlt w d;have f1:=Fol.add bs hn h.made (r:=(op,ks)) hk2 hlt w d;refine xA (Fol.look hI (hI.bas hp hm)) fun f2 f3=>?_;refine k1 (UD (by rw[←h.nums];exact hnone)) s' t' y' _ H' hL F' X' im kp hI.look (f1.trans f2) f3 (Uu (r:=(op,ks)) h hn hk2 hlt w d)
theorem UJ(X:Lh H y st rows prs ra pa stk)(F:Fm s0 H Z L m s)(rm:Rm A 6 90)(h:Inv st prs' [])(hm:st.mks.length≤100)(hp:prs'.length≤50)(ha:a<st.rows.length)(hb:b<st.rows.length)(k1:∀s' v y' st' H',M6 y y'→Fm s0 H' Z L m s'→Lh H' y' st' rows prs ra pa stk→Im H H'→Inv st' (prs'++[(a,b)]) []→Fol st st'→st'.rows=st.rows→Q (.bool v) s'):A8 (MD c.w) A (call (.ref 424) [.ref y.lv,.int a t,.int b u,rs]) Q E s:=by
 have bs:=h.bas hp hm;have hra:=bs.rl ha;refine PE rm (F.base.trans F.keep) (X.good.ext F.keep) bs ha hb (fun e s' M G'=>?_) (fun k g hne hk hg s' a' M G'=>?_)
 ·refine X.callG F M G' fun H' F' X' im _=>?_;exact k1 s' _ y _ H' (M6.refl y) F' X' im (h.join0 ha hb e _ hra) (Fol.join0 bs _) rfl
 ·refine X.callG F M G' fun H' F' X' im _=>?_;refine xAA (NB h ha hb hne) fun z1 z2 z3=>?_;subst hk;subst hg;exact k1 s' _ _ _ H' (M6.set y a' rfl) F' X' im (h.told ha hb hne) (Fol.join bs z1 z2 z3) rfl
theorem S8(X:Lh H y st rows prs ra pa stk)(F:Fm s0 H Z L m s)(rm:Rm A 9 120)(h:Inv st prs' [])(hm:st.mks.length≤100)(hp:prs'.length≤50)(k1:∀s' y' st' H',M6 y y'→Fm s0 H' Z L m s'→Lh H' y' st' rows prs ra pa stk→Im H H'→Inv st' prs' []→Fol st st'→st'.rows=st.rows→st'.wait=[]→Q .none s'):A8 (MD c.w) A (call (.ref 438) [.ref y.lv]) Q E s:=by
 refine QJ (SJ st prs') mu (fun st' J=>?_) (fun st' w n J hw=>SJ.step hp hm st' w n J hw) rm (F.base.trans F.keep) (X.good.ext F.keep) ⟨h,Fol.refl _,rfl⟩ fun s' y' st' hL J hw M G'=>?_
 ·have:=J.inv.pot;have:=J.inv.hn;exact aq19 ‹_› this
 ·refine X.callG F M G' fun H' F' X' im _=>?_;exact k1 s' y' st' H' hL F' X' im J.inv J.fol J.rows hw
theorem Nn(X:Lh H y st rows prs ra pa stk)(F:Fm s0 H Z L m s)(rm:Rm A 1 60)(hmn:0<mn)(hz:st.cells.length≤50)(hcz:st.card≤1000)(k1:∀s' r t' H',r<mn→Fm s0 H' Z L m s'→Lh H' y (St.s_card st (st.card+1)) rows prs ra pa stk→Im H H'→Q (.int (r:Nat) t') s'):A8 (MD c.w) A (call (.ref 567) [.ref (y.ad .pack),.int (mn:Nat) t]) Q E s:=by
 refine Um rm (F.base.trans F.keep) (X.good.ext F.keep) hmn (by exact n1 hz) (by exact n1 hcz) fun s' r t' hr M G'=>?_;refine X.callG F M G' fun H' F' X' im _=>?_;exact k1 s' r t' H' hr F' X' im
theorem R7(X:Lh H y st st.rows prs ra pa stk)(F:Fm s0 H Z L m s)(rm:Rm A 16 250)(h:Lp st prs stk i)(hw:st.wait=[])(hi:i≤20)(k1:∀s' y' kn H',M6 y y'→Fm s0 H' Z L m s'→Lh H' y' (M5 st (Ll st) kn) st.rows prs ra pa stk→Im H H'→Lp (M5 st (Ll st) kn) prs stk i→Q (.bool true) s'):A8 (MD c.w) A (call (.ref 587) [.ref y.ci,.ref ra,.ref pa]) Q E s:=by
 have bs:=h.bas hi;refine xE X.cur.r fun vr hr=>?_;refine xE X.cur.p fun vp hpp=>?_;refine V7 (W:=Wst st) (cm:=st.cmark) (kn:=st.cknown) (h.inv.rw bs h.hC) rm (F.base.trans F.keep) (X.good.ext F.keep) (fun e=>h.cok.use e) (hr.ext F.keep) (hpp.ext F.keep) h.inv.prsm (by have:=h.bp;exact n7 hi this) h.nod (by have:=h.b4;exact n18 this) (fun hs ho i _=>h.inv.lab hw hs ho i) (fun ks hk hm i hi t _ _=>h.inv.wt ks hk hm i hi t) fun s' y' kn hL M G' hk=>?_;refine X.callG F M G' fun H' F' X' im _=>?_;exact k1 s' y' kn H' hL F' X' im (h.ct hk)
theorem UV(X:Lh H y st rows prs ra pa stk)(F:Fm s0 H Z L m s)(rm:Rm A 1 60)(bs:Bas st)(k1:∀s' y' H',M6 y y'→Fm s0 H' Z L m s'→Lh H' y' (Q9 st) rows prs ra pa stk→Im H H'→Q .none s'):A8 (MD c.w) A (call (.ref 520) [.ref y.lv]) Q E s:=by
 refine To rm (F.base.trans F.keep) (X.good.ext F.keep) bs fun s' a M G'=>?_;refine X.callG F M G' fun H' F' X' im _=>?_;exact k1 s' _ H' (M6.set y a rfl) F' X' im
theorem W5(X:Lh H y st rows prs ra pa stk)(F:Fm s0 H Z L m s)(rm:Rm A 6 200)(bs:Bas st)(hanc:Anc (cz p.st) (cz st))(hmk:st.mks=ms++[(p.st.chg.length,[])])(k1:∀s' y' H',M6 y y'→Fm s0 H' Z L m s'→Lh H' y' (Lp.back st p ms st.lvls) rows prs ra pa stk→Im H H'→Q .none s'):A8 (MD c.w) A (call (.ref 527) [.ref y.lv]) Q E s:=by
 refine UW (a:=cz p.st) (cur:=cz st) (ms:=ms) (ww:=[]) rm (F.base.trans F.keep) (X.good.ext F.keep) rfl hanc hmk bs.mksz bs.chgz bs.waiz fun s' y' hL M G'=>?_;refine X.callG F M G' fun H' F' X' im _=>?_;exact k1 s' y' H' hL F' X' im
theorem RM(X:Lh H y st rows prs ra pa stk)(F:Fm s0 H Z L m s)(M:Mt (y.ad .lvls) s s')(hl:Lst s'.heap (y.ad .lvls) vs):∃H',Fm s0 H' Z L m s'∧Lh H' y (St.s_lvls st vs) rows prs ra pa stk∧Im H H':=by
 refine LZ ((Gd.refl X.good).set (r0:=.lvls) (st':=(St.s_lvls st vs)) F M trivial hl hl.al (fun r h=>by induction r<;>exact h) rfl (fun r h hr hlv h1=>by
  induction r<;>first | exact absurd rfl hr | exact h1)) fun H' F' D k1 im=>?_
 have hno:∀b,(∃o,H.get? b=some o)→¬Own y st b→¬Own y (St.s_lvls st vs) b:=fun b _ n ⟨r,hr,e⟩=>n (yEA r (by induction r<;>exact hr) e);exact (M1 H' F' ⟨D.good,X.cur.to k1 im hno,fun p hp=>⟨(X.sn p hp).1.im im,(X.sn p hp).2.to k1 im hno⟩⟩ im)
theorem Lh.more(X:Lh H y st rows prs ra pa stk)(hq:Tpl H p.q [.ref p.ra,.ref p.pa])(h2:Two H y st p.ra p.pa p.st.rows p.prs):Lh H y st rows prs ra pa (p::stk):=
 ⟨X.good,X.cur,fun q hq'=>by
  rcases As.mp hq' with rfl | h
  ·exact⟨hq,h2⟩
  ·exact X.sn q h⟩
theorem Lh.less(X:Lh H y st rows prs ra pa (p::stk)):Lh H y st p.st.rows p.prs p.ra p.pa stk:=
 ⟨X.good,(X.sn p Aj).2,fun q hq=>X.sn q (Ao _ hq)⟩
theorem Lh.rows'{rows':List Row}{ra':Addr}{vr:List Value}(X:Lh H y st rows prs ra pa stk)(hr:Lx H ra' vr rows')(hn:¬Own y st ra'):Lh H y st rows' prs ra' pa stk:=
 ⟨X.good,⟨⟨vr,hr⟩,X.cur.p,hn,X.cur.np⟩,X.sn⟩
theorem Lh.prs'{prs':List (Nat×Nat)}{pa':Addr}{vp:List Value}(X:Lh H y st rows prs ra pa stk)(hp:Lb H pa' vp prs')(hn:¬Own y st pa'):Lh H y st rows prs' ra pa' stk:=
 ⟨X.good,⟨X.cur.r,⟨vp,hp⟩,X.cur.nr,hn⟩,X.sn⟩
theorem Lh.fresh(X:Lh H y st rows prs ra pa stk)(F:Fm s0 H Z L m s1)(hb:s1.heap.get? b=none):¬Own y st b:=fun ow=>by
 refine xEA (X.good.own_mut ow) fun o e _=>?_;rw[F.keep _ _ e]at hb;exact nomatch hb
end
end
section
section
variable{H:AE}{s1 s2:A4}{x dx ch mk d D lv:Addr}{b:O0}{t t' t9:Tok}{och omk:Obj}{cells:List Nat}
theorem Rp{l l':Atts}(n:Nat)(is:List Nat)(hl:l.length=n)(hp:is.Perm (Ap n))(e:l'=is.map fun i=>l.getD i ("",.none))(hn:(l.map Ci).Nodup):LL l=LL l':=by
 subst hl
 have e1:(Ap l.length).map (fun i=>l.getD i ("",.none))=l:=by
  apply BC;intro i
  by_cases h:i<l.length
  ·rw[B4,CS h,ED,A6,A7 h];rfl
  ·rw[AI (Ek.mp h),AI (by rw[AQ,CI];exact Ek.mp h)]
 have p:l'.Perm l:=by
  rw[e];exact (hp.map _).trans (.of_eq e1)
 exact RW hn ((p.map _).nodup_iff.mpr hn) fun x=>p.mem_iff.symm
theorem Wi{l:List (Ro×Addr)}{r:Ro}(h:r∈l.map Ci):(l.lookup r).getD 0∈l.map HT:=by
 induction l with
 | nil=>exact absurd h Ah
 | cons p l ih=>
  rw[Dk]
  by_cases q:r=p.1
  ·subst q;simp
  ·have q':(r == p.1)=false:=by simpa using q
   simp only[q'];rcases As.mp h with h | h
   ·exact absurd h q
   ·exact Ao _ (ih h)
theorem YI(v0 v1 v2 v3:Value):LL [("depths",v0),("weights",v1),("numbers",v2),("nodes",v3)]=LL [("nodes",v3),("numbers",v2),("weights",v1),("depths",v0)]:=
 Rp 4 [3,2,1,0] rfl (by decide) rfl (by show (["depths","weights","numbers","nodes"]:List A9).Nodup;decide +kernel)
theorem XP(v0 v1 v2:Value):LL [("merged",v0),("lots",v1),("above",v2)]=LL [("above",v2),("lots",v1),("merged",v0)]:=
 Rp 3 [2,1,0] rfl (by decide) rfl (by show (["merged","lots","above"]:List A9).Nodup;decide +kernel)
theorem Ya(v0 v1 v2 v3 v4 v5 v6 v7 v8 v9 v10:Value):LL [("made",v0),("marks",v1),("changes",v2),("backs",v3),("waiting",v4),("above",v5),("known",v6),("forest",v7),("edges",v8),("unions",v9),("bank",v10)]=LL [("waiting",v4),("backs",v3),("made",v0),("bank",v10),("unions",v9),("edges",v8),("forest",v7),("known",v6),("above",v5),("changes",v2),("marks",v1)]:=
 Rp 11 [4,3,0,10,9,8,7,6,5,2,1] rfl (by decide) rfl (by show (["made","marks","changes","backs","waiting","above","known","forest","edges","unions","bank"]:List A9).Nodup;decide +kernel)
theorem R2{α:Type}{o:Option α}{x:α}(h:o=some x):o≠none:=fun e=>by rw[e]at h;exact nomatch h
theorem TY(N:New s1 s2 x cLv dx (O0.atts2 b t t' ch mk) 11 ((mk,omk)::(ch,och)::b.news))(bok:b.Ok)(f1:No och ch)(f2:No omk mk)(up:∀z o,s1.heap.get? z=none→s2.heap.get? z=some o→H.get? z=some o)(hpk:SD c.w H d (LL [("card",.int 0 t9),("cells",.ref D)]))(hcells:NL H D cells)(hlv:Lst H lv [])(hd1:s1.heap.get? d≠none)(hD1:s1.heap.get? D≠none)(hl1:s2.heap.get? lv=none)(hd2:s2.heap.get? d≠none)(hD2:s2.heap.get? D≠none)(hdD:D≠d)(hsys:(d == Bp)=false)(dead:∀z,s1.heap.get? z=none→c.H0.get? z=none)(h0d:c.H0.get? d=none)(h0D:c.H0.get? D=none):KW (OE (b.lay x dx ch mk d D lv) x b.xb b.xu) (St.zero cells 0 []) H∧∀a,Own (OE (b.lay x dx ch mk d D lv) x b.xb b.xu) (St.zero cells 0 []) a→s2.heap.get? a≠none∨a=lv:=by
 have at1:∀p∈(mk,omk)::(ch,och)::b.news,s1.heap.get? p.1=none∧s2.heap.get? p.1=some p.2:=fun p hp=>N.at' p (Ao _ hp);have inH:∀p∈(mk,omk)::(ch,och)::b.news,H.get? p.1=some p.2:=fun p hp=>up _ _ (at1 p hp).1 (at1 p hp).2;have l1:s1.heap.get? lv=none:=N.pu.dead hl1;have hxx:=N.at' _ Aj;refine xE N.fld.al fun odx hodx=>?_;have nd:=N.dis
 have hsub:List.Sublist [dx,mk,ch,b.w,b.a,b.k,b.f,b.e,b.du,b.u3,b.u2,b.u1,b.db,b.b4,b.b3,b.b2,b.b1] (dx::x::((mk,omk)::(ch,och)::b.news).map Ci):=by
  unfold O0.news;simp only[Cu,FW]
  repeat (first | exact Kf | apply Kg | apply Kh)
 have fr:∀a∈[dx,mk,ch,b.w,b.a,b.k,b.f,b.e,b.du,b.u3,b.u2,b.u1,b.db,b.b4,b.b3,b.b2,b.b1],s1.heap.get? a=none∧s2.heap.get? a≠none:=fun a ha=>by
  rcases As.mp (hsub.subset ha)with rfl | ha
  ·exact⟨N.dxn,R2 hodx⟩
  rcases As.mp ha with rfl | ha
  ·exact⟨hxx.1,R2 hxx.2⟩
  ·refine xEA (AR.mp ha) ?_;rintro p hp rfl;refine xA (at1 p hp) fun a1 a2=>?_;exact⟨a1,R2 a2⟩
 have nodup:((b.lay x dx ch mk d D lv).map HT).Nodup:=by
  show ([dx,mk,ch,b.w,b.a,b.k,b.f,b.e,b.du,b.u3,b.u2,b.u1,b.db,b.b4,b.b3,b.b2,b.b1]++[d,D,lv]).Nodup;refine Ck.mpr (yAA (nd.sublist hsub) ?_ (fun a ha z hz e=>?_))
  ·have n1:d≠lv:=fun q=>hd2 (by rw[q];exact hl1);have n2:D≠lv:=fun q=>hD2 (by rw[q];exact hl1);simp[n1,n2,B9 hdD]
  ·subst e;refine xA (fr a ha) fun a1 a2=>?_;simp only[As,Ah,or_false]at hz;rcases hz with rfl | rfl | rfl
   ·exact hd1 a1
   ·exact hD1 a1
   ·exact a2 hl1
 have fst:(b.lay x dx ch mk d D lv).map Ci=[.ld,.mks,.chg,.wait,.above,.known,.forest,.edges,.ud,.mrg,.lots,.up,.bd,.dps,.wts,.nums,.nodes,.pack,.cells,.lvls]:=rfl
 have lv':∀r,live (St.zero cells 0 []) r→r∈(b.lay x dx ch mk d D lv).map Ci:=fun r h=>by
  rw[fst]
  induction r with | lot i=>exact absurd h (C0 _) | ab i=>exact absurd h (C0 _) | mk i=>exact absurd h (C0 _) | cd=>exact absurd h Cz | ck=>exact absurd h Cz | _=>decide
 have L0:∀{a:Addr} {o:Obj} (i:Nat),((mk,omk)::(ch,och)::b.news)[i]?=some (a,o)→No o a→Lst H a []:=fun i hp f=>f H (inH _ (Kr i hp));have G0:∀{a:Addr} {o:Obj} (i:Nat),((mk,omk)::(ch,och)::b.news)[i]?=some (a,o)→H.get? a=some o:=fun i hp=>inH _ (Kr i hp)
 have mem:∀r,live (St.zero cells 0 []) r→∀P:Addr→Prop,(∀a∈[dx,mk,ch,b.w,b.a,b.k,b.f,b.e,b.du,b.u3,b.u2,b.u1,b.db,b.b4,b.b3,b.b2,b.b1],P a)→P d→P D→P lv→P ((OE (b.lay x dx ch mk d D lv) x b.xb b.xu).ad r):=fun r h P p1 p2 p3 p4=>by
  have q:_∈[dx,mk,ch,b.w,b.a,b.k,b.f,b.e,b.du,b.u3,b.u2,b.u1,b.db,b.b4,b.b3,b.b2,b.b1]++[d,D,lv]:=Wi (lv' r h);have tr:∀{u v:Addr},u=v→P v→P u:=fun e h=>e▸h;rcases Am.mp q with q | q
  ·exact p1 _ q
  ·rcases As.mp q with q | q
   ·exact tr q p2
   rcases As.mp q with q | q
   ·exact tr q p3
   ·exact tr (Ab.mp q) p4
 refine⟨?_,fun a z=>xEA z fun r h e=>e▸mem r h (fun a=>s2.heap.get? a≠none∨a=lv) (fun a ha=>.inl (fr a ha).2) (.inl hd2) (.inl hD2) (.inr rfl)⟩;refine⟨up _ _ hxx.1 hxx.2,G0 (a:=b.xb) (o:=DX cBk b.db) 12 rfl,G0 (a:=b.xu) (o:=DX cUn b.du) 7 rfl,(fun h=>nomatch h),fun r r' h h' e=>Wl nodup (lv' r h) (lv' r' h') e,fun r h=>mem r h (fun a=>c.H0.get? a=none) (fun a ha=>dead a (fr a ha).1) h0d h0D (dead lv l1),fun r h hd=>?_,fun r h=>?_⟩
 ·induction r with
  | nums=>exact bok.s2
  | known=>exact bok.sk
  | above=>exact bok.sa
  | pack=>exact hsys
  | ck=>exact nomatch h
  | _=>exact nomatch hd
 ·have fld:=N.fld
  induction r with
  | bd=>
   have:=bok.fb H (G0 (a:=b.db) 13 rfl);rw[YI]at this;exact this
  | ud=>
   have:=bok.fu H (G0 (a:=b.du) 8 rfl);rw[XP]at this;exact this
  | ld=>
   have h1:Fld H dx (LL (b.atts2 t t' ch mk)) 11:=fld.at2 fun o e=>up _ _ N.dxn e;refine (yEE t t' ?_);unfold O0.atts2 O0.atts at h1;rw[Ya]at h1;exact h1
  | nodes=>exact (yEA [] (L0 (a:=b.b1) (o:=b.ob1) 17 rfl bok.b1) .nil)
  | nums=>exact HD.nil _ (G0 (a:=b.b2) (o:=LX) 16 rfl)
  | wts=>exact (yEA [] (L0 (a:=b.b3) (o:=b.ob3) 15 rfl bok.b3) .nil)
  | dps=>exact (yEA [] (L0 (a:=b.b4) (o:=b.ob4) 14 rfl bok.b4) .nil)
  | up=>exact (yEA [] (L0 (a:=b.u1) (o:=b.ou1) 11 rfl bok.u1) .nil)
  | lots=>exact L0 (a:=b.u2) (o:=b.ou2) 10 rfl bok.u2
  | mrg=>exact (yEA [] (L0 (a:=b.u3) (o:=b.ou3) 9 rfl bok.u3) .nil)
  | edges=>exact (yEA [] (L0 (a:=b.e) (o:=b.oe) 6 rfl bok.e) rfl)
  | forest=>exact (yEA [] (L0 (a:=b.f) (o:=b.of') 5 rfl bok.f) rfl)
  | known=>exact HD.nil _ (G0 (a:=b.k) (o:=LX) 4 rfl)
  | above=>
   have:=ID.nil (w:=c.w) (G0 (a:=b.a) (o:=LX) 3 rfl)
   have e:abF (OE (b.lay x dx ch mk d D lv) x b.xb b.xu).ad (St.zero cells 0 [])=fun _=>none:=by
    funext k;unfold abF;rw[if_neg];rintro⟨_,q⟩;exact nomatch q
   show ID c.w H b.a (abF _ _);rw[e];exact this
  | wait=>exact (yEA [] (L0 (a:=b.w) (o:=b.ow) 2 rfl bok.w) .nil)
  | chg=>exact (yEA [] (L0 (a:=ch) (o:=och) 1 rfl f1) .nil)
  | mks=>exact (M1 [] (L0 (a:=mk) (o:=omk) 0 rfl f2) rfl (fun i v p h=>by simp at h))
  | cd=>exact nomatch h
  | ck=>exact nomatch h
  | pack=>exact⟨t9,hpk⟩
  | cells=>exact hcells
  | lvls=>exact hlv
  | lot i=>exact absurd h (C0 _)
  | ab i=>exact absurd h (C0 _)
  | mk i=>exact absurd h (C0 _)
end
end
section
theorem YG(v0 v1 v2:Value):LL [("known",v0),("mark",v1),("heap",v2)]=LL [("mark",v1),("known",v0),("heap",v2)]:=
 RW (by show (["known","mark","heap"]:List A9).Nodup;decide +kernel) (by show (["mark","known","heap"]:List A9).Nodup;decide +kernel) fun p=>by
  simp only[As,Ah,or_false];constructor<;>(intro h;rcases h with h|h|h<;>simp[h])
theorem Inv.zero(cells:List Nat):Inv (St.zero cells 0 []) [] [] where
 hn:=Bi _
 up:=rfl
 lots:=rfl
 abv:=rfl
 wts:=rfl
 dps:=rfl
 nums:=rfl
 low:=fun i x e=>by exact nomatch e
 keys:=fun i=>rfl
 kids:=fun n r e=>by exact nomatch e
 gone:=fun k m g h=>by exact absurd h Ah
 gonl:=fun k m g h=>by exact absurd h Ah
 made:=rfl
 chgn:=rfl
 edgn:=At _
 forn:=rfl
 mrgn:=rfl
 pot:=At _
 abvn:=At _
 abvz:=fun i=>Bi _
 abvm:=fun i x h=>by exact absurd h Ah
 lotn:=fun i=>⟨BW,fun x h=>by exact absurd h Ah⟩
 lotm:=fun i h=>by exact nomatch h
 uses:=fun u r e=>by exact nomatch e
 prsm:=fun p h=>by exact absurd h Ah
 prsa:=fun p h=>by exact absurd h Ah
 snd:=fun g hg x=>by
  show g (Ku [] x)=g x;rw[Ls (by simp)]
 knv:=fun p h=>by exact absurd h Ah
 waitm:=fun x h=>by exact absurd h Ah
 exm:=fun x h=>by exact absurd h Ah
 cov:=fun u h=>absurd h (C0 _)
section
variable{A:Aq}{s s':A4}{E Q:Value→A4→Prop}{s0:A4}{H:AE}{Z:List (Addr×Obj)}{L:Addr}{m:A9→Option Value}{y:Lay}{st:St}{rows:List Row}{prs:List (Nat×Nat)}{ra pa:Addr}{stk:List PW}
noncomputable def WJ(y:Lay)(x dx k:Addr):Lay:={y with ad:=fun r=>if r=.cd then dx else if r=.ck then k else y.ad r,ci:=x}
theorem Mn(y:Lay)(x dx k:Addr)(h1:r≠.cd)(h2:r≠.ck):(WJ y x dx k).ad r=y.ad r:=by
 show (if r=.cd then dx else if r=.ck then k else y.ad r)=y.ad r;rw[if_neg h1,if_neg h2]
theorem Wb(o:Ok w y st h r)(h1:r≠.cd)(h2:r≠.ck):Ok w (WJ y x dx k) {st with hasC:=true} h r:=by
 induction r with
 | cd=>exact absurd rfl h1
 | ck=>exact absurd rfl h2
 | chg=>
  refine xEA o ?_;clear o;intro vs a b;refine (yEA vs a (b.mono fun v ch z=>MG z fun q t e z=>(Pi q t e ?_)))
  induction ch with
  | made n=>exact z
  | known r=>exact z
  | edge k m g=>exact z
 | _=>exact o
namespace U49
noncomputable def pP(H:AE)(y:Lay)(st:St)(x dx k:Addr):Prop:=∀(G:KW y st H)(hC:st.hasC=false)(hm:st.cmark=none)(hk:st.cknown=[])(D:Fld H dx (LL [("known",.ref k),("mark",.none),("heap",.ref y.lv)]) 3)(I:Ins H x cCt dx)(K:H.get? k=some LX)(hdk:dx≠k)(sk:(k == Bp)=false)(nd:¬Own y st dx)(nk:¬Own y st k)(h0d:c.H0.get? dx=none)(h0k:c.H0.get? k=none),KW (WJ y x dx k) {st with hasC:=true} H
noncomputable def fF:=unz fun H=>unz fun y=>unz fun st=>unz fun x=>unz fun dx=>pP H y st x dx
noncomputable def kK:=epz (default,OG,dSt,default) fF
noncomputable def H_:=kK.1
noncomputable def y_:=kK.2.1
noncomputable def st_:=kK.2.2.1
noncomputable def x_:=kK.2.2.2.1
noncomputable def dx_:=kK.2.2.2.2.1
noncomputable def k_:=kK.2.2.2.2.2
theorem tT:pP H_ y_ st_ x_ dx_ k_:=by
 intro G hC hm hk D I K hdk sk nd nk h0d h0k
 have split:∀r,live {st_ with hasC:=true} r→r=.cd∨r=.ck∨(r≠.cd∧r≠.ck∧live st_ r):=fun r h=>by
  by_cases h1:r=.cd
  ·exact .inl h1
  by_cases h2:r=.ck
  ·exact .inr (.inl h2)
  refine .inr (.inr (yAA h1 h2 ?_))
  induction r with
  | cd=>exact absurd rfl h1
  | ck=>exact absurd rfl h2
  | _=>exact h
 refine⟨G.lv,G.bk,G.un,fun _=>I,fun r r' a b e=>?_,fun r a=>?_,fun r a hd=>?_,fun r a=>?_⟩
 ·rcases split r a with rfl | rfl | ⟨a1,a2,a3⟩<;>rcases split r' b with rfl | rfl | ⟨b1,b2,b3⟩
  ·rfl
  ·exact absurd e hdk
  ·rw[Mn y_ x_ dx_ k_ b1 b2]at e;exact absurd (yEA r' b3 e.symm) nd
  ·exact absurd e.symm hdk
  ·rfl
  ·rw[Mn y_ x_ dx_ k_ b1 b2]at e;exact absurd (yEA r' b3 e.symm) nk
  ·rw[Mn y_ x_ dx_ k_ a1 a2]at e;exact absurd (yEA r a3 e) nd
  ·rw[Mn y_ x_ dx_ k_ a1 a2]at e;exact absurd (yEA r a3 e) nk
  ·rw[Mn y_ x_ dx_ k_ a1 a2,Mn y_ x_ dx_ k_ b1 b2]at e;exact G.inj r r' a3 b3 e
 ·rcases split r a with rfl | rfl | ⟨a1,a2,a3⟩
  ·exact h0d
  ·exact h0k
  ·rw[Mn y_ x_ dx_ k_ a1 a2];exact G.h0 r a3
 ·rcases split r a with rfl | rfl | ⟨a1,a2,a3⟩
  ·exact nomatch hd
  ·exact sk
  ·rw[Mn y_ x_ dx_ k_ a1 a2];exact G.gt r a3 hd
 ·rcases split r a with rfl | rfl | ⟨a1,a2,a3⟩
  ·refine (yEA .none ?_ ?_)
   ·rw[YG]at D;exact D
   ·show Ox H_ .none st_.cmark;rw[hm];rfl
  ·show HD (SZ c.w) H_ k_ st_.cknown;rw[hk];exact HD.nil _ K
  ·exact Wb (G.ok r a3) a1 a2
end U49
theorem Rb{H y st x dx k}:U49.pP H y st x dx k:=@KB _ _ U49.fF U49.kK rfl U49.tT (H,y,st,x,dx,k)
theorem SO(X:Lh H y st rows prs ra pa [])(F:Fm s0 H Z L m s)(rm:Rm A 2 50)(hC:st.hasC=false)(hm:st.cmark=none)(hk:st.cknown=[])(k1:∀s' x dx k H',Pu s s'→Fm s0 H' Z L m s'→Ext H H'→Lh H' (WJ y x dx k) {st with hasC:=true} rows prs ra pa []→Q (.ref x) s'):A8 (MD c.w) A (call (.ref 272) [.ref y.lv]) Q E s:=by
 refine SN rm F fun s' x dx k N sk=>?_;refine F.takeK N.pu fun H' hE F' hnew _=>?_;have up:∀b o,s.heap.get? b=none→s'.heap.get? b=some o→H'.get? b=some o:=hnew;have hx:=N.at' (x,DX cCt dx) Aj;have hkk:=N.at' (k,LX) (by exact .tail _ (.head _))
 have hdk:dx≠k:=fun q=>by
  have:=N.dis;simp[q]at this
 have hno:∀b,s.heap.get? b=none→¬Own y st b:=fun b hb=>X.fresh F hb
 have dead:∀b,s.heap.get? b=none→c.H0.get? b=none:=fun b hb=>by
  exact Ky fun o e=>by rw[F.keep _ _ (F.base.ext _ _ e)]at hb;exact nomatch hb
 have X':=X.ext hE;have G':=Rb (x:=x) (dx:=dx) (k:=k) X'.good hC hm hk (N.fld.at2 fun o e=>up _ _ N.dxn e) (up _ _ hx.1 hx.2) (up _ _ hkk.1 hkk.2) hdk sk (hno _ N.dxn) (hno _ hkk.1) (dead _ N.dxn) (dead _ hkk.1)
 have own:∀b,(∃o,H.get? b=some o)→¬Own y st b→¬Own (WJ y x dx k) {st with hasC:=true} b:=fun b ⟨o,e⟩ n ⟨r,hr,er⟩=>by
  by_cases h1:r=.cd
  ·subst h1;have er:dx=b:=er;have:=F.keep _ _ e;rw[←er,N.dxn]at this;exact nomatch this
  by_cases h2:r=.ck
  ·subst h2;have er:k=b:=er;have:=F.keep _ _ e;rw[←er,hkk.1]at this;exact nomatch this
  rw[Mn y x dx k h1 h2]at er;refine n (yEA r ?_ er)
  induction r with
  | cd=>exact absurd rfl h1
  | ck=>exact absurd rfl h2
  | _=>exact hr
 exact k1 s' x dx k H' N.pu F' hE ⟨G',X.cur.to (fun b o _ e=>hE _ _ e) hE.im own,fun p hp=>by exact absurd hp Ah⟩
end
end
section
section
variable{A:Aq}{s s' sb:A4}{E Q:Value→A4→Prop}{s0:A4}{H:AE}{Z:List (Addr×Obj)}{L:Addr}{m:A9→Option Value}{env:Env}{y:Lay}{st:St}
theorem V8{vs:List Value}{ns:List Int}(h:Iz vs ns):vs.length=ns.length∧∀(i:Nat) (v:Value),vs[i]?=some v→∃(n:Int) (t:Tok),v=BD n t:=by
 induction h with
 | nil=>exact⟨rfl,fun i v e=>by trivial⟩
 | cons n t h ih=>
  refine⟨by simp[ih.1],fun i v e=>?_⟩
  induction i with
  | zero=>simp at e;exact (yEE n t e.symm)
  | succ i=>exact ih.2 i v (by simpa using e)
theorem W1{x1 x2:A9}{v1 v2:Value}(hne:x2≠x1)(k:A9):CX [(x1,v1),(x2,v2)] k=LL [(x2,v2),(x1,v1)] k:=by
 unfold CX LL
 by_cases h1:x1=k
 ·subst h1;have h2:(x1 == x2)=false:=by simpa using B9 hne
  simp[Fd,h2]
 ·by_cases h2:x2=k
  ·subst h2;simp[Fd,h1]
  ·have b1:(k == x1)=false:=by simpa using B9 h1
   have b2:(k == x2)=false:=by simpa using B9 h2
   simp[Fd,h1,h2,b1,b2]
noncomputable def R0:List Row:=[("a",[]),("b",[]),("f",[0]),("g",[0,1])]
structure Nm(H:AE)(m:A9→Option Value)(L x d lv xc ra pa:Addr):Prop where
 c1:H.IsCell (L+1) (some (.ref d))
 c2:H.IsCell (L+2) (some (.ref ra))
 mh:m "heap" = some (.ref x)
 mp:m "pairs" = some (.ref pa)
 ml:m "levels" = some (.ref lv)
 mc:m "counts" = some (.ref xc)
structure Ad(y:Lay)(x d lv xc:Addr):Prop where
 hl:y.lv=x
 pk:y.ad .pack=d
 vs:y.ad .lvls=lv
 ci:y.ci=xc
theorem Ad.like{y y':Lay}{x d lv xc:Addr}(a:Ad y x d lv xc)(h:M6 y y'):Ad y' x d lv xc:=⟨h.lv.trans a.hl,(h.ad .pack rfl).trans a.pk,(h.ad .lvls rfl).trans a.vs,h.ci.trans a.ci⟩
theorem Nm.im{H H':AE}{m:A9→Option Value}{L x d lv xc ra pa:Addr}(n:Nm H m L x d lv xc ra pa)(i:Im H H'):Nm H' m L x d lv xc ra pa:=⟨KF n.c1 i,KF n.c2 i,n.mh,n.mp,n.ml,n.mc⟩
structure LS(L x d lv xc:Addr)(i:Nat)(H:AE)(m:A9→Option Value)(y:Lay)(st:St)(prs:List (Nat×Nat))(ra pa:Addr)(stk:List PW):Prop where
 X:Lh H y st st.rows prs ra pa stk
 P:Lp st prs stk i
 cd:st.card≤10*i+1
 a:Ad y x d lv xc
 n:Nm H m L x d lv xc ra pa
theorem Vt{i:Nat}{r:Row}(h:R0[i]?=some r):WK r.1∧r.2.length≤2∧(∀k∈r.2,k<i)∧(∀j:Nat,(R0.take i)[j]?≠some r):=by
 have key:r∉R0.take i∧WK r.1∧r.2.length≤2∧(∀k∈r.2,k<i):=by
  match i,h with
  | 0,h=>obtain rfl:=Ag h;exact (QE (by decide +kernel) (M1 97 (by decide +kernel) XY (by decide)) (by decide) (by decide))
  | 1,h=>obtain rfl:=Ag h;exact (QE (by decide +kernel) (M1 98 (by decide +kernel) XX (by decide)) (by decide) (by decide))
  | 2,h=>obtain rfl:=Ag h;exact (QE (by decide +kernel) (M1 102 (by decide +kernel) Xb (by decide)) (by decide) (by decide))
  | 3,h=>obtain rfl:=Ag h;exact (QE (by decide +kernel) (M1 103 (by decide +kernel) Xa (by decide)) (by decide) (by decide))
  | n+4,h=>exact nomatch h
 exact (QE key.2.1 key.2.2.1 key.2.2.2 (fun j e=>key.1 (Av e)))
theorem TQ{h h':AE}{l:Addr}{xs:Array Value}(x:h.IsList l xs)(e:Ext h h'):h'.IsList l xs:=xEA x fun o a r=>(yEA o (e _ _ a) r)
theorem UM{value slice:Expr}{l sl:Addr}{vs:List Value}{b:Nat}{u:Tok}{Q:Value→A4→Prop}(F:Fm s0 H Z L m s)(hl:s.heap.IsList l vs.toArray)(hs:s.heap.IsSliceOf sl .none (.int b u) .none)(hz:vs.length≤16000)(h:∀s' a,Pu s s'→Fm s0 H Z L m s'→Lst s'.heap a (vs.take b)→s.heap.get? a=none→Q (.ref a) s')(hs':autoParam (Cn slice false (.ref l) (.ref sl)=DW [.ref sl,.ref l] (Cr (.ref l) (.ref sl))) au3._auto_1):A8 (MD c.w) A (BQ value slice (.ref l) (.ref sl)) Q E s:=by
 refine Dq hl.typeIs slot_list_getitem.lookup ?_ hs';refine EM hl hs .none (.int b u) .none (by simp) ?_ (by rw[Ay,AT];exact n1 hz)
 have e:JB vs.toArray none (some (b:Int)) none=(vs.take b).toArray:=by
  rw[Io vs.toArray (a:=0) (b:=min b vs.length) (by
   unfold FN;have h1:¬((b:Int)<0):=by exact n25
   simp only[Eu,Ay,h1,if_false];simp;exact o51 h1)]
  rw[Co,GR,HI,kmk_take_min]
 rw[e];exact h _ _ (Pu.push _ _) (F.pu (Pu.push _ _)) (Lst.new _ _) (KM _)
noncomputable abbrev opw(way:Nat):A9:=if way=0 then "f" else "g"
theorem Xe(way:Nat):WK (opw way):=by
 unfold opw;split
 ·exact (M1 102 (by decide +kernel) Xb (by decide))
 ·exact (M1 103 (by decide +kernel) Xa (by decide))
namespace U50
noncomputable def pP(A:Aq)(s:A4)(E Q:Value→A4→Prop)(l:Addr)(vs:List Value)(ns:List Int):Prop:=∀(rm:Rm A 26 600)(B:Bs s.heap)(hl:s.heap.IsList l vs.toArray)(hns:Iz vs ns)(hz:ns.length≤63)(kk:∀s',Bs s'.heap→s'.gens=s.gens→s'.os=s.os→Q (.bool true) s'),A8 (MD c.w) A (call (.ref 592) [.ref l]) Q E s
noncomputable def fF:=unz fun A=>unz fun s=>unz fun E=>unz fun Q=>unz fun l=>unz fun vs=>pP A s E Q l vs
noncomputable def kK:=epz ({},{},default) fF
noncomputable def A_:=kK.1
noncomputable def s_:=kK.2.1
noncomputable def vs_:=kK.2.2.2.2.2.1
inductive Zp(L:Addr)(d:Addr)(cells:List Nat)(x:Addr)(ra:Addr)(pa:Addr)(lv:Addr)(o_:Obj)(i:Nat)(H:AE)(m:A9→Option Value):Prop
 | mk(y:Lay)(st:St)(a1:Lh H y st R0 [] ra pa [])(a2:y.lv=x)(a3:y.ad .pack=d)(a4:y.ad .lvls=lv)(a5:Inv st [] [])(a6:st.wait=[])(a7:st.rows=R0.take i)(a8:Fol (St.zero cells 0 []) st)(a9:H.get? ra=some o_)(a10:H.IsCell (L+1) (some (.ref d)))(a11:H.IsCell (L+2) (some (.ref ra)))(a12:m "heap" = some (.ref x))(a13:m "pairs" = some (.ref pa))(a14:m "levels" = some (.ref lv))
inductive Zo(L:Addr)(d:Addr)(x:Addr)(lv:Addr)(xc:Addr)(i:Nat)(H:AE)(m:A9→Option Value):Prop
 | mk(y:Lay)(st:St)(prs:List (Nat×Nat))(ra:Addr)(pa:Addr)(stk:List PW)(a1:LS L x d lv xc i H m y st prs ra pa stk)(a2:st.wait=[])
inductive Zn(L:Addr)(d:Addr)(x:Addr)(lv:Addr)(xc:Addr)(i:Nat)(Z':List (Addr×Obj))(way:Nat)(t45:Tok)(s':A4):Prop
 | mk(H:AE)(m:A9→Option Value)(y:Lay)(st:St)(prs:List (Nat×Nat))(ra:Addr)(pa:Addr)(stk:List PW)(a1:Fm s_ H Z' L m s')(a2:LS L x d lv xc (i+1) H m y st prs ra pa stk)(a3:m "way" = some (.int (way:Nat) t45))
inductive Zm(i:Nat)(y:Lay)(prs:List (Nat×Nat))(ra:Addr)(pa:Addr)(stk:List PW)(st1:St)(H2:AE)(j:Nat)(ys:List Value)(H':AE):Prop
 | mk(st':St)(a1:Lh H' y st' st'.rows prs ra pa stk)(a2:st'.rows=st1.rows)(a3:Lp st' prs stk i)(a4:st'.wait=[])(a5:st'.card=st1.card+j)(a6:Im H2 H')(ks:List Nat)(a7:LH ys ks)(a8:∀k∈ks,k<st1.rows.length)
theorem tT:pP A_ s_ kK.2.2.1 kK.2.2.2.1 kK.2.2.2.2.1 vs_ kK.2.2.2.2.2.2:=by
 intro rm B hl hns hz kk;have rm:Rm A_ (25+1) (597+3):=rm;refine Mo rfl ‹_› ‹_› rfl rfl rfl rfl rfl ?_;intro A_ L H s1 rm BH F hC;refine xA (hC "pack" (L+1) rfl) fun hc1 hf1=>?_;refine xA (hC "rows" (L+2) rfl) fun hc2 hf2=>?_
 have dead:∀b,s_.heap.get? b=none→c.H0.get? b=none:=fun b hb=>by
  exact Ky fun o e=>by rw[B.ext _ _ e]at hb;exact nomatch hb
 refine xA (V8 hns) fun hvl hvi=>?_;have hl:=TQ hl BH;refine Lw (YC F (by decide) fun s2 d P2 F2 hdn hd hsys=>MJ (Subscript_ (Kv F2 rfl (QI (cI F2 fun s3 t3 P3 F3 s4 sl P4 hsl=>UM (F3.pu P4) (TQ hl (F3.pu P4).keep) hsl (by exact n2 hvl hz) fun s5 a P5 F5 hla hna=>?_)))));refine F.takeK (P2.trans (P3.trans (P4.trans P5))) fun H2 hE2 F5 hnew2 him2=>?_;have hd2:H2.get? d=some dict0O':=hnew2 _ _ hdn ((P3.trans (P4.trans P5)).ext _ _ hd)
 have hnaF:s1.heap.get? a=none:=by
  exact Ky fun o e=>by rw[(P2.trans (P3.trans P4)).ext _ _ e]at hna;exact nomatch hna
 have hla2:Lst H2 a (vs_.take 50):=hla.at2 fun o e=>hnew2 _ _ hnaF e;refine xE hla2 ?_;clear hla2;intro na hla3;have hvt:(vs_.take 50).length≤50:=by rw[Cc];exact aq121 hvl
 refine Os (Src.list rm.h (F5.keep _ _ hla3) (Pu.refl _)) F5 (Pu.refl _) (by exact n1 hvt)
  (I:=fun i ys H'=>H'=H2∧∃ks:List Nat,LH ys ks) (fun i ys H' hh p hp=>by rw[Ab]at hp;subst hp;rw[hh.1];exact hla3) (yAE rfl [] .nil) (fun C i ys v H' m' s6 Z' hi hlen Fi hP hI=>?_) (fun C D' ys H' s6 K hI hlen hD=>?_)
 ·refine xAE hI ?_;clear hI;intro eH ks hI;subst eH;refine xEE (hvi i v (by rw[CY]at hP;split at hP;exact hP;exact nomatch hP)) ?_;rintro z tz rfl;refine Aw (L4 Fi fun s7 F=>bop (KN F Xi rfl (by decide) (sp1 (Kv F rfl (K9 fun u tk=>?_)))));have F:=F.tok tk;refine cI F fun s8 t8 P8 F=>?_;have eabs:(if z<0 then -z else z)=((z.natAbs:Nat):Int):=by split<;>lia
  rw[eabs];refine Er (by decide) ?_;refine xEA (PN (a:=z.natAbs) (b:=1000003) (by decide)) fun r e hr=>?_;rw[show ((1000003:Int))=((1000003:Nat):Int)from rfl,e];exact⟨H',_,F.tok _,rfl,ks++[r],hI.snoc ⟨_,rfl⟩⟩
 refine xAE hI ?_;clear hI;intro eH cells hI;subst eH;have hcl:cells.length≤50:=by rw[←hI.1,hlen];exact hvt
 refine K.post fun s7 F7 hl7 _=>?_;refine xAA (F5.apart hD) fun dD1 dD2 _=>?_;refine LY F7.rebase fun H3 hE3 F7 hb3=>?_;have hcells:NL H3 D' cells:=(yEA ys (hl7.at2 fun o e=>hb3 _ _ dD2 (fun z hz=>by exact absurd hz Ah) e) hI);intro s8 P8;refine cI (F7.pu P8) fun s9 t9 P9 F9=>⟨F9.keep _ _ (hE3 _ _ hd2),fun s10 M hsd=>?_⟩;refine xEA hsd ?_;clear hsd;rintro kvs hsd rfl;have fH3:Ext s_.heap H3:=BH.trans (hE2.trans hE3)
 have fd:s_.heap.get? d=none:=by
  exact Ky fun o e=>by rw[F.keep _ _ (BH _ _ e)]at hdn;exact nomatch hdn
 refine VL (F9.mtx M (hE3 _ _ hd2) rfl (dead _ fd)) fun H4 F10 bt4 im4 at4 him4=>?_
 have hpk:SD c.w H4 d (LL [("card",.int 0 t9),("cells",.ref D')]):=by
  refine T3 hsd ?_;clear hsd;intro o es ep e r;refine (M1 _ (RZ o es ep (at4 _ e) r) (by simp) (fun k=>?_));exact W1 (by decide) k
 have hc1:=KF (hc1.keeps (hE2.trans hE3)) im4;have hc2:=KF (hc2.keeps (hE2.trans hE3)) im4;have fH4:Ext s_.heap H4:=fun b o e=>bt4 b o (fun q=>noo q fd e) (fH3 _ _ e)
 have neD:D'≠d:=fun q=>by
  refine xE hcells.al fun o e=>?_;rw[q]at dD1;rw[hd2]at dD1;exact nomatch dD1
 have hcells:NL H4 D' cells:=hcells.at2 fun o e=>bt4 _ _ neD e;refine UP F10 (fun p hp=>by exact absurd hp Ah) hc1 (dead _ hf1) (fun s11 H5 F11 hc1 nc5 k5 kb5=>?_) rfl rfl rfl;have hc2:=k5 _ _ (Rr L) hc2;have hcells:=hcells.nc nc5;have hpk:=hpk.nc nc5;have fH5:Ext s_.heap H5:=fun b o e=>(kb5 b (fun q=>noo q hf1 e)).trans (fH4 _ _ e);refine Oq (Z3 (YH F11 Yl Ye (Ss (rm.mono (by decide) (by decide)) F11 fun s12 x dx b t t' ch mk och omk N bok f1 f2=>Z6 (UI (cS (F11.pu N.pu) fun s13 t13 P13 F=>KA F (by simp) fun s14 q1 P14 F hq1 _=>UI (cS F fun s15 t15 P15 F=>KA F (by simp) fun s16 q2 P16 F hq2 _=>PU (cS F fun s17 t17 P17 F=>cI F fun s18 t18 P18 F=>KA F (by simp) fun s19 q3 P19 F hq3 _=>XR (cS F fun s20 t20 P20 F=>cI F fun s21 t21 P21 F=>cI F fun s22 t22 P22 F=>KA F (by simp) fun s23 q4 P23 F hq4 _=>LA F (by simp) fun s24 ra P24 F hra hran=>Qp F fun s25 pa P25 F hpa hpan=>Qp F fun s26 lv P26 F hlv hlvn=>KA F (by simp) fun s27 qq P27 F27 hqq _=>?_))))))));have P1b:Pu s12 s23:=P13.trans (P14.trans (P15.trans (P16.trans (P17.trans (P18.trans (P19.trans (P20.trans (P21.trans (P22.trans P23)))))))));have P2b:Pu s23 s27:=P24.trans (P25.trans (P26.trans P27));have Pall:Pu s11 s27:=N.pu.trans (P1b.trans P2b);refine F11.takeK Pall fun H6 hE6 F27 hnew6 him6=>?_;have hran11:s11.heap.get? ra=none:=N.pu.dead (P1b.dead hran);have hpan11:s11.heap.get? pa=none:=N.pu.dead (P1b.dead (P24.dead hpan));have hlvn12:s12.heap.get? lv=none:=P1b.dead (P24.dead (P25.dead hlvn));have tup6:∀{q:Addr} {ws:List Value},Tpl s27.heap q ws→Tpl H6 q ws:=fun z=>xE z fun n e=>⟨n,him6 _ _ rfl e⟩;have hq1:=tup6 (hq1.ext ((P15.trans (P16.trans (P17.trans (P18.trans (P19.trans (P20.trans (P21.trans (P22.trans P23)))))))).trans P2b).ext);have hq2:=tup6 (hq2.ext ((P17.trans (P18.trans (P19.trans (P20.trans (P21.trans (P22.trans P23)))))).trans P2b).ext);have hq3:=tup6 (hq3.ext ((P20.trans (P21.trans (P22.trans P23))).trans P2b).ext);have hq4:=tup6 (hq4.ext P2b.ext);have hra6:Lst H6 ra _:=hra.at2 fun o e=>hnew6 _ _ hran11 ((P25.trans (P26.trans P27)).ext _ _ e);have hpa6:Lst H6 pa []:=hpa.at2 fun o e=>hnew6 _ _ hpan11 ((P26.trans P27).ext _ _ e);have hlv6:Lst H6 lv []:=hlv.at2 fun o e=>hnew6 _ _ (N.pu.dead hlvn12) (P27.ext _ _ e);have hRI:Lx H6 ra _ R0:=⟨hra6,KJ.cons (OJ q1 rfl _ [] hq1 .nil) (KJ.cons (OJ q2 rfl _ [] hq2 .nil) (KJ.cons (OJ q3 rfl _ _ hq3 (KJ.cons ⟨_,rfl⟩ .nil)) (KJ.cons (OJ q4 rfl _ _ hq4 (KJ.cons ⟨_,rfl⟩ (KJ.cons ⟨_,rfl⟩ .nil))) .nil)))⟩;have hPI:Lb H6 pa [] []:=⟨hpa6,.nil⟩;refine xEA (RJ hpk) fun opk hopk _=>?_;refine xE hcells.al fun ocl hocl=>?_
 have dead11:∀z,s11.heap.get? z=none→c.H0.get? z=none:=fun z hz=>dead z (by
  exact Ky fun o e=>by rw[F11.keep _ _ (fH5 _ _ e)]at hz;exact nomatch hz)
 have fD:s_.heap.get? D'=none:=by
  exact Ky fun o e=>by rw[(BH.trans hE2) _ _ e]at dD1;exact nomatch dD1
 refine xA (TY (H:=H6) N bok f1 f2 (fun z o h1 e=>hnew6 z o h1 ((P1b.trans P2b).ext _ _ e)) (hpk.at2 fun o e=>hE6 _ _ e) (hcells.at2 fun o e=>hE6 _ _ e) hlv6 (by rw[F11.keep _ _ hopk];simp) (by rw[F11.keep _ _ hocl];simp) hlvn12 (by rw[N.pu.ext _ _ (F11.keep _ _ hopk)];simp) (by rw[N.pu.ext _ _ (F11.keep _ _ hocl)];simp) neD hsys dead11 (dead _ fd) (dead _ fD)) fun G0 own0=>?_
 have nra:¬Own (OE (b.lay x dx ch mk d D' lv) x b.xb b.xu) (St.zero cells 0 []) ra:=fun ow=>by
  rcases own0 ra ow with q | q
  ·exact q (P1b.dead hran)
  ·refine xE hra ?_;clear hra;intro n e;rw[q]at e;rw[P25.ext _ _ e]at hlvn;exact nomatch hlvn
 have npa:¬Own (OE (b.lay x dx ch mk d D' lv) x b.xb b.xu) (St.zero cells 0 []) pa:=fun ow=>by
  rcases own0 pa ow with q | q
  ·exact q (P1b.dead (P24.dead hpan))
  ·refine xE hpa ?_;clear hpa;intro n e;rw[q]at e;rw[e]at hlvn;exact nomatch hlvn
 have X0:Lh H6 _ (St.zero cells 0 []) R0 [] ra pa []:=⟨G0,⟨⟨_,hRI⟩,⟨_,hPI⟩,nra,npa⟩,fun p hp=>by exact absurd hp Ah⟩;have elv:(OE (b.lay x dx ch mk d D' lv) x b.xb b.xu).lv=x:=rfl;have epk:(OE (b.lay x dx ch mk d D' lv) x b.xb b.xu).ad .pack=d:=rfl;have elvls:(OE (b.lay x dx ch mk d D' lv) x b.xb b.xu).ad .lvls=lv:=rfl;generalize OE (b.lay x dx ch mk d D' lv) x b.xb b.xu=y0 at X0 elv epk elvls;have hc1:=hc1.keeps hE6;have hc2:=hc2.keeps hE6;refine (show A8 (MD c.w) A_ (BX (.ref qq) 4 none) _ _ _ from KR (vs:=[AN x,.ref ra,.ref pa,.ref lv]) rm.h F27 hqq fun s28 P28 F28=>Zb (L4 F28 fun s29 F29=>UP F29 (fun p hp=>by exact absurd hp Ah) hc2 (dead _ hf2) (fun s30 H7 F30 hc2 nc7 k7 kb7=>L4 F30 fun s31 F31=>L4 F31 fun s32 F32=>?_) rfl rfl rfl));have hc1:=k7 _ _ (B9 (Rr L)) hc1;have X7:=X0.nc nc7;refine xE (hra6.nc nc7) fun nra7 hra7=>?_
 refine Mp (Ln F32 hc2 (Oo (Src.list rm.h (F32.keep _ _ hra7) (Pu.refl _)) F32 (Pu.refl _)
  (I:=Zp L d cells x ra pa lv _)
  (fun i H m ⟨_,_,_,_,_,_,_,_,_,_,a,_,_,_,_,_⟩ p hp=>by rw[Ab]at hp;subst hp;exact a) ⟨y0,_,X7,elv,epk,elvls,Inv.zero cells,rfl,rfl,Fol.refl _,hra7,hc1,hc2,rfl,rfl,rfl⟩ (fun i v H m s33 Z' hi hzn Fi hP hI=>?_) (fun H m s33 Fi hI=>?_)))
 ·obtain⟨y,st,X,e1,e2,e3,hI,hw,hrows,hfol,hra,hc1,hc2,mh,mp,ml⟩:=hI;refine xE X.cur.r fun vr hrr=>?_;refine xE hrr.l fun nr' hr'=>?_
  have hvr:vr=[AN q1,.ref q2,.ref q3,.ref q4]:=by
   have e:=Ag (hra.symm.trans hr')
   injection e with _ _ ed _
   injection ed with ea _
   simpa using (congrArg Array.toList ea).symm
  subst hvr;refine T4 (hrr.v.get' hP) ?_;rintro r hri a rfl hrow;refine MG hrow ?_;clear hrow;intro tr kv htr hkv;have hkvl:=hkv.1;refine Z0 (Vt hri) fun rf1 rf2 rf3 rf4=>?_;have hi4:i<4:=hi;have hrl:st.rows.length=i:=by rw[hrows,Cc];show min i 4=i;exact aq263 hi4
  refine X.good.ldK fun t1 t2 hld=>?_;have mh':m "heap" = some (.ref y.lv):=by rw[e1];exact mh
  refine Aw (L4 Fi fun s34 F34=>L8 (PC Qk (Kv F34 mh' ⟨_,_,_,_,rfl,F34,X.good.lv,hld,rfl,Subscript_ (Kv F34 rfl (cI F34 fun s35 t35 P35 F35=>Mg (k:=0) (htr.ext F35.keep) (by decide) rfl (Subscript_ (Kv F35 rfl (Lg (cI F35 fun s36 t36 P36 F36 s37 sl P37 hsl=>L6 (a:=1) (F36.pu P37) (htr.ext (F36.pu P37).keep) hsl (by decide) (by simp) (by simp;exact n2 hkvl rf2) fun s38 b38 P38 F38 hb38 _=>⟨F38.In,Ut (op:=r.1) (ks:=r.2) X F38 (rm.mono (by decide) (by decide)) hI (by rw[hfol.mks];show (0:Nat)≤100;decide) (by simp) (by exact n22 hi4 hrl) rf1 (show Tpl s38.heap b38 kv from hb38) hkv rf2 (fun k hk=>by have:=rf3 k hk;exact o5 this hrl) (fun j hj s39 t39 P39=>?_) (fun hno s39 t39 y' st' H' hL F39 X' im kp hI' hfol' hrows' hw'=>?_)⟩))))))⟩)))
  ·rw[hrows]at hj;exact absurd hj (rf4 j)
  ·refine Kt ⟨H',_,F39,y',st',X',hL.lv.trans e1,(hL.ad .pack rfl).trans e2,(hL.ad .lvls rfl).trans e3,hI',hw'.trans hw,?_,hfol.trans hfol',kp _ _ X.cur.nr hra,KF hc1 im,KF hc2 im,mh,mp,ml⟩;rw[hrows',hrows,C8,hri];rfl
 ·obtain⟨y,st,X,e1,e2,e3,hI,hw,hrows,hfol,hra,hc1,hc2,mh,mp,ml⟩:=hI;have hrows:st.rows=R0:=hrows;refine Kw (Lw (Nj Fi Ym Yf (sp1 (Kv Fi (show m "heap" = some (.ref y.lv) by rw[e1];exact mh) ⟨Fi.In,SO X Fi (rm.mono (by decide) (by decide)) hfol.hasC hfol.cmark hfol.cknown fun s34 xc dxc kc H8 P34 F34 hE8 X8=>?_⟩))));generalize hyC:WJ y xc dxc kc=yC at X8;have c1:yC.lv=x:=by rw[←hyC];exact e1
  have c2:yC.ad .pack=d:=by rw[←hyC];exact e2
  have c3:yC.ad .lvls=lv:=by rw[←hyC];exact e3
  have c4:yC.ci=xc:=by rw[←hyC];rfl
  have hLp:Lp {st with hasC:=true} [] [] 0:={inv:=hI.same st.backs st.mks true st.cmark st.cknown st.cells st.card st.lvls,nod:=(by show st.rows.Nodup;rw[hrows];decide +kernel),cok:=(fun s_ e b hc=>by have:=hfol.cmark;rw[show ({st with hasC:=true}:St).cmark=none from this]at hc;exact nomatch hc),hC:=rfl,mks:=hfol.mks,lvls:=hfol.lvls,chn:=trivial,b4:=by show 4≤st.rows.length;rw[hrows];decide,bn:=by show st.rows.length≤4;rw[hrows];decide,bp:=At _,bs:=At _,sn:=fun p hp=>(by exact absurd hp Ah),cz:=by show st.cells.length≤50;rw[hfol.cells];exact hcl};have hw2:({st with hasC:=true}:St).wait=[]:=hw;have hcard:({st with hasC:=true}:St).card=0:=hfol.card;rw[show R0=({st with hasC:=true}:St).rows from hrows.symm]at X8;generalize ({st with hasC:=true}:St)=st1 at X8 hLp hw2 hcard;have hc1:=hc1.keeps hE8;have hc2:=hc2.keeps hE8;refine L4 F34 fun s35 F35=>L7 (Jx (wpAny_isTrue_value (Nj F35 U0 Ub (sp3 (Kv F35 (congrArg some (congrArg AN c4.symm)) (Ln F35 hc2 (Kv F35 mp ⟨F35.In,R7 X8 F35 (rm.mono (by decide) (by decide)) hLp hw2 (by decide) fun s36 y1 kn1 H9 hL1 F36 X9 im9 hLp1=>Ai (Ks rfl (Kt (Kw ?_)))⟩)))))));have A1:Ad y1 x d lv xc:=Ad.like ⟨c1,c2,c3,c4⟩ hL1;have hcp:H9.IsCell (L+1) (some (.ref (y1.ad .pack))):=by rw[A1.pk];exact KF hc1 im9
  have hcr:H9.IsCell (L+2) (some (.ref ra)):=KF hc2 im9;have X9:Lh H9 y1 (M5 st1 (Ll st1) kn1) (M5 st1 (Ll st1) kn1).rows [] ra pa []:=X9;have hw3:(M5 st1 (Ll st1) kn1).wait=[]:=hw2;have hcd2:(M5 st1 (Ll st1) kn1).card=0:=hcard;generalize M5 st1 (Ll st1) kn1=st2 at X9 hLp1 hw3 hcd2
  refine Mp (LB F36 LO rfl (by decide) (sp1 (bop (cI F36 fun s37 t37 P37 F37=>Nj F37 Oj Ol (sp2 (Ln F37 hcp (cI F37 fun s38 t38 P38 F38=>⟨F38.In,Nn (mn:=4) X9 F38 (rm.mono (by decide) (by decide)) (by decide) hLp1.cz (by exact n20 hcd2) fun s39 rr t39 H10 hrr F39 X10 im10=>SW F39 fun s40 t40 P40 F40=>UU fun s41 rg t41 t42 P41 hrg=>Oo (Src.range (a:=0) rm.h hrg (Pu.refl _) (by decide) (by lia) (by lia)) (F40.pu P41) (Pu.refl _)
   (I:=Zo L d x lv xc) (fun i H m _ p hp=>by exact absurd hp Ah) ⟨y1,_,[],ra,pa,[],⟨X10,hLp1.card _,by show st2.card+1≤_;lia,A1,⟨by rw[←A1.pk];exact KF hcp im10,KF hcr im10,mh,mp,ml,rfl⟩⟩,hw3⟩ (fun i v H m s42 Z' hi hzn Fi hP hI=>?_) (fun H m s42 Fi hI=>?_)⟩)))))))
  ·obtain⟨y,st,prs,ra,pa,stk,S,hw⟩:=hI;have zn:ZN Z':=hzn (fun p hp=>by exact absurd hp Ah);refine xE hP ?_;clear hP;rintro tv rfl;have hi9:i≤8:=by exact aq80 hi hrr
   refine Aw (L4 Fi fun s43 F43=>?_);have hcp:H.IsCell (L+1) (some (.ref (y.ad .pack))):=by rw[S.a.pk];exact S.n.c1
   refine Lw (Nj F43 Oj Ol (sp2 (Ln F43 hcp (cI F43 fun s44 t44 P44 F44=>⟨F44.In,Nn (mn:=6) S.X F44 (rm.mono (by decide) (by decide)) (by decide) S.P.cz (by have:=S.cd;exact aq273 this hi9) fun s45 way t45 H1 hway F45 X1 im1=>L4 F45 fun s46 F46=>?_⟩))));have N1:=S.n.im im1;have hcp1:=KF hcp im1;have P1:=S.P.card (st.card+1);have cd1:((St.s_card st (st.card+1)):St).card≤10*i+2:=by have:=S.cd;show st.card+1≤_;exact aq288 this
   have hw1:((St.s_card st (st.card+1)):St).wait=[]:=hw;have X1:Lh H1 y (St.s_card st (st.card+1)) ((St.s_card st (st.card+1)):St).rows prs ra pa stk:=X1;have a1:=S.a;generalize ((St.s_card st (st.card+1)):St)=st1 at X1 P1 hw1 cd1;have b4:=P1.b4;have bn:=P1.bn;have bp:=P1.bp;refine Nl (P:=Zn L d x lv xc i Z' way t45) (IP (wpAny_isTrue_Compare1 (Kv F46 rfl (cI F46 fun s47 t47 P47 F47=>lt_ (Ai ?_))))) (fun s' hP=>?_)
   ·by_cases hA:way<2
    ·refine KC (by simp;exact aq259 hA) ?_;refine Lw (bop (UI (Subscript_ (PU (cS F47 fun s48 t48 P48 F48=>cS F48 fun s49 t49 P49 F49=>KA F49 (by simp) fun s50 q P50 F50 hq _=>Kv F50 rfl (Mg (k:=way) (v:=.str (opw way) (if way=0 then t48 else t49)) hq (by exact Ac ‹_› (by decide)) (by rcases (by exact aq252 hA:way=0∨way=1)with rfl | rfl<;>rfl) (KA F50 (by exact BL _) fun s51 q1 P51 F51 hq1 _=>LB F51 Nd rfl (by decide) (sp1 (MJ (LB F51 LO rfl (by decide) (sp1 (bop (cI F51 fun s52 t52 P52 F52=>Kv F52 rfl (SW F52 fun s53 t53 P53 F53=>UU fun s54 rg t54 t55 P54 hrg=>?_))))))))))))));have Pq:Pu s47 s51:=P48.trans (P49.trans (P50.trans P51));refine F47.takeK Pq fun H2 hE2 F51 _ him2=>?_;have hq1:Tpl H2 q1 _:=xE hq1 fun n e=>⟨n,him2 _ _ rfl e⟩;have X2:=X1.ext hE2;have N2:=N1.im hE2.im;have hcp2:=KF hcp1 hE2.im
     refine Lv (Src.range (a:=0) rm.h hrg (Pu.refl _) (by decide) (by lia) (by lia)) (F51.pu (P52.trans (P53.trans P54))) (Pu.refl _) (fun p hp=>by exact absurd hp Ah) (by exact aq114 hA)
      (I:=Zm i y prs ra pa stk st1 H2) ⟨st1,X2,rfl,P1,hw1,rfl,Im.refl _,[],.nil,fun k h=>by exact absurd h Ah⟩ (fun C j ys v H' m' s55 Z2 hj hlen Fj _ hPj hI=>?_) (fun C D2 ys H' s55 K hI hlen hD2=>?_)
     ·obtain⟨st',X',er,P',hw',ec,im',ks,hks,hkl⟩:=hI;refine xE X'.cur.r fun vr hrr=>?_;have hrl:=hrr.v.1;refine Aw (L4 Fj fun s56 F56=>Nj F56 Oj Ol (sp2 (Ln F56 (KF hcp2 im') (KN F56 KL rfl (by decide) (sp1 (Ln F56 (KF N2.c2 im') (Lj F56 (hrr.l.ext F56.keep) (by rw[hrl,er];exact n28 bn hi9) fun s57 t57 P57 F57=>⟨F57.In,?_⟩)))))));rw[hrl];refine Nn X' F57 (rm.mono (by decide) (by decide)) (by rw[er];exact n18 b4) P'.cz (by exact aq23 hj hA ec cd1 hi9) fun s58 r t58 H3 hr F58 X3 im3=>⟨H3,_,F58,(St.s_card st' (st'.card+1)),X3,er,P'.card _,hw',by show st'.card+1=_;exact aq298 ec,im'.trans im3,ks++[r],hks.snoc ⟨t58,rfl⟩,fun k hk=>?_⟩;rcases Am.mp hk with q | q
      ·exact hkl k q
      ·rw[Ab]at q;subst q;rw[←er];exact hr
     obtain⟨st3,X3,er,P3,hw3,ec,im3,ks,hks,hkl⟩:=hI;have hq1:=hq1.im im3;have N3:=N2.im im3;have hkw:ks.length=1+way:=by rw[←hks.1,hlen];rfl
     refine K.post fun s56 F56 hl56 _=>UH F56 hl56 (by exact aq89 hA hlen) fun s57 q2 P57 F57 hq2=>WX F57 (hq1.ext F57.keep) hq2 (by simp) (by simp;exact aq83 hA hlen) fun s58 row P58 F58 hrow=>?_;refine F56.takeK (P57.trans P58) fun H4 hE4 F58 hnew4 him4=>?_;have hrow:Tpl H4 row _:=xE hrow fun n e=>⟨n,him4 _ _ rfl e⟩;have X4:=X3.ext hE4;have N4:=N3.im hE4.im;refine L4 F58 fun s59 F59=>?_;refine X4.good.ldK fun t1 t2 hld=>?_;refine xE X4.cur.r fun vr hrr=>?_;have hrl:=hrr.v.1;have bn3:=P3.bn;have bp3:=P3.bp;refine L7 (wpAny_isTrue_Compare1 (PC Qk (Kv F59 (show _=some (.ref y.lv) by rw[a1.hl];exact N4.mh) ⟨_,_,_,_,rfl,F59,X4.good.lv,hld,rfl,Subscript_ (Kv F59 rfl (cI F59 fun s60 t60 P60 F60=>Mg (k:=0) (hrow.ext F60.keep) (by decide) rfl (Subscript_ (Kv F60 rfl (Lg (cI F60 fun s61 t61 P61 F61 s62 sl P62 hsl=>L6 (a:=1) (F61.pu P62) (hrow.ext (F61.pu P62).keep) hsl (by decide) (by simp) (by simp;exact aq90 hA hlen) fun s63 b63 P63 F63 hb63 _=>⟨F63.In,Ut (op:=opw way) (ks:=ks) X4 F63 (rm.mono (by decide) (by decide)) P3.inv (P3.mz (by exact n1 hi9)) (by exact n7 hi9 bp) (by lia) (Xe way) (show Tpl s63.heap b63 ys from hb63) hks (by exact aq224 hA hkw) (fun k hk=>by rw[er];exact hkl k hk) (fun j hj s64 t64 P64=>?_) (fun hno s64 t64 y' st' H5 hL F64 X5 im5 kp5 hI' hfol' hrows' hw'=>?_)⟩))))))⟩)))
     ·have F64:=F63.pu P64;have hjl:j<st3.rows.length:=(Af.mp hj).1;refine KN F64 KL rfl (by decide) (sp1 (Ln F64 N4.c2 (Lj F64 (hrr.l.ext F64.keep) (by lia) fun s65 t65 P65 F65=>eq_ (Ai (Ks (by rw[hrl];simp;lia) (Kt (Kw (Kt ⟨rfl,H4,_,y,st3,prs,ra,pa,stk,F65,⟨X4,P3.up (by exact o3),by exact aq35 hA ec cd1,a1,⟨N4.c1,N4.c2,N4.mh,N4.mp,N4.ml,N4.mc⟩⟩,rfl⟩))))))))
     ·have N5:=N4.im im5;have hrow5:=hrow.im im5;refine xE X5.cur.r fun vr5 hr5=>?_;have hrl5:=hr5.v.1;refine KN F64 KL rfl (by decide) (sp1 (Ln F64 N5.c2 (Lj F64 (hr5.l.ext F64.keep) (by lia) fun s65 t65 P65 F65=>eq_ (Ai (KC (by rw[hrl5];simp) ?_)))));refine Lw (bop (Ln F65 N5.c2 (TG (Kv F65 rfl (LA F65 (by simp) fun s66 nl P66 F66 hnl hnln=>XE F66 (hr5.l.ext F66.keep) hnl (by simp;lia) fun s67 ra2 P67 F67 hra2 hra2n=>?_)))));refine F65.takeK (P66.trans P67) fun H6 hE6 F67 hnew6 _=>?_;have hra2':Lst H6 ra2 _:=hra2.at2 fun o e=>hnew6 _ _ (P66.dead hra2n) e
      have hr6:Lx H6 ra2 (vr5++[AN row]) st'.rows:=by
       rw[hrows'];exact⟨hra2',(Lo hr5.v hE6.im).snoc (OJ row rfl _ ys (hrow5.im hE6.im) hks)⟩
      have X6:=(X5.ext hE6).rows' hr6 (X5.fresh F65 (P66.dead hra2n));have N6:=N5.im hE6.im
      have hnod:st'.rows.Nodup:=by
       rw[hrows'];refine Ck.mpr (yAA P3.nod (by simp) (fun u hu z hz e=>?_));rw[Ab]at hz;subst hz;subst e;obtain⟨j,hj,e⟩:=Dp hu;exact hno j (by rw[A7 hj,e])
      have hl5:st'.rows.length=st3.rows.length+1:=by rw[hrows'];simp
      have hcd5:=hfol'.card;have b43:=P3.b4;refine UP F67 zn N6.c2 (dead _ hf2) (fun s68 H7 F68 hc7 nc7 k7 kb7=>Kt (Kw (Kt ⟨rfl,H7,_,y',st',prs,ra2,pa,stk,F68,⟨X6.nc nc7,P3.fol (by exact o3) hfol' hI' hnod (by lia) (by lia) (by exact o20 bp),by exact aq34 hA ec hcd5 cd1,a1.like hL,⟨k7 _ _ (B9 (Rr L)) N6.c1,hc7,N6.mh,N6.mp,N6.ml,N6.mc⟩⟩,rfl⟩))) rfl rfl rfl
    ·refine Ks (by simp;exact aq267 hA) (L7 (wpAny_isTrue_Compare1 (Kv F47 rfl (cI F47 fun s48 t48 P48 F48=>lt_ (Ai ?_)))))
     by_cases hB:way<4
     ·refine KC (by simp;exact aq260 hB) ?_;refine xE X1.cur.r fun vr hrr=>?_;have hrl:=hrr.v.1;refine Lw (Nj F48 Oj Ol (sp2 (Ln F48 hcp1 (KN F48 KL rfl (by decide) (sp1 (Ln F48 N1.c2 (Lj F48 (hrr.l.ext F48.keep) (by rw[hrl];exact n28 bn hi9) fun s49 t49 P49 F49=>⟨F49.In,?_⟩)))))));rw[hrl];refine Nn X1 F49 (rm.mono (by decide) (by decide)) (by exact n18 b4) P1.cz (by exact aq275 cd1 hi9) fun s50 one t50 H2 hone F50 X2 im2=>L4 F50 fun s51 F51=>?_;have P2:=P1.card (st1.card+1);have cd2:((St.s_card st1 (st1.card+1)):St).card≤10*i+3:=by show st1.card+1≤_;exact aq289 cd1
      have hone:one<((St.s_card st1 (st1.card+1)):St).rows.length:=hone;have X2:Lh H2 y (St.s_card st1 (st1.card+1)) ((St.s_card st1 (st1.card+1)):St).rows prs ra pa stk:=X2;have b42:4≤((St.s_card st1 (st1.card+1)):St).rows.length:=b4;have bn2:((St.s_card st1 (st1.card+1)):St).rows.length≤4+i:=bn;generalize ((St.s_card st1 (st1.card+1)):St)=st2 at X2 P2 cd2 hone b42 bn2;have N2:=N1.im im2;have hcp2:=KF hcp1 im2;refine xE X2.cur.r fun vr2 hrr2=>?_;have hrl2:=hrr2.v.1;refine Lw (bop (Kv F51 N2.mp (TG (PU (Kv F51 rfl (Nj F51 Oj Ol (sp2 (Ln F51 hcp2 (KN F51 KL rfl (by decide) (sp1 (Ln F51 N2.c2 (Lj F51 (hrr2.l.ext F51.keep) (by rw[hrl2];exact n28 bn2 hi9) fun s52 t52 P52 F52=>⟨F52.In,?_⟩))))))))))));rw[hrl2];refine Nn X2 F52 (rm.mono (by decide) (by decide)) (by exact n18 b42) P2.cz (by exact aq276 cd2 hi9) fun s53 two t53 H3 htwo F53 X3 im3=>?_;have P3:=P2.card (st2.card+1);have cd3:((St.s_card st2 (st2.card+1)):St).card≤10*i+4:=by show st2.card+1≤_;exact aq290 cd2
      have hone:one<((St.s_card st2 (st2.card+1)):St).rows.length:=hone;have htwo:two<((St.s_card st2 (st2.card+1)):St).rows.length:=htwo;have X3:Lh H3 y (St.s_card st2 (st2.card+1)) ((St.s_card st2 (st2.card+1)):St).rows prs ra pa stk:=X3;have b43:4≤((St.s_card st2 (st2.card+1)):St).rows.length:=b42;have bn3:((St.s_card st2 (st2.card+1)):St).rows.length≤4+i:=bn2;generalize ((St.s_card st2 (st2.card+1)):St)=st3 at X3 P3 cd3 hone htwo b43 bn3;have N3:=N2.im im3;refine xE X3.cur.p fun vp hpp=>?_;have hppl:=hpp.v.1;refine KA F53 (by simp) fun s54 q P54 F54 hq _=>LA F54 (by simp) fun s55 nl P55 F55 hnl hnln=>XE F55 (hpp.l.ext F55.keep) hnl (by simp;exact n23 hppl hi9 bp) fun s56 pa2 P56 F56 hpa2 hpa2n=>?_;refine F53.takeK (P54.trans (P55.trans P56)) fun H4 hE4 F57 hnew4 him4=>?_;have hpa2':Lst H4 pa2 _:=hpa2.at2 fun o e=>hnew4 _ _ (P54.dead (P55.dead hpa2n)) e;have hq4:Tpl H4 q _:=xE (hq.ext (P55.trans P56).ext) fun n e=>⟨n,him4 _ _ rfl e⟩;have hp4:Lb H4 pa2 (vp++[AN q]) (prs++[(one,two)]):=⟨hpa2',(hpp.v.mono fun _ _ z=>z.im hE4.im).snoc (T2 q _ _ rfl hq4 ⟨t50,rfl⟩ ⟨t53,rfl⟩)⟩;have X4:=(X3.ext hE4).prs' hp4 (X3.fresh F53 (P54.dead (P55.dead hpa2n)));have N4:=N3.im hE4.im;refine L4 F57 fun s58 F58=>?_;refine X4.good.ldK fun t1 t2 hld=>?_;have hi4:=P3.inv;refine L8 (Wf QX (Kv F58 (show _=some (.ref y.lv) by rw[a1.hl];exact N4.mh) ⟨_,_,_,_,rfl,F58,X4.good.lv,hld,rfl,Subscript_ (Subscript_ (Kv F58 rfl (UnaryOp_ (cI F58 fun s59 t59 P59 F59=>Gu (RB (hpa2'.ext (F59.tok _).keep) (by exact n23 hppl hi9 bp) (cI (F59.tok _) fun s60 t60 P60 F60=>Mg (k:=0) (hq4.ext F60.keep) (by decide) rfl (Subscript_ (Subscript_ (Kv F60 rfl (UnaryOp_ (cI F60 fun s61 t61 P61 F61=>Gu (RB (hpa2'.ext (F61.tok _).keep) (by exact n23 hppl hi9 bp) (cI (F61.tok _) fun s62 t62 P62 F62=>Mg (k:=1) (hq4.ext F62.keep) (by decide) rfl (PU (cS F62 fun s63 t63 P63 F63=>LB F63 Xf rfl (by decide) (sp1 (Kv F63 rfl (VU F63 (by exact aq291 hi9) fun s64 xs t64 P64 F64=>KA F64 (by simp) fun s65 rs P65 F65 _ _=>⟨F65.In,?_⟩))))))))))))))))))⟩));refine UJ X4 F65 (rm.mono (by decide) (by decide)) hi4 (P3.mz (by exact n1 hi9)) (by exact n7 hi9 bp) hone htwo fun s66 vb y' st' H5 hL F66 X5 im5 hI' hfol' hrows'=>?_;have N5:=N4.im im5;have hcd5:=hfol'.card;have hl5:st'.rows.length=st3.rows.length:=by rw[hrows']
      have bp3:=P3.bp;have hS:Lp st' (prs++[(one,two)]) stk (i+1):=P3.fol (by exact o3) hfol' hI' (by rw[hrows'];exact P3.nod) (by exact aq277 b43 hl5) (by exact aq179 hl5 bn3) (by simp;exact o32 bp);rw[←hrows']at X5;exact Kt (Kw (Kt ⟨rfl,H5,_,y',st',_,ra,pa2,stk,F66,⟨X5,hS,by exact aq199 hcd5 cd3,a1.like hL,⟨N5.c1,N5.c2,N5.mh,rfl,N5.ml,N5.mc⟩⟩,rfl⟩))
     ·refine Ks (by simp;exact aq268 hB) ?_;have hlv1:Lst H1 lv st1.lvls:=by rw[←a1.vs];exact X1.good.ok .lvls trivial
      obtain⟨mm,F48,mh,mp,ml,mc,mw⟩:∃mm,Fm s_ H1 Z' L mm s48∧mm "heap" = some (.ref x)∧mm "pairs" = some (.ref pa)∧mm "levels" = some (.ref lv)∧mm "counts" = some (.ref xc)∧mm "way" = some (.int (way:Nat) t45):=⟨_,F48,N1.mh,N1.mp,N1.ml,N1.mc,rfl⟩;refine L7 (Al (Q:=fun b s'=>b=decide (way=5∧stk≠[])∧Fm s_ H1 Z' L mm s') (YV (wpAny_isTrue_Compare1 (Kv F48 mw (cI F48 fun s49 t49 P49 F49=>eq_ (Ai ?_))))) (fun bb s50 hb=>?_) (fun _ _ e=>e))
      ·by_cases h5:way=5
       ·rw[if_pos (by rw[h5];rfl)];have hle:st1.lvls.isEmpty=stk.isEmpty:=by rw[P1.lvls];induction stk<;>simp
        refine wpAny_isTrue_Compare1 (Kv F49 ml (Qp F49 fun s51 e P51 F51 he _=>TE (by have:=rm.u;rw[show cLine=9900 from rfl];exact aq293 this) (hlv1.ext F51.keep) he (Ai ⟨?_,F51⟩)));rw[hle]
        induction stk<;>simp[h5]
       ·rw[if_neg (by simp;exact aq191 hway hB h5)];exact⟨by simp[h5],F49⟩
      ·refine xA hb ?_;clear hb;intro hb F50;have bs1:=P1.bas (by exact n1 hi9);have hlz:st1.lvls.length≤9:=by rw[P1.lvls];have:=P1.bs;simp;exact n7 hi9 this
       by_cases hC:way=5∧stk≠[]
       ·refine KC (by rw[hb];exact decide_eq_true hC) ?_
        obtain⟨p,rest,rfl⟩:∃p rest,stk=p::rest:=by
         induction stk with
         | nil=>exact absurd rfl hC.2
         | cons p rest=>exact (yEE p rest rfl)
        have hls:st1.lvls=(rest.reverse.map fun p:PW=>AN p.q)++[AN p.q]:=by rw[P1.lvls];simp
        have hms:st1.mks=(rest.reverse.map fun p:PW=>(p.st.chg.length,([]:List Nat)))++[(p.st.chg.length,[])]:=by rw[P1.mks];simp
        rw[hls]at hlv1;have hrz:(rest.reverse.map fun p:PW=>AN p.q).length≤16000:=by rw[hls]at hlz;simp at hlz ⊢;exact n1 hlz
        refine Oq (La (Kv F50 ml (SY (hlv1.ext F50.keep) hrz fun s51 M hl51=>?_)));rw[←a1.vs]at M hl51;refine LY (RM X1 F50 M hl51) fun H2 F51 X2 im2=>?_;have N2:=N1.im im2;refine (show A8 (MD c.w) A_ (BX (.ref p.q) 2 none) _ _ _ from KR (vs:=[AN p.ra,.ref p.pa]) rm.h F51 ((X2.sn p Aj).1.ext F51.keep) fun s52 P52 F52=>VH (UP F52 zn N2.c2 (dead _ hf2) (fun s53 H3 F53 hc3 nc3 k3 kb3=>L4 F53 fun s54 F54=>?_) rfl rfl rfl));have X3:=X2.nc nc3;refine X3.good.ldK fun t1 t2 hld=>?_;have hc1:=k3 _ _ (B9 (Rr L)) N2.c1;refine L8 (PD Tr (Kv F54 (show _=some (.ref y.lv) by rw[a1.hl];exact mh) ⟨_,_,_,_,rfl,F54,X3.good.lv,hld,rfl,W5 (p:=p) (ms:=rest.reverse.map fun p:PW=>(p.st.chg.length,([]:List Nat))) X3 F54 (rm.mono (by decide) (by decide)) (Bas.dress (st:=(St.s_lvls st1 (rest.reverse.map fun p:PW=>AN p.q))) bs1 bs1.waiz bs1.mksz) P1.chn.1 hms fun s55 y' H4 hL F55 X4 im4=>Kt (Kw (Kt (Kw (Kt ⟨rfl,H4,_,y',_,p.prs,p.ra,p.pa,rest,F55,⟨X4.less,P1.pop.up (by exact o3),?_,a1.like hL,⟨KF hc1 im4,KF hc3 im4,mh,rfl,ml,mc⟩⟩,mw⟩))))⟩));show st1.card≤_;exact o50 cd1
       ·refine Ks (by rw[hb];exact decide_eq_false hC) ?_;refine L8 (La (Kv F50 ml (Rq (hlv1.ext F50.keep) (PU (Ln F50 N1.c2 (Kv F50 mp (KA F50 (by simp) fun s51 q P51 F51 hq _=>⟨_,hlv1.ext F51.keep,by exact n1 hlz,fun s52 M hl52=>?_⟩)))))));refine F50.takeK P51 fun H2 hE2 F51 _ him2=>?_;have hq2:Tpl H2 q _:=xE hq fun n e=>⟨n,him2 _ _ rfl e⟩;have X2:=X1.ext hE2;have N2:=N1.im hE2.im;rw[←a1.vs]at M hl52;refine LY (RM X2 F51 M hl52) fun H3 F52 X3 im3=>?_;have N3:=N2.im im3;refine X3.good.ldK fun t1 t2 hld=>?_;refine L8 (PD Sj (Kv F52 (show _=some (.ref y.lv) by rw[a1.hl];exact mh) ⟨_,_,_,_,rfl,F52,X3.good.lv,hld,rfl,UV X3 F52 (rm.mono (by decide) (by decide)) (Bas.dress (st:=(St.s_lvls st1 (st1.lvls++[AN q]))) bs1 bs1.waiz bs1.mksz) fun s53 y' H4 hL F53 X4 im4=>Kt (Kw (Kt (Kw (Kt ⟨rfl,H4,_,y',_,prs,ra,pa,⟨st1,prs,ra,pa,q⟩::stk,F53,⟨X4.more ((hq2.im im3).im im4) X4.cur,P1.push hw1 ra pa q,?_,a1.like hL,⟨KF N3.c1 im4,KF N3.c2 im4,mh,mp,ml,mc⟩⟩,mw⟩))))⟩));show st1.card≤_;exact o50 cd1
   ·obtain⟨H,m,y,st,prs,ra,pa,stk,Fz,S,mw⟩:=hP;have bp':=S.P.bp;refine S.X.good.ldK fun t1 t2 hld=>?_;refine L8 (PD Qj (Kv Fz (show _=some (.ref y.lv) by rw[S.a.hl];exact S.n.mh) ⟨_,_,_,_,rfl,Fz,S.X.good.lv,hld,rfl,S8 S.X Fz (rm.mono (by decide) (by decide)) S.P.inv (S.P.mz (by exact n13 hi9)) (by exact aq300 bp' hi9) fun s48 y2 st2 H2 hL2 F48 X2 im2 hI2 hfol2 hrows2 hw2=>?_⟩));have P2:Lp st2 prs stk (i+1):=S.P.fol (At _) hfol2 hI2 (by rw[hrows2];exact S.P.nod) (by rw[hrows2];exact S.P.b4) (by rw[hrows2];exact S.P.bn) S.P.bp;rw[←hrows2]at X2;have cd2:=hfol2.card;have scd:=S.cd;have A2:=S.a.like hL2;have N2:=S.n.im im2;refine L7 (YV (wpAny_isTrue_Compare1 (Kv F48 mw (PU (cI F48 fun s49 t49 P49 F49=>cI F49 fun s50 t50 P50 F50=>KA F50 (by simp) fun s51 q P51 F51 hq _=>Yi hq (Ai ?_))))))
    by_cases hww:way=2∨way=3
    ·rw[if_pos (by rcases hww with rfl | rfl<;>rfl)];refine Jx (wpAny_isTrue_value (Nj F51 U0 Ub (sp3 (Kv F51 (show _=some (.ref y2.ci) by rw[A2.ci];exact N2.mc) (Ln F51 N2.c2 (Kv F51 N2.mp ⟨F51.In,R7 X2 F51 (rm.mono (by decide) (by decide)) P2 hw2 (by exact n13 hi9) fun s52 y3 kn3 H3 hL3 F52 X3 im3 P3=>Ai (Ks rfl (Kt (Kw ?_)))⟩))))));exact Kt ⟨H3,_,F52,y3,_,prs,ra,pa,stk,⟨X3,P3,by show st2.card≤_;exact o49 cd2 scd,A2.like hL3,N2.im im3⟩,hw2⟩
    ·rw[if_neg (by simp;lia)];exact Ks rfl (Kt (Kw (Kt ⟨H2,_,F51,y2,st2,prs,ra,pa,stk,⟨X2,P2,by exact o49 cd2 scd,A2,N2⟩,hw2⟩)))
  ·obtain⟨y,st,prs,ra,pa,stk,S,hw⟩:=hI;refine Kw (KS (BoolOp_and (Nj Fi U0 Ub (sp3 (Kv Fi (show _=some (.ref y.ci) by rw[S.a.ci];exact S.n.mc) (Ln Fi S.n.c2 (Kv Fi S.n.mp ⟨Fi.In,R7 S.X Fi (rm.mono (by decide) (by decide)) S.P hw (by exact o48 hrr) fun s52 y3 kn3 H3 hL3 F52 X3 im3 P3=>Ai (KC rfl (BoolOp_one (FM ?_)))⟩)))))));have A3:=S.a.like hL3;have N3:=S.n.im im3;have hlv3:Lst H3 lv (M5 st (Ll st) kn3).lvls:=by rw[←A3.vs];exact X3.good.ok .lvls trivial
   refine X3.good.ldK fun t1 t2 hld=>?_;have em:(M5 st (Ll st) kn3).mks.length=(M5 st (Ll st) kn3).lvls.length:=by rw[P3.mks,P3.lvls];simp
   have hmz:=P3.mz (by exact o48 hrr);refine PD QY (Kv F52 (show _=some (.ref y3.lv) by rw[A3.hl];exact N3.mh) ⟨_,_,_,_,rfl,F52,X3.good.lv,hld,rfl,SM (rm.mono (by decide) (by decide)) (F52.base.trans F52.keep) (X3.good.ext F52.keep) (by exact n1 hmz) fun s53 t53 P53=>KN (F52.pu P53) KL rfl (by decide) (sp1 (Kv (F52.pu P53) N3.ml (Lj (F52.pu P53) (hlv3.ext (F52.pu P53).keep) (by rw[←em];exact n1 hmz) fun s54 t54 P54 F54=>eq_ ?_)))⟩);rw[em,show ((((M5 st (Ll st) kn3).lvls.length:Nat):Int) == (((M5 st (Ll st) kn3).lvls.length:Nat):Int))=true from by simp];exact kk _ (F54.base.trans F54.keep) F54.gens F54.os
end U50
theorem V6{A s E Q l vs ns}:U50.pP A s E Q l vs ns:=@KB _ _ U50.fF U50.kK rfl U50.tT (A,s,E,Q,l,vs,ns)
end
end
section
theorem Yb(k:Cx):Ru k:=De fun hn=>by
 have ne:NE:=⟨k,hn⟩;obtain⟨k0,e,h0⟩:=XF ne;refine h0 ?_;intro A s E Q l vs ns rm B hl hns hz kk;have B':Ext c.H0 s.heap:=e▸B;show A8 (MD k0.toCd.w) A (call (.ref 592) [.ref l]) Q E s;rw[e];refine V6 rm ⟨ne,B'⟩ hl hns hz fun s' B2 g o=>kk s' ?_ g o;show Ext k0.toCd.H0 s'.heap;rw[e];exact B2.ext
end
-- The rows tw.. state True and are used by nothing: they hold the names under which the head would lay quick forms of its own constants, which the proof does not need and which would make the compiled file large.
namespace hd
theorem tw6760662844775422206:True:=⟨⟩
theorem tw80207222412747470:True:=⟨⟩
theorem tw4901217085786567169:True:=⟨⟩
theorem tw17562630884545722471:True:=⟨⟩
theorem tw12179782168187316902:True:=⟨⟩
theorem tw4158538966326616356:True:=⟨⟩
theorem tw9810849677208565135:True:=⟨⟩
theorem tw4195166080166848607:True:=⟨⟩
theorem tw1513407473488127497:True:=⟨⟩
theorem tw4184917019135499818:True:=⟨⟩
theorem tw14885124812403076695:True:=⟨⟩
theorem tw6269251234911203764:True:=⟨⟩
theorem tw4949857960039595651:True:=⟨⟩
theorem tw9285060498679892708:True:=⟨⟩
theorem tw15446708149075816471:True:=⟨⟩
theorem tw3641903923722224168:True:=⟨⟩
theorem tw3613764528863817497:True:=⟨⟩
theorem tw123068294514122753:True:=⟨⟩
theorem tw3471617488691342163:True:=⟨⟩
theorem tw1527838690883220852:True:=⟨⟩
theorem tw5724930324438531845:True:=⟨⟩
theorem tw12280789728482893115:True:=⟨⟩
theorem tw14727973948776507358:True:=⟨⟩
theorem tw13522595751371437881:True:=⟨⟩
theorem tw5751655022586601430:True:=⟨⟩
theorem tw13034690579477884622:True:=⟨⟩
theorem tw2075781144131075437:True:=⟨⟩
theorem tw4239049415839531936:True:=⟨⟩
theorem tw8583156150137307454:True:=⟨⟩
theorem tw10169186735810369720:True:=⟨⟩
theorem tw8673760779264423547:True:=⟨⟩
theorem tw15938347017603190336:True:=⟨⟩
theorem tw16203475035833160808:True:=⟨⟩
theorem tw13152900647210115318:True:=⟨⟩
theorem tw8722938342819674158:True:=⟨⟩
theorem tw12752725365382290980:True:=⟨⟩
theorem tw18416071368914092631:True:=⟨⟩
theorem tw7095182050415464044:True:=⟨⟩
theorem tw5604250919994444252:True:=⟨⟩
theorem tw3241314515751092627:True:=⟨⟩
theorem tw8637924245605089610:True:=⟨⟩
theorem tw13436793889874751463:True:=⟨⟩
theorem tw6597962789093873526:True:=⟨⟩
theorem tw16876290765625790874:True:=⟨⟩
theorem tw18150562674833509941:True:=⟨⟩
theorem tw6825992141876648016:True:=⟨⟩
theorem tw9464389324830640952:True:=⟨⟩
theorem tw6351979084779308449:True:=⟨⟩
theorem tw9032869535437464162:True:=⟨⟩
theorem tw10932325485557636262:True:=⟨⟩
theorem tw17775649180985745786:True:=⟨⟩
theorem tw3517015006915437578:True:=⟨⟩
theorem tw13419790239819088309:True:=⟨⟩
theorem tw1487619136494144620:True:=⟨⟩
theorem tw8764165114954018434:True:=⟨⟩
theorem tw16874378897286668274:True:=⟨⟩
theorem tw16994832310330321305:True:=⟨⟩
theorem tw5058971680067830842:True:=⟨⟩
theorem tw363472608344557089:True:=⟨⟩
theorem tw10200059711980206030:True:=⟨⟩
theorem tw4324768590502034390:True:=⟨⟩
theorem tw3076281753983609132:True:=⟨⟩
theorem tw8499867674576427667:True:=⟨⟩
theorem tw690909109011163107:True:=⟨⟩
theorem tw5216735753287636777:True:=⟨⟩
theorem tw893644547651322600:True:=⟨⟩
theorem tw754995371310844855:True:=⟨⟩
theorem tw570580334211071369:True:=⟨⟩
theorem tw8293519452102458304:True:=⟨⟩
theorem tw2253076609543119693:True:=⟨⟩
theorem tw1020747659218361971:True:=⟨⟩
theorem tw18352704746069975241:True:=⟨⟩
theorem tw16973133056051306746:True:=⟨⟩
theorem tw1669287690364492995:True:=⟨⟩
theorem tw3896432864908169337:True:=⟨⟩
theorem tw1324119301739381:True:=⟨⟩
theorem tw10875472949588697265:True:=⟨⟩
theorem tw16671430358935201974:True:=⟨⟩
theorem tw1209259664397189692:True:=⟨⟩
theorem tw1173135590058218265:True:=⟨⟩
theorem tw4873480283540838167:True:=⟨⟩
theorem tw880765996842172355:True:=⟨⟩
theorem tw15482834225003803977:True:=⟨⟩
theorem tw16953484572288141156:True:=⟨⟩
theorem tw10193104807299194216:True:=⟨⟩
theorem tw7669143873086936922:True:=⟨⟩
theorem tw2366270029833321311:True:=⟨⟩
theorem tw15725300006707927175:True:=⟨⟩
theorem tw8998826512192558392:True:=⟨⟩
theorem tw13049870421866509496:True:=⟨⟩
theorem tw4996283469597685290:True:=⟨⟩
theorem tw3732647267665375829:True:=⟨⟩
theorem tw3893673526804035514:True:=⟨⟩
theorem tw11656587275550533016:True:=⟨⟩
theorem tw5499663076606008585:True:=⟨⟩
theorem tw15039365748200984442:True:=⟨⟩
theorem tw735499216457412341:True:=⟨⟩
theorem tw10584903055604394054:True:=⟨⟩
theorem tw8151924304054899687:True:=⟨⟩
theorem tw16028368227544363629:True:=⟨⟩
theorem tw6276673660110437445:True:=⟨⟩
theorem tw14601715465040589972:True:=⟨⟩
theorem tw17295801982453579902:True:=⟨⟩
theorem tw8759374071611058102:True:=⟨⟩
theorem tw13331704739837112769:True:=⟨⟩
theorem tw7635829786263382596:True:=⟨⟩
theorem tw6100019897110745148:True:=⟨⟩
theorem tw580301670077480640:True:=⟨⟩
theorem tw13185193354669925997:True:=⟨⟩
theorem tw4287501998611880655:True:=⟨⟩
theorem tw12978694689486476534:True:=⟨⟩
theorem tw9048959043973113942:True:=⟨⟩
theorem tw791894052214622578:True:=⟨⟩
theorem tw9870564867049460845:True:=⟨⟩
theorem tw16558604503322718569:True:=⟨⟩
theorem tw4935679993663727648:True:=⟨⟩
theorem tw17510691922017120571:True:=⟨⟩
theorem tw13562634003028335048:True:=⟨⟩
theorem tw9878135420369046608:True:=⟨⟩
theorem tw6351698254187997254:True:=⟨⟩
theorem tw5498244211294084031:True:=⟨⟩
theorem tw3595355477287675206:True:=⟨⟩
theorem tw14569192112799493162:True:=⟨⟩
theorem tw5654540503010958517:True:=⟨⟩
theorem tw7759662770534874592:True:=⟨⟩
theorem tw14066897420323017581:True:=⟨⟩
theorem tw10507069991603443811:True:=⟨⟩
theorem tw8402618584194901558:True:=⟨⟩
theorem tw1756488131837449251:True:=⟨⟩
theorem tw120949319569067898:True:=⟨⟩
theorem tw2155373148024153087:True:=⟨⟩
theorem tw1006474142936029432:True:=⟨⟩
theorem tw9807025249006525022:True:=⟨⟩
theorem tw11234803216861417679:True:=⟨⟩
theorem tw9452872987620912765:True:=⟨⟩
theorem tw14479959197142875710:True:=⟨⟩
theorem tw1920314895626431374:True:=⟨⟩
theorem tw17213202801741711188:True:=⟨⟩
theorem tw17896979994045829828:True:=⟨⟩
theorem tw9013603393401162020:True:=⟨⟩
theorem tw7928477069593319606:True:=⟨⟩
theorem tw5588271506499744379:True:=⟨⟩
theorem tw7483599358628703746:True:=⟨⟩
theorem tw2267546703583191381:True:=⟨⟩
theorem tw8890726212758104139:True:=⟨⟩
theorem tw13078271307976294731:True:=⟨⟩
theorem tw15610926135251115398:True:=⟨⟩
theorem tw17244905008012452814:True:=⟨⟩
theorem tw58351903789159699:True:=⟨⟩
theorem tw2677792999027748202:True:=⟨⟩
theorem tw14019357707464180739:True:=⟨⟩
theorem tw2908595245633717595:True:=⟨⟩
theorem tw10290247671117069052:True:=⟨⟩
theorem tw12426564226344084313:True:=⟨⟩
theorem tw4027570223873491336:True:=⟨⟩
theorem tw6435613555943814401:True:=⟨⟩
theorem tw16561031784554278298:True:=⟨⟩
theorem tw9027985886240724871:True:=⟨⟩
theorem tw13016227033810113515:True:=⟨⟩
theorem tw2173964782534647824:True:=⟨⟩
theorem tw11721989188606909476:True:=⟨⟩
theorem tw17327716533671561472:True:=⟨⟩
theorem tw15149605427897886594:True:=⟨⟩
theorem tw16555405951933438768:True:=⟨⟩
theorem tw6742079255410503971:True:=⟨⟩
theorem tw13894634725453916923:True:=⟨⟩
theorem tw6384089640036988262:True:=⟨⟩
theorem tw7192714274489868344:True:=⟨⟩
theorem tw12905145899662694839:True:=⟨⟩
theorem tw14585109114721359362:True:=⟨⟩
theorem tw5285049794066362645:True:=⟨⟩
theorem tw11585793122591300342:True:=⟨⟩
theorem tw3692403537964248751:True:=⟨⟩
theorem tw6467283406827068179:True:=⟨⟩
theorem tw14941774590477668621:True:=⟨⟩
theorem tw1479440292816680990:True:=⟨⟩
theorem tw4650248630828124516:True:=⟨⟩
theorem tw4551586886017427205:True:=⟨⟩
theorem tw18229235640690726180:True:=⟨⟩
theorem tw7873400313799303876:True:=⟨⟩
theorem tw13054651096227442229:True:=⟨⟩
theorem tw10305269356859574647:True:=⟨⟩
theorem tw896392117091262416:True:=⟨⟩
theorem tw13814786413287485596:True:=⟨⟩
theorem tw11406844259604597016:True:=⟨⟩
theorem tw9691164852092459200:True:=⟨⟩
theorem tw17698727481433063041:True:=⟨⟩
theorem tw12382532101624025837:True:=⟨⟩
theorem tw6418394132375852581:True:=⟨⟩
theorem tw14273016659237327726:True:=⟨⟩
theorem tw9276349011584097663:True:=⟨⟩
theorem tw9008869183086750759:True:=⟨⟩
theorem tw8753742132941547738:True:=⟨⟩
theorem tw7182486151376732564:True:=⟨⟩
theorem tw2234841607322767675:True:=⟨⟩
theorem tw10418821070498059912:True:=⟨⟩
theorem tw13675884382191442351:True:=⟨⟩
theorem tw17523582860893176437:True:=⟨⟩
theorem tw5479632107175813453:True:=⟨⟩
theorem tw10478568671102049440:True:=⟨⟩
theorem tw15293771430684577509:True:=⟨⟩
theorem tw7252744027004354421:True:=⟨⟩
theorem tw1976320048464600139:True:=⟨⟩
theorem tw12887234407305532606:True:=⟨⟩
theorem tw5695148799593641189:True:=⟨⟩
theorem tw8594091374061654533:True:=⟨⟩
theorem tw597430841090971830:True:=⟨⟩
theorem tw16808911903280404894:True:=⟨⟩
theorem tw3278898641362494929:True:=⟨⟩
theorem tw17587535071971633485:True:=⟨⟩
theorem tw6355020355175173681:True:=⟨⟩
theorem tw15015567032572629849:True:=⟨⟩
theorem tw1479833339227408067:True:=⟨⟩
theorem tw15328818835906777346:True:=⟨⟩
theorem tw15184348022372230366:True:=⟨⟩
theorem tw18315960055377521309:True:=⟨⟩
theorem tw6767105285010031935:True:=⟨⟩
theorem tw12740448316850118660:True:=⟨⟩
theorem tw12386524454841638718:True:=⟨⟩
theorem tw3503359234994187029:True:=⟨⟩
theorem tw17873168446024335648:True:=⟨⟩
theorem tw13056049162108353537:True:=⟨⟩
theorem tw18251112825599106275:True:=⟨⟩
theorem tw14204155614346801693:True:=⟨⟩
theorem tw2130250830938240763:True:=⟨⟩
theorem tw17777096316016710046:True:=⟨⟩
theorem tw12822435600720695279:True:=⟨⟩
theorem tw15378620127687112918:True:=⟨⟩
theorem tw14791417324727343718:True:=⟨⟩
theorem tw3732530698148308345:True:=⟨⟩
theorem tw2245258775325047736:True:=⟨⟩
theorem tw11912248818721715553:True:=⟨⟩
theorem tw9372208762206411727:True:=⟨⟩
theorem tw11203017424089718567:True:=⟨⟩
theorem tw9366875484532515407:True:=⟨⟩
theorem tw10671393477618117455:True:=⟨⟩
theorem tw4636975807341552304:True:=⟨⟩
theorem tw6617686139246983403:True:=⟨⟩
theorem tw15459919231471728178:True:=⟨⟩
theorem tw15662535594664088486:True:=⟨⟩
theorem tw2926546973763661384:True:=⟨⟩
theorem tw18045596184195472670:True:=⟨⟩
theorem tw10200596682531068870:True:=⟨⟩
theorem tw4144914912218024235:True:=⟨⟩
theorem tw13292936899121948504:True:=⟨⟩
theorem tw11810988563341916252:True:=⟨⟩
theorem tw5533284921534288411:True:=⟨⟩
theorem tw2399103561582609577:True:=⟨⟩
theorem tw9156451550823312209:True:=⟨⟩
theorem tw11747188248321908775:True:=⟨⟩
theorem tw4427974247585970236:True:=⟨⟩
theorem tw14304563500966998132:True:=⟨⟩
theorem tw16987089875077307720:True:=⟨⟩
theorem tw14323767728887713897:True:=⟨⟩
theorem tw11798513794507384182:True:=⟨⟩
theorem tw15080681613647853314:True:=⟨⟩
theorem tw9821591817271157005:True:=⟨⟩
theorem tw1555437378128666086:True:=⟨⟩
theorem tw14946310595379027892:True:=⟨⟩
theorem tw8038203026324743289:True:=⟨⟩
theorem tw11865667851095779647:True:=⟨⟩
theorem tw4577393864431605276:True:=⟨⟩
theorem tw12010918843540018363:True:=⟨⟩
theorem tw6425283475488350215:True:=⟨⟩
theorem tw11243312107713688672:True:=⟨⟩
theorem tw64618173041871434:True:=⟨⟩
theorem tw13673710656853086251:True:=⟨⟩
theorem tw2938735568688020788:True:=⟨⟩
theorem tw3227706676992921592:True:=⟨⟩
theorem tw4794295470348331434:True:=⟨⟩
theorem tw8386983601427270016:True:=⟨⟩
theorem tw11122842944015723790:True:=⟨⟩
theorem tw42479039228130786:True:=⟨⟩
theorem tw13661864377559211056:True:=⟨⟩
theorem tw1728196956790604047:True:=⟨⟩
theorem tw588414361728750325:True:=⟨⟩
theorem tw8974285638726340953:True:=⟨⟩
theorem tw3992577438768274325:True:=⟨⟩
theorem tw9205932166849929317:True:=⟨⟩
theorem tw6693500266473358433:True:=⟨⟩
theorem tw10796147989822787844:True:=⟨⟩
theorem tw1387449649885023538:True:=⟨⟩
theorem tw1280408269989808285:True:=⟨⟩
theorem tw11476253306716732098:True:=⟨⟩
theorem tw9789424005658652060:True:=⟨⟩
theorem tw2782680217427406503:True:=⟨⟩
theorem tw16669484289434262652:True:=⟨⟩
theorem tw4412262172769576561:True:=⟨⟩
theorem tw6128699546485818623:True:=⟨⟩
theorem tw16531839799347345522:True:=⟨⟩
theorem tw16264488296547236668:True:=⟨⟩
theorem tw13997896966902399118:True:=⟨⟩
theorem tw3261694639857263868:True:=⟨⟩
theorem tw18264486928267264063:True:=⟨⟩
theorem tw15842043797858019231:True:=⟨⟩
theorem tw8019583575661373409:True:=⟨⟩
theorem tw18344054339320819672:True:=⟨⟩
theorem tw15974211974722447953:True:=⟨⟩
theorem tw14846430730451215336:True:=⟨⟩
theorem tw4887793233202170652:True:=⟨⟩
theorem tw5963049168890907350:True:=⟨⟩
theorem tw6825794384878216377:True:=⟨⟩
theorem tw13819635886744424586:True:=⟨⟩
theorem tw10611771540298893143:True:=⟨⟩
theorem tw324789982251995979:True:=⟨⟩
theorem tw4451072393086977611:True:=⟨⟩
theorem tw16049856711259736594:True:=⟨⟩
theorem tw187721451887068916:True:=⟨⟩
theorem tw12284123929361467263:True:=⟨⟩
theorem tw10953487992723715146:True:=⟨⟩
theorem tw12883188296171978019:True:=⟨⟩
theorem tw69890677706110351:True:=⟨⟩
theorem tw5411588774181628338:True:=⟨⟩
theorem tw9357691260618757973:True:=⟨⟩
theorem tw14739706128910411235:True:=⟨⟩
theorem tw7352393279153081721:True:=⟨⟩
theorem tw5486493490053360157:True:=⟨⟩
theorem tw5636303146250169470:True:=⟨⟩
theorem tw14234986236628817851:True:=⟨⟩
theorem tw14263468659301548020:True:=⟨⟩
theorem tw10981247840145607329:True:=⟨⟩
theorem tw3731684781155429145:True:=⟨⟩
theorem tw5848525411004977341:True:=⟨⟩
theorem tw6103308179388321402:True:=⟨⟩
theorem tw9745053878982180236:True:=⟨⟩
theorem tw12580157457374322825:True:=⟨⟩
theorem tw1992405202823017090:True:=⟨⟩
theorem tw12543959594621226614:True:=⟨⟩
theorem tw1575818370579092412:True:=⟨⟩
theorem tw736559914600380603:True:=⟨⟩
theorem tw7524951473946329476:True:=⟨⟩
theorem tw14199497947161861042:True:=⟨⟩
theorem tw14811596470062305402:True:=⟨⟩
theorem tw10942831735398218583:True:=⟨⟩
theorem tw7238881122909273056:True:=⟨⟩
theorem tw4212550544905979133:True:=⟨⟩
theorem tw7839861392634791998:True:=⟨⟩
theorem tw13704628199583507327:True:=⟨⟩
theorem tw778996663928911553:True:=⟨⟩
theorem tw14784423416584386534:True:=⟨⟩
theorem tw15709432073139065983:True:=⟨⟩
theorem tw4812445951556440385:True:=⟨⟩
theorem tw6585647535407982122:True:=⟨⟩
theorem tw1874159405358719183:True:=⟨⟩
theorem tw2582875464695293758:True:=⟨⟩
theorem tw8808839054081031943:True:=⟨⟩
theorem tw8149274712835364755:True:=⟨⟩
theorem tw17682009817383010814:True:=⟨⟩
theorem tw13291438424144138419:True:=⟨⟩
theorem tw8994223850203857199:True:=⟨⟩
theorem tw16064010049021166651:True:=⟨⟩
theorem tw11436625637479949749:True:=⟨⟩
theorem tw2942616286324163607:True:=⟨⟩
theorem tw17386589932338058259:True:=⟨⟩
theorem tw5371229575969440175:True:=⟨⟩
theorem tw10954896027920521500:True:=⟨⟩
theorem tw17631733924889304326:True:=⟨⟩
theorem tw12538513643702813137:True:=⟨⟩
theorem tw16490958093706603973:True:=⟨⟩
theorem tw18313958262992902728:True:=⟨⟩
theorem tw2217210030526828308:True:=⟨⟩
theorem tw9259770788124725997:True:=⟨⟩
theorem tw10708561578853574150:True:=⟨⟩
theorem tw367857026772771265:True:=⟨⟩
theorem tw4854368506661825922:True:=⟨⟩
theorem tw8138335841240258086:True:=⟨⟩
theorem tw13345808911917323032:True:=⟨⟩
theorem tw2857093527191813627:True:=⟨⟩
theorem tw270159884227141191:True:=⟨⟩
theorem tw7350544599812273793:True:=⟨⟩
theorem tw5197284449146708579:True:=⟨⟩
theorem tw287947231083746679:True:=⟨⟩
theorem tw8390539997926843411:True:=⟨⟩
theorem tw11239992877300529265:True:=⟨⟩
theorem tw2417802982746472137:True:=⟨⟩
theorem tw7694040772201074070:True:=⟨⟩
theorem tw1651757949666414126:True:=⟨⟩
theorem tw1425572920642684092:True:=⟨⟩
theorem tw16193740379491927437:True:=⟨⟩
theorem tw6264115543738340563:True:=⟨⟩
theorem tw1434398142359552746:True:=⟨⟩
theorem tw4507420085913086705:True:=⟨⟩
theorem tw8971800947757722863:True:=⟨⟩
theorem tw10257909930514227660:True:=⟨⟩
theorem tw10624226597165476215:True:=⟨⟩
theorem tw5079330015975024831:True:=⟨⟩
theorem tw10913585522690886933:True:=⟨⟩
theorem tw7730664659590461041:True:=⟨⟩
theorem tw17519745973974767739:True:=⟨⟩
theorem tw17630102493349999429:True:=⟨⟩
theorem tw4318662949951621594:True:=⟨⟩
theorem tw12083575760338326149:True:=⟨⟩
theorem tw9673087150982176410:True:=⟨⟩
theorem tw840981496064437866:True:=⟨⟩
theorem tw6816647734673517018:True:=⟨⟩
theorem tw16009306857160682382:True:=⟨⟩
theorem tw15373592851439433439:True:=⟨⟩
theorem tw11790099413888845297:True:=⟨⟩
theorem tw13411596345087251410:True:=⟨⟩
theorem tw2488860425557155003:True:=⟨⟩
theorem tw2777310486606898128:True:=⟨⟩
theorem tw8227596265524176909:True:=⟨⟩
theorem tw16192249821931289364:True:=⟨⟩
theorem tw1111395655364133852:True:=⟨⟩
theorem tw14874740015416403351:True:=⟨⟩
theorem tw1847498129718734126:True:=⟨⟩
theorem tw15722214150439884324:True:=⟨⟩
theorem tw6196946367736269074:True:=⟨⟩
theorem tw757683678463871931:True:=⟨⟩
theorem tw14851662188348016525:True:=⟨⟩
theorem tw6034331834246549318:True:=⟨⟩
theorem tw6809180150348452684:True:=⟨⟩
theorem tw1371220727996659393:True:=⟨⟩
theorem tw16698072605275554026:True:=⟨⟩
theorem tw12289785986931056098:True:=⟨⟩
theorem tw9257564877634915833:True:=⟨⟩
theorem tw799876701966566609:True:=⟨⟩
theorem tw8363449657656907623:True:=⟨⟩
theorem tw4669232988116832430:True:=⟨⟩
theorem tw740585118569290451:True:=⟨⟩
theorem tw15573792974875501539:True:=⟨⟩
theorem tw9193979096431994668:True:=⟨⟩
theorem tw16821842716671950988:True:=⟨⟩
theorem tw16627741148158334758:True:=⟨⟩
theorem tw17992777665364332788:True:=⟨⟩
theorem tw14321712812228375884:True:=⟨⟩
theorem tw7839665609038958061:True:=⟨⟩
theorem tw4115823564253892186:True:=⟨⟩
theorem tw2310416840173604703:True:=⟨⟩
theorem tw1292574782506224866:True:=⟨⟩
theorem tw14811076978495188195:True:=⟨⟩
theorem tw10980597926105621645:True:=⟨⟩
theorem tw231678842138440352:True:=⟨⟩
theorem tw15232813378086664489:True:=⟨⟩
theorem tw1002739005766175229:True:=⟨⟩
theorem tw17142450687330431479:True:=⟨⟩
theorem tw7430934849479919532:True:=⟨⟩
theorem tw2201769383853589397:True:=⟨⟩
theorem tw1479959440485337153:True:=⟨⟩
theorem tw15051540443700079324:True:=⟨⟩
theorem tw420110763358337415:True:=⟨⟩
theorem tw16607972267231536329:True:=⟨⟩
theorem tw10777565216647047016:True:=⟨⟩
theorem tw2655586099545260437:True:=⟨⟩
theorem tw10126381309830911881:True:=⟨⟩
theorem tw13308291806819139472:True:=⟨⟩
theorem tw17287459089854585945:True:=⟨⟩
theorem tw1523212933880916979:True:=⟨⟩
theorem tw15127604789221709464:True:=⟨⟩
theorem tw7104915865109316593:True:=⟨⟩
theorem tw5759647067039785218:True:=⟨⟩
theorem tw5246941504419573690:True:=⟨⟩
theorem tw4229197034057890473:True:=⟨⟩
theorem tw4853578551445522630:True:=⟨⟩
theorem tw13402166490378460096:True:=⟨⟩
theorem tw15313804776001833728:True:=⟨⟩
theorem tw6324595852799433117:True:=⟨⟩
theorem tw12904261374257909793:True:=⟨⟩
theorem tw15850850952774717093:True:=⟨⟩
theorem tw15934517219867600733:True:=⟨⟩
theorem tw18212267438146297484:True:=⟨⟩
theorem tw14228869016593613808:True:=⟨⟩
theorem tw10976678710191227778:True:=⟨⟩
theorem tw15101716383203956559:True:=⟨⟩
theorem tw7011742071773796823:True:=⟨⟩
theorem tw3416535462228283139:True:=⟨⟩
theorem tw2601553834287326237:True:=⟨⟩
theorem tw10056392159520603492:True:=⟨⟩
theorem tw17413402906406384846:True:=⟨⟩
theorem tw7363439029260755892:True:=⟨⟩
theorem tw7504022934668878425:True:=⟨⟩
theorem tw5813924530853040166:True:=⟨⟩
theorem tw628826382804869247:True:=⟨⟩
theorem tw1886097375651017517:True:=⟨⟩
theorem tw6179258418468663141:True:=⟨⟩
theorem tw4535849701284284645:True:=⟨⟩
theorem tw1760938099516911481:True:=⟨⟩
theorem tw3003183182289327622:True:=⟨⟩
theorem tw9365843419700471067:True:=⟨⟩
theorem tw4933048531270659217:True:=⟨⟩
theorem tw9576667148146664971:True:=⟨⟩
theorem tw15027813657048799489:True:=⟨⟩
theorem tw7863745022479089229:True:=⟨⟩
theorem tw1546340448729182881:True:=⟨⟩
theorem tw7343300513203493971:True:=⟨⟩
theorem tw639243900295364999:True:=⟨⟩
theorem tw18174727709737113557:True:=⟨⟩
theorem tw11360155759697910294:True:=⟨⟩
theorem tw6362447207671622590:True:=⟨⟩
theorem tw15872721093973134059:True:=⟨⟩
theorem tw1041734066939551766:True:=⟨⟩
theorem tw17106247454124805299:True:=⟨⟩
theorem tw2116293081078497426:True:=⟨⟩
theorem tw18260245816743181511:True:=⟨⟩
theorem tw12149660499277099224:True:=⟨⟩
theorem tw12818627796774177369:True:=⟨⟩
theorem tw15831449180804048182:True:=⟨⟩
theorem tw2395360589981782600:True:=⟨⟩
theorem tw15441256140065102201:True:=⟨⟩
theorem tw6714678847661489262:True:=⟨⟩
theorem tw3312639428575888987:True:=⟨⟩
theorem tw1160317203684671307:True:=⟨⟩
theorem tw4841115729618937879:True:=⟨⟩
theorem tw5165858259965997201:True:=⟨⟩
theorem tw8983397095688490290:True:=⟨⟩
theorem tw2796045569192068878:True:=⟨⟩
theorem tw2873107717996512030:True:=⟨⟩
theorem tw10098858484532871584:True:=⟨⟩
theorem tw2386032343275876092:True:=⟨⟩
theorem tw7677069738282807967:True:=⟨⟩
theorem tw17548301592722837999:True:=⟨⟩
theorem tw6897007368991420636:True:=⟨⟩
theorem tw8184985727622759877:True:=⟨⟩
theorem tw6312037344533143322:True:=⟨⟩
theorem tw9139467792480963413:True:=⟨⟩
theorem tw11043565332798135927:True:=⟨⟩
theorem tw8494178379519767217:True:=⟨⟩
theorem tw12664759571010509381:True:=⟨⟩
theorem tw6231300445862588781:True:=⟨⟩
theorem tw9844633441911778520:True:=⟨⟩
theorem tw8631647698044649071:True:=⟨⟩
theorem tw3751741238260587452:True:=⟨⟩
theorem tw1066297216363992635:True:=⟨⟩
theorem tw11082318014727886095:True:=⟨⟩
theorem tw6211407954914241527:True:=⟨⟩
theorem tw12804790748501761660:True:=⟨⟩
theorem tw7046368057735379631:True:=⟨⟩
theorem tw8547976606474840627:True:=⟨⟩
theorem tw8382594148505853963:True:=⟨⟩
theorem tw15170166819509798712:True:=⟨⟩
theorem tw73932630633417052:True:=⟨⟩
theorem tw6156775387982992289:True:=⟨⟩
theorem tw15068095265764424882:True:=⟨⟩
theorem tw10982043714301441875:True:=⟨⟩
theorem tw6496468359453899740:True:=⟨⟩
theorem tw8580518863689810338:True:=⟨⟩
theorem tw195797228579154521:True:=⟨⟩
theorem tw6645754676732357884:True:=⟨⟩
theorem tw10310522070392361284:True:=⟨⟩
theorem tw15834621417332309486:True:=⟨⟩
theorem tw7333407450560187677:True:=⟨⟩
theorem tw11026102214843661311:True:=⟨⟩
theorem tw8455509636433690358:True:=⟨⟩
theorem tw9221647939110133654:True:=⟨⟩
theorem tw9417033243287817803:True:=⟨⟩
theorem tw13953861978323313743:True:=⟨⟩
theorem tw13915988487920759594:True:=⟨⟩
theorem tw17148754175671867601:True:=⟨⟩
theorem tw8434754763198761545:True:=⟨⟩
theorem tw7690266627064258982:True:=⟨⟩
theorem tw11170986363074059871:True:=⟨⟩
theorem tw455996952264472808:True:=⟨⟩
theorem tw2485592187805179729:True:=⟨⟩
theorem tw14766628837263464153:True:=⟨⟩
theorem tw14154010076438239110:True:=⟨⟩
theorem tw1697823684261348857:True:=⟨⟩
theorem tw9368504840272485767:True:=⟨⟩
theorem tw11423366701579904857:True:=⟨⟩
theorem tw4292124644429209710:True:=⟨⟩
theorem tw1764190043647282684:True:=⟨⟩
theorem tw15265042437909298333:True:=⟨⟩
theorem tw16611703323094282476:True:=⟨⟩
theorem tw2634524516542322496:True:=⟨⟩
theorem tw6235530936889558916:True:=⟨⟩
theorem tw10287841801749109433:True:=⟨⟩
theorem tw17438610683811369668:True:=⟨⟩
theorem tw2747542461417127985:True:=⟨⟩
theorem tw7828148429267724845:True:=⟨⟩
theorem tw15208779795234195778:True:=⟨⟩
theorem tw1235247223174674489:True:=⟨⟩
theorem tw2241180450144564393:True:=⟨⟩
theorem tw15516504957378829982:True:=⟨⟩
theorem tw11990059301537373963:True:=⟨⟩
theorem tw865256926295866735:True:=⟨⟩
theorem tw6064361311239337953:True:=⟨⟩
theorem tw12634883239147335504:True:=⟨⟩
theorem tw11815352881546339388:True:=⟨⟩
theorem tw2447612040936993662:True:=⟨⟩
theorem tw17734745681671571602:True:=⟨⟩
theorem tw5109750279720785074:True:=⟨⟩
theorem tw8518017772547290112:True:=⟨⟩
theorem tw3713774561306115620:True:=⟨⟩
theorem tw9729328000736971776:True:=⟨⟩
theorem tw803298182361166000:True:=⟨⟩
theorem tw14295902748450531312:True:=⟨⟩
theorem tw14170626163746665929:True:=⟨⟩
theorem tw1844586762473781984:True:=⟨⟩
theorem tw6350475880396880301:True:=⟨⟩
theorem tw18225048404721366151:True:=⟨⟩
theorem tw16898703421338395802:True:=⟨⟩
theorem tw1861754713845661025:True:=⟨⟩
theorem tw15768255177571059533:True:=⟨⟩
theorem tw9687556985513317663:True:=⟨⟩
theorem tw4568231203091369911:True:=⟨⟩
theorem tw11445796338385990213:True:=⟨⟩
theorem tw4932915121498799041:True:=⟨⟩
theorem tw4277449665417238038:True:=⟨⟩
theorem tw7459606713180098869:True:=⟨⟩
theorem tw11978532268704778355:True:=⟨⟩
theorem tw9503991325330020860:True:=⟨⟩
theorem tw4455062051430825911:True:=⟨⟩
theorem tw9465431125875546204:True:=⟨⟩
theorem tw13721701085657304472:True:=⟨⟩
theorem tw3062554034549116351:True:=⟨⟩
theorem tw2114883523508822293:True:=⟨⟩
theorem tw1884399729814107754:True:=⟨⟩
theorem tw16633321846759511662:True:=⟨⟩
theorem tw2277299923939199616:True:=⟨⟩
theorem tw10554151724961605560:True:=⟨⟩
theorem tw4790182246096814837:True:=⟨⟩
theorem tw2364733319659085324:True:=⟨⟩
theorem tw17714025838733488182:True:=⟨⟩
theorem tw5764951542481038590:True:=⟨⟩
theorem tw16045600132092593285:True:=⟨⟩
theorem tw17419490979579898423:True:=⟨⟩
theorem tw15972030042294211563:True:=⟨⟩
theorem tw12652299772924304202:True:=⟨⟩
theorem tw16732195475098059574:True:=⟨⟩
theorem tw5059403193757220838:True:=⟨⟩
theorem tw18059793885086720939:True:=⟨⟩
theorem tw16331016480089262388:True:=⟨⟩
theorem tw2092355116749281574:True:=⟨⟩
theorem tw14076141398139754965:True:=⟨⟩
theorem tw1109879514587821502:True:=⟨⟩
theorem tw16575594610192822480:True:=⟨⟩
theorem tw15362009611261821448:True:=⟨⟩
theorem tw18272491874396864091:True:=⟨⟩
theorem tw9003164874222133143:True:=⟨⟩
theorem tw7966823312900173658:True:=⟨⟩
theorem tw3916285193714390168:True:=⟨⟩
theorem tw15544853520655005638:True:=⟨⟩
theorem tw1070806864712125225:True:=⟨⟩
theorem tw18403829441425892717:True:=⟨⟩
theorem tw12917748928761252462:True:=⟨⟩
theorem tw27347020408234108:True:=⟨⟩
theorem tw1665519426611977725:True:=⟨⟩
theorem tw1802135716158502341:True:=⟨⟩
theorem tw14662617371843658649:True:=⟨⟩
theorem tw11745692727488381282:True:=⟨⟩
theorem tw16738745784312259678:True:=⟨⟩
theorem tw5504556581544584004:True:=⟨⟩
theorem tw18280231356768202928:True:=⟨⟩
theorem tw13707482908480027769:True:=⟨⟩
theorem tw5129100327938481947:True:=⟨⟩
theorem tw5155557033790407861:True:=⟨⟩
theorem tw17078526466157459939:True:=⟨⟩
theorem tw4011730449221504619:True:=⟨⟩
theorem tw17237978297281736309:True:=⟨⟩
theorem tw11939570603508273132:True:=⟨⟩
theorem tw5766817342387943034:True:=⟨⟩
theorem tw15575071372768740936:True:=⟨⟩
theorem tw10652557068286136655:True:=⟨⟩
theorem tw10314814847376767113:True:=⟨⟩
theorem tw10503033235834121926:True:=⟨⟩
theorem tw12785757555996779899:True:=⟨⟩
theorem tw8620886767091428669:True:=⟨⟩
theorem tw17085629754188750694:True:=⟨⟩
theorem tw7808421317679229744:True:=⟨⟩
theorem tw11680542252808841068:True:=⟨⟩
theorem tw1984363972637095396:True:=⟨⟩
theorem tw13565630665325419216:True:=⟨⟩
theorem tw4834755124440303813:True:=⟨⟩
theorem tw11934350699983728027:True:=⟨⟩
theorem tw15808516280766499198:True:=⟨⟩
theorem tw18001230695176581838:True:=⟨⟩
theorem tw14252316831149585619:True:=⟨⟩
theorem tw2223425423447361994:True:=⟨⟩
theorem tw13862642468083079315:True:=⟨⟩
theorem tw15161326946880079398:True:=⟨⟩
theorem tw2848176756851099411:True:=⟨⟩
theorem tw5765981979616339262:True:=⟨⟩
theorem tw1298781202104834068:True:=⟨⟩
theorem tw14487415735459167684:True:=⟨⟩
theorem tw7155325772150460729:True:=⟨⟩
theorem tw15230860919284253270:True:=⟨⟩
theorem tw5038445343330553974:True:=⟨⟩
theorem tw7429964615468187232:True:=⟨⟩
theorem tw14117766483522153913:True:=⟨⟩
theorem tw13253541544203528774:True:=⟨⟩
theorem tw4445787948887339598:True:=⟨⟩
theorem tw9826395005243518002:True:=⟨⟩
theorem tw5330046652437701267:True:=⟨⟩
theorem tw428484052712917160:True:=⟨⟩
theorem tw9240168550403210075:True:=⟨⟩
theorem tw11145164175221040675:True:=⟨⟩
theorem tw16140346037966671567:True:=⟨⟩
theorem tw15473961653952966477:True:=⟨⟩
theorem tw11570111164570437037:True:=⟨⟩
theorem tw9046533771756868877:True:=⟨⟩
theorem tw168994441188853045:True:=⟨⟩
theorem tw11812990402858981387:True:=⟨⟩
theorem tw14330866029970894518:True:=⟨⟩
end hd
theorem map_mem {α β : Type} {f g : α → β} {l : List α} (h : l.map f = l.map g) : ∀ x ∈ l, f x = g x := List.map_inj_left.mp h
set_option maxHeartbeats 8000000
set_option Elab.async true in
theorem hd : PySem.Challenge.rw_pq0030_01.Holds := by
  w_on
  o_law
  k_head
  (case hw => w_witness2)
  intro w s₀ s₁ mg mb G Y fa o pm cd doc dV kV ho hd hcd hD hmg hg args vals as hpre hlay hrd hwl hlo
  have KX := kIn_of Y
  clear ho hd hcd hD Y
  have LK : Lk (hd.heap_1_39 w.params) := ⟨map_mem (by kernel_rfl), List.all_eq_true.mp (by kernel_rfl), List.all_eq_true.mp (by kernel_rfl), List.all_eq_true.mp (by kernel_rfl), List.all_eq_true.mp (by kernel_rfl), map_mem (by kernel_rfl), map_mem (by kernel_rfl), List.all_eq_true.mp (by kernel_rfl), List.all_eq_true.mp (by kernel_rfl), map_mem (by kernel_rfl), List.all_eq_true.mp (by kernel_rfl), by kernel_rfl, by kernel_rfl, by kernel_rfl, by kernel_rfl, by kernel_rfl, by kernel_rfl, by kernel_rfl, by kernel_rfl, by kernel_rfl, by kernel_rfl, by kernel_rfl, by kernel_rfl, by kernel_rfl, by kernel_rfl, by kernel_rfl, by kernel_rfl, by kernel_rfl, by kernel_rfl⟩
  have e : fa = 592 := by
    have q := mg_of KX G.T.g (LK.gn _ (Kr 4 rfl))
    rw [hmg] at q
    injection q with q
    injection q
  subst e
  clear hmg
  wrow_args hpre hlay hrd hwl hlo
  rename_i hL _ _ _ hI _ hz _
  refine Yb ⟨⟨w, mg, mb, s₁.heap, hd.heap_1_39 w.params, _, _⟩, KX, topRead_of G.T, LK⟩ _ _ _ _ _ _ _ ⟨by decide, by decide, rfl⟩ (fun _ _ e => e) hL hI (by omega) fun s' P1 P2 P3 => ?_
  exact ⟨.inl ⟨_, .bool true, [], rfl, fun _ => rfl, .bool true, by wrow_post, fun _ => ⟨List.nodup_nil, fun a ha => by cases ha⟩⟩, .of_keep P1, P3, .of_eq (P2.trans hg)⟩
end Mine.Internal
theorem PySem.Challenge.cw_pq0030_01_holds : PySem.Challenge.rw_pq0030_01.Holds :=
  Mine.Internal.hd
