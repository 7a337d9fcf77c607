import PyProof.Rows.All
import Wide.All
import OpenK.AllK
import Wide.FinOn
import KE.KSortTup
import KE.KDictList
import KE.KDictOf
import Lean
import PySem.Challenge.RW_rg0119_01
set_option autoImplicit false
set_option Elab.async false
set_option linter.all false
set_option maxRecDepth 100000
set_option genSizeOf false
local macro_rules
 | `(tactic| omega)=> `(tactic| first | lia | omega (splitDisjunctions:=true))
universe u
open _root_ renaming Nat→AA,String→AE,Option→AH,Bool→AL,if_pos→AM,if_neg→AO,Array→AS,congrArg→AW,decide_eq_true→An,False→As,of_decide_eq_true→BC,decide_eq_false→B5,beq_iff_eq→CZ,Unit→Ek,True→FG,if_false→Fe,if_true→G0,beq_self_eq_true→G3,bne_iff_ne→Ho,Char→Ir,dif_pos→I1,beq_eq_false_iff_ne→J0,decide_eq_true_iff→Li,Decidable→Nn,ForInStep→OW,bne_self_eq_false→ZW,decide_eq_decide→ZY,eq_false_of_ne_true→Zt
open PySem renaming Value→AB,Addr→AD,Shared→AF,wpAny_bind→AG,wpAny_pure→AN,wpAny→AP,Heap→AQ,model→AU,World→Ae,Around→Aq,Program→Ar,cLine→Av,Pos→Ax,Env→A0,wpAny_ite_split→A5,Builtin→BW,DictEntry→Be,wpAny_holding→Bj,sysModules→B6,Sem→CH,rawInt→CK,Stmt→CL,mainGlobals→CX,wpAny_mono→Cb,cellsFrom→Cw,Scope→DL,starEach→DW,wpAny_rule→Dc,sizeLine→Dd,IsPair→Df,eval→Dl,wpAny_call_entry→Dq,wpAny_standAt→Du,backTo→Dv,Data→EN,pyNext→EU,Model→Ej,sizeLine_eq→Ep,wpAny_setState_of→Er,codeAny→Es,Comprehension→Eu,wpAny_setField→Fn,NameKind→Fo,stored→GH,pyIter→GP,intKind→G2,wpAny_callSpecial?_slot→G5,wpAny_field→G6,Result→HD,codeAny_builtin→HE,IsZip→HF,wpAny_truthy_bool→Hp,wpAny_newObj_type→Hr,pickOrder→IE,builtinsNs→Iw,valueAt→Iy,wpAny_typeOf→I3,plainId_quiet→JC,swapsWith→JE,standAt→JF,FuncData→JH,spliced→JI,wpAny_forIn_list→J2,wpAny_dictEntries→J3,ItemOn→J4,call_meets→J8,wpAny_pyIter_list→J9,ofAClassStatement→KH,letOwnedTupleGo→KP,wpAny_seqItems→KQ,wpAny_assignInOrder_more→KR,notedBy→KS,dictGet→Ll,binaryOp→Lm,typeLookup_type→Lq,typeOf→Lr,wpAny_notOrdered_dict→Ls,collect→Lw,seqItems?→Lx,wpAny_load→Ly,relabel→MA,wpAny_items_cons→MC,behindInMarks→MD,bootBuiltins→MI,treeTable→MJ,bindName→Nq,wpAny_dictEpoch→Nv,dictSet→Nw,concat_meets→Ny,wpAny_specialOf→Nz,getItem→N5,wpAny_sequenceKey→N6,typeIs_str→N7,typeLookup→OB,builtinLookup_eq_fast→OC,setItem→OF,hashByValue→OX,setAddHashed→OY,wpAny_storeSet_of→OZ,setScanFrom→Oa,wpAny_setEpoch_of→Ob,wpAny_pyNext_list_end→Oe,wpAny_pyNext_list_item→Of,wpAny_of_eq→Og,wpAny_askSetting→Oh,wpAny_attempt→Oi,setField→Oj,wpAny_isInstance→Ol,holding→Oq,wpAny_setField_rec→Ot,compPost→Oy,callWith→Oz,wpAny_items_nil→O1,ClassData→PD,wpAny_updateDictKeys→R0,dictSetDefault→R3,noFill_tuple_add→R5,seq_tuple_add→R6,slot_dict_contains→SE,compareOp→SF,slot_dict_getitem→SH,wpAny_letGo→SP,wpAny_newTuple→SY,setAddHashedIn→Sj,unsupported→Sl,codeAny_of_tree→Sn,isSubtype_type→Sp,isSubtype_stop→Sr,wpAny_updateSeq→Sv,wpAny_typeNameOfWhole_keyiter→Sx,wpAny_typeNameOf_keyiter→Sy,wpAny_assignInOrder_none→S6,foldedSetIterable→S9,wpAny_isTrue_BoolOp→TC,unpackItems→TF,wpAny_execs_nil→TG,swappedStores→TH,importedModules→TR,wpAny_pyHash_int→Yo,wpAny_pyHash_str→Yp,wpAny_eqBool_int→Yq,wpAny_eqBool_str→Yr,eqIsQuiet_byValue→Ys,list_getitem_lookup→Yz,slot_list_setitem→ZL,slot_dict_setitem→ZM,searchCouldBeSeen→Zn,wpAny_pyIter_slot→Zz,wpAny_isOneOf_keyiter→Z7,wpAny_pyIter_keyiter→aA,getattributeRaised→aB,wpAny_pyIter_enum→aF,wpAny_updateSeq_pair→aG,wpAny_pyIter_zip→aK,pushCells_keeps→aM,callWith_type→aR,wpAny_Call_NameR→aT,wpAny_Constant_str→aU,wpAny_allTrue_And_cons→aW,wpAny_allTrue_Or_cons→aX
open PySem.Str renaming ofString→AK,ofString_eq_toList→FY
open Nat renaming le_trans→AR,le_refl→Aj,zero_le→BL,ne_of_lt→BP,le_of_lt_succ→Bf,lt_of_lt_of_le→Bg,le_add_right→Bh,lt_of_le_of_lt→Bi,le_of_eq→Bk,le_of_lt→B7,zero_add→CI,succ_le_succ→CJ,not_lt_zero→CR,lt_irrefl→CY,lt_succ_of_lt→Cv,le_of_succ_le→DT,succ_pos→DV,lt_succ_self→DZ,le_of_not_lt→Ds,add_le_add_left→ES,add_le_add→ET,lt_trans→Eo,le_succ→Et,add_le_add_right→FD,lt_succ_of_le→FE,add_sub_of_le→Fb,not_lt_of_le→Fh,ne_of_gt→Fm,mul_le_mul_left→Ft,add_comm→GF,lt_of_succ_lt_succ→GO,beq→Gw,add_assoc→G4,sub_add_cancel→G8,lt_of_le_of_ne→G9,sub_lt→Hv,mod_lt→H4,le_antisymm→Iu,lt_or_eq_of_le→Iz,one_pos→I5,succ_add_eq_add_succ→I6,le_succ_of_le→I7,succ→Jx,eq_of_beq_eq_true→J1,min_eq_left→J6,sub_self→KD,lt_succ_iff_lt_or_eq→KY,min_self→Lh,le_sub_one_of_lt→Lu,lt_or_ge→Np,min_eq_right→N8,sub_le→OH,lt_add_of_pos_right→OI,succ_lt_succ→OJ,max_eq_left→OK,zero_lt_two→ON,lt_trichotomy→OQ,add_sub_cancel_left→OT,le_of_succ_le_succ→OU,not_lt→SO,min_le_right→SU,sub_le_sub_left→SV,le_zero→SW,add_lt_add_left→Sf,succ_ne_self→TB,max_eq_right→TQ,lt_of_lt_of_eq→Yk,sub_pos_of_lt→ZE,exists_eq_add_of_le→Zj,lt_of_add_lt_add_left→Zk,lt_sub_iff_add_lt'→Zo,sub_lt_sub_left→Zp,succ_ne_zero→Zy,le_of_ble_eq_true→ao,pow_le_pow_right→aq
open Option.some renaming inj→AV,injEq→Jy
open List renaming length_map→AY,range→Ab,mem_cons_self→Ah,mem_cons→Ak,mem_cons_of_mem→Am,length_append→Au,mem_singleton→Aw,mem_map→Ay,getElem?_eq_some_iff→BA,mem_append→BD,all_eq_true→BE,map_cons→BF,map_append→BS,getElem?_eq_getElem→Ba,append_nil→Bo,mem_of_getElem?→Bx,map_map→CQ,mem_range→Ca,length_cons→Co,take_length→Cr,getElem?_append_left→C6,map_congr_left→DE,length_range→DK,nodup_cons→DS,getElem?_map→DU,not_mem_nil→Dm,append_assoc→Dt,mem_append_left→D7,mem_append_right→D8,getD_eq_getElem?_getD→EO,nodup_nil→El,isEmpty_iff→Em,getElem?_toArray→En,mem_filter→Ew,length_take→FC,getElem_mem→Ff,mem_filterMap→Fg,pairwise_cons→Fl,length_filter_le→Fs,nodup_append→GD,map→GG,contains_iff_mem→GK,length_singleton→GR,length_set→Gz,all_map→G1,forall_mem_cons→G7,getElem?_append_right→Hx,filterMap_cons_some→H6,lookup_cons→IF,filter_append→IG,flatMap_append→IH,filter_cons_of_pos→II,getElem?_concat_length→Iv,take_append_drop→JA,forall_mem_singleton→JJ,sum_cons→JK,length→Jw,getElem?_set_ne→Jz,toArray→J5,drop_of_length_le→J7,forIn_cons→KL,drop_eq_getElem_cons→KN,filter_cons_of_neg→KX,exists_cons_of_length_eq_add_one→KZ,getElem?_of_mem→Lg,cons_append→Lk,length_eq_zero_iff→Ln,map_take→Lp,perm_middle→Lz,getElem?_eq_none→L4,any_eq_true→L5,getElem?_eq_none_iff→L7,casesOn→L9,length_nil→ME,filter_eq_self→MF,eq_nil_iff_forall_not_mem→MG,range'→Nu,getElem?_set_self→OD,getElem_map→OP,filterMap_cons_none→OV,ext_getElem?→Oo,filterMap_cons→Ov,take_add_one→O4,filter_cons→O5,map_singleton→O7,mem_flatMap→O8,filter_map→PA,zipIdx_append→PB,length_zipIdx→PC,drop_nil→Rm,getElem?_set→Ro,mem_toArray→Rp,size_toArray→Rq,map_eq_nil_iff→Rw,filter_eq_nil_iff→Rx,append_toArray→SA,any_map→SG,getD→SQ,mem_of_mem_take→SS,getElem_range→Sa,length_take_of_le→Sd,length_drop→Se,range_succ→Sg,map_drop→Sh,eq_nil_of_length_eq_zero→Ss,mem_reverse→S7,pairwise_append→S8,any_cons→TA,map_id→TK,eq_nil_or_concat→TL,concat_eq_append→TM,ne_nil_of_mem→TN,map_inj_right→Ye,getElem?_inj→Yi,pairwise_singleton→Yj,range_succ_eq_map→Yl,map_fst_zip→Ym,length_zip→Yn,length_take_le'→Y0,dropLast_eq_take→ZC,range'_succ→ZF,findIdx?_map→ZG,push_toArray→ZJ,sum_append→ZN,getElem_of_mem→ZO,take_of_length_le→ZP,Perm→ZR,Pairwise→ZS,zip_nil_right→ZZ,ext_getElem→Za,pairwise_iff_getElem→Zb,getElem?_cons_succ→Zd,getElem?_drop→Ze,length_pos_of_mem→Zh,perm_append_singleton→Zl,forIn_toArray→Zm,foldl_cons→Zr,pairwise_lt_range→Zs,length_eraseIdx_of_lt→Zx,lookup_eq_none_iff→aL,lookup_append→aN,getElem?_cons_zero→aY,append_inj_left'→aZ,length_filterMap_le→ae,append_eq_nil_iff→af,append_of_mem→ai,flatMap_singleton→aj
open Bool renaming and_eq_true_iff→Ac,false_ne_true→DD,or_eq_true_iff→DH,and_eq_true→De,false_eq_true→Fc,or_eq_true→JD,eq_false_iff→KU,and_false→Nt,eq_iff_iff→Rv,not_true→Ry,or_false→TJ,not_eq_true'→aV
open PySem.Heap renaming get?_push_of_some→Az,lt_size→BQ,get?_push_size→Bb,SameBut→C7,size_push→Dr,ExtBut→FF,get?_update_self→GI,get?_update_ne→OM,get?_push_ne→ZT,size_update→ZU
open PySem.SetTable renaming bits→BM,below→BX,insertAt→B8,Probe→DI,runEnd→DJ,turns→HC,leap→Hy,grown→JB,toList_insertAt→Zc
open Ne renaming symm→Bq
open Nat.succ renaming inj→CC
open PySem.SeqAt renaming EqAt→Cp,RcAt→FA,RcNeAt→FZ
open Eq renaming symm→Cq
open PySem.Heap.SameBut renaming update→DF,refl→Sk
open PySem.Obj renaming mapSeq→DG,mk→GJ,putSet→IB,mapFields→L6,data_mapFields→Om,mapDictKeys→Rz,isFreed_of_fields→Z8,cls_mapFields→Z9
open Int renaming toNat_natCast→DM,ofNat→GS,natCast_nonneg→Hq,le_refl→I4,add_nonneg→KW,ofNat_le→Lo,add_le_add→MH,not_lt→OA,le_trans→OG,mul_nonneg→O9,ofNat_lt→R4,le_of_lt→SD,mul_le_mul_of_nonneg_left→TP,emod_nonneg→Zf,emod_lt_of_pos→Zg
open Option renaming map_eq_some_iff→Dn,isNone_iff_eq_none→Dz,map→IA,bind_some→KV,isSome_iff_exists→MB,bind→OE,map_some→ah
open PyProof.Rows renaming seqObj→D9,get?_update_seq→Lv,iter_tuple→L8,sortedHeap→SX,slot_tupleiter_next→aE
open Array renaming length_toList→EP,getD→GN,getElem?_toList→Hw,getElem?_eq_getElem→I0,getD_eq_getD_getElem?→KA,getElem?_eq_some_iff→OS,replicate→Si,getElem_mem→Yt,eraseIdxIfInBounds→Yv,perm_iff_toList_perm→ZQ,mem_toList_iff→Zq,getElem?_eq_none_iff→Zv,getElem?_modify→aO
open List.Perm renaming refl→Fj,swap→OL,of_eq→OO
open PySem.NameKind renaming free→Fq,cell→GQ
open Char renaming toNat→GC
open String renaming ofList→Gx,toList_append→O0,toList_inj→Yh
open PySem.Value renaming type→Gy,ref→Hs,none→I2,str→Ru
open PySem.Around renaming under_plainId→IC
open PySem.F renaming called_set→ID,slot_zip_next→Ou,slot_tuple_add→R7,entry_tuple_add→R8,args_tuple_add_2→R9,plainAttrs_list→SJ,slot_list_append→SK,plainAttrs_dict→SN,plain_extend_loop→Su,slot_dict_keyiterator_next→Sw,slot_list_getattribute→Sz,slot_tuple_getitem→Yx,slot_str_getitem→Yy,slot_tuple_index→Y4,slot_str_isspace→Y5,slot_list_extend→Y6,slot_list_pop→Y7,slot_dict_setdefault→Y8,slot_dict_get→Y9,slot_dict_pop→ZA,entry_list_append→ZH,args_list_append_2→ZI,plain_set_new→Zw,plain_list_iadd→Z1,slot_dict_iter→Z5,entry_zip_next→aI,args_zip_next_1→aJ
open Prod renaming ext→I8,fst→Lj
open PySem.SetTable.probe renaming go→I9
open PySem.Env renaming kindOf→JG
open List.Pairwise renaming nil→KC
open PySem.SetTable.layClean renaming free→KG
open PySem.SeqAt.EqAt renaming of_refs→Nr,int_str→Rr,str_int→Rt
open PySem.Builtin.Slice renaming slicePlaces→N9,sliceAdjust→SI,sliceApplied→Y3
open ForInStep renaming yield→Ow
open And renaming intro→Ox
open PySem.swapsWith renaming match_6→O3
open Iff renaming rfl→O6
open PySem.Builtin.Str renaming occurrences→Rj
open PySem.Unicode renaming isSpace→Rl
open PyProof.Rows.F renaming plain_set_update_loop→Sm,entry_set_update_loop→Zu
open PySem.Shared renaming TypeIs→So,heap→S4
open PySem.Fin renaming done→Sq
open PySem.Builtin.SmallTypes renaming nextOf→S1,ownedTupleHandOut→aH
open UInt32 renaming toNat_inj→Yg
open PySem.Builtin.Dict renaming takeOut→Yu,showsAll→Z6,updateFrom→aC
open PySem.Builtin.Int renaming intBits→Yw
open Std.Legacy renaming Range→ZD
open PySem.Builtin.List renaming listTooLong→ZK,listUpdate→ZV,listExtendWith→Z2,listSameRef→Z3,listTouch→Z4
open PySem.W renaming BoolBack→ZX
open Classical renaming byContradiction→Zi
open PySem.Builtin.Frozenset renaming sizeOf→Z0
open PySem.Calls renaming Name_function_global→aP,callWith_function→aQ,callWith_builtin→aS
namespace Mine
theorem xF{P:Prop}(h:false=true):P:=nomatch h
theorem xT{P:Prop}(h:true=false):P:=nomatch h
theorem xN{α:Type}{a:α}{P:Prop}(h:none=some a):P:=nomatch h
theorem xS{α:Type}{a:α}{P:Prop}(h:some a=none):P:=nomatch h
theorem xM{α:Type}{a:α}{P:Prop}(h:a∈[]):P:=nomatch h
theorem xC{α:Type}{a:α}{l:List α}{P:Prop}(h:a::l=[]):P:=nomatch h
theorem xD{α:Type}{a:α}{l:List α}{P:Prop}(h:[]=a::l):P:=nomatch h
@[elab_as_elim] theorem rwl {α:Type} {m:α→Prop} {a b:α} (h:a=b) (p:m b):m a:=h.symm▸p
@[elab_as_elim] theorem rwr {α:Type} {m:α→Prop} {a b:α} (h:a=b) (p:m a):m b:=h▸p
@[elab_as_elim] theorem rwi {m:Prop→Prop} {a b:Prop} (h:a↔b) (p:m b):m a:=propext h▸p
@[elab_as_elim] theorem gen {α:Type} {P:α→Prop} (e:α) (h:∀x,P x):P e:=h e
end Mine
namespace Mine
theorem exE{α:Sort u}{p:α→Prop}{g:Prop}(h:∃x,p x)(k:∀x,p x→g):g:=let⟨x,h⟩:=h;k x h
theorem Bs{a b g:Prop}(h:a∧b)(f:a→b→g):g:=f h.1 h.2
theorem A7{a0 a1 a2:Prop}{g:Prop}(h:a0∧a1∧a2)(f:a0→a1→a2→g):g:=f h.1 h.2.1 h.2.2
theorem Jk{a0 a1 a2 a3:Prop}{g:Prop}(h:a0∧a1∧a2∧a3)(f:a0→a1→a2→a3→g):g:=f h.1 h.2.1 h.2.2.1 h.2.2.2
theorem QK{a0 a1 a2 a3 a4:Prop}{g:Prop}(h:a0∧a1∧a2∧a3∧a4)(f:a0→a1→a2→a3→a4→g):g:=f h.1 h.2.1 h.2.2.1 h.2.2.2.1 h.2.2.2.2
theorem e0_6{a0 a1 a2 a3 a4 a5:Prop}{g:Prop}(h:a0∧a1∧a2∧a3∧a4∧a5)(f:a0→a1→a2→a3→a4→a5→g):g:=f h.1 h.2.1 h.2.2.1 h.2.2.2.1 h.2.2.2.2.1 h.2.2.2.2.2
theorem AJ{α0:Type}{a0 a1:α0→Prop}{g:Prop}(h:∃x0:α0,a0 x0∧a1 x0)(f:∀x0:α0,a0 x0→a1 x0→g):g:=h.elim λx0 h=>f x0 h.1 h.2
theorem Al{α0:Type}{a0 a1 a2:α0→Prop}{g:Prop}(h:∃x0:α0,a0 x0∧a1 x0∧a2 x0)(f:∀x0:α0,a0 x0→a1 x0→a2 x0→g):g:=h.elim λx0 h=>f x0 h.1 h.2.1 h.2.2
theorem DC{α0:Type}{a0 a1 a2 a3:α0→Prop}{g:Prop}(h:∃x0:α0,a0 x0∧a1 x0∧a2 x0∧a3 x0)(f:∀x0:α0,a0 x0→a1 x0→a2 x0→a3 x0→g):g:=h.elim λx0 h=>f x0 h.1 h.2.1 h.2.2.1 h.2.2.2
theorem RG{α0:Type}{a0 a1 a2 a3 a4:α0→Prop}{g:Prop}(h:∃x0:α0,a0 x0∧a1 x0∧a2 x0∧a3 x0∧a4 x0)(f:∀x0:α0,a0 x0→a1 x0→a2 x0→a3 x0→a4 x0→g):g:=h.elim λx0 h=>f x0 h.1 h.2.1 h.2.2.1 h.2.2.2.1 h.2.2.2.2
theorem e1_6{α0:Type}{a0 a1 a2 a3 a4 a5:α0→Prop}{g:Prop}(h:∃x0:α0,a0 x0∧a1 x0∧a2 x0∧a3 x0∧a4 x0∧a5 x0)(f:∀x0:α0,a0 x0→a1 x0→a2 x0→a3 x0→a4 x0→a5 x0→g):g:=h.elim λx0 h=>f x0 h.1 h.2.1 h.2.2.1 h.2.2.2.1 h.2.2.2.2.1 h.2.2.2.2.2
theorem CU{α0 α1:Type}{a0:α0→α1→Prop}{g:Prop}(h:∃x0:α0,∃x1:α1,a0 x0 x1)(f:∀x0:α0,∀x1:α1,a0 x0 x1→g):g:=h.elim λx0 h=>h.elim λx1 h=>f x0 x1 h
theorem A6{α0 α1:Type}{a0 a1:α0→α1→Prop}{g:Prop}(h:∃x0:α0,∃x1:α1,a0 x0 x1∧a1 x0 x1)(f:∀x0:α0,∀x1:α1,a0 x0 x1→a1 x0 x1→g):g:=h.elim λx0 h=>h.elim λx1 h=>f x0 x1 h.1 h.2
theorem BO{α0 α1:Type}{a0 a1 a2:α0→α1→Prop}{g:Prop}(h:∃x0:α0,∃x1:α1,a0 x0 x1∧a1 x0 x1∧a2 x0 x1)(f:∀x0:α0,∀x1:α1,a0 x0 x1→a1 x0 x1→a2 x0 x1→g):g:=h.elim λx0 h=>h.elim λx1 h=>f x0 x1 h.1 h.2.1 h.2.2
theorem BV{α0 α1:Type}{a0 a1 a2 a3:α0→α1→Prop}{g:Prop}(h:∃x0:α0,∃x1:α1,a0 x0 x1∧a1 x0 x1∧a2 x0 x1∧a3 x0 x1)(f:∀x0:α0,∀x1:α1,a0 x0 x1→a1 x0 x1→a2 x0 x1→a3 x0 x1→g):g:=h.elim λx0 h=>h.elim λx1 h=>f x0 x1 h.1 h.2.1 h.2.2.1 h.2.2.2
theorem Ld{α0 α1:Type}{a0 a1 a2 a3 a4:α0→α1→Prop}{g:Prop}(h:∃x0:α0,∃x1:α1,a0 x0 x1∧a1 x0 x1∧a2 x0 x1∧a3 x0 x1∧a4 x0 x1)(f:∀x0:α0,∀x1:α1,a0 x0 x1→a1 x0 x1→a2 x0 x1→a3 x0 x1→a4 x0 x1→g):g:=h.elim λx0 h=>h.elim λx1 h=>f x0 x1 h.1 h.2.1 h.2.2.1 h.2.2.2.1 h.2.2.2.2
theorem Qs{α0 α1:Type}{a0 a1 a2 a3 a4 a5:α0→α1→Prop}{g:Prop}(h:∃x0:α0,∃x1:α1,a0 x0 x1∧a1 x0 x1∧a2 x0 x1∧a3 x0 x1∧a4 x0 x1∧a5 x0 x1)(f:∀x0:α0,∀x1:α1,a0 x0 x1→a1 x0 x1→a2 x0 x1→a3 x0 x1→a4 x0 x1→a5 x0 x1→g):g:=h.elim λx0 h=>h.elim λx1 h=>f x0 x1 h.1 h.2.1 h.2.2.1 h.2.2.2.1 h.2.2.2.2.1 h.2.2.2.2.2
theorem GW{α0 α1 α2:Type}{a0:α0→α1→α2→Prop}{g:Prop}(h:∃x0:α0,∃x1:α1,∃x2:α2,a0 x0 x1 x2)(f:∀x0:α0,∀x1:α1,∀x2:α2,a0 x0 x1 x2→g):g:=h.elim λx0 h=>h.elim λx1 h=>h.elim λx2 h=>f x0 x1 x2 h
theorem Mg{α0 α1 α2:Type}{a0 a1 a2:α0→α1→α2→Prop}{g:Prop}(h:∃x0:α0,∃x1:α1,∃x2:α2,a0 x0 x1 x2∧a1 x0 x1 x2∧a2 x0 x1 x2)(f:∀x0:α0,∀x1:α1,∀x2:α2,a0 x0 x1 x2→a1 x0 x1 x2→a2 x0 x1 x2→g):g:=h.elim λx0 h=>h.elim λx1 h=>h.elim λx2 h=>f x0 x1 x2 h.1 h.2.1 h.2.2
theorem Gq{α0 α1 α2:Type}{a0 a1 a2 a3:α0→α1→α2→Prop}{g:Prop}(h:∃x0:α0,∃x1:α1,∃x2:α2,a0 x0 x1 x2∧a1 x0 x1 x2∧a2 x0 x1 x2∧a3 x0 x1 x2)(f:∀x0:α0,∀x1:α1,∀x2:α2,a0 x0 x1 x2→a1 x0 x1 x2→a2 x0 x1 x2→a3 x0 x1 x2→g):g:=h.elim λx0 h=>h.elim λx1 h=>h.elim λx2 h=>f x0 x1 x2 h.1 h.2.1 h.2.2.1 h.2.2.2
theorem Ik{α0 α1 α2:Type}{a0 a1 a2 a3 a4:α0→α1→α2→Prop}{g:Prop}(h:∃x0:α0,∃x1:α1,∃x2:α2,a0 x0 x1 x2∧a1 x0 x1 x2∧a2 x0 x1 x2∧a3 x0 x1 x2∧a4 x0 x1 x2)(f:∀x0:α0,∀x1:α1,∀x2:α2,a0 x0 x1 x2→a1 x0 x1 x2→a2 x0 x1 x2→a3 x0 x1 x2→a4 x0 x1 x2→g):g:=h.elim λx0 h=>h.elim λx1 h=>h.elim λx2 h=>f x0 x1 x2 h.1 h.2.1 h.2.2.1 h.2.2.2.1 h.2.2.2.2
theorem QQ{α0 α1 α2:Type}{a0 a1 a2 a3 a4 a5 a6:α0→α1→α2→Prop}{g:Prop}(h:∃x0:α0,∃x1:α1,∃x2:α2,a0 x0 x1 x2∧a1 x0 x1 x2∧a2 x0 x1 x2∧a3 x0 x1 x2∧a4 x0 x1 x2∧a5 x0 x1 x2∧a6 x0 x1 x2)(f:∀x0:α0,∀x1:α1,∀x2:α2,a0 x0 x1 x2→a1 x0 x1 x2→a2 x0 x1 x2→a3 x0 x1 x2→a4 x0 x1 x2→a5 x0 x1 x2→a6 x0 x1 x2→g):g:=h.elim λx0 h=>h.elim λx1 h=>h.elim λx2 h=>f x0 x1 x2 h.1 h.2.1 h.2.2.1 h.2.2.2.1 h.2.2.2.2.1 h.2.2.2.2.2.1 h.2.2.2.2.2.2
theorem e3_8{α0 α1 α2:Type}{a0 a1 a2 a3 a4 a5 a6 a7:α0→α1→α2→Prop}{g:Prop}(h:∃x0:α0,∃x1:α1,∃x2:α2,a0 x0 x1 x2∧a1 x0 x1 x2∧a2 x0 x1 x2∧a3 x0 x1 x2∧a4 x0 x1 x2∧a5 x0 x1 x2∧a6 x0 x1 x2∧a7 x0 x1 x2)(f:∀x0:α0,∀x1:α1,∀x2:α2,a0 x0 x1 x2→a1 x0 x1 x2→a2 x0 x1 x2→a3 x0 x1 x2→a4 x0 x1 x2→a5 x0 x1 x2→a6 x0 x1 x2→a7 x0 x1 x2→g):g:=h.elim λx0 h=>h.elim λx1 h=>h.elim λx2 h=>f x0 x1 x2 h.1 h.2.1 h.2.2.1 h.2.2.2.1 h.2.2.2.2.1 h.2.2.2.2.2.1 h.2.2.2.2.2.2.1 h.2.2.2.2.2.2.2
theorem RL{α0 α1 α2 α3:Type}{a0 a1:α0→α1→α2→α3→Prop}{g:Prop}(h:∃x0:α0,∃x1:α1,∃x2:α2,∃x3:α3,a0 x0 x1 x2 x3∧a1 x0 x1 x2 x3)(f:∀x0:α0,∀x1:α1,∀x2:α2,∀x3:α3,a0 x0 x1 x2 x3→a1 x0 x1 x2 x3→g):g:=h.elim λx0 h=>h.elim λx1 h=>h.elim λx2 h=>h.elim λx3 h=>f x0 x1 x2 x3 h.1 h.2
theorem RA{α0 α1 α2 α3:Type}{a0 a1 a2 a3 a4:α0→α1→α2→α3→Prop}{g:Prop}(h:∃x0:α0,∃x1:α1,∃x2:α2,∃x3:α3,a0 x0 x1 x2 x3∧a1 x0 x1 x2 x3∧a2 x0 x1 x2 x3∧a3 x0 x1 x2 x3∧a4 x0 x1 x2 x3)(f:∀x0:α0,∀x1:α1,∀x2:α2,∀x3:α3,a0 x0 x1 x2 x3→a1 x0 x1 x2 x3→a2 x0 x1 x2 x3→a3 x0 x1 x2 x3→a4 x0 x1 x2 x3→g):g:=h.elim λx0 h=>h.elim λx1 h=>h.elim λx2 h=>h.elim λx3 h=>f x0 x1 x2 x3 h.1 h.2.1 h.2.2.1 h.2.2.2.1 h.2.2.2.2
theorem e5_1{α0 α1 α2 α3 α4:Type}{a0:α0→α1→α2→α3→α4→Prop}{g:Prop}(h:∃x0:α0,∃x1:α1,∃x2:α2,∃x3:α3,∃x4:α4,a0 x0 x1 x2 x3 x4)(f:∀x0:α0,∀x1:α1,∀x2:α2,∀x3:α3,∀x4:α4,a0 x0 x1 x2 x3 x4→g):g:=h.elim λx0 h=>h.elim λx1 h=>h.elim λx2 h=>h.elim λx3 h=>h.elim λx4 h=>f x0 x1 x2 x3 x4 h
theorem e5_4{α0 α1 α2 α3 α4:Type}{a0 a1 a2 a3:α0→α1→α2→α3→α4→Prop}{g:Prop}(h:∃x0:α0,∃x1:α1,∃x2:α2,∃x3:α3,∃x4:α4,a0 x0 x1 x2 x3 x4∧a1 x0 x1 x2 x3 x4∧a2 x0 x1 x2 x3 x4∧a3 x0 x1 x2 x3 x4)(f:∀x0:α0,∀x1:α1,∀x2:α2,∀x3:α3,∀x4:α4,a0 x0 x1 x2 x3 x4→a1 x0 x1 x2 x3 x4→a2 x0 x1 x2 x3 x4→a3 x0 x1 x2 x3 x4→g):g:=h.elim λx0 h=>h.elim λx1 h=>h.elim λx2 h=>h.elim λx3 h=>h.elim λx4 h=>f x0 x1 x2 x3 x4 h.1 h.2.1 h.2.2.1 h.2.2.2
end Mine
namespace Mine
open PySem
@[elab_as_elim] theorem MN {α:Type} {P:α→Prop} (e:α) (h:∀x,e=x→P x):P e:=h e rfl
theorem LB{b:AL}(h:(!b)=true):b=false:=by
 cases b with
 | false=>rfl
 | true=>exact xF h
inductive V where
 | none
 | bool (b:AL)
 | int (i:Int)
 | str (s:AE)
 | tup (l:List V)
 | ref (n:AA)
inductive O where
 | list (xs:List V)
 | dict (es:List (V×V)) (ep:AA)
 | set (xs:List V)
 | inst (c:AE)
 | ns (fs:List (AE×V))
 | priv
 | fro (x:Obj) (xs:List V)
noncomputable abbrev St:=List O
noncomputable abbrev Env:=AE→AH V
inductive BOp where
 | add | sub | mul | mod
inductive COp where
 | eq | ne | lt | le | gt | inn | nin | isn
set_option genCtorIdx false
set_option genInjectivity false
mutual
inductive CE where
 | cnone
 | cbool (b:AL)
 | cint (i:Int)
 | cstr (s:AE)
 | name (x:AE)
 | gname (x:AE)
 | bin (op:BOp) (l r:CE)
 | cmp (l:CE) (op:COp) (r:CE)
 | cmp2 (l:CE) (op:COp) (m:CE) (op2:COp) (r:CE)
 | andB (l r:CE)
 | orB (l r:CE)
 | notB (e:CE)
 | ite (t b o:CE)
 | callf (f:AE) (args:List CE)
 | callm (o:CE) (m:AE) (args:List CE)
 | attr (o:CE) (a:AE)
 | sub (o i:CE)
 | slice (o:CE) (lo hi:AH CE)
 | tuple (es:List CE)
 | list (es:List CE)
 | dict (ks:List AE) (vs:List CE)
 | comp (elt:CE) (gens:List Gen)
inductive It where
 | plain (e:CE)
 | range (e:CE)
 | enum (e:CE)
 | zip (a b:CE)
inductive Gen where
 | mk (t:List AE) (it:It) (ifs:List CE)
end
inductive Tgt where
 | name (x:AE)
 | tup (xs:List AE)
 | attr (o:CE) (a:AE)
 | sub (o i:CE)
inductive CS where
 | expr (e:CE)
 | assign (t:Tgt) (e:CE)
 | ifs (c:CE) (t f:List CS)
 | whiles (c:CE) (b:List CS)
 | fors (t:List AE) (it:It) (b:List CS)
 | ret (e:CE)
 | bad
structure FnC where
 ps:List AE
 body:List CS
set_option genCtorIdx true
set_option genInjectivity true
section
variable{α:Type}
noncomputable def NY(v:V)(k:List V→AH α):AH α:=match v with
 | .tup l=>k l
 | _=>none
noncomputable def Bw(v:V)(k:Int→AH α):AH α:=match v with
 | .int i=>k i
 | _=>none
noncomputable def UY(v:V)(k:AE→AH α):AH α:=match v with
 | .str x=>k x
 | _=>none
noncomputable def EE(v:V)(k:AA→AH α):AH α:=match v with
 | .ref r=>k r
 | _=>none
noncomputable def bN(v:V)(a b:AH α):AH α:=match v with
 | .bool t=>cond t a b
 | _=>none
noncomputable def M0(l:List V)(k:AH α):AH α:=match l with
 | []=>k
 | _::_=>none
noncomputable def PG(l:List V)(k:V→List V→AH α):AH α:=match l with
 | []=>none
 | x::r=>k x r
noncomputable def IV(l:List V)(k:V→AH α):AH α:=PG l λx r=>M0 r (k x)
noncomputable def LY(l:List V)(k:V→V→AH α):AH α:=PG l λx r=>IV r (k x)
noncomputable def ofO(o:O)(a:List V→AH α)(b:List (V×V)→AA→AH α):AH α:=match o with
 | .list xs=>a xs
 | .dict es ep=>b es ep
 | _=>none
noncomputable def atO(o:AH O)(a:List V→AH α)(b:List (V×V)→AA→AH α):AH α:=o.bind λo=>ofO o a b
noncomputable def atL(o:AH O)(a:List V→AH α):AH α:=atO o a λ_ _=>none
noncomputable def atD(o:AH O)(b:List (V×V)→AA→AH α):AH α:=atO o (λ_=>none) b
variable{r:α}{G:Prop}
theorem no(e:none=some r):G:=xN e
theorem MZ{v:V}{k:List V→AH α}(e:NY v k=some r)(q:∀l,v= .tup l→k l=some r→G):G:=by
 cases v with
 | tup l=>exact q l rfl e
 | _=>exact no e
theorem E9{v:V}{k:Int→AH α}(e:Bw v k=some r)(q:∀l,v= .int l→k l=some r→G):G:=by
 cases v with
 | int l=>exact q l rfl e
 | _=>exact no e
theorem ko{v:V}{k:AE→AH α}(e:UY v k=some r)(q:∀l,v= .str l→k l=some r→G):G:=by
 cases v with
 | str l=>exact q l rfl e
 | _=>exact no e
theorem FT{v:V}{k:AA→AH α}(e:EE v k=some r)(q:∀l,v= .ref l→k l=some r→G):G:=by
 cases v with
 | ref l=>exact q l rfl e
 | _=>exact no e
theorem onBoolE{v:V}{a b:AH α}(e:bN v a b=some r)(q:v= .bool true→a=some r→G)(q':v= .bool false→b=some r→G):G:=by
 cases v with
 | bool t=>cases t with
  | true=>exact q rfl e
  | false=>exact q' rfl e
 | _=>exact no e
theorem Q8{l:List V}{k:AH α}(e:M0 l k=some r)(q:l=[]→k=some r→G):G:=by
 cases l with
 | nil=>exact q rfl e
 | cons _ _=>exact no e
theorem Tq{l:List V}{k:V→List V→AH α}(e:PG l k=some r)(q:∀x m,l=x::m→k x m=some r→G):G:=by
 cases l with
 | nil=>exact no e
 | cons x m=>exact q x m rfl e
theorem Jl{l:List V}{k:V→AH α}(e:IV l k=some r)(q:∀x,l=[x]→k x=some r→G):G:=Tq e λx m h e=>Q8 e λh' e=>q x (h'▸h) e
theorem Kn{l:List V}{k:V→V→AH α}(e:LY l k=some r)(q:∀x y,l=[x,y]→k x y=some r→G):G:=Tq e λx m h e=>Jl e λy h' e=>q x y (h'▸h) e
theorem Hm{o:AH O}{a:List V→AH α}{b:List (V×V)→AA→AH α}(e:atO o a b=some r)(q:∀xs,o=some (.list xs)→a xs=some r→G)(q':∀es n,o=some (.dict es n)→b es n=some r→G):G:=by
 cases o with
 | none=>exact no e
 | some o=>cases o with
  | list xs=>exact q xs rfl e
  | dict es n=>exact q' es n rfl e
  | _=>exact no e
theorem FL{o:AH O}{a:List V→AH α}(e:atL o a=some r)(q:∀xs,o=some (.list xs)→a xs=some r→G):G:=Hm e q λ_ _ _ e=>no e
theorem WQ{o:AH O}{b:List (V×V)→AA→AH α}(e:atD o b=some r)(q:∀es n,o=some (.dict es n)→b es n=some r→G):G:=Hm e (λ_ _ e=>no e) q
theorem gdE{c:Prop} [Nn c]{x:AH α}(e:(if c then x else none)=some r)(q:c→x=some r→G):G:=by
 by_cases h:c
 ·exact q h ((AM h).symm.trans e)
 ·exact no ((AO h).symm.trans e)
theorem Dh{c:Prop} [Nn c]{x y:AH α}(e:(if c then x else y)=some r)(q:c→x=some r→G)(q':¬c→y=some r→G):G:=by
 by_cases h:c
 ·exact q h ((AM h).symm.trans e)
 ·exact q' h ((AO h).symm.trans e)
theorem Bn{β:Type}{x:AH β}{f:β→AH α}(e:x.bind f=some r)(q:∀a,x=some a→f a=some r→G):G:=by
 cases x with
 | none=>exact no e
 | some a=>exact q a rfl e
theorem bnd{β γ:Type}{x:AH (β×γ)}{f:β×γ→AH α}(e:x.bind f=some r)(q:∀a b,x=some (a,b)→f (a,b)=some r→G):G:=Bn e λ⟨a,b⟩ h e=>q a b h e
theorem Hg{β:Type}{x:AH β}{f:β→α}(e:x.map f=some r)(q:∀a,x=some a→f a=r→G):G:=by
 cases x with
 | none=>exact no e
 | some a=>exact q a rfl (AV e)
theorem got{β:Type}{a c:α}{b d:β}{P:α→β→Prop}(e:some (a,b)=some (c,d))(h:P c d):P a b:=by cases e;exact h
theorem some_eq{a b:α}{P:α→Prop}(e:some a=some b)(h:P b):P a:=by(replace e:=AV e;subst e);exact h
end
noncomputable def V.isNone:V→AL
 | .none=>true
 | _=>false
noncomputable def V.isB(a:AL):V→AL
 | .bool b=>a==b
 | _=>false
noncomputable def V.isI(a:Int):V→AL
 | .int b=>decide (a=b)
 | _=>false
noncomputable def V.isS(a:AE):V→AL
 | .str b=>decide (a=b)
 | _=>false
noncomputable def V.isT(f:List V→AL):V→AL
 | .tup b=>f b
 | _=>false
noncomputable def V.isR(a:AA):V→AL
 | .ref b=>Gw a b
 | _=>false
noncomputable def NF{β:Type}(f:β→List β→AL):List β→AL
 | []=>false
 | b::bs=>f b bs
mutual
noncomputable def V.beq:V→V→AL
 | .none=>V.isNone
 | .bool a=>V.isB a
 | .int a=>V.isI a
 | .str a=>V.isS a
 | .tup a=>V.isT (V.beqL a)
 | .ref a=>V.isR a
noncomputable def V.beqL:List V→List V→AL
 | []=>List.isEmpty
 | a::as=>NF λb bs=>V.beq a b&&V.beqL as bs
end
noncomputable def V.atom:V→AL
 | .int _=>true
 | .str _=>true
 | _=>false
noncomputable def V.simple:V→AL
 | .tup l=>l.all V.atom
 | a=>a.atom
noncomputable def V.isInt:V→AL
 | .int _=>true
 | _=>false
noncomputable def V.flatTup:V→AL
 | .tup l=>l.all V.atom
 | _=>false
noncomputable def fits(n:AA):AL:=decide (n≤100000)
mutual
noncomputable def ltV:V→V→AL
 | .int a,y=>match y with
  | .int b=>decide (a<b)
  | _=>false
 | .str a,y=>match y with
  | .str b=>decide (a.toList.map GC<b.toList.map GC)
  | _=>false
 | .tup a,y=>V.isT (ltL a) y
 | _,_=>false
noncomputable def ltL:List V→List V→AL
 | [],m=>!m.isEmpty
 | a::as,m=>NF (λb bs=>if V.beq a b then ltL as bs else ltV a b) m
end
noncomputable def V.isAnyS:V→AL
 | .str _=>true
 | _=>false
noncomputable def DA(a b:V):AL:=a.isInt&&b.isInt||a.isAnyS&&b.isAnyS
noncomputable def DN:List V→List V→AL
 | [],_=>true
 | a::as,m=>match m with
  | []=>true
  | b::bs=>DA a b&&DN as bs
noncomputable def Gp(x y:V):AL:=x.isInt&&y.isInt||V.isT (NF λa as=>V.isT (NF λb bs=>DA a b&&DN as bs) y) x
noncomputable def Gd(x:V):List V→List V
 | []=>[x]
 | y::ys=>if ltV y x then y::Gd x ys else x::y::ys
noncomputable def Dj:List V→List V
 | []=>[]
 | x::xs=>Gd x (Dj xs)
noncomputable def BG(x:V)(l:List V):AL:=l.any λy=>V.beq y x
noncomputable def A8:List V→List V→List V
 | acc,[]=>acc
 | acc,x::xs=>if BG x acc then A8 acc xs else A8 (acc++[x]) xs
noncomputable def Ei(xs:List V):AH (List V):=
 if xs.length<64&&xs.all (λx=>xs.all (Gp x)) then some (Dj xs) else none
noncomputable def Aa(k:V):List (V×V)→AH V
 | []=>none
 | (a,v)::r=>if V.beq a k then some v else Aa k r
noncomputable def CD(k v:V):List (V×V)→List (V×V)
 | []=>[(k,v)]
 | (a,w)::r=>if V.beq a k then(a,v)::r else(a,w)::CD k v r
noncomputable def EY(k:V):List (V×V)→List (V×V)
 | []=>[]
 | (a,w)::r=>if V.beq a k then r else(a,w)::EY k r
noncomputable def Ce(a:AE):List (AE×V)→AH V
 | []=>none
 | (b,v)::r=>if b=a then some v else Ce a r
noncomputable def By(a:AE)(v:V):List (AE×V)→List (AE×V)
 | []=>[(a,v)]
 | (b,w)::r=>if b=a then(b,v)::r else(b,w)::By a v r
noncomputable def eqL(f:V→V→AH AL):List V→List V→AH AL
 | [],m=>some m.isEmpty
 | a::as,m=>match m with
  | []=>some false
  | b::bs=>(f a b).bind λe=>(eqL f as bs).bind λr=>some (e&&r)
noncomputable def eqD(f:V→V→AH AL)(es:List (V×V)):List (V×V)→AH AL
 | []=>some true
 | kv::r=>match Aa kv.1 es with
  | none=>some false
  | some w=>(f kv.2 w).bind λe=>(eqD f es r).bind λq=>some (e&&q)
noncomputable def eqR:AA→St→V→V→AH AL
 | 0,_,_,_=>none
 | n+1,s,a,b=>match a with
  | .int i=>match b with
   | .int j=>some (decide (i=j))
   | .str _=>some false
   | _=>none
  | .str x=>match b with
   | .int _=>some false
   | .str y=>some (decide (x=y))
   | .tup _=>some false
   | _=>none
  | .tup l=>match b with
   | .str _=>some false
   | .tup m=>eqL (eqR n s) l m
   | _=>none
  | .ref i=>EE b λj=>if i=j then none else atO s[i]? (λxs=>atL s[j]? λys=>if xs.length=ys.length then eqL (eqR n s) xs ys else some false)
    (λes _=>atD s[j]? λfs _=>if es.all (λe=>e.1.isInt)&&fs.all (λe=>e.1.isInt) then if es.length=fs.length then eqD (eqR n s) fs es else some false else none)
  | _=>none
noncomputable def Bv:AA:=12
noncomputable def Gk(f:V→AH AL):List V→AH (List AL)
 | []=>some []
 | y::ys=>do
  let e ←f y
  let es ←Gk f ys
  some (e::es)
noncomputable def inL(f:V→V→AH AL)(x:V)(ys:List V):AH AL:=(Gk (λy=>f y x) ys).map λes=>es.any id
noncomputable def JM(f:V→V→AH AL)(x:V)(ys:List V):AH AA:=(Gk (λy=>f y x) ys).bind λes=>es.findIdx? id
noncomputable def BJ(i:Int):AL:=decide (-2147483648<i)&&decide (i<2147483648)
noncomputable def Kh:O→AA
 | .list xs=>xs.length
 | .dict es _=>es.length
 | .set xs=>xs.length
 | _=>0
noncomputable def Ci(o:O)(s:St):AH (V×St):=if fits (Kh o) then some (.ref s.length,s++[o]) else none
noncomputable def EC(l:List V)(s:St):AH (V×St):=if fits l.length then some (.tup l,s) else none
noncomputable def F8(op:BOp)(a b:V)(s:St):AH (V×St):=match op with
 | .add=>match a with
  | .int i=>Bw b λj=>if BJ i&&BJ j then some (.int (i+j),s) else none
  | .tup l=>NY b λm=>EC (l++m) s
  | .ref i=>EE b λj=>atL s[i]? λxs=>atL s[j]? λys=>Ci (.list (xs++ys)) s
  | _=>none
 | .sub=>Bw a λi=>Bw b λj=>if BJ i&&BJ j then some (.int (i-j),s) else none
 | .mul=>Bw a λi=>Bw b λj=>if BJ i&&BJ j then some (.int (i*j),s) else none
 | .mod=>Bw a λi=>Bw b λj=>if 0<j&&BJ j then some (.int (i%j),s) else none
noncomputable def inR(a b:V)(s:St):AH AL:=match b with
 | .str y=>UY a λx=>some (!(Rj (AK y) (AK x) 0 (AK y).length 1).isEmpty)
 | .tup l=>inL (eqR Bv s) a l
 | .ref i=>atO s[i]? (λxs=>inL (eqR Bv s) a xs) λes _=>if a.simple then some (Aa a es).isSome else none
 | _=>none
noncomputable def Ct(op:COp)(a b:V)(s:St):AH AL:=match op with
 | .eq=>eqR Bv s a b
 | .ne=>(eqR Bv s a b).map (!·)
 | .lt=>Bw a λi=>Bw b λj=>some (decide (i<j))
 | .le=>Bw a λi=>Bw b λj=>some (decide (i≤j))
 | .gt=>Bw a λi=>Bw b λj=>some (decide (j<i))
 | .isn=>if b.isNone then some a.isNone else none
 | .inn=>inR a b s
 | .nin=>(inR a b s).map (!·)
noncomputable def CP(o i:V)(s:St):AH V:=match o with
 | .tup l=>Bw i λk=>if 0≤k&&BJ k then l[k.toNat]? else none
 | .str x=>Bw i λk=>if 0≤k&&BJ k then(x.toList[k.toNat]?).map λc=>.str (Gx [c]) else none
 | .ref r=>atO s[r]? (λxs=>Bw i λk=>if 0≤k&&BJ k then xs[k.toNat]? else none) λes _=>if i.simple then Aa i es else none
 | _=>none
noncomputable def cut{α:Type}(l:List α)(lo hi:AA):List α:=(l.take hi).drop lo
noncomputable def Eh(d:AA):AH V→AH AA
 | none=>some d
 | some v=>Bw v λk=>if 0≤k&&BJ k then some k.toNat else none
noncomputable def seqO:O→AH (List V)
 | .list l=>some l
 | .fro _ l=>some l
 | _=>none
noncomputable def Ih(o:AH O):AH (List V):=o.bind seqO
noncomputable def EV(o:V)(lo hi:AH V)(s:St):AH (V×St):=match o with
 | .tup l=>(Eh 0 lo).bind λa=>(Eh l.length hi).bind λb=>if a≤b&&decide (b≤l.length) then EC (cut l a b) s else none
 | .str x=>match lo with
  | none=>hi.bind λh=>Bw h λk=>if 0≤k&&decide (k≤x.toList.length)&&fits x.toList.length then some (.str (Gx (x.toList.take k.toNat)),s) else none
  | some _=>none
 | .ref r=>(Ih s[r]?).bind λl=>(Eh 0 lo).bind λa=>(Eh l.length hi).bind λb=>if fits l.length then Ci (.list (cut l a b)) s else none
 | _=>none
noncomputable def Bz(c:AE):List AE:=
 if c="Bank" then ["nodes","numbers","weights","depths"]
 else if c="Unions" then ["above","lots","merged"]
 else if c="Heap" then ["bank","unions","edges","forest","known","above","waiting","backs"]
 else if c="Tables" then ["rows"] else []
noncomputable def ofI(o:AH O){α:Type}(k:AE→AH α):AH α:=o.bind λo=>match o with
 | .inst c=>k c
 | _=>none
noncomputable def ofN(o:AH O){α:Type}(k:List (AE×V)→AH α):AH α:=o.bind λo=>match o with
 | .ns fs=>k fs
 | _=>none
theorem V8{α:Type}{r:α}{G:Prop}{o:AH O}{k:AE→AH α}(e:ofI o k=some r)(q:∀c,o=some (.inst c)→k c=some r→G):G:=by
 cases o with
 | none=>exact no e
 | some o=>cases o with
  | inst c=>exact q c rfl e
  | _=>exact no e
theorem QH{α:Type}{r:α}{G:Prop}{o:AH O}{k:List (AE×V)→AH α}(e:ofN o k=some r)(q:∀c,o=some (.ns c)→k c=some r→G):G:=by
 cases o with
 | none=>exact no e
 | some o=>cases o with
  | ns c=>exact q c rfl e
  | _=>exact no e
noncomputable def Ed(o:V)(a:AE)(s:St):AH V:=EE o λr=>ofI s[r]? λc=>ofN s[r+1]? λfs=>if(Bz c).contains a then Ce a fs else none
noncomputable def intsOf:List V→AH (List Int)
 | []=>some []
 | v::r=>Bw v λi=>if BJ i then(intsOf r).map (i:: ·) else none
noncomputable def Fy:List V→List (V×V)→AH (List (V×V))
 | [],acc=>some acc
 | v::r,acc=>NY v λl=>LY l λk w=>if k.simple then Fy r (CD k w acc) else none
noncomputable def DY:Int→List Int→Int
 | m,[]=>m
 | m,x::xs=>DY (if m<x then x else m) xs
noncomputable def Yb(v:V)(s:St):AH (V×St):=match v with
 | .tup l=>if fits l.length then some (.int l.length,s) else none
 | .ref r=>atL s[r]? λxs=>if fits xs.length then some (.int xs.length,s) else none
 | _=>none
noncomputable def T5(v:V)(s:St):AH (V×St):=match v with
 | .tup l=>some (.tup l,s)
 | .ref r=>atL s[r]? λxs=>EC xs s
 | _=>none
noncomputable def RZ(o:O)(s:St):AH (V×St):=match o with
 | .list xs=>(Ei xs).bind λys=>Ci (.list ys) s
 | .set xs=>(Ei xs).bind λys=>Ci (.list ys) s
 | _=>none
noncomputable def Ck(f:AE)(args:List V)(s:St):AH (V×St):=IV args λv=>if f="len" then Yb v s
 else if f="tuple" then T5 v s
 else if f="list" then EE v λr=>atD s[r]? λes _=>Ci (.list (es.map (·.1))) s
 else if f="dict" then EE v λr=>atL s[r]? λxs=>(Fy xs []).bind λes=>Ci (.dict es es.length) s
 else if f="set" then EE v λr=>atL s[r]? λxs=>if(xs.all V.isInt||xs.all V.flatTup)&&decide (xs.length<15) then Ci (.set (A8 [] xs)) s else none
 else if f="sorted" then EE v λr=>s[r]?.bind λo=>RZ o s
 else if f="max" then EE v λr=>atL s[r]? λxs=>(intsOf xs).bind λis=>match is with
  | []=>none
  | i::is=>some (.int (DY i is),s)
 else if f="sum" then EE v λr=>atL s[r]? λxs=>(intsOf xs).bind λis=>if is.length<1000 then some (.int is.sum,s) else none
 else if f="int" then Bw v λi=>some (.int i,s)
 else none
noncomputable def cZ(r:AA)(xs:List V)(m:AE)(args:List V)(s:St):AH (V×St):=
 if m="append" then IV args λv=>if fits xs.length then some (.none,s.set r (.list (xs++[v]))) else none
 else if m="extend" then IV args λv=>EE v λq=>if q=r then none else atL s[q]? λys=>if fits (xs.length+ys.length) then some (.none,s.set r (.list (xs++ys))) else none
 else if m="pop" then M0 args (xs.getLast?.bind λv=>if fits xs.length then some (v,s.set r (.list xs.dropLast)) else none)
 else none
noncomputable def lz(r:AA)(es:List (V×V))(ep:AA)(m:AE)(args:List V)(s:St):AH (V×St):=
 if m="setdefault" then LY args λk v=>if k.simple then match Aa k es with
   | some w=>some (w,s)
   | none=>if fits es.length then some (v,s.set r (.dict (es++[(k,v)]) (ep+1))) else none
  else none
 else if m="get" then LY args λk d=>if k.simple then some ((Aa k es).getD d,s) else none
 else if m="pop" then IV args λk=>if k.isInt&&fits es.length then(Aa k es).bind λw=>some (w,s.set r (.dict (EY k es) (ep+1))) else none
 else none
noncomputable def Ec(o:V)(m:AE)(args:List V)(s:St):AH (V×St):=match o with
 | .tup l=>if m="index" then IV args λx=>(JM (eqR Bv s) x l).map λ(i:AA)=>(V.int (i:Int),s) else none
 | .str x=>if m="isspace" then M0 args (some (.bool (decide ((AK x).length>0)&&(AK x).cps.all Rl),s)) else none
 | .ref r=>atO s[r]? (λxs=>cZ r xs m args s) λes ep=>lz r es ep m args s
 | _=>none
noncomputable def JU(o i v:V)(s:St):AH St:=EE o λr=>atO s[r]?
 (λxs=>Bw i λk=>if 0≤k&&BJ k&&decide (k.toNat<xs.length) then some (s.set r (.list (xs.set k.toNat v))) else none)
 λes ep=>if i.simple&&fits es.length then some (s.set r (.dict (CD i v es) (if(Aa i es).isSome then ep else ep+1))) else none
noncomputable def LP(o:V)(a:AE)(v:V)(s:St):AH St:=EE o λr=>ofI s[r]? λc=>ofN s[r+1]? λfs=>if(Bz c).contains a&&decide (fs.length<100) then some (s.set (r+1) (.ns (By a v fs))) else none
noncomputable def LS(v:V)(s:St):AH (List V×AH AA):=match v with
 | .tup l=>some (l,none)
 | .str x=>if x.toList.all (λc=>decide (c.toNat<128)) then some (x.toList.map λc=>.str (Gx [c]),none) else none
 | .ref r=>atO s[r]? (λxs=>some (xs,some r)) λes _=>if es.all (λe=>e.1.isInt) then some (es.map (·.1),some r) else none
 | _=>none
noncomputable def JZ(a b:O):AL:=match a with
 | .list xs=>match b with
  | .list ys=>V.beqL xs ys
  | _=>false
 | .dict es m=>match b with
  | .dict fs n=>V.beqL (es.map (·.1)) (fs.map (·.1))&&decide (m=n)
  | _=>false
 | .priv=>match b with
  | .priv=>true
  | _=>false
 | _=>false
noncomputable def Bd(src:AH AA)(s s':St):AL:=match src with
 | none=>true
 | some r=>match s[r]? with
  | none=>false
  | some a=>match s'[r]? with
   | none=>false
   | some b=>JZ a b
noncomputable def upd(env:Env)(x:AE)(v:V):Env:=λy=>if y=x then some v else env y
noncomputable def Gv(env:Env):List AE→List V→Env
 | [],_=>env
 | x::xs,l=>match l with
  | []=>env
  | v::vs=>Gv (upd env x v) xs vs
noncomputable def EW(env:Env)(t:List AE)(v:V):AH Env:=match t with
 | []=>none
 | x::r=>match r with
  | []=>some (upd env x v)
  | y::r=>match r with
   | []=>NY v λl=>LY l λa b=>some (upd (upd env x a) y b)
   | _::_=>none
noncomputable def EZ(k:AA):List V→List V
 | []=>[]
 | x::xs=>.tup [.int k,x]::EZ (k+1) xs
noncomputable def FV:List V→List V→List V
 | [],_=>[]
 | a::as,l=>match l with
  | []=>[]
  | b::bs=>.tup [a,b]::FV as bs
section
variable{α β γ:Type}{x:AH α}{a:α}{Q Q':α→Prop}
noncomputable def Is(x:AH α)(Q:α→Prop):Prop:=∃a,x=some a∧Q a
noncomputable def pr(Q:β→γ→Prop)(r:β×γ):Prop:=Prod.rec (motive:=λ_=>Prop) Q r
theorem Is.it(e:x=some a)(q:Q a):Is x Q:=⟨a,e,q⟩
theorem Is.two{x:AH (β×γ)}{Q:β→γ→Prop}(h:Is x (pr Q)){G:Prop}(k:∀a b,x=some (a,b)→Q a b→G):G:=h.elim λr p=>k r.1 r.2 p.1 p.2
end
noncomputable abbrev Rn(α:Type):=St→(α→St→Prop)→Prop
noncomputable abbrev QV:=V→St→Prop
noncomputable abbrev QL:=List V→St→Prop
noncomputable abbrev QS:=Env→St→Prop
noncomputable abbrev QI:=List V→AH AA→St→Prop
noncomputable abbrev Rs:=St→QS→QV→Prop
noncomputable abbrev Calls:=AE→List V→Rn V
noncomputable def Io:V:=.tup [.tup [.str "?x"],.tup [.str "?y"],.tup [.str "a"],.tup [.str "f",.tup [.str "?x"]],.tup [.str "g",.tup [.str "?y"],.tup [.str "?y"]],.tup [.str "f",.tup [.str "a"]]]
noncomputable def glob:Env:=λx=>if x="_law_parts" then some Io else none
noncomputable def NX:List AE→List V→AH (List (V×V))
 | [],l=>match l with
  | []=>some []
  | _::_=>none
 | k::ks,l=>match l with
  | []=>none
  | v::vs=>(NX ks vs).bind λps=>if(Aa (.str k) ps).isNone then some ((.str k,v)::ps) else none
noncomputable def Ip:O→AH AE
 | .list _=>some "list"
 | .dict _ _=>some "dict"
 | _=>none
noncomputable def Fx(a:V)(s:St):AH AE:=match a with
 | .tup _=>some "tuple"
 | .str _=>some "str"
 | .ref r=>s[r]?.bind Ip
 | _=>none
noncomputable def Cm:List AE:=["Bank","Unions","Heap","Tables"]
noncomputable def MR:List AE:=["Bank.__init__","Bank.size","Bank.take","Bank.require","Bank.op","Bank.kids","Tables.__init__","Tables.table","Tables.trie","Unions.__init__","Unions.make","Unions.size","Unions.find","Unions.merge","Unions.members","Unions.classes","Heap.__init__","Heap.size","Heap.node","Heap.add","Heap.look_at","Heap.find","Heap.merge","Heap.join","Heap.settle","Heap.classes","Heap.members","Heap.nodes_of"]
noncomputable def Py:List (AE×AE×AE):=[("tuple","index","tuple.index"),("str","isspace","str.isspace"),("list","append","list.append"),("list","extend","list.extend"),("list","pop","list.pop"),("dict","setdefault","dict.setdefault"),("dict","get","dict.get"),("dict","pop","dict.pop")]
noncomputable def GB(t m:AE):AH AE:=(Py.find? λx=>x.1==t&&x.2.1==m).map (·.2.2)
noncomputable def Mq(m t:AE):AH (AE ⊕ AE):=if(GB t m).isSome then some (.inr t) else none
noncomputable def Vc(m:AE)(r:AA)(s:St)(o:O):AH (AE ⊕ AE):=match o with
 | .inst c=>if Cm.contains c&&MR.contains (c++"."++m) then ofN s[r+1]? λfs=>match Ce m fs with
   | some _=>none
   | none=>some (.inl (c++"."++m))
  else none
 | o=>(Ip o).bind (Mq m)
noncomputable def Il(a:V)(m:AE)(s:St):AH (AE ⊕ AE):=match a with
 | .ref r=>s[r]?.bind (Vc m r s)
 | a=>(Fx a s).bind (Mq m)
noncomputable def Hk:List AE:=["is_op","is_variable","parts","atoms_of","trie_of","Bank","Unions","Heap","Tables","_law_pin","_law_laid","_law_sequence","_law_ways","_law_heap","_law_atoms","_law_kept","law"]
noncomputable def Gen.names:Gen→List AE
 | .mk t _ _=>t
noncomputable def Bp(gs:List Gen):List AE:=gs.flatMap Gen.names
noncomputable def BY(xs:List AE)(env:Env):Env:=λy=>if xs.contains y||y==".0" then none else env y
noncomputable def PR(v:V)(s:St):AH (List V):=match v with
 | .tup l=>some l
 | .ref r=>atL s[r]? λl=>some l
 | _=>none
section
variable{α β:Type}(cl:Calls)
noncomputable def wN(o:AH V)(Q:V→Prop):Prop:=AH.rec (motive:=λ_=>Prop) As Q o
noncomputable def pB(t f:Prop)(b:AL):Prop:=AL.rec (motive:=λ_=>Prop) f t b
noncomputable def Gi(v:V)(t f:Prop):Prop:=match v with
 | .bool b=>pB t f b
 | _=>As
noncomputable def Ma(v:V)(Q:List V→Prop):Prop:=match v with
 | .tup l=>Q l
 | _=>As
noncomputable def Vm(v:V)(Q:Int→Prop):Prop:=match v with
 | .int l=>Q l
 | _=>As
noncomputable def wK(a:V)(m:AE)(k:AE ⊕ AE)(vs:List V)(s:St)(Q:QV):Prop:=match k with
 | .inl f=>cl f (a::vs) s Q
 | .inr t=>Fx a s=some t∧Is (Ec a m vs s) (pr Q)
noncomputable def kR(w:Rn β)(k:α→β→St→Prop)(a:α)(s:St):Prop:=w s (k a)
noncomputable def kV(Q:QV)(s:St)(v:V):Prop:=Q v s
noncomputable def kC(Q:QV)(s:St)(c:AL):Prop:=Q (.bool c) s
noncomputable def kBin(op:BOp)(Q:QV)(a b:V)(s:St):Prop:=Is (F8 op a b s) (pr Q)
noncomputable def US(op:COp)(Q:QV)(a b:V)(s:St):Prop:=Is (Ct op a b s) (kC Q s)
noncomputable def kTwo(op:COp)(w:Rn V)(Q:QV)(b:V)(s:St)(c:AL):Prop:=pB (w s (US op Q b)) (Q (.bool false) s) c
noncomputable def jU(op op2:COp)(w:Rn V)(Q:QV)(a b:V)(s:St):Prop:=Is (Ct op a b s) (kTwo op2 w Q b s)
noncomputable def VE(w:Rn V)(Q:QV)(a:V)(s:St):Prop:=Gi a (w s Q) (Q (.bool false) s)
noncomputable def kOr(w:Rn V)(Q:QV)(a:V)(s:St):Prop:=Gi a (Q (.bool true) s) (w s Q)
noncomputable def kNot(Q:QV)(a:V)(s:St):Prop:=Gi a (Q (.bool false) s) (Q (.bool true) s)
noncomputable def kIte(t f:Rn α)(Q:α→St→Prop)(a:V)(s:St):Prop:=Gi a (t s Q) (f s Q)
noncomputable def dm(f:AE)(Q:QV)(vs:List V)(s:St):Prop:=pB (cl f vs s Q) (Is (Ck f vs s) (pr Q)) (Hk.contains f)
noncomputable def kM3(m:AE)(Q:QV)(a:V)(k:AE ⊕ AE)(vs:List V)(s:St):Prop:=wK cl a m k vs s Q
noncomputable def kM2(m:AE)(w:Rn (List V))(Q:QV)(a:V)(s:St)(k:AE ⊕ AE):Prop:=w s (kM3 cl m Q a k)
noncomputable def kM(m:AE)(w:Rn (List V))(Q:QV)(a:V)(s:St):Prop:=Is (Il a m s) (kM2 cl m w Q a s)
noncomputable def aw(n:AE)(Q:QV)(a:V)(s:St):Prop:=Is (Ed a n s) (kV Q s)
noncomputable def kSub(Q:QV)(a b:V)(s:St):Prop:=Is (CP a b s) (kV Q s)
noncomputable def kSl2(Q:QV)(a:V)(l h:AH V)(s:St):Prop:=Is (EV a l h s) (pr Q)
noncomputable def kSl(w:Rn (AH V))(Q:QV)(a:V)(l:AH V)(s:St):Prop:=w s (kSl2 Q a l)
noncomputable def kTup(Q:QV)(vs:List V)(s:St):Prop:=fits vs.length=true∧Q (.tup vs) s
noncomputable def g8(Q:QV)(vs:List V)(s:St):Prop:=fits vs.length=true∧Q (.ref s.length) (s++[.list vs])
noncomputable def Uu(Q:QV)(vs:List V)(s:St):Prop:=Q (.ref s.length) (s++[.list vs])
noncomputable def kD(Q:QV)(s:St)(ps:List (V×V)):Prop:=fits ps.length=true∧Q (.ref s.length) (s++[.dict ps ps.length])
noncomputable def iR(ks:List AE)(Q:QV)(vs:List V)(s:St):Prop:=Is (NX ks vs) (kD Q s)
noncomputable def g7(Q:QL)(v:V)(vs:List V)(s:St):Prop:=Q (v::vs) s
noncomputable def jK(Q:AH V→St→Prop)(v:V)(s:St):Prop:=Q (some v) s
noncomputable def kT(w:Rn AL)(Q:AL→St→Prop)(v:V)(s:St):Prop:=Gi v (w s Q) (Q false s)
noncomputable def kI2(Q:QI)(s:St)(p:List V×AH AA):Prop:=Q p.1 p.2 s
noncomputable def kI(Q:QI)(v:V)(s:St):Prop:=Is (LS v s) (kI2 Q s)
noncomputable def kRg2(Q:QI)(s:St)(n:Int):Prop:=BJ n=true∧Q ((Ab n.toNat).map λi=>.int (i:AA)) none s
noncomputable def kRg(Q:QI)(v:V)(s:St):Prop:=Vm v (kRg2 Q s)
noncomputable def kEn2(Q:QI)(s:St)(l:List V):Prop:=Q (EZ 0 l) none s
noncomputable def kEn(Q:QI)(v:V)(s:St):Prop:=Ma v (kEn2 Q s)
noncomputable def kZ3(Q:QI)(s:St)(l m:List V):Prop:=l.length=m.length∧Q (FV l m) (some s.length) (s++[.priv])
noncomputable def kZ2(Q:QI)(w:V)(s:St)(l:List V):Prop:=Ma w (kZ3 Q s l)
noncomputable def kZ(Q:QI)(v w:V)(s:St):Prop:=Ma v (kZ2 Q w s)
noncomputable abbrev Fi:=List V→St→QL→Prop
noncomputable def Vd(Q:QL)(acc:List V)(v:V)(s:St):Prop:=fits acc.length=true∧Q (acc++[v]) s
noncomputable def Td(w:Fi)(Q:QL)(acc:List V)(b:AL)(s:St):Prop:=pB (w acc s Q) (Q acc s) b
noncomputable def kTn(wt:Env→Rn AL)(w:Env→Fi)(acc:List V)(s:St)(Q:QL)(e:Env):Prop:=wt e s (Td (w e) Q acc)
noncomputable def Eb(t:List AE)(hid:Env)(wt:Env→Rn AL)(w:Env→Fi)(x:V)(acc:List V)(s:St)(Q:QL):Prop:=Is (EW hid t x) (kTn wt w acc s Q)
noncomputable def kLp(w:Fi)(Q:QL)(acc:List V)(s:St):Prop:=w acc s Q
noncomputable def Kk(f:V→Fi)(ok:St→AL)(l:List V):Fi:=List.rec (motive:=λ_=>Fi) (λacc s Q=>ok s=true∧Q acc s) (λx _ w acc s Q=>ok s=true∧f x acc s (kLp w Q)) l
noncomputable def kG(f:V→Fi)(acc:List V)(Q:QL)(l:List V)(src:AH AA)(s:St):Prop:=Kk f (Bd src s) l acc s Q
mutual
noncomputable def wE:CE→Env→St→QV→Prop
 | .cnone,_,s,Q=>Q .none s
 | .cbool b,_,s,Q=>Q (.bool b) s
 | .cint i,_,s,Q=>Q (.int i) s
 | .cstr x,_,s,Q=>Q (.str x) s
 | .name x,env,s,Q=>wN (env x) (kV Q s)
 | .gname x,_,s,Q=>Is (glob x) (kV Q s)
 | .bin op l r,env,s,Q=>wE l env s (kR (wE r env) (kBin op Q))
 | .cmp l op r,env,s,Q=>wE l env s (kR (wE r env) (US op Q))
 | .cmp2 l op m op2 r,env,s,Q=>wE l env s (kR (wE m env) (jU op op2 (wE r env) Q))
 | .andB l r,env,s,Q=>wE l env s (VE (wE r env) Q)
 | .orB l r,env,s,Q=>wE l env s (kOr (wE r env) Q)
 | .notB e,env,s,Q=>wE e env s (kNot Q)
 | .ite t b o,env,s,Q=>wE t env s (kIte (wE b env) (wE o env) Q)
 | .callf f args,env,s,Q=>wEs args env s (dm cl f Q)
 | .callm o m args,env,s,Q=>wE o env s (kM cl m (wEs args env) Q)
 | .attr o a,env,s,Q=>wE o env s (aw a Q)
 | .sub o i,env,s,Q=>wE o env s (kR (wE i env) (kSub Q))
 | .slice o lo hi,env,s,Q=>wE o env s (kR (wO lo env) (kSl (wO hi env) Q))
 | .tuple es,env,s,Q=>wEs es env s (kTup Q)
 | .list es,env,s,Q=>wEs es env s (g8 Q)
 | .dict ks vs,env,s,Q=>wEs vs env s (iR ks Q)
 | .comp e gs,env,s,Q=>wG gs (wE e) env (BY (Bp gs) env) [] s (Uu Q)
noncomputable def wEs:List CE→Env→St→QL→Prop
 | [],_,s,Q=>Q [] s
 | e::es,env,s,Q=>wE e env s (kR (wEs es env) (g7 Q))
noncomputable def wO:AH CE→Env→St→(AH V→St→Prop)→Prop
 | none,_,s,Q=>Q none s
 | some e,env,s,Q=>wE e env s (jK Q)
noncomputable def wT:List CE→Env→St→(AL→St→Prop)→Prop
 | [],_,s,Q=>Q true s
 | e::es,env,s,Q=>wE e env s (kT (wT es env) Q)
noncomputable def wI:It→Env→St→QI→Prop
 | .plain e,env,s,Q=>wE e env s (kI Q)
 | .range e,env,s,Q=>wE e env s (kRg Q)
 | .enum e,env,s,Q=>wE e env s (kEn Q)
 | .zip a b,env,s,Q=>wE a env s (kR (wE b env) (kZ Q))
noncomputable def wG:List Gen→(Env→Rn V)→Env→Env→List V→St→QL→Prop
 | [],we,_,hid,acc,s,Q=>we hid s (Vd Q acc)
 | .mk t it ifs::gs,we,env,hid,acc,s,Q=>wI it env s (kG (Eb t hid (wT ifs) λe=>wG gs we e (BY (Bp gs) e)) acc Q)
end
noncomputable def kE(Q:QS)(env:Env)(_:V)(s:St):Prop:=Q env s
noncomputable def kA(Q:QS)(env:Env)(x:AE)(v:V)(s:St):Prop:=Q (upd env x v) s
noncomputable def UD(Q:QS)(env:Env)(l:List AE)(s:St)(vs:List V):Prop:=match l with
 | [x,y]=>match vs with
  | [a,b]=>Q (upd (upd env x a) y b) s
  | _=>As
 | _=>As
noncomputable def kTu(Q:QS)(env:Env)(l:List AE)(v:V)(s:St):Prop:=Is (PR v s) (UD Q env l s)
noncomputable def kAt(a:AE)(Q:St→Prop)(v r:V)(s:St):Prop:=Is (LP r a v s) Q
noncomputable def kIt2(Q:St→Prop)(v r k:V)(s:St):Prop:=Is (JU r k v s) Q
noncomputable def kIt(w:Rn V)(Q:St→Prop)(v r:V)(s:St):Prop:=w s (kIt2 Q v r)
noncomputable def kIf(t f:Rs)(Q:QS)(R:QV)(v:V)(s:St):Prop:=Gi v (t s Q R) (f s Q R)
noncomputable def Ia(w:Env→Rs)(Q:QS)(R:QV)(env:Env)(s:St):Prop:=w env s Q R
noncomputable def kFt(w k:Env→Rs)(s:St)(Q:QS)(R:QV)(env:Env):Prop:=w env s (Ia k Q R) R
noncomputable def IK(t:List AE)(w:Env→Rs)(ok:St→AL)(l:List V):Env→Rs:=List.rec (motive:=λ_=>Env→Rs) (λenv s Q _=>ok s=true∧Q env s) (λx _ k env s Q R=>ok s=true∧Is (EW env t x) (kFt w k s Q R)) l
noncomputable def PM(t:List AE)(w:Env→Rs)(Q:QS)(R:QV)(env:Env)(l:List V)(src:AH AA)(s:St):Prop:=IK t w (Bd src s) l env s Q R
noncomputable def kWh(w:Rs)(k:Env→Rs)(Q:QS)(R:QV)(env:Env)(v:V)(s:St):Prop:=Gi v (w s (Ia k Q R) R) (Q env s)
noncomputable def wWh(we:Env→Rn V)(w:Env→Rs)(n:AA):Env→Rs:=AA.rec (motive:=λ_=>Env→Rs) (λ_ _ _ _=>As) (λ_ k env s Q R=>we env s (kWh (w env) k Q R env)) n
@[irreducible] noncomputable def Jg:AA:=1000000
noncomputable def wA(t:Tgt)(e:CE)(env:Env)(s:St)(Q:QS):Prop:=match t with
 | .name x=>wE cl e env s (kA Q env x)
 | .tup l=>wE cl e env s (kTu Q env l)
 | .attr o a=>wE cl e env s (kR (wE cl o env) (kAt a (Q env)))
 | .sub o i=>wE cl e env s (kR (wE cl o env) (kIt (wE cl i env) (Q env)))
mutual
noncomputable def wS:CS→Env→St→QS→QV→Prop
 | .expr e,env,s,Q,_=>wE cl e env s (kE Q env)
 | .assign t e,env,s,Q,_=>wA cl t e env s Q
 | .ifs c t f,env,s,Q,R=>wE cl c env s (kIf (wSs t env) (wSs f env) Q R)
 | .whiles c b,env,s,Q,R=>wWh (wE cl c) (wSs b) Jg env s Q R
 | .fors t it b,env,s,Q,R=>wI cl it env s (PM t (wSs b) Q R env)
 | .ret e,env,s,_,R=>wE cl e env s R
 | .bad,_,_,_,_=>As
noncomputable def wSs:List CS→Env→St→QS→QV→Prop
 | [],env,s,Q,_=>Q env s
 | c::cs,env,s,Q,R=>wS c env s (Ia (wSs cs) Q R) R
end
noncomputable def PS(Q:QV)(_:Env)(s:St):Prop:=Q .none s
noncomputable def wFn(b:FnC)(args:List V)(s:St)(Q:QV):Prop:=b.ps.length=args.length∧wSs cl b.body (Gv (λ_=>none) b.ps args) s (PS Q) Q
noncomputable def kFn(args:List V)(s:St)(Q:QV)(b:FnC):Prop:=wFn cl b args s Q
noncomputable def kIn(Q:QV)(r v:V)(s:St):Prop:=v= .none∧Q r s
end
noncomputable def DP(fns:List (AE×FnC))(f:AE):AH FnC:=match fns with
 | []=>none
 | (n,b)::r=>if n=f then some b else DP r f
noncomputable def Q7(cl:Calls)(fns:List (AE×FnC))(f:AE)(args:List V)(s:St)(Q:QV):Prop:=Is (DP fns (f++".__init__")) (kFn cl (.ref s.length::args) (s++[.inst f,.ns []]) (kIn Q (.ref s.length)))
noncomputable def mr(fns:List (AE×FnC))(n:AA):Calls:=AA.rec (motive:=λ_=>Calls) (λ_ _ _ _=>As)
 (λ_ cl f args s Q=>pB (Q7 cl fns f args s Q) (Is (DP fns f) (kFn cl args s Q)) (Cm.contains f)) n
end Mine
namespace Mine
noncomputable def U7:FnC:=⟨["text"],[
 .ret (.andB (.cmp (.name "text") .ne (.cstr "")) (.cmp (.comp (.name "sign") [.mk ["sign"] (.plain (.name "text")) [(.orB (.callm (.name "sign") "isspace" []) (.cmp (.name "sign") .inn (.cstr "()[]{},:")))]]) .eq (.list [])))]⟩
noncomputable def VV:FnC:=⟨["t"],[
 .ret (.andB (.cmp (.callf "len" [(.name "t")]) .eq (.cint 1)) (.cmp (.slice (.sub (.name "t") (.cint 0)) none (some (.cint 1))) .eq (.cstr "?")))]⟩
noncomputable def UA:FnC:=⟨["t"],[
 .assign (.name "found") (.list [(.tuple [(.tuple []),(.name "t")])]),.fors ["k","kid"] (.enum (.slice (.name "t") (some (.cint 1)) none)) [.expr (.callm (.name "found") "extend" [(.comp (.tuple [(.bin .add (.tuple [(.name "k")]) (.name "path")),(.name "part")]) [.mk ["path","part"] (.plain (.callf "parts" [(.name "kid")])) []])])],.ret (.name "found")]⟩
noncomputable def UU:FnC:=⟨["self"],[
 .assign (.attr (.name "self") "nodes") (.list []),.assign (.attr (.name "self") "numbers") (.dict [] []),.assign (.attr (.name "self") "weights") (.list []),.assign (.attr (.name "self") "depths") (.list [])]⟩
noncomputable def T6:FnC:=⟨["self"],[
 .ret (.callf "len" [(.attr (.name "self") "nodes")])]⟩
noncomputable def Xv:FnC:=⟨["self","op","kids"],[
 .assign (.name "node") (.bin .add (.tuple [(.name "op")]) (.callf "tuple" [(.name "kids")])),.ifs (.cmp (.name "node") .inn (.attr (.name "self") "numbers")) [.ret (.sub (.attr (.name "self") "numbers") (.name "node"))] [],.expr (.callm (.name "self") "require" [(.name "op")]),.fors ["kid"] (.plain (.slice (.name "node") (some (.cint 1)) none)) [.ifs (.notB (.cmp2 (.cint 0) .le (.name "kid") .lt (.callf "len" [(.attr (.name "self") "nodes")]))) [.bad] []],.assign (.sub (.attr (.name "self") "numbers") (.name "node")) (.callf "len" [(.attr (.name "self") "nodes")]),.expr (.callm (.attr (.name "self") "nodes") "append" [(.name "node")]),.expr (.callm (.attr (.name "self") "weights") "append" [(.bin .add (.cint 1) (.callf "sum" [(.comp (.sub (.attr (.name "self") "weights") (.name "kid")) [.mk ["kid"] (.plain (.slice (.name "node") (some (.cint 1)) none)) []])]))]),.expr (.callm (.attr (.name "self") "depths") "append" [(.bin .add (.cint 1) (.callf "max" [(.bin .add (.comp (.sub (.attr (.name "self") "depths") (.name "kid")) [.mk ["kid"] (.plain (.slice (.name "node") (some (.cint 1)) none)) []]) (.list [(.cint 0)]))]))]),.ret (.bin .sub (.callf "len" [(.attr (.name "self") "nodes")]) (.cint 1))]⟩
noncomputable def XE:FnC:=⟨["self","op"],[
 .ifs (.orB (.notB (.callf "is_op" [(.name "op")])) (.cmp (.sub (.name "op") (.cint 0)) .eq (.cstr "?"))) [.bad] []]⟩
noncomputable def Ub:FnC:=⟨["self","n"],[
 .ret (.sub (.sub (.attr (.name "self") "nodes") (.name "n")) (.cint 0))]⟩
noncomputable def Vy:FnC:=⟨["self","n"],[
 .ret (.slice (.sub (.attr (.name "self") "nodes") (.name "n")) (some (.cint 1)) none)]⟩
noncomputable def UQ:FnC:=⟨["pattern"],[
 .assign (.name "found") (.list []),.fors ["path","part"] (.plain (.callf "parts" [(.name "pattern")])) [.ifs (.notB (.callf "is_variable" [(.name "part")])) [.assign (.name "kids") (.comp (.ite (.callf "is_variable" [(.name "kid")]) (.sub (.name "kid") (.cint 0)) (.bin .add (.name "path") (.tuple [(.name "k")]))) [.mk ["k","kid"] (.enum (.slice (.name "part") (some (.cint 1)) none)) []]),.expr (.callm (.name "found") "append" [(.tuple [(.sub (.name "part") (.cint 0)),(.bin .add (.tuple [(.name "path")]) (.callf "tuple" [(.name "kids")]))])])] []],.ret (.name "found")]⟩
noncomputable def V5:FnC:=⟨["rows"],[
 .assign (.name "found") (.dict [] []),.fors ["row"] (.plain (.name "rows")) [.assign (.name "here") (.name "found"),.fors ["v"] (.plain (.name "row")) [.assign (.name "here") (.callm (.name "here") "setdefault" [(.name "v"),(.dict [] [])])]],.ret (.name "found")]⟩
noncomputable def Wm:FnC:=⟨["self","heap"],[
 .assign (.attr (.name "self") "rows") (.dict [] []),.fors ["c"] (.plain (.callm (.name "heap") "classes" [])) [.fors ["node"] (.plain (.callm (.name "heap") "nodes_of" [(.name "c")])) [.expr (.callm (.callm (.attr (.name "self") "rows") "setdefault" [(.tuple [(.sub (.name "node") (.cint 0)),(.callf "len" [(.name "node")])]),(.list [])]) "append" [(.bin .add (.tuple [(.name "c")]) (.slice (.name "node") (some (.cint 1)) none))])]]]⟩
noncomputable def WI:FnC:=⟨["self","op","many"],[
 .ret (.callm (.attr (.name "self") "rows") "get" [(.tuple [(.name "op"),(.name "many")]),(.list [])])]⟩
noncomputable def YJ:FnC:=⟨["self","op","names","order"],[
 .assign (.name "kept") (.comp (.name "row") [.mk ["row"] (.plain (.callm (.name "self") "table" [(.name "op"),(.callf "len" [(.name "names")])])) [(.cmp (.comp (.name "k") [.mk ["k"] (.range (.callf "len" [(.name "names")])) [(.cmp (.sub (.name "row") (.name "k")) .ne (.sub (.name "row") (.callm (.name "names") "index" [(.sub (.name "names") (.name "k"))])))]]) .eq (.list []))]]),.assign (.name "places") (.comp (.callm (.name "names") "index" [(.name "name")]) [.mk ["name"] (.plain (.name "order")) [(.cmp (.name "name") .inn (.name "names"))]]),.ret (.callf "trie_of" [(.comp (.callf "tuple" [(.comp (.sub (.name "row") (.name "k")) [.mk ["k"] (.plain (.name "places")) []])]) [.mk ["row"] (.plain (.name "kept")) []])])]⟩
noncomputable def Wv:FnC:=⟨["self"],[
 .assign (.attr (.name "self") "above") (.list []),.assign (.attr (.name "self") "lots") (.list []),.assign (.attr (.name "self") "merged") (.list [])]⟩
noncomputable def Vt:FnC:=⟨["self"],[
 .expr (.callm (.attr (.name "self") "above") "append" [(.callf "len" [(.attr (.name "self") "above")])]),.expr (.callm (.attr (.name "self") "lots") "append" [(.list [(.callf "len" [(.attr (.name "self") "lots")])])]),.ret (.bin .sub (.callf "len" [(.attr (.name "self") "above")]) (.cint 1))]⟩
noncomputable def UT:FnC:=⟨["self"],[
 .ret (.callf "len" [(.attr (.name "self") "above")])]⟩
noncomputable def Us:FnC:=⟨["self","a"],[
 .whiles (.cmp (.sub (.attr (.name "self") "above") (.name "a")) .ne (.name "a")) [.assign (.name "a") (.sub (.attr (.name "self") "above") (.name "a"))],.ret (.name "a")]⟩
noncomputable def YT:FnC:=⟨["self","a","b"],[
 .assign (.tup ["kept","gone"]) (.callf "sorted" [(.list [(.callm (.name "self") "find" [(.name "a")]),(.callm (.name "self") "find" [(.name "b")])])]),.ifs (.cmp (.name "kept") .eq (.name "gone")) [.ret .cnone] [],.assign (.sub (.attr (.name "self") "above") (.name "gone")) (.name "kept"),.expr (.callm (.sub (.attr (.name "self") "lots") (.name "kept")) "extend" [(.sub (.attr (.name "self") "lots") (.name "gone"))]),.expr (.callm (.attr (.name "self") "merged") "append" [(.tuple [(.name "kept"),(.name "gone")])]),.ret (.tuple [(.name "kept"),(.name "gone")])]⟩
noncomputable def WJ:FnC:=⟨["self","a"],[
 .ret (.callf "sorted" [(.sub (.attr (.name "self") "lots") (.callm (.name "self") "find" [(.name "a")]))])]⟩
noncomputable def V4:FnC:=⟨["self"],[
 .ret (.comp (.name "a") [.mk ["a"] (.range (.callf "len" [(.attr (.name "self") "above")])) [(.cmp (.sub (.attr (.name "self") "above") (.name "a")) .eq (.name "a"))]])]⟩
noncomputable def Uy:FnC:=⟨["self"],[
 .assign (.attr (.name "self") "bank") (.callf "Bank" []),.assign (.attr (.name "self") "unions") (.callf "Unions" []),.assign (.attr (.name "self") "edges") (.list []),.assign (.attr (.name "self") "forest") (.list []),.assign (.attr (.name "self") "known") (.dict [] []),.assign (.attr (.name "self") "above") (.dict [] []),.assign (.attr (.name "self") "waiting") (.list []),.assign (.attr (.name "self") "backs") (.cint 0)]⟩
noncomputable def Xz:FnC:=⟨["self"],[
 .ret (.callm (.attr (.name "self") "bank") "size" [])]⟩
noncomputable def Vk:FnC:=⟨["self","n"],[
 .ret (.bin .add (.tuple [(.callm (.attr (.name "self") "bank") "op" [(.name "n")])]) (.callf "tuple" [(.comp (.callm (.name "self") "find" [(.name "kid")]) [.mk ["kid"] (.plain (.callm (.attr (.name "self") "bank") "kids" [(.name "n")])) []])]))]⟩
noncomputable def Vn:FnC:=⟨["self","op","numbers"],[
 .assign (.name "n") (.callm (.attr (.name "self") "bank") "take" [(.name "op"),(.name "numbers")]),.ifs (.cmp (.name "n") .lt (.callm (.attr (.name "self") "unions") "size" [])) [.ret (.name "n")] [],.expr (.callm (.attr (.name "self") "unions") "make" []),.assign (.sub (.attr (.name "self") "above") (.name "n")) (.list []),.fors ["c"] (.plain (.callf "sorted" [(.callf "set" [(.comp (.callm (.name "self") "find" [(.name "kid")]) [.mk ["kid"] (.plain (.name "numbers")) []])])])) [.expr (.callm (.sub (.attr (.name "self") "above") (.name "c")) "append" [(.name "n")])],.expr (.callm (.name "self") "look_at" [(.name "n")]),.ret (.name "n")]⟩
noncomputable def Xb:FnC:=⟨["self","n"],[
 .assign (.name "other") (.callm (.attr (.name "self") "known") "setdefault" [(.callm (.name "self") "node" [(.name "n")]),(.name "n")]),.ifs (.cmp (.callm (.name "self") "find" [(.name "other")]) .ne (.callm (.name "self") "find" [(.name "n")])) [.expr (.callm (.name "self") "join" [(.name "other"),(.name "n"),(.tuple [(.cstr "like")])])] []]⟩
noncomputable def Ts:FnC:=⟨["self","n"],[
 .ret (.callm (.attr (.name "self") "unions") "find" [(.name "n")])]⟩
noncomputable def T3:FnC:=⟨["self","a","b","reason"],[
 .ret (.callm (.name "self") "join" [(.name "a"),(.name "b"),(.name "reason")])]⟩
noncomputable def Ua:FnC:=⟨["self","a","b","reason"],[
 .expr (.callm (.attr (.name "self") "edges") "append" [(.tuple [(.name "a"),(.name "b"),(.name "reason")])]),.assign (.name "merged") (.callm (.attr (.name "self") "unions") "merge" [(.name "a"),(.name "b")]),.ifs (.cmp (.name "merged") .isn .cnone) [.ret (.cbool false)] [],.assign (.tup ["kept","gone"]) (.name "merged"),.expr (.callm (.attr (.name "self") "forest") "append" [(.bin .sub (.callf "len" [(.attr (.name "self") "edges")]) (.cint 1))]),.expr (.callm (.attr (.name "self") "waiting") "extend" [(.sub (.attr (.name "self") "above") (.name "gone"))]),.assign (.sub (.attr (.name "self") "above") (.name "kept")) (.bin .add (.sub (.attr (.name "self") "above") (.name "kept")) (.callm (.attr (.name "self") "above") "pop" [(.name "gone")])),.ret (.cbool true)]⟩
noncomputable def WE:FnC:=⟨["self"],[
 .whiles (.cmp (.callf "len" [(.attr (.name "self") "waiting")]) .gt (.cint 0)) [.expr (.callm (.name "self") "look_at" [(.callm (.attr (.name "self") "waiting") "pop" [])])]]⟩
noncomputable def Wu:FnC:=⟨["self"],[
 .ret (.callm (.attr (.name "self") "unions") "classes" [])]⟩
noncomputable def VT:FnC:=⟨["self","c"],[
 .ret (.callm (.attr (.name "self") "unions") "members" [(.name "c")])]⟩
noncomputable def Ut:FnC:=⟨["self","c"],[
 .ret (.callf "sorted" [(.callf "set" [(.comp (.callm (.name "self") "node" [(.name "n")]) [.mk ["n"] (.plain (.callm (.name "self") "members" [(.name "c")])) []])])])]⟩
noncomputable def YL:FnC:=⟨["pad","many"],[
 .assign (.name "spot") (.sub (.name "pad") (.cstr "spot")),.assign (.sub (.name "pad") (.cstr "spot")) (.bin .add (.name "spot") (.cint 1)),.ifs (.cmp (.name "spot") .lt (.callf "len" [(.sub (.name "pad") (.cstr "cells"))])) [.ret (.bin .mod (.sub (.sub (.name "pad") (.cstr "cells")) (.name "spot")) (.name "many"))] [],.ret (.bin .mod (.bin .mod (.bin .add (.bin .add (.bin .add (.bin .mul (.bin .mul (.cint 4) (.name "spot")) (.name "spot")) (.bin .mul (.cint 3) (.name "spot"))) (.bin .mul (.cint 2) (.callf "len" [(.sub (.name "pad") (.cstr "cells"))]))) (.cint 6)) (.cint 47)) (.name "many"))]⟩
noncomputable def Wz:FnC:=⟨["rows"],[
 .assign (.tup ["heads","found"]) (.tuple [(.list []),(.dict [] [])]),.fors ["row"] (.plain (.name "rows")) [.ifs (.andB (.cmp (.name "row") .ne (.tuple [])) (.cmp (.sub (.name "row") (.cint 0)) .nin (.name "heads"))) [.expr (.callm (.name "heads") "append" [(.sub (.name "row") (.cint 0))])] []],.fors ["head"] (.plain (.name "heads")) [.assign (.sub (.name "found") (.name "head")) (.callf "_law_laid" [(.comp (.slice (.name "row") (some (.cint 1)) none) [.mk ["row"] (.plain (.name "rows")) [(.cmp (.sub (.name "row") (.cint 0)) .eq (.name "head"))]])])],.ret (.name "found")]⟩
noncomputable def RU:FnC:=⟨["trie"],[
 .ret (.comp (.tuple [(.name "head"),(.callf "_law_sequence" [(.sub (.name "trie") (.name "head"))])]) [.mk ["head"] (.plain (.name "trie")) []])]⟩
noncomputable def PZ:FnC:=⟨["trie","wide"],[
 .ifs (.cmp (.name "wide") .eq (.cint 0)) [.ret (.list [(.tuple [])])] [],.ret (.comp (.bin .add (.tuple [(.name "head")]) (.name "way")) [.mk ["head"] (.plain (.name "trie")) [],.mk ["way"] (.plain (.callf "_law_ways" [(.sub (.name "trie") (.name "head")),(.bin .sub (.name "wide") (.cint 1))])) []])]⟩
noncomputable def WS:FnC:=⟨["pad"],[
 .assign (.name "heap") (.callf "Heap" []),.fors ["op"] (.plain (.cstr "ab")) [.expr (.callm (.name "heap") "add" [(.name "op"),(.tuple [])])],.fors ["lap"] (.range (.bin .add (.cint 2) (.callf "_law_pin" [(.name "pad"),(.cint 4)]))) [.assign (.tup ["op","wide"]) (.sub (.tuple [(.tuple [(.cstr "f"),(.cint 1)]),(.tuple [(.cstr "g"),(.cint 2)]),(.tuple [(.cstr "g"),(.cint 1)])]) (.callf "_law_pin" [(.name "pad"),(.cint 3)])),.expr (.callm (.name "heap") "add" [(.name "op"),(.callf "tuple" [(.comp (.callf "_law_pin" [(.name "pad"),(.callm (.name "heap") "size" [])]) [.mk ["k"] (.range (.name "wide")) []])])])],.fors ["lap"] (.range (.callf "_law_pin" [(.name "pad"),(.cint 3)])) [.assign (.name "one") (.callf "_law_pin" [(.name "pad"),(.callm (.name "heap") "size" [])]),.expr (.callm (.name "heap") "merge" [(.name "one"),(.callf "_law_pin" [(.name "pad"),(.callm (.name "heap") "size" [])]),(.tuple [(.cstr "told"),(.cstr "t")])])],.expr (.callm (.name "heap") "settle" []),.ret (.name "heap")]⟩
noncomputable def Xo:FnC:=⟨["pattern","path"],[
 .ifs (.cmp (.sub (.sub (.name "pattern") (.cint 0)) (.cint 0)) .eq (.cstr "?")) [.ret (.list [])] [],.assign (.name "names") (.bin .add (.tuple [(.name "path")]) (.callf "tuple" [(.comp (.ite (.cmp (.sub (.sub (.name "kid") (.cint 0)) (.cint 0)) .eq (.cstr "?")) (.sub (.name "kid") (.cint 0)) (.bin .add (.name "path") (.tuple [(.name "k")]))) [.mk ["k","kid"] (.enum (.slice (.name "pattern") (some (.cint 1)) none)) []])])),.assign (.name "found") (.list [(.tuple [(.sub (.name "pattern") (.cint 0)),(.name "names")])]),.fors ["k","kid"] (.enum (.slice (.name "pattern") (some (.cint 1)) none)) [.assign (.name "found") (.bin .add (.name "found") (.callf "_law_atoms" [(.name "kid"),(.bin .add (.name "path") (.tuple [(.name "k")]))]))],.ret (.name "found")]⟩
noncomputable def WA:FnC:=⟨["heap","op","names","order"],[
 .assign (.name "found") (.list []),.fors ["n"] (.range (.callm (.name "heap") "size" [])) [.assign (.name "node") (.bin .add (.tuple [(.callm (.name "heap") "find" [(.name "n")]),(.callm (.attr (.name "heap") "bank") "op" [(.name "n")])]) (.callf "tuple" [(.comp (.callm (.name "heap") "find" [(.name "kid")]) [.mk ["kid"] (.plain (.callm (.attr (.name "heap") "bank") "kids" [(.name "n")])) []])])),.ifs (.andB (.cmp (.sub (.name "node") (.cint 1)) .eq (.name "op")) (.andB (.cmp (.callf "len" [(.name "node")]) .eq (.bin .add (.callf "len" [(.name "names")]) (.cint 1))) (.cmp (.name "node") .nin (.name "found")))) [.expr (.callm (.name "found") "append" [(.name "node")])] []],.assign (.name "rows") (.list []),.fors ["node"] (.plain (.callf "sorted" [(.name "found")])) [.assign (.tup ["values","is_one"]) (.tuple [(.dict [] []),(.cbool true)]),.fors ["name","value"] (.zip (.name "names") (.bin .add (.slice (.name "node") none (some (.cint 1))) (.slice (.name "node") (some (.cint 2)) none))) [.assign (.name "is_one") (.andB (.name "is_one") (.cmp (.callm (.name "values") "setdefault" [(.name "name"),(.name "value")]) .eq (.name "value")))],.ifs (.name "is_one") [.expr (.callm (.name "rows") "append" [(.callf "tuple" [(.comp (.sub (.name "values") (.name "name")) [.mk ["name"] (.plain (.name "order")) [(.cmp (.name "name") .inn (.name "values"))]])])])] []],.ret (.name "rows")]⟩
noncomputable def Wd:FnC:=⟨["script"],[
 .assign (.name "pad") (.dict ["cells","spot"] [(.comp (.bin .mod (.callf "int" [(.name "cell")]) (.cint 1000003)) [.mk ["cell"] (.plain (.slice (.name "script") none (some (.cint 60)))) []]),(.cint 0)]),.assign (.tup ["many","wide"]) (.tuple [(.callf "_law_pin" [(.name "pad"),(.cint 9)]),(.bin .add (.cint 1) (.callf "_law_pin" [(.name "pad"),(.cint 3)]))]),.assign (.name "rows") (.comp (.callf "tuple" [(.comp (.callf "_law_pin" [(.name "pad"),(.cint 4)]) [.mk ["k"] (.range (.name "wide")) []])]) [.mk ["lap"] (.range (.name "many")) []]),.assign (.name "told") (.callf "trie_of" [(.name "rows")]),.ifs (.orB (.cmp (.name "told") .ne (.callf "_law_laid" [(.name "rows")])) (.cmp (.callf "_law_sequence" [(.name "told")]) .ne (.callf "_law_sequence" [(.callf "_law_laid" [(.name "rows")])]))) [.ret (.cbool false)] [],.ifs (.cmp (.callf "sorted" [(.callf "_law_ways" [(.name "told"),(.name "wide")])]) .ne (.callf "sorted" [(.callf "set" [(.name "rows")])])) [.ret (.cbool false)] [],.assign (.name "heap") (.callf "_law_heap" [(.name "pad")]),.assign (.name "pattern") (.tuple [(.cstr "g"),(.sub (.gname "_law_parts") (.callf "_law_pin" [(.name "pad"),(.cint 6)])),(.sub (.gname "_law_parts") (.callf "_law_pin" [(.name "pad"),(.cint 6)]))]),.assign (.tup ["atoms","tables"]) (.tuple [(.callf "_law_atoms" [(.name "pattern"),(.tuple [])]),(.callf "Tables" [(.name "heap")])]),.ifs (.cmp (.callf "atoms_of" [(.name "pattern")]) .ne (.name "atoms")) [.ret (.cbool false)] [],.assign (.name "order") (.callf "list" [(.callf "dict" [(.comp (.tuple [(.name "name"),(.cbool true)]) [.mk ["op","names"] (.plain (.name "atoms")) [],.mk ["name"] (.plain (.name "names")) []])])]),.assign (.name "spot") (.callf "_law_pin" [(.name "pad"),(.callf "len" [(.name "order")])]),.assign (.name "order") (.bin .add (.slice (.name "order") (some (.name "spot")) none) (.slice (.name "order") none (some (.name "spot")))),.fors ["op","names"] (.plain (.name "atoms")) [.assign (.tup ["due","late"]) (.tuple [(.callf "_law_laid" [(.callf "_law_kept" [(.name "heap"),(.name "op"),(.name "names"),(.name "order")])]),(.callm (.name "tables") "trie" [(.name "op"),(.name "names"),(.name "order")])]),.ifs (.orB (.cmp (.name "late") .ne (.name "due")) (.cmp (.callf "_law_sequence" [(.name "late")]) .ne (.callf "_law_sequence" [(.name "due")]))) [.ret (.cbool false)] []],.ret (.cbool true)]⟩
noncomputable def fns:List (AE×FnC):=[("is_op",U7),("is_variable",VV),("parts",UA),("Bank.__init__",UU),("Bank.size",T6),("Bank.take",Xv),("Bank.require",XE),("Bank.op",Ub),("Bank.kids",Vy),("atoms_of",UQ),("trie_of",V5),("Tables.__init__",Wm),("Tables.table",WI),("Tables.trie",YJ),("Unions.__init__",Wv),("Unions.make",Vt),("Unions.size",UT),("Unions.find",Us),("Unions.merge",YT),("Unions.members",WJ),("Unions.classes",V4),("Heap.__init__",Uy),("Heap.size",Xz),("Heap.node",Vk),("Heap.add",Vn),("Heap.look_at",Xb),("Heap.find",Ts),("Heap.merge",T3),("Heap.join",Ua),("Heap.settle",WE),("Heap.classes",Wu),("Heap.members",VT),("Heap.nodes_of",Ut),("_law_pin",YL),("_law_laid",Wz),("_law_sequence",RU),("_law_ways",PZ),("_law_heap",WS),("_law_atoms",Xo),("_law_kept",WA),("law",Wd)]
noncomputable def HU:List AE:=["len","tuple","list","dict","set","sorted","max","sum","int"]
noncomputable def Nd(f:AE):AL:=cond (Hk.contains f) (Cm.contains f||(DP fns f).isSome) (HU.contains f)
theorem gU:(MR.all λf=>(DP fns f).isSome)=true:=by decide+kernel
@[irreducible] noncomputable def wC (n:AA):Calls:=mr fns n
theorem il{f:AE}{args:List V}{s:St}{Q:QV}:wC 0 f args s Q=As:=by unfold wC;rfl
theorem QF{n:AA}{f:AE}{args:List V}{s:St}{Q:QV}:wC (n+1) f args s Q=pB (Q7 (wC n) fns f args s Q) (Is (DP fns f) (kFn (wC n) args s Q)) (Cm.contains f):=by unfold wC;rfl
end Mine
namespace Mine
open PySem PySem.Calls PyProof.Rows
theorem ED{x y:AE}(h:AK x=AK y):x=y:=by
 rw [FY,FY] at h
 have h1:x.toList.map GC=y.toList.map GC:=by
  have:=AW (λz:Str=>z.cps.toList) h
  simpa using this
 have h2:x.toList=y.toList:=by
  refine(Ye (λa b e=>?_)).mp h1
  exact Ir.ext (Yg.mp e)
 exact Yh.mp h2
noncomputable def IsTp(h:AQ)(a:AD)(vs:AS AB):Prop:=∃o,h.get? a=some o∧o.cls= .type "tuple"∧o.dict=none∧∃n,o.data= .seq vs n
theorem IsTp.tup{h:AQ}{a:AD}{vs:AS AB}(x:IsTp h a vs):IsTup h a vs:=x.elim λo zz=>zz.elim λe zz=>zz.elim λc zz=>zz.elim λ_ zz=>zz.elim λn d=>⟨o,e,c,n,d⟩
theorem FX{h:AQ}{I:AD}{o:Obj}{n:AE}(e:h.get? I=some o)(c:o.cls= .type n)(hn:n≠"tuple"){vs:AS AB}(t:IsTp h I vs):As:=by
 (refine Al t ?_;clear t;intro o' e' c' _)
 (have zz:=AV (e.symm.trans e');subst zz)
 exact hn (Gy.inj (c.symm.trans c'))
mutual
noncomputable def VR(h:AQ)(μ:List AD):V→AB→Prop
 | .none,v=>v= .none
 | .bool b,v=>v= .bool b
 | .int i,v=>∃t,v= .int i t
 | .str x,v=>∃t,v= .str (AK x) t
 | .tup l,v=>∃a vs,v= .ref a∧IsTp h a vs.toArray∧a∉μ∧VRs h μ l vs
 | .ref n,v=>∃a,v= .ref a∧μ[n]? =some a
noncomputable def VRs(h:AQ)(μ:List AD):List V→List AB→Prop
 | [],vs=>vs=[]
 | a::l,vs=>∃v r,vs=v::r∧VR h μ a v∧VRs h μ l r
end
theorem IsTp.get{h:AQ}{a:AD}{vs:AS AB}(x:IsTp h a vs):∃o,h.get? a=some o:=x.elim λo zz=>zz.elim λe _=>⟨o,e⟩
theorem IsTp.to{h h':AQ}{a:AD}{vs:AS AB}(x:IsTp h a vs)(k:∀o,h.get? a=some o→h'.get? a=some o):IsTp h' a vs:=
 x.elim λo zz=>zz.elim λe r=>⟨o,k o e,r⟩
section
variable{h h':AQ}{μ μ':List AD}
structure Pass(h h':AQ)(μ μ':List AD):Prop where
 ext:∃ν,μ'=μ++ν∧∀a∈ν,h.get? a=none
 tup:∀a vs,a∉μ→IsTp h a vs→IsTp h' a vs
theorem Pass.idx(P:Pass h h' μ μ'){n:AA}{a:AD}(e:μ[n]? =some a):μ'[n]? =some a:=by
 (refine AJ P.ext ?_;intro ν z1;subst z1;intro _)
 refine rwl (C6 (BA.mp e).1) ?_;exact e
theorem Pass.notin(P:Pass h h' μ μ'){a:AD}{o:Obj}(ha:a∉μ)(e:h.get? a=some o):a∉μ':=by
 (refine AJ P.ext ?_;intro ν z2;subst z2;intro q)
 intro hm
 rcases BD.mp hm with hm | hm
 ·exact ha hm
 ·replace e:=q a hm▸e;cases e
theorem Pass.refl(h:AQ)(μ:List AD):Pass h h μ μ:=⟨⟨[],(Bo μ).symm,nofun⟩,λ_ _ _ x=>x⟩
mutual
theorem VR.pass(P:Pass h h' μ μ'):∀{a:V} {v:AB},VR h μ a v→VR h' μ' a v
 | .none,_,x=>x
 | .bool _,_,x=>x
 | .int _,_,x=>x
 | .str _,_,x=>x
 | .ref _,_,x=>x.elim λa x=>⟨a,x.1,P.idx x.2⟩
 | .tup _,_,x=>x.elim λa x=>x.elim λvs x=>(IsTp.get x.2.1).elim λ_ eo=>⟨a,vs,x.1,P.tup a _ x.2.2.1 x.2.1,P.notin x.2.2.1 eo,VRs.pass P x.2.2.2⟩
theorem VRs.pass(P:Pass h h' μ μ'):∀{l:List V} {vs:List AB},VRs h μ l vs→VRs h' μ' l vs
 | [],_,x=>x
 | _::_,_,x=>x.elim λv x=>x.elim λr x=>⟨v,r,x.1,VR.pass P x.2.1,VRs.pass P x.2.2⟩
end
theorem VRs.nil:VRs h μ [] []:=rfl
theorem VRs.cons{a:V}{v:AB}{l:List V}{vs:List AB}(x:VR h μ a v)(y:VRs h μ l vs):VRs h μ (a::l) (v::vs):=⟨v,vs,rfl,x,y⟩
theorem VRs.uncons{a:V}{l:List V}{vs:List AB}{g:Prop}(x:VRs h μ (a::l) vs)(k:∀v r,vs=v::r→VR h μ a v→VRs h μ l r→g):g:=x.elim λv x=>x.elim λr x=>k v r x.1 x.2.1 x.2.2
theorem VRs.length{l:List V}:∀{vs:List AB},VRs h μ l vs→vs.length=l.length:=by
 induction l with
 | nil=>exact λx=>AW Jw x
 | cons a l ih=>exact λx=>x.uncons λv r e _ y=>(AW Jw e).trans (AW Jx (ih y))
theorem VRs.append{l m:List V}{us:List AB}:∀{vs:List AB},VRs h μ l vs→VRs h μ m us→VRs h μ (l++m) (vs++us):=by
 induction l with
 | nil=>exact λx y=>(x:_=[])▸y
 | cons a l ih=>exact λx y=>x.uncons λv r e x1 x2=>e▸VRs.cons x1 (ih x2 y)
theorem VRs.get{l:List V}:∀{vs:List AB} {n:AA} {a:V},VRs h μ l vs→l[n]? =some a→∃v,vs[n]? =some v∧VR h μ a v:=by
 induction l with
 | nil=>exact λ_ e=>xN e
 | cons b l ih=>
  intro vs n a x e
  refine x.uncons λv r er x1 x2=>?_
  subst er
  cases n with
  | zero=>exact⟨v,rfl,AV e▸x1⟩
  | succ n=>exact ih (n:=n) x2 e
theorem VRs.drop{l:List V}:∀{vs:List AB} (n:AA),VRs h μ l vs→VRs h μ (l.drop n) (vs.drop n):=by
 induction l with
 | nil=>exact λn x=>by cases(x:_=[]);refine rwl Rm (rwl Rm ?_);exact VRs.nil
 | cons b l ih=>
  intro vs n x
  cases n with
  | zero=>exact x
  | succ n=>exact x.uncons λv r e _ x2=>e▸ih n x2
theorem VRs.take{l:List V}:∀{vs:List AB} (n:AA),VRs h μ l vs→VRs h μ (l.take n) (vs.take n):=by
 induction l with
 | nil=>exact λn x=>by cases(x:_=[]);refine rwl List.take_nil (rwl List.take_nil ?_);exact VRs.nil
 | cons b l ih=>
  intro vs n x
  cases n with
  | zero=>exact VRs.nil
  | succ n=>exact x.uncons λv r e x1 x2=>e▸VRs.cons x1 (ih n x2)
theorem VRs.set{l:List V}{a:V}{v:AB}:∀{vs:List AB} (n:AA),VRs h μ l vs→VR h μ a v→VRs h μ (l.set n a) (vs.set n v):=by
 induction l with
 | nil=>exact λn x _=>(x:_=[])▸VRs.nil
 | cons b l ih=>
  intro vs n x y
  cases n with
  | zero=>exact x.uncons λv r e x1 x2=>e▸VRs.cons y x2
  | succ n=>exact x.uncons λv r e x1 x2=>e▸VRs.cons x1 (ih n x2 y)
theorem VRs.split{l m:List V}:∀{vs:List AB},VRs h μ (l++m) vs→∃us ws,vs=us++ws∧VRs h μ l us∧VRs h μ m ws:=by
 induction l with
 | nil=>exact λ{vs} x=>⟨[],vs,rfl,VRs.nil,x⟩
 | cons a l ih=>exact λ{vs} x=>VRs.uncons (l:=l++m) x λv r e x1 x2=>(ih x2).elim λus y=>y.elim λws y=>⟨v::us,ws,e.trans (AW (v:: ·) y.1),VRs.cons x1 y.2.1,y.2.2⟩
end
noncomputable def Nf(w:Ae):V→Int
 | .int i=>hashInt i
 | .str x=>hashStr w (AK x)
 | _=>0
noncomputable def AZ(w:Ae):V→Int
 | .tup l=>reduceHash (BW.Tuple.tupleHashOf (l.map (Nf w)))
 | a=>Nf w a
section
variable(w:Ae)(ca:AE→AD)
noncomputable def DRs(h:AQ)(μ:List AD):List (V×V)→List Be→Prop
 | [],ds=>ds=[]
 | e::es,ds=>∃k v r,ds=⟨AZ w e.1,k,v⟩::r∧VR h μ e.1 k∧VR h μ e.2 v∧DRs h μ es r
noncomputable def Cf:List (V×V)→AL
 | []=>true
 | e::es=>e.1.simple&&(Aa e.1 es).isNone&&Cf es
noncomputable abbrev EK(vs:List AB)(n:AA):Obj:={cls:=.type "list",data:=.seq vs.toArray n}
noncomputable abbrev Di(ds:List Be)(n:AA):Obj:={cls:=.type "dict",data:=.dict ds.toArray n}
noncomputable abbrev Ey(es:AS (Int×AB))(ep:AA)(t:SetTable):Obj:={cls:=.type "set",data:=.set es ep t}
noncomputable def OR(h:AQ)(μ:List AD)(i:AA)(a:AD):O→Prop
 | .list xs=>∃vs n,h.get? a=some (EK vs n)∧VRs h μ xs vs
 | .dict es n=>∃ds,h.get? a=some (Di ds n)∧DRs w h μ es ds∧Cf es=true
 | .set xs=>∃es ep t ys,h.get? a=some (Ey es ep t)∧t.fits es.size=true∧((t.led=true∨w.params.followText "set-order"=true)∧∀a b,a<b→b<t.place.size→t.place.getD a 0<t.place.getD b 0)∧ys.Perm xs∧VRs h μ ys (es.toList.map (·.2))
 | .inst c=>∃d o,μ[i+1]? =some d∧d≠a∧h.get? a=some o∧o.cls= .ref (ca c)∧(∀c,o.data≠ .cls c)∧o.dict=some d
 | .ns fs=>∃mA,h.Ns1 a mA∧Within mA (fs.map λf=>AK f.1)∧∀x,match Ce x fs with
  | some v=>∃u,mA (AK x)=some u∧VR h μ v u
  | none=>mA (AK x)=none
 | .priv=>∃x y,h.get? a=some {cls:=.type "tuple",data:=.seq #[x,y]}
 | .fro x xs=>∃vs n,(x.cls= .type "list"∧x.data= .seq vs.toArray n)∧h.get? a=some x∧VRs h μ xs vs
variable{w:Ae}{ca:AE→AD}{h h':AQ}{μ μ':List AD}
theorem DRs.uncons{e:V×V}{es:List (V×V)}{ds:List Be}{g:Prop}(x:DRs w h μ (e::es) ds)(f:∀k v r,ds=⟨AZ w e.1,k,v⟩::r→VR h μ e.1 k→VR h μ e.2 v→DRs w h μ es r→g):g:=
 x.elim λk x=>x.elim λv x=>x.elim λr x=>f k v r x.1 x.2.1 x.2.2.1 x.2.2.2
theorem DRs.pass(P:Pass h h' μ μ'){es:List (V×V)}:∀{ds:List Be},DRs w h μ es ds→DRs w h' μ' es ds:=by
 induction es with
 | nil=>exact λx=>x
 | cons e es ih=>exact λx=>x.uncons λk v r e' x y z=>⟨k,v,r,e',x.pass P,y.pass P,ih z⟩
theorem DRs.length{es:List (V×V)}:∀{ds:List Be},DRs w h μ es ds→ds.length=es.length:=by
 induction es with
 | nil=>exact λx=>AW Jw x
 | cons e es ih=>exact λx=>x.uncons λk v r e' _ _ z=>(AW Jw e').trans (AW Jx (ih z))
theorem OR.pass(P:Pass h h' μ μ'){i:AA}{a:AD}{o:O}(x:OR w ca h μ i a o)(k:h'.get? a=h.get? a):OR w ca h' μ' i a o:=by
 cases o with
 | list xs=>(refine A6 x ?_;clear x;intro vs n e r);exact⟨vs,n,k.trans e,r.pass P⟩
 | dict es n=>(refine Al x ?_;clear x;intro ds e r q);exact⟨ds,k.trans e,r.pass P,q⟩
 | set xs=>(refine RA x ?_;clear x;intro es ep t ys e f1 f2 p r);exact⟨es,ep,t,ys,k.trans e,f1,f2,p,r.pass P⟩
 | inst c=>(refine BV x ?_;clear x;intro d o e ne g r);exact⟨d,o,P.idx e,ne,k.trans g,r⟩
 | ns fs=>
  (refine Al x ?_;clear x;intro mA n wi f)
  refine⟨mA,n.at (λo e=>k.trans e),wi,λx=>?_⟩
  have q:=f x
  revert q
  cases Ce x fs with
  | none=>exact id
  | some v=>(intro zr1;(refine AJ zr1 ?_;clear zr1;intro u e r));exact⟨u,e,r.pass P⟩
 | priv=>(refine CU x ?_;clear x;intro x y e);exact⟨x,y,k.trans e⟩
 | fro o xs=>(refine BO x ?_;clear x;intro vs n e0 e r);exact⟨vs,n,e0,k.trans e,r.pass P⟩
theorem OR.here{i:AA}{a:AD}{o:O}(x:OR w ca h μ i a o):∃ob,h.get? a=some ob:=by
 cases o with
 | list xs=>(refine A6 x ?_;clear x;intro vs n e r);exact⟨_,e⟩
 | dict es n=>(refine Al x ?_;clear x;intro ds e r q);exact⟨_,e⟩
 | set xs=>(refine RL x ?_;clear x;intro es ep t ys e _);exact⟨_,e⟩
 | inst c=>(refine BV x ?_;clear x;intro d o _ _ g _);exact⟨_,g⟩
 | ns fs=>(refine AJ x ?_;clear x;intro mA z3;rcases z3 with ⟨o,es,ep,e,_⟩;intro _);exact⟨_,e⟩
 | priv=>(refine CU x ?_;clear x;intro x y e);exact⟨_,e⟩
 | fro o xs=>(refine BO x ?_;clear x;intro vs n e0 e r);exact⟨_,e⟩
structure SR(w:Ae)(ca:AE→AD)(h₀ h:AQ)(st:St)(μ:List AD):Prop where
 len:μ.length=st.length
 nodup:μ.Nodup
 base:∀a o,h₀.get? a=some o→h.get? a=some o
 above:∀a∈μ,h₀.get? a=none
 obj:∀i o,st[i]? =some o→∃a,μ[i]? =some a∧OR w ca h μ i a o
structure Nx(w:Ae)(ca:AE→AD)(h₀ hb:AQ)(s:AF)(μ:List AD)(s':AF)(μ':List AD)(st':St):Prop where
 rest:∃h' d' t',s'= {s with heap:=h',drawn:=d',toks:=t'}
 ext:∃ν,μ'=μ++ν∧∀a∈ν,s.heap.get? a=none
 alive:∀a o,s.heap.get? a=some o→∃o',s'.heap.get? a=some o'
 keep:∀a o,(∃ob,hb.get? a=some ob)→a∉μ→s.heap.get? a=some o→s'.heap.get? a=some o
 tup:∀a vs,a∉μ→IsTp s.heap a vs→IsTp s'.heap a vs
 sr:SR w ca h₀ s'.heap st' μ'
section
variable{h₀ hb:AQ}{s s1 s2:AF}{μ1 μ2:List AD}{st st1 st2:St}
theorem Nx.pass(N:Nx w ca h₀ hb s μ s1 μ1 st1):Pass s.heap s1.heap μ μ1:=⟨N.ext,N.tup⟩
theorem Nx.refl(S:SR w ca h₀ s.heap st μ):Nx w ca h₀ hb s μ s μ st:=⟨⟨_,_,_,rfl⟩,⟨[],by simp,by simp⟩,λ_ o e=>⟨o,e⟩,λ_ _ _ _ e=>e,λ_ _ _ x=>x,S⟩
theorem Nx.tok(S:SR w ca h₀ s.heap st μ)(t:AA):Nx w ca h₀ hb s μ {s with toks:=t} μ st:=⟨⟨_,_,_,rfl⟩,⟨[],by simp,by simp⟩,λ_ o e=>⟨o,e⟩,λ_ _ _ _ e=>e,λ_ _ _ x=>x,S⟩
theorem Nx.trans(N:Nx w ca h₀ hb s μ s1 μ1 st1)(N':Nx w ca h₀ hb s1 μ1 s2 μ2 st2):Nx w ca h₀ hb s μ s2 μ2 st2:=by
 (refine GW N.rest ?_;intro h1 d1 t1 z4;subst z4)
 (refine GW N'.rest ?_;intro h2 d2 t2 z5;subst z5)
 (refine AJ N.ext ?_;intro ν1 z6;subst z6;intro f1)
 (refine AJ N'.ext ?_;intro ν2 z7;subst z7;intro f2)
 refine⟨⟨_,_,_,rfl⟩,⟨ν1++ν2,by simp,λa ha=>?_⟩,λa o e=>?_,λa o b n e=>?_,λa vs n x=>?_,N'.sr⟩
 ·rcases BD.mp ha with ha | ha
  ·exact f1 a ha
  ·cases q:s.heap.get? a with
   | none=>rfl
   | some o=>
    refine exE (N.alive a o q) λo' e'=>?_
    have z:=f2 a ha
    replace z:=e'▸z;cases z
 ·refine exE (N.alive a o e) λo' e'=>?_
  exact N'.alive a o' e'
 ·exact N'.keep a o b (N.pass.notin n e) (N.keep a o b n e)
 ·refine exE (IsTp.get x) λo e=>?_
  exact N'.tup a vs (N.pass.notin n e) (N.tup a vs n x)
theorem Nx.weak(N:Nx w ca h₀ s.heap s μ s1 μ1 st1):Nx w ca h₀ hb s μ s1 μ1 st1:=⟨N.rest,N.ext,N.alive,λa o _ n e=>N.keep a o ⟨o,e⟩ n e,N.tup,N.sr⟩
theorem Nx.then(N:Nx w ca h₀ hb s μ s1 μ1 st1)(N':Nx w ca h₀ s1.heap s1 μ1 s2 μ2 st2):Nx w ca h₀ hb s μ s2 μ2 st2:=N.trans N'.weak
theorem Nx.of(S:SR w ca h₀ s.heap st μ){h':AQ}{t:AA}(keep:∀a o,a∉μ→s.heap.get? a=some o→h'.get? a=some o)(alive:∀a o,s.heap.get? a=some o→∃o',h'.get? a=some o')
  {ν:List AD} (fresh:∀a∈ν,s.heap.get? a=none) (S':SR w ca h₀ h' st1 (μ++ν)):Nx w ca h₀ s.heap s μ {s with heap:=h',toks:=t} (μ++ν) st1:=
 ⟨⟨_,_,_,rfl⟩,⟨ν,rfl,fresh⟩,alive,λa o _ n e=>keep a o n e,λa vs n x=>IsTp.to x λo e=>keep a o n e,S'⟩
end
section
variable{h₀:AQ}{st:St}
theorem SR.at(S:SR w ca h₀ h st μ){i:AA}{o:O}(e:st[i]? =some o){a:AD}(ha:μ[i]? =some a):OR w ca h μ i a o:=by
 refine AJ (S.obj i o e) λb hb x=>?_
 replace hb:=ha▸hb;(replace hb:=AV hb;subst hb);exact x
theorem SR.mem{a:AD}{i:AA}(e:μ[i]? =some a):a∈μ:=Bx e
theorem SR.inj(S:SR w ca h₀ h st μ){i j:AA}{a:AD}(hi:μ[i]? =some a)(hj:μ[j]? =some a):i=j:=
 (Yi (BA.mp hi).1 S.nodup).mp (hi.trans hj.symm)
theorem SR.here(S:SR w ca h₀ h st μ){a:AD}(ha:a∈μ):∃o,h.get? a=some o:=by
 refine exE (Lg ha) λi hi=>?_
 have l:i<st.length:=by refine rwr S.len ?_;exact(BA.mp hi).1
 exact(S.at (Ba l) hi).here
theorem SR.turn(S:SR w ca h₀ h st μ){i:AA}{a:AD}{o':O}(ha:μ[i]? =some a)(hs:C7 a h h')(x:OR w ca h' μ i a o'):SR w ca h₀ h' (st.set i o') μ:=by
 have P:Pass h h' μ μ:=⟨⟨[],by simp,by simp⟩,λb vs n t=>IsTp.to t λo e=>(hs.2 b (λz=>n (z▸SR.mem ha))).trans e⟩
 refine⟨by refine rwl Gz ?_;exact S.len,S.nodup,λb o e=>(hs.2 b ?_).trans (S.base b o e),S.above,λj o e=>?_⟩
 ·rintro rfl
  replace e:=S.above b (SR.mem ha)▸e;cases e
 ·by_cases hj:i=j
  ·subst hj
   replace e:=Ro▸e
   have l:i<st.length:=by refine rwr S.len ?_;exact(BA.mp ha).1
   simp only [G0,l,Jy] at e
   subst e
   exact⟨a,ha,x⟩
  ·replace e:=Jz hj▸e
   refine AJ (S.obj j o e) λb hb y=>?_
   exact⟨b,hb,y.pass P (hs.2 b λz=>hj (S.inj ha (z▸hb)))⟩
theorem XK{a:AD}(hs:C7 a h h')(ha:∃o,h'.get? a=some o):∀b o,h.get? b=some o→∃o',h'.get? b=some o':=λb o e=>by
 by_cases q:b=a
 ·subst q;exact ha
 ·exact⟨o,(hs.2 b q).trans e⟩
theorem Nx.turn{s:AF}(S:SR w ca h₀ s.heap st μ){i:AA}{a:AD}{o':O}{h':AQ}{t:AA}(ha:μ[i]? =some a)(hs:C7 a s.heap h')(x:OR w ca h' μ i a o'):
  Nx w ca h₀ s.heap s μ {s with heap:=h',toks:=t} μ (st.set i o'):=by
 have:=Nx.of (t:=t) S (ν:=[]) (st1:=st.set i o') (h':=h') (λb o n e=>(hs.2 b λz=>n (z▸SR.mem ha)).trans e) (XK hs x.here) (by simp) (by refine rwl (Bo ..) ?_;exact S.turn ha hs x)
 rwa [Bo] at this
theorem SR.push(S:SR w ca h₀ h st μ){a:AD}{o:O}(base:∀b ob,h₀.get? b=some ob→h'.get? b=some ob)(nm:a∉μ)(n0:h₀.get? a=none)(old:∀j b ob,μ[j]? =some b→OR w ca h μ j b ob→OR w ca h' (μ++[a]) j b ob)(x:OR w ca h' (μ++[a]) st.length a o):SR w ca h₀ h' (st++[o]) (μ++[a]):=by
 refine⟨by refine rwl Au (rwl Au (rwl S.len ?_));rfl,GD.mpr ⟨S.nodup,Yj _ _,λb hb c hc e=>nm (Aw.mp hc▸e▸hb)⟩,base,λb hb=>?_,λj ob e=>?_⟩
 ·exact(BD.mp hb).elim (S.above b) λhb=>Aw.mp hb▸n0
 ·rcases Np j st.length with l | l
  ·refine AJ (S.obj j ob ((C6 l).symm.trans e)) λb hb y=>?_
   exact⟨b,(C6 (BA.mp hb).1).trans hb,old j b ob hb y⟩
  ·have hj:j=st.length:=Iu (Bf (Yk (BA.mp e).1 Au)) l
   subst hj
   (have zz:=AV (Iv.symm.trans e);subst zz)
   exact⟨a,S.len▸Iv,x⟩
theorem SR.new(S:SR w ca h₀ h st μ){a:AD}{o:O}(k:∀b ob,h.get? b=some ob→h'.get? b=some ob)(ha:h.get? a=none)(x:OR w ca h' (μ++[a]) st.length a o):SR w ca h₀ h' (st++[o]) (μ++[a]):=by
 have P:Pass h h' μ (μ++[a]):=⟨⟨[a],rfl,λb hb=>Aw.mp hb▸ha⟩,λb vs n t=>IsTp.to t λo e=>k b o e⟩
 have none0:h₀.get? a=none:=by
  cases q:h₀.get? a with
  | none=>rfl
  | some ob=>exact xN (ha.symm.trans (S.base a ob q))
 exact S.push (λb ob e=>k b ob (S.base b ob e)) (λhm=>(S.here hm).elim λ_ e=>xN (ha.symm.trans e)) none0 (λj b ob hb y=>y.pass P (y.here.elim λo e=>(k b o e).trans e.symm)) x
theorem Nx.new{s:AF}(S:SR w ca h₀ s.heap st μ){a:AD}{o:O}{h':AQ}{t:AA}(k:∀b ob,s.heap.get? b=some ob→h'.get? b=some ob)(ha:s.heap.get? a=none)(x:OR w ca h' (μ++[a]) st.length a o):
  Nx w ca h₀ s.heap s μ {s with heap:=h',toks:=t} (μ++[a]) (st++[o]):=
 Nx.of S (λb o _ e=>k b o e) (λb o e=>⟨o,k b o e⟩) (by simpa using ha) (S.new k ha x)
theorem PE{s:AF}{a:AD}{h':AQ}(k:∀b ob,s.heap.get? b=some ob→h'.get? b=some ob)(ha:s.heap.get? a=none):Pass s.heap h' μ (μ++[a]):=
 ⟨⟨[a],rfl,by simpa using ha⟩,λb vs n t=>IsTp.to t λo e=>k b o e⟩
theorem Jt{h h':AQ}(k:∀b ob,h.get? b=some ob→h'.get? b=some ob):Pass h h' μ μ:=
 ⟨⟨[],by simp,by simp⟩,λb vs n t=>IsTp.to t λo e=>k b o e⟩
theorem SR.keep(S:SR w ca h₀ h st μ)(k:∀b ob,h.get? b=some ob→h'.get? b=some ob):SR w ca h₀ h' st μ:=
 ⟨S.len,S.nodup,λb ob e=>k b ob (S.base b ob e),S.above,λj ob e=>by
  refine AJ (S.obj j ob e) λb hb y=>?_
  refine exE y.here λo1 e1=>?_
  exact⟨b,hb,y.pass (Jt k) (by refine rwl e1 ?_;exact k b o1 e1)⟩⟩
theorem Nx.grow{s:AF}(S:SR w ca h₀ s.heap st μ){h':AQ}{t:AA}(k:∀b ob,s.heap.get? b=some ob→h'.get? b=some ob):Nx w ca h₀ s.heap s μ {s with heap:=h',toks:=t} μ st:=by
 have:=Nx.of (t:=t) S (ν:=[]) (st1:=st) (h':=h') (λb o _ e=>k b o e) (λb o e=>⟨o,k b o e⟩) (by simp) (by refine rwl (Bo ..) ?_;exact S.keep k)
 rwa [Bo] at this
end
end
end Mine
namespace Mine
open PySem PySem.Calls PyProof.Rows
structure WL(A:Aq)(n:AA):Prop where
 hd:A.handled=none
 dep:A.depth+3*n<900
 uni:A.units+40*n+200<Av
structure ER(h:AQ)(μ:List AD)(env:A0)(ρ:Env):Prop where
 kind:env.scope.kind= .function
 glob:env.globals=CX
 blt:env.builtins=Iw
 loc:∃m,h.Ns env.locals m∧∀x v,ρ x=some v→env.kindOf (AK x)=some .local→∃u,m (AK x)=some u∧VR h μ v u
 cel:∀x v,ρ x=some v→(env.kindOf (AK x)=some .cell∨env.kindOf (AK x)=some .free)→∃c u,env.cells.lookup (AK x)=some c∧h.IsCell c (some u)∧VR h μ v u
 lout:env.locals∉μ
 cout:∀n c,(n,c)∈env.cells→c∉μ∧∃u,h.IsCell c u
 cnames:∀n,(env.kindOf n=some .cell∨env.kindOf n=some .free)→∃c,env.cells.lookup n=some c
 apart:env.cells.Pairwise λx y=>x.2≠y.2
section
variable{w:Ae}{ca:AE→AD}{h₀ hb h h':AQ}{μ μ':List AD}{st st':St}{env:A0}{ρ:Env}
theorem Ns.notTup{h:AQ}{a:AD}{m:Str→AH AB}(x:h.Ns a m){vs:AS AB}(t:IsTp h a vs):As:=by
 obtain⟨o,e,c,_,n,d⟩:=t
 (refine Mg x ?_;clear x;intro o' es ep e' d' _)
 replace e':=e▸e';(replace e':=AV e';subst e');replace d':=d▸d';cases d'
theorem bP{h:AQ}{a:AD}{u:AH AB}(x:h.IsCell a u){vs:AS AB}(t:IsTp h a vs):As:=by
 obtain⟨o,e,c,_,n,d⟩:=t
 (refine AJ x ?_;clear x;intro o' e' d')
 replace e':=e▸e';(replace e':=AV e';subst e');replace d':=d▸d';cases d'
theorem Vz{h:AQ}{a:AD}{m:Str→AH AB}(x:h.Ns a m){u:AH AB}(t:h.IsCell a u):As:=by
 (refine AJ t ?_;clear t;intro o e d)
 (refine Mg x ?_;clear x;intro o' es ep e' d' _)
 replace e':=e▸e';(replace e':=AV e';subst e');replace d':=d▸d';cases d'
theorem ER.later(X:ER h μ env ρ)(P:Pass h h' μ μ')(kl:∀o,h.get? env.locals=some o→h'.get? env.locals=some o)(kc:∀n c,(n,c)∈env.cells→∀o,h.get? c=some o→h'.get? c=some o):ER h' μ' env ρ:=by
 refine AJ X.loc λm hn hm=>?_
 have hl:∃o,h.get? env.locals=some o:=hn.elim λo zz=>zz.elim λ_ zz=>zz.elim λ_ zz=>zz.elim λe _=>⟨o,e⟩
 refine⟨X.kind,X.glob,X.blt,⟨m,hn.elim λo zz=>zz.elim λes zz=>zz.elim λep zz=>zz.elim λe r=>⟨o,es,ep,kl o e,r⟩,λx v hx hk=>?_⟩,λx v hx hk=>?_,?_,λn c hc=>?_,X.cnames,X.apart⟩
 ·refine AJ (hm x v hx hk) λu e r=>?_
  exact⟨u,e,r.pass P⟩
 ·(refine BO (X.cel x v hx hk) ?_;intro c u e z8;rcases z8 with ⟨o,eo,d⟩;intro r)
  exact⟨c,u,e,⟨o,kc _ c (mem_of_lookup e) o eo,d⟩,r.pass P⟩
 ·(refine exE hl ?_;clear hl;intro o eo)
  exact P.notin X.lout eo
 ·obtain⟨nc,u,o,eo,d⟩:=X.cout n c hc
  exact⟨P.notin nc eo,u,o,kc n c hc o eo,d⟩
theorem ER.nx{s s1:AF}{μ1:List AD}{st1:St}(X:ER s.heap μ env ρ)(N:Nx w ca h₀ s.heap s μ s1 μ1 st1):ER s1.heap μ1 env ρ:=
 X.later N.pass (λo e=>N.keep _ o ⟨o,e⟩ X.lout e) λn c hc o e=>N.keep _ o ⟨o,e⟩ (X.cout n c hc).1 e
theorem SR.aside(S:SR w ca h₀ h st μ){a:AD}(hs:C7 a h h')(na:a∉μ)(h0:h₀.get? a=none)(nt:∀vs,IsTp h a vs→As):SR w ca h₀ h' st μ:=
 have P:Pass h h' μ μ:=⟨⟨[],by simp,by simp⟩,λb vs n t=>IsTp.to t λo e=>(hs.2 b λz=>nt vs (z▸t)).trans e⟩
 ⟨S.len,S.nodup,λb o e=>(hs.2 b (by rintro rfl;replace e:=h0▸e;cases e)).trans (S.base b o e),S.above,λj o e=>by
  refine AJ (S.obj j o e) λb hb y=>?_
  exact⟨b,hb,y.pass P (hs.2 b λz=>na (z▸SR.mem hb))⟩⟩
theorem Nx.aside{s:AF}(S:SR w ca h₀ s.heap st μ){a:AD}{h':AQ}{t:AA}(hs:C7 a s.heap h')(na:a∉μ)(h0:hb.get? a=none)(HB:∀a o,h₀.get? a=some o→hb.get? a=some o)
  (nt:∀vs,IsTp s.heap a vs→As) (al:∃o,h'.get? a=some o):Nx w ca h₀ hb s μ {s with heap:=h',toks:=t} μ st:=
 ⟨⟨_,_,_,rfl⟩,⟨[],by simp,by simp⟩,XK hs al,λb o zq1 _ e'=>zq1.elim λob e=>(hs.2 b (by rintro rfl;replace e:=h0▸e;cases e)).trans e',λb vs n x=>IsTp.to x λo e=>(hs.2 b λz=>nt vs (z▸x)).trans e,S.aside hs na (by cases q:h₀.get? a with | none=>rfl | some o=>replace h0:=HB a o q▸h0;cases h0) nt⟩
structure Own(hb:AQ)(env:A0)(x:AE):Prop where
 kind:env.kindOf (AK x)=some .local∨env.kindOf (AK x)=some .cell
 loc:env.kindOf (AK x)=some .local→hb.get? env.locals=none
 cel:∀c,env.kindOf (AK x)=some .cell→env.cells.lookup (AK x)=some c→hb.get? c=none
variable{M:Ej}{A:Aq}{E:AB→AF→Prop}{s:AF}
theorem Ib{x:AE}{v:V}{u:AB}{Q:Ek→AF→Prop}(X:ER s.heap μ env ρ)(S:SR w ca h₀ s.heap st μ)(HB:∀a o,h₀.get? a=some o→hb.get? a=some o)(O:Own hb env x)
  (hv:VR s.heap μ v u) (h:∀s',Nx w ca h₀ hb s μ s' μ st→ER s'.heap μ env (upd ρ x v)→(∀b,b≠env.locals→(∀n,(n,b)∉env.cells)→s'.heap.get? b=s.heap.get? b)→Q () s'):AP M A (Nq env (AK x) u) Q E s:=by
 refine wpAny_bindName ?_
 refine AJ X.loc λm hn hm=>?_
 rcases O.kind with hk | hk
 ·refine wpAny_storeName_local hk hn (λh' hn' hs=>?_) (by refine rwl X.kind ?_;rfl)
  have nt:∀vs,IsTp s.heap env.locals vs→As:=λvs t=>Ns.notTup hn t
  have al:∃o,h'.get? env.locals=some o:=hn'.elim λo zz=>zz.elim λ_ zz=>zz.elim λ_ zz=>zz.elim λe _=>⟨o,e⟩
  have N:Nx w ca h₀ hb s μ {s with heap:=h',toks:=s.toks+1} μ st:=Nx.aside S hs X.lout (O.loc hk) HB nt al
  have nc:∀n c,(n,c)∈env.cells→c≠env.locals:=λn c hc e=>by
   obtain⟨_,y,z⟩:=X.cout n c hc
   exact Vz hn (e▸z)
  refine h _ N ⟨X.kind,X.glob,X.blt,⟨_,hn',λy v' hy hk'=>?_⟩,λy v' hy hk'=>?_,X.lout,λn c hc=>?_,X.cnames,X.apart⟩ λb hb _=>hs.2 b hb
  ·by_cases e:y=x
   ·subst e
    simp only [upd,G0,Jy] at hy
    subst hy
    exact⟨u,by simp,hv.pass N.pass⟩
   ·simp only [upd,AO e] at hy
    refine AJ (hm y v' hy hk') λu' e1 r=>?_
    exact⟨u',by refine rwl (AO λz=>e (ED z)) ?_;exact e1,r.pass N.pass⟩
  ·have e:y≠x:=by rintro rfl;replace hk':=hk▸hk';rcases hk' with q | q<;>cases q
   simp only [upd,AO e] at hy
   (refine BO (X.cel y v' hy hk') ?_;intro c u' e1 z9;rcases z9 with ⟨o,eo,d⟩;intro r)
   exact⟨c,u',e1,⟨o,(hs.2 c (nc _ c (mem_of_lookup e1))).trans eo,d⟩,r.pass N.pass⟩
  ·obtain⟨n1,u',o,eo,d⟩:=X.cout n c hc
   exact⟨n1,u',o,(hs.2 c (nc n c hc)).trans eo,d⟩
 ·refine exE (X.cnames _ (.inl hk)) λc hc=>?_
  obtain⟨nc,u₀,hu₀⟩:=X.cout _ c (mem_of_lookup hc)
  refine wpAny_storeName_cell X.kind hk hc hu₀ (λh' hc' hs=>?_)
  have nt:∀vs,IsTp s.heap c vs→As:=λvs t=>bP hu₀ t
  have al:∃o,h'.get? c=some o:=hc'.elim λo zz=>zz.elim λe _=>⟨o,e⟩
  have N:Nx w ca h₀ hb s μ {s with heap:=h'} μ st:=Nx.aside (t:=s.toks) S hs nc (O.cel c hk hc) HB nt al
  have nl:env.locals≠c:=λe=>Vz hn (e▸hu₀)
  refine h _ N ⟨X.kind,X.glob,X.blt,⟨m,hn.sameBut hs nl,λy v' hy hk'=>?_⟩,λy v' hy hk'=>?_,X.lout,λn c' hc''=>?_,X.cnames,X.apart⟩ λb _ hb=>hs.2 b λe=>hb _ (e▸mem_of_lookup hc)
  ·have e:y≠x:=by rintro rfl;replace hk':=hk▸hk';cases hk'
   simp only [upd,AO e] at hy
   refine AJ (hm y v' hy hk') λu' e1 r=>?_
   exact⟨u',e1,r.pass N.pass⟩
  ·by_cases e:y=x
   ·subst e
    simp only [upd,G0,Jy] at hy
    subst hy
    exact⟨c,u,hc,hc',hv.pass N.pass⟩
   ·simp only [upd,AO e] at hy
    refine BO (X.cel y v' hy hk') λc' u' e1 e2 r=>?_
    refine⟨c',u',e1,e2.sameBut hs ?_,r.pass N.pass⟩
    rintro rfl
    exact e (ED (name_of_addr X.apart (mem_of_lookup e1) (mem_of_lookup hc)))
  ·obtain⟨n1,u',o,eo,d⟩:=X.cout n c' hc''
   by_cases e:c'=c
   ·subst e;exact⟨n1,some u,hc'⟩
   ·exact⟨n1,u',o,(hs.2 c' e).trans eo,d⟩
theorem bk{x:AE}{v:V}{pos:Ax}{Q:AB→AF→Prop}(X:ER s.heap μ env ρ)(hx:ρ x=some v)(hk:env.kindOf (AK x)=some .local∨env.kindOf (AK x)=some .cell∨env.kindOf (AK x)=some .free)
  (hd:(AK x==("__debug__":Str))=false) (hc:(AK x==("__classdict__":Str))=false) (h:∀u,VR s.heap μ v u→Q u s):AP M A (Dl (.Name (AK x) pos) env) Q E s:=by
 refine wpAny_Name ?_ hd
 rcases hk with hk | hk
 ·refine AJ X.loc λm hn hm=>?_
  refine AJ (hm x v hx hk) λu e r=>?_
  exact wpAny_loadName_local X.kind hk hn e (h u r)
 ·refine BO (X.cel x v hx hk) λc u e1 e2 r=>?_
  rcases hk with hk | hk
  ·exact wpAny_loadName_cell X.kind hk e1 e2 (h u r)
  ·exact wpAny_loadName_free X.kind hk e1 e2 (h u r) hc
end
end Mine
namespace Mine
open PySem PySem.Calls PyProof.Rows PySem.SeqAt
section
variable{w:Ae}{ca:AE→AD}{h₀ h:AQ}{μ:List AD}{st:St}{l:List V}{vs:List AB}
theorem IsTp.same{h:AQ}{a:AD}{vs us:List AB}(x:IsTp h a vs.toArray)(y:IsTp h a us.toArray):vs=us:=by
 obtain⟨o,e,_,_,n,d⟩:=x
 obtain⟨o',e',_,_,n',d'⟩:=y
 replace e':=e▸e';(replace e':=AV e';subst e');replace d':=d▸d'
 simp only [EN.seq.injEq] at d'
 have:=AW AS.toList d'.1
 simpa using this
mutual
theorem VR.inj(nd:μ.Nodup):∀{a b:V} {v:AB},VR h μ a v→VR h μ b v→a=b
 | .none,b,v,x,y=>by
  (have zz:=(show v= .none from x);subst zz)
  cases b with
  | none=>rfl
  | bool _=>exact nomatch y
  | _=>(refine exE y ?_;clear y;intro _ y);first | exact nomatch y | (obtain⟨_,y,_⟩:=y;exact nomatch y) | exact nomatch y.1
 | .bool c,b,v,x,y=>by
  (have zz:=(show v= .bool c from x);subst zz)
  cases b with
  | none=>exact nomatch y
  | bool d=>cases(show AB.bool c= .bool d from y);rfl
  | _=>(refine exE y ?_;clear y;intro _ y);first | exact nomatch y | (obtain⟨_,y,_⟩:=y;exact nomatch y) | exact nomatch y.1
 | .int i,b,v,x,y=>by
  (refine exE x ?_;clear x;intro t z0;subst z0)
  cases b with
  | none=>exact nomatch y
  | bool _=>exact nomatch y
  | int j=>(refine exE y ?_;clear y;intro _ y);cases y;rfl
  | _=>(refine exE y ?_;clear y;intro _ y);first | exact nomatch y | (obtain⟨_,y,_⟩:=y;exact nomatch y) | exact nomatch y.1
 | .str i,b,v,x,y=>by
  (refine exE x ?_;clear x;intro t z1;subst z1)
  cases b with
  | none=>exact nomatch y
  | bool _=>exact nomatch y
  | str j=>(refine exE y ?_;clear y;intro _ y);injection y with y _;(refine rwl (ED y) ?_;rfl)
  | _=>(refine exE y ?_;clear y;intro _ y);first | exact nomatch y | (obtain⟨_,y,_⟩:=y;exact nomatch y) | exact nomatch y.1
 | .ref i,b,v,x,y=>by
  (refine AJ x ?_;clear x;intro a z2;subst z2;intro hi)
  cases b with
  | ref j=>
   (refine AJ y ?_;clear y;intro a' e hj)
   cases e
   (refine rwl ((Yi (BA.mp hi).1 nd).mp (hi.trans hj.symm)) ?_;rfl)
  | tup m=>
   (refine BV y ?_;clear y;intro a' us e _ n _)
   cases e
   exact absurd (Bx hi) n
  | none=>exact nomatch y
  | bool _=>exact nomatch y
  | _=>(refine exE y ?_;clear y;intro _ y);exact nomatch y
 | .tup l,b,v,x,y=>by
  (refine BV x ?_;clear x;intro a vs z3;subst z3;intro t n r)
  cases b with
  | ref j=>
   (refine AJ y ?_;clear y;intro a' e hj)
   cases e
   exact absurd (Bx hj) n
  | tup m=>
   (refine BV y ?_;clear y;intro a' us e t' _ r')
   cases e
   (have zz:=IsTp.same t t';subst zz)
   (refine rwl (VRs.inj nd r r') ?_;rfl)
  | none=>exact nomatch y
  | bool _=>exact nomatch y
  | _=>(refine exE y ?_;clear y;intro _ y);exact nomatch y
theorem VRs.inj(nd:μ.Nodup):∀{l m:List V} {vs:List AB},VRs h μ l vs→VRs h μ m vs→l=m
 | [],m,vs,x,y=>by
  (have zz:=(show vs=[] from x);subst zz)
  cases m with
  | nil=>rfl
  | cons b m=>(refine A6 y ?_;clear y;intro _ _ e _);exact xD e
 | a::l,m,vs,x,y=>by
  (refine BO x ?_;clear x;intro v r z4;subst z4;intro x1 x2)
  cases m with
  | nil=>exact nomatch y
  | cons b m=>
   (refine BO y ?_;clear y;intro v' r' e y1 y2)
   cases e
   (refine rwl (VR.inj nd x1 y1) (rwl (VRs.inj nd x2 y2) ?_);rfl)
end
theorem Ww{f:V→V→AH AL}(hf:∀a r,f a a=some r→r=true)(l:List V):∀(r:AL),eqL f l l=some r→r=true:=by
 induction l with
 | nil=>exact λr e=>(AV e).symm
 | cons a l ih=>exact λr e=>Bn e λb e1 e=>Bn e λc e2 e=>(AV e).symm.trans (Ac.mpr ⟨hf a b e1,ih c e2⟩)
theorem bq:∀(n:AA) (st:St) (a:V) (r:AL),eqR n st a a=some r→r=true:=by
 intro n
 induction n with
 | zero=>exact λ_ _ _ e=>no e
 | succ n ih=>
  intro st a r e
  cases a with
  | int i=>exact(AV e).symm.trans (An rfl)
  | str i=>exact(AV e).symm.trans (An rfl)
  | tup l=>exact Ww (λa r=>ih st a r) l r e
  | ref i=>exact no ((AM rfl).symm.trans (show(if i=i then none else _)=some r from e))
  | _=>exact no e
theorem Wo{f:V→V→AH AL}(l:List V):∀{m:List V} {r:AL},eqL f l m=some r→
  ∃e:AA→AL,r=((Ab (min l.length m.length)).all e&&l.length==m.length)∧∀(j:AA) (a b:V),l[j]? =some a→m[j]? =some b→f a b=some (e j):=by
 induction l with
 | nil=>
  intro m r e
  refine⟨λ_=>true,(AV e).symm.trans ?_,λj a b h=>xN h⟩
  cases m<;>rfl
 | cons a l ih=>
  intro m r e
  cases m with
  | nil=>exact⟨λ_=>true,(AV e).symm,λj a b _ h=>xN h⟩
  | cons b m=>
   refine Bn e λc e1 e=>Bn e λd e2 e=>?_
   refine AJ (ih e2) λg hr hg=>?_
   refine⟨λj=>AA.casesOn j c g,?_,λj x y hx hy=>?_⟩
   ·refine rwr (AV e) (rwl hr (rwl Co (rwl Co (rwl (AA.succ_min_succ ..) (rwl Yl (rwl List.all_cons (rwl G1 (rwr (AL.and_assoc ..) (rwl (show(l.length+1==m.length+1)=(l.length==m.length) by simp) ?_)))))))))
    rfl
   ·cases j with
    | zero=>exact AV hx▸AV hy▸e1
    | succ j=>exact hg j x y hx hy
theorem VRs.at(x:VRs h μ l vs){j:AA}{u:AB}(e:vs[j]? =some u):∃a,l[j]? =some a∧VR h μ a u:=by
 have hl:=VRs.length x
 have lt:j<l.length:=by refine rwr hl ?_;exact(BA.mp e).1
 refine AJ (VRs.get x (Ba lt)) λv e1 r=>?_
 replace e1:=e▸e1;(replace e1:=AV e1;subst e1)
 exact⟨_,Ba lt,r⟩
theorem SR.list(S:SR w ca h₀ h st μ){i:AA}{a:AD}{xs:List V}(e:st[i]? =some (.list xs))(ha:μ[i]? =some a):∃vs n,h.get? a=some (EK vs n)∧VRs h μ xs vs:=S.at e ha
theorem SR.dict(S:SR w ca h₀ h st μ){i:AA}{a:AD}{es:List (V×V)}{n:AA}(e:st[i]? =some (.dict es n))(ha:μ[i]? =some a):∃ds,h.get? a=some (Di ds n)∧DRs w h μ es ds∧Cf es=true:=S.at e ha
theorem B0{h:AQ}{a:AD}{vs:List AB}{n:AA}(e:h.get? a=some (EK vs n)):h.IsList a vs.toArray:=⟨_,e,rfl,_,rfl⟩
noncomputable def Cs:V→Int
 | .int i=>i
 | _=>0
noncomputable def Cj(es:List (V×V)):List Int:=es.map λe=>Cs e.1
theorem F9{v:V}(h:v.isInt=true):v= .int (Cs v):=by
 cases v with
 | int i=>rfl
 | _=>exact xF h
theorem all_cons{e:V×V}{es:List (V×V)}(h:(e::es).all (λe=>e.1.isInt)=true):e.1= .int (Cs e.1)∧es.all (λe=>e.1.isInt)=true:=
 (Ac.mp (show(e.1.isInt&&es.all (λe=>e.1.isInt))=true from h)).elim λh1 h2=>⟨F9 h1,h2⟩
theorem HM{e:V×V}{es:List (V×V)}(h:Cf (e::es)=true):e.1.simple=true∧Aa e.1 es=none∧Cf es=true:=
 (Ac.mp h).elim λh1 h3=>(Ac.mp h1).elim λh1 h2=>⟨h1,Dz.mp h2,h3⟩
theorem Ue{i:Int}{e:V×V}{es:List (V×V)}(h:e.1= .int (Cs e.1)):Aa (.int i) (e::es)=if Cs e.1=i then some e.2 else Aa (.int i) es:=by
 obtain⟨k,v⟩:=e
 cases k with
 | int j=>
  show(if decide (j=i)=true then some v else Aa (.int i) es)=if j=i then some v else Aa (.int i) es
  by_cases q:j=i
  ·(refine rwl (AM q) (rwl (AM (An q)) ?_);rfl)
  ·(refine rwl (AO q) (rwl (AO (by refine rwl (B5 q) ?_;exact DD)) ?_);rfl)
 | _=>exact nomatch h
theorem dZ{i:Int}(es:List (V×V)):Aa (.int i) es=none→es.all (λe=>e.1.isInt)=true→i∉Cj es:=by
 induction es with
 | nil=>exact λ_ _=>Dm
 | cons e es ih=>
  intro h hk
  (have zz:=all_cons hk;have h1:=zz.1;have h2:=zz.2;clear zz)
  replace h:=Ue h1▸h
  by_cases q:Cs e.1=i
  ·replace h:=AM q▸h;exact xS h
  ·replace h:=AO q▸h
   exact λhm=>(Ak.mp hm).elim (λz=>q z.symm) (ih h h2)
theorem WO(es:List (V×V)):Cf es=true→es.all (λe=>e.1.isInt)=true→(Cj es).Nodup:=by
 induction es with
 | nil=>exact λ_ _=>El
 | cons e es ih=>
  intro h hk
  refine A7 (HM h) λ_ h2 h3=>?_
  (have zz:=all_cons hk;have k1:=zz.1;have k2:=zz.2;clear zz)
  replace h2:=k1▸h2
  exact DS.mpr ⟨dZ es h2 k2,ih h3 k2⟩
theorem DRs.intsOf{prog:Ar}{w':Ae}(es:List (V×V)):∀{ds:List Be},DRs w h μ es ds→es.all (λe=>e.1.isInt)=true→
  (∀e∈ds,∃k,(G2 prog w').is k e.key=true∧e.hash=(G2 prog w').hash k)∧Pairs (G2 prog w') ds ((Cj es).zip (ds.map (·.val))):=by
 induction es with
 | nil=>
  intro ds x _
  (have zz:=(show ds=[] from x);subst zz)
  exact⟨λ_ h=>(xM h),Pairs.nil⟩
 | cons e es ih=>
  intro ds x hk
  (refine Gq x ?_;clear x;intro ku vu r z5;subst z5;intro x1 x2 x3)
  (have zz:=all_cons hk;have k1:=zz.1;have k2:=zz.2;clear zz)
  (have zz:=ih x3 k2;have q1:=zz.1;have q2:=zz.2;clear zz)
  replace x1:=k1▸x1
  (refine exE x1 ?_;clear x1;intro t z6;subst z6)
  have hj:(G2 prog w').is (Cs e.1) (.int (Cs e.1) t)=true:=An rfl
  have hh:AZ w e.1=(G2 prog w').hash (Cs e.1):=by refine rwl k1 ?_;rfl
  refine⟨λd he=>?_,Pairs.cons (e:=⟨AZ w e.1,.int (Cs e.1) t,vu⟩) (kv:=(Cs e.1,vu)) hj rfl q2⟩
  rcases Ak.mp he with rfl | he
  ·exact⟨_,hj,hh⟩
  ·exact q1 d he
theorem Nj(es:List (V×V)):(Cj es).length=es.length:=AY ..
theorem DRs.dictOf{prog:Ar}{w':Ae}{es:List (V×V)}{ds:List Be}{a:AD}{n:AA}(e:h.get? a=some (Di ds n))(x:DRs w h μ es ds)(ok:Cf es=true)(hk:es.all (λe=>e.1.isInt)=true):
  h.DictOf (G2 prog w') a ((Cj es).zip (ds.map (·.val))):=by
 (have zz:=DRs.intsOf (prog:=prog) (w':=w') es x hk;have q1:=zz.1;have q2:=zz.2;clear zz)
 refine⟨_,ds.toArray,n,e,⟨rfl,rfl,rfl⟩,rfl,λe he=>q1 e (Rp.mp he),q2,?_⟩
 refine rwl (Ym (by refine rwl (Nj ..) (rwl (AY ..) (rwl x.length ?_));exact Aj _)) ?_
 exact WO es ok hk
theorem bo{i:Int}(es:List (V×V)):∀{ds:List Be},DRs w h μ es ds→es.all (λe=>e.1.isInt)=true→
  match Aa (.int i) es with
  | some v=>∃u,Iy ((Cj es).zip (ds.map (·.val))) i=some u∧VR h μ v u
  | none=>Iy ((Cj es).zip (ds.map (·.val))) i=none:=by
 induction es with
 | nil=>
  intro ds x _
  exact rfl
 | cons e es ih=>
  intro ds x hk
  (refine Gq x ?_;clear x;intro ku vu r z7;subst z7;intro x1 x2 x3)
  (have zz:=all_cons hk;have k1:=zz.1;have k2:=zz.2;clear zz)
  have ih:=ih x3 k2
  refine rwl (Ue k1) ?_
  have hv:Iy ((Cs e.1,vu)::(Cj es).zip (r.map (·.val))) i=if Cs e.1=i then some vu else Iy ((Cj es).zip (r.map (·.val))) i:=by
   unfold Iy
   refine rwl (List.find?_cons) ?_
   by_cases q:Cs e.1=i
   ·refine rwl (AM q) ?_;simp [q]
   ·refine rwl (AO q) ?_;simp [q]
  show match (if Cs e.1=i then some e.2 else Aa (.int i) es) with
   | some v=>∃u,Iy ((Cs e.1,vu)::(Cj es).zip (r.map (·.val))) i=some u∧VR h μ v u
   | none=>Iy ((Cs e.1,vu)::(Cj es).zip (r.map (·.val))) i=none
  refine rwl hv ?_
  by_cases q:Cs e.1=i
  ·refine rwl (AM q) (rwl (AM q) ?_)
   exact⟨vu,rfl,x2⟩
  ·refine rwl (AO q) (rwl (AO q) ?_)
   exact ih
theorem gK{f:V→V→AH AL}{A:Aq}{s:AF}{esb:List (V×V)}{dsb:List Be}(xb:DRs w s.heap μ esb dsb)(kb:esb.all (λe=>e.1.isInt)=true)
  (hf:∀a b x y r,f a b=some r→VR s.heap μ a x→VR s.heap μ b y→Cp A s x y r) (es:List (V×V)):
  ∀{ds:List Be} {r:AL},eqD f esb es=some r→DRs w s.heap μ es ds→es.all (λe=>e.1.isInt)=true→
   W.KeqHits A s ((Cj esb).zip (dsb.map (·.val))) ((Cj es).zip (ds.map (·.val))) r:=by
 induction es with
 | nil=>
  intro ds r e x _
  exact AV e▸W.KeqHits.nil
 | cons d es ih=>
  intro ds r e x hk
  (refine Gq x ?_;clear x;intro ku vu q z8;subst z8;intro x1 x2 x3)
  (have zz:=all_cons hk;have k1:=zz.1;have k2:=zz.2;clear zz)
  have hv:=bo (i:=Cs d.1) esb xb kb
  have e':(match Aa d.1 esb with
   | none=>some false
   | some w=>(f d.2 w).bind λe=>(eqD f esb es).bind λq=>some (e&&q))=some r:=e
  replace e':=k1▸e'
  revert e' hv
  show _→_→W.KeqHits A s _ ((Cs d.1,vu)::(Cj es).zip (q.map (·.val))) r
  cases Aa (.int (Cs d.1)) esb with
  | none=>exact λhv e=>AV e▸ .miss hv
  | some u=>exact λzq1 e=>zq1.elim λuu zz=>zz.elim λhu ru=>Bn e λc e1 e=>Bn e λg e2 e=>AV e▸ .hit hu (hf _ _ _ _ _ e1 x2 ru) (ih e2 x3 k2)
theorem QW(x y:AE):(AK x==AK y)=decide (x=y):=by
 by_cases e:x=y
 ·subst e;simp
 ·refine rwl (B5 e) ?_
  exact J0.mpr λq=>e (ED q)
theorem Vl{f:V→V→AH AL}{A:Aq}{s:AF}(hf:∀a b x y r,f a b=some r→VR s.heap μ a x→VR s.heap μ b y→Cp A s x y r){l m:List V}{vs us:List AB}{e:AA→AL}
  (he:∀(j:AA) (a b:V),l[j]? =some a→m[j]? =some b→f a b=some (e j)) (hl:VRs s.heap μ l vs) (hm:VRs s.heap μ m us):
  ∀j (h1:j<vs.toArray.size) (h2:j<us.toArray.size),Cp A s vs.toArray[j] us.toArray[j] (e j):=λj h1 h2=>by
 refine AJ (hl.at (j:=j) (u:=vs.toArray[j]) (by simp)) λa e1 r1=>?_
 refine AJ (hm.at (j:=j) (u:=us.toArray[j]) (by simp)) λb e2 r2=>?_
 exact hf a b _ _ _ (he j a b e1 e2) r1 r2
theorem iK{f:V→V→AH AL}{A:Aq}{s:AF}{l m:List V}{a b:AD}{vs us:List AB}{r:AL}(hu:A.units<Av)
  (hf:∀a b x y r,f a b=some r→VR s.heap μ a x→VR s.heap μ b y→Cp A.in1 s x y r) (e:eqL f l m=some r)
  (ta:IsTp s.heap a vs.toArray) (ra:VRs s.heap μ l vs) (tb:IsTp s.heap b us.toArray) (rb:VRs s.heap μ m us):FA A s (.ref a) (.ref b) r∧FZ A s (.ref a) (.ref b) (!r):=by
 (refine AJ (Wo l e) ?_;intro g z9;subst z9;intro hg)
 have key:=Vl hf hg ra rb
 have l1:=ra.length
 have l2:=rb.length
 have e1:=FA.tuples ta.tup tb.tup hu key
 have e2:=FZ.tuples ta.tup tb.tup hu key
 simp only [Rq,l1,l2] at e1 e2
 exact⟨e1,e2⟩
noncomputable def Eqs(A:Aq)(s:AF)(x y:AB)(r:AL):Prop:=(FA A s x y r∧FZ A s x y (!r))∧Cp A s x y r
theorem cz{n:AA}{A:Aq}{s:AF}{i j:AA}{aa ab:AD}{xs ys:List V}{r:AL}(S:SR w ca h₀ s.heap st μ)(ih:∀a b x y r,eqR n st a b=some r→VR s.heap μ a x→VR s.heap μ b y→Cp A.in1 s x y r)
  (hu0:A.units<Av) (ha:μ[i]? =some aa) (hb:μ[j]? =some ab) (ne:aa≠ab) (hx:st[i]? =some (.list xs)) (hy:st[j]? =some (.list ys)) (e:(if xs.length=ys.length then eqL (eqR n st) xs ys else some false)=some r):Eqs A s (.ref aa) (.ref ab) r:=by
 refine A6 (S.list hx ha) λvs n1 e1 r1=>?_
 refine A6 (S.list hy hb) λus n2 e2 r2=>?_
 have l1:vs.toArray.size=xs.length:=r1.length
 have l2:us.toArray.size=ys.length:=r2.length
 refine Dh e (λhl e=>?_) λhl e=>?_
 ·refine AJ (Wo xs e) λg hr hg=>?_
  have key:=Vl ih hg r1 r2
  have hz:vs.toArray.size=us.toArray.size:=l1.trans (hl.trans l2.symm)
  have q1:=FA.lists (B0 e1) (B0 e2) hz hu0 key
  have q3:r=(Ab vs.toArray.size).all g:=by(refine rwl hr (rwl hl (rwl l1 (rwl hl (rwl (Lh ..) (rwl (G3 ..) (rwl (AL.and_true ..) ?_))))));rfl)
  refine rwl q3 ?_
  exact⟨⟨q1,FZ.lists (B0 e1) (B0 e2) hz hu0 key⟩,Nr ne q1⟩
 ·(replace e:=AV e;subst e)
  have hz:(vs.toArray.size != us.toArray.size)=true:=by refine rwl l1 (rwl l2 ?_);exact Ho.mpr hl
  have q1:=FA.lists_lengths (B0 e1) (B0 e2) hz hu0
  exact⟨⟨q1,FZ.lists_lengths (B0 e1) (B0 e2) hz hu0⟩,Nr ne q1⟩
theorem lT{n:AA}{A:Aq}{s:AF}{i j n1 n2:AA}{aa ab:AD}{es fs:List (V×V)}{r:AL}(SM:∃o,h₀.get? B6=some o)(S:SR w ca h₀ s.heap st μ)(ih:∀a b x y r,eqR n st a b=some r→VR s.heap μ a x→VR s.heap μ b y→Cp A.in1 s x y r)
  (hu0:A.units<Av) (ha:μ[i]? =some aa) (hb:μ[j]? =some ab) (ne:aa≠ab) (hx:st[i]? =some (.dict es n1)) (hy:st[j]? =some (.dict fs n2)) (k1:es.all (λe=>e.1.isInt)=true) (k2:fs.all (λe=>e.1.isInt)=true)
  (e:(if es.length=fs.length then eqD (eqR n st) fs es else some false)=some r):Eqs A s (.ref aa) (.ref ab) r:=by
 refine Al (S.dict hx ha) λds e1 r1 ok1=>?_
 refine Al (S.dict hy hb) λds' e2 r2 ok2=>?_
 have sm:∀{a:AD},a∈μ→(a==B6)=false:=λhm=>J0.mpr λq=>by
  (refine exE SM ?_;clear SM;intro o eo)
  have:=S.above _ hm;replace this:=eo▸q▸this;exact xS this
 have z:∀{es:List (V×V)} {ds:List Be},DRs w s.heap μ es ds→((Cj es).zip (ds.map (·.val))).length=es.length:=λ{es ds} x=>by(refine rwl Yn (rwl (Nj ..) (rwl (AY ..) (rwl x.length (rwl (Lh ..) ?_))));rfl)
 have main:∃c,r=(((Cj es).zip (ds.map (·.val))).length==((Cj fs).zip (ds'.map (·.val))).length&&c)∧
   (((Cj es).zip (ds.map (·.val))).length=((Cj fs).zip (ds'.map (·.val))).length→W.KeqHits A.in1 s ((Cj fs).zip (ds'.map (·.val))) ((Cj es).zip (ds.map (·.val))) c):=by
  refine rwl (z r1) (rwl (z r2) ?_)
  refine Dh e (λhl e=>⟨r,by(refine rwl hl (rwl (G3 ..) (rwl (AL.true_and ..) ?_));rfl),λ_=>gK r2 k2 ih es e r1 k1⟩) λhl e=>⟨false,by refine rwl (Nt ..) ?_;exact(AV e).symm,λq=>absurd q hl⟩
 (refine AJ main ?_;clear main;intro c hr hc)
 have q1:FA A s (.ref aa) (.ref ab) r:=λprog w' E Q h=>W.keq_eq (sm (SR.mem ha)) (sm (SR.mem hb)) (DRs.dictOf (prog:=prog) (w':=w') e1 r1 ok1 k1) (DRs.dictOf (prog:=prog) (w':=w') e2 r2 ok2 k2) hu0 hc (hr▸h)
 exact⟨⟨q1,λprog w' E Q h=>W.keq_ne (sm (SR.mem ha)) (sm (SR.mem hb)) (DRs.dictOf (prog:=prog) (w':=w') e1 r1 ok1 k1) (DRs.dictOf (prog:=prog) (w':=w') e2 r2 ok2 k2) hu0 hc (hr▸h)⟩,Nr ne q1⟩
variable(w ca h₀) in
theorem Ql(SM:∃o,h₀.get? B6=some o)(n:AA):∀(A:Aq) (s:AF) (a b:V) (x y:AB) (r:AL),SR w ca h₀ s.heap st μ→A.units+n<Av→eqR n st a b=some r→VR s.heap μ a x→VR s.heap μ b y→Eqs A s x y r:=by
 induction n with
 | zero=>exact λ_ _ _ _ _ _ _ _ _ e=>no e
 | succ n ih0=>
  intro A s a b x y r S hu e ra rb
  have ih:∀a b x y r,eqR n st a b=some r→VR s.heap μ a x→VR s.heap μ b y→Cp A.in1 s x y r:=λa b x y r e ra rb=>(ih0 A.in1 s a b x y r S (by show A.units+1+n<Av;(refine rwl (G4 ..) ?_;rewrite [GF 1]);exact hu) e ra rb).2
  have hu0:A.units<Av:=Bi (Bh _ _) hu
  clear ih0 hu
  cases a with
  | int i=>
   (refine exE ra ?_;clear ra;intro t z0;subst z0)
   cases b with
   | int j=>
    (refine exE rb ?_;clear rb;intro u z1;subst z1)
    (replace e:=AV e;subst e)
    exact⟨⟨FA.int_int i t j u,FZ.int_int i t j u⟩,Cp.int_int i t j u⟩
   | str z=>
    (refine exE rb ?_;clear rb;intro u z2;subst z2)
    (replace e:=AV e;subst e)
    exact⟨⟨FA.int_str i t _ u,FZ.int_str i t _ u⟩,Rr i t _ u⟩
   | _=>exact no e
  | str z=>
   (refine exE ra ?_;clear ra;intro t z3;subst z3)
   cases b with
   | int j=>
    (refine exE rb ?_;clear rb;intro u z4;subst z4)
    (replace e:=AV e;subst e)
    exact⟨⟨FA.str_int _ t j u,FZ.str_int _ t j u⟩,Rt _ t j u⟩
   | str y=>
    (refine exE rb ?_;clear rb;intro u z5;subst z5)
    cases(QW z y▸e:some (AK z==AK y)=some r)
    exact⟨⟨FA.str_str _ t _ u,FZ.str_str _ t _ u⟩,Cp.str_str _ t _ u⟩
   | tup m=>
    (refine BV rb ?_;clear rb;intro a' us z6;subst z6;intro tb nb rb)
    (replace e:=AV e;subst e)
    exact⟨⟨FA.str_tuple _ t tb.tup hu0,FZ.str_tuple _ t tb.tup hu0⟩,Cp.str_tuple _ t tb.tup hu0⟩
   | _=>exact no e
  | tup l=>
   (refine BV ra ?_;clear ra;intro aa vs z7;subst z7;intro ta na ra)
   cases b with
   | str z=>
    (refine exE rb ?_;clear rb;intro u z8;subst z8)
    (replace e:=AV e;subst e)
    exact⟨⟨FA.tuple_str _ u ta.tup hu0,FZ.tuple_str _ u ta.tup hu0⟩,Cp.tuple_str _ u ta.tup hu0⟩
   | tup m=>
    (refine BV rb ?_;clear rb;intro ab us z9;subst z9;intro tb nb rb)
    have key:=iK hu0 ih e ta ra tb rb
    refine⟨key,?_⟩
    by_cases q:aa=ab
    ·subst q
     (have zz:=IsTp.same ta tb;subst zz)
     (have zz:=VRs.inj S.nodup ra rb;subst zz)
     refine rwl (Ww (λa r=>bq n st a r) l r e) ?_
     exact Cp.same _
    ·exact Nr q key.1
   | _=>exact no e
  | ref i=>
   (refine AJ ra ?_;clear ra;intro aa z0;subst z0;intro ha)
   cases b with
   | ref j=>
    (refine AJ rb ?_;clear rb;intro ab z1;subst z1;intro hb)
    refine Dh e (λ_ e=>no e) λhij e=>?_
    have ne:aa≠ab:=λq=>hij (S.inj ha (q▸hb))
    exact Hm e (λxs hx e=>FL e λys hy e=>cz S ih hu0 ha hb ne hx hy e)
     λes n1 hx e=>WQ e λfs n2 hy e=>gdE e λhk e=>lT SM S ih hu0 ha hb ne hx hy (Ac.mp hk).1 (Ac.mp hk).2 e
   | _=>exact no e
  | _=>exact no e
end
end Mine
namespace Mine
open PySem PySem.Calls PyProof.Rows PySem.SeqAt
mutual
theorem V.beq_eq:∀(a:V) {b:V},V.beq a b=true→a=b
 | .none,b,h=>by
  cases b with
  | none=>rfl
  | _=>exact xF h
 | .bool a,b,h=>by
  cases b with
  | bool b=>exact AW V.bool (eq_of_beq h)
  | _=>exact xF h
 | .int a,b,h=>by
  cases b with
  | int b=>exact AW V.int (BC h)
  | _=>exact xF h
 | .str a,b,h=>by
  cases b with
  | str b=>exact AW V.str (BC h)
  | _=>exact xF h
 | .ref a,b,h=>by
  cases b with
  | ref b=>exact AW V.ref (J1 h)
  | _=>exact xF h
 | .tup a,b,h=>by
  cases b with
  | tup b=>exact AW V.tup (V.beqL_eq a h)
  | _=>exact xF h
theorem V.beqL_eq:∀(a:List V) {b:List V},V.beqL a b=true→a=b
 | [],b,h=>(Em.mp h).symm
 | a::as,b,h=>by
  cases b with
  | nil=>exact xF h
  | cons b bs=>
   have h:=Ac.mp h
   (refine rwl (V.beq_eq a h.1) (rwl (V.beqL_eq as h.2) ?_);rfl)
end
mutual
theorem V.beq_self:∀(a:V),V.beq a a=true
 | .none=>rfl
 | .bool a=>G3 a
 | .int a=>An rfl
 | .str a=>An rfl
 | .ref a=>AA.beq_refl a
 | .tup a=>V.beqL_self a
theorem V.beqL_self:∀(a:List V),V.beqL a a=true
 | []=>rfl
 | a::as=>Ac.mpr ⟨V.beq_self a,V.beqL_self as⟩
end
theorem V.beq_iff(a b:V):V.beq a b=true↔a=b:=⟨V.beq_eq a,λh=>h▸V.beq_self a⟩
theorem V.beqL_iff(a b:List V):V.beqL a b=true↔a=b:=⟨V.beqL_eq a,λh=>h▸V.beqL_self a⟩
theorem V.beq_false{a b:V}(h:a≠b):V.beq a b=false:=by
 cases e:V.beq a b with
 | false=>rfl
 | true=>exact absurd ((V.beq_iff a b).mp e) h
noncomputable def Ee:V→Int ⊕ Str
 | .int i=>.inl i
 | .str x=>.inr (AK x)
 | _=>.inl 0
noncomputable def Nc(k:Int ⊕ Str)(v:AB):AL:=match k with
 | .inl i=>match v with
  | .int j _=>decide (i=j)
  | _=>false
 | .inr x=>match v with
  | .str y _=>decide (x=y)
  | _=>false
theorem GV{i:Int}{v:AB}(h:Nc (.inl i) v=true):∃t,v= .int i t:=by
 cases v with
 | int j t=>exact⟨t,AW (AB.int · t) (BC h).symm⟩
 | _=>exact xF h
theorem Gu{x:Str}{v:AB}(h:Nc (.inr x) v=true):∃t,v= .str x t:=by
 cases v with
 | str j t=>exact⟨t,AW (Ru · t) (BC h).symm⟩
 | _=>exact xF h
noncomputable def HG(prog:Ar)(w:Ae):KeyKind prog w (Int ⊕ Str) where
 is:=Nc
 hash:=λk=>match k with | .inl i=>hashInt i | .inr x=>hashStr w x
 inj:=λv a b ha hb=>by
  cases a with
  | inl i=>
   (refine exE (GV ha) ?_;intro t z2;subst z2)
   cases b with
   | inl j=>refine exE (GV hb) λu e=>?_;cases e;rfl
   | inr y=>refine exE (Gu hb) λu e=>?_;cases e
  | inr x=>
   (refine exE (Gu ha) ?_;intro t z3;subst z3)
   cases b with
   | inl j=>refine exE (GV hb) λu e=>?_;cases e
   | inr y=>refine exE (Gu hb) λu e=>?_;cases e;rfl
 byValue:=λk v h=>by
  cases k with
  | inl i=>(refine exE (GV h) ?_;intro t z4;subst z4);rfl
  | inr x=>(refine exE (Gu h) ?_;intro t z5;subst z5);rfl
 pyHash:=λ{A E s k v Q} h hq=>by
  cases k with
  | inl i=>(refine exE (GV h) ?_;intro t z6;subst z6);exact Yo hq
  | inr x=>(refine exE (Gu h) ?_;intro t z7;subst z7);exact Yp hq
 eqBool:=λ{A E s a b u v Q} ha hb hq=>by
  cases a with
  | inl i=>
   (refine exE (GV ha) ?_;intro t z8;subst z8)
   cases b with
   | inl j=>
    (refine exE (GV hb) ?_;intro u z9;subst z9)
    have e:(i==j)=decide ((Sum.inl i:Int ⊕ Str)= .inl j):=by refine rwi Rv ?_;simp
    exact Yq (e▸hq)
   | inr y=>(refine exE (Gu hb) ?_;intro u z0;subst z0);exact Rr i t y u _ _ _ _ (by simpa using hq)
  | inr x=>
   (refine exE (Gu ha) ?_;intro t z1;subst z1)
   cases b with
   | inl j=>(refine exE (GV hb) ?_;intro u z2;subst z2);exact Rt x t j u _ _ _ _ (by simpa using hq)
   | inr y=>(refine exE (Gu hb) ?_;intro u z3;subst z3);exact Yr (by simpa using hq)
 «strs»:=λk x t v h=>by
  cases k with
  | inl i=>refine exE (GV h) λu e=>?_;cases e
  | inr y=>
   refine exE (Gu h) λu e=>?_
   cases e
   cases v with
   | str z tz=>
    show decide (x=z)=(z==x)
    by_cases q:x=z
    ·subst q;simp
    ·refine rwl (B5 q) ?_;exact(J0.mpr λe=>q e.symm).symm
   | _=>rfl
section
variable{w:Ae}{ca:AE→AD}{h₀ h:AQ}{μ:List AD}{st:St}
theorem VR.atom{a:V}{u:AB}(x:VR h μ a u)(ha:a.atom=true):Nc (Ee a) u=true:=by
 cases a with
 | int i=>(refine exE x ?_;clear x;intro t z4;subst z4);exact An rfl
 | str i=>(refine exE x ?_;clear x;intro t z5;subst z5);exact An rfl
 | _=>exact xF ha
theorem VRs.items{prog:Ar}{w:Ae}(l:List V):∀{vs:List AB},VRs h μ l vs→l.all V.atom=true→ItemsAre (HG prog w) (l.map Ee) vs:=by
 induction l with
 | nil=>intro vs x _;(have zz:=(show vs=[] from x);subst zz);exact .nil
 | cons a l ih=>
  intro vs x ha
  (refine BO x ?_;clear x;intro v r z6;subst z6;intro x1 x2)
  have ha:=Ac.mp (show(a.atom&&l.all V.atom)=true from ha)
  exact .cons (VR.atom x1 ha.1) (ih x2 ha.2)
theorem VR.tupKey{prog:Ar}{w:Ae}{l:List V}{a:AD}(x:VR h μ (.tup l) (.ref a))(ha:l.all V.atom=true):IsTupleKey (HG prog w) h (l.map Ee) a:=by
 (refine BV x ?_;clear x;intro a' vs e z7;rcases z7 with ⟨o,eo,c,_,n,d⟩;intro _ r)
 cases e
 exact⟨o,vs.toArray,n,eo,c,d,VRs.items l r ha⟩
theorem fD{a b:V}(ha:a.atom=true)(hb:b.atom=true)(e:Ee a=Ee b):a=b:=by
 cases a with
 | int i=>cases b with
  | int j=>injection e with e;(refine rwl e ?_;rfl)
  | str j=>exact nomatch e
  | _=>exact xF hb
 | str i=>cases b with
  | int j=>exact nomatch e
  | str j=>injection e with e;(refine rwl (ED e) ?_;rfl)
  | _=>exact xF hb
 | _=>exact xF ha
theorem dH(l:List V):∀{m:List V},l.all V.atom=true→m.all V.atom=true→l.map Ee=m.map Ee→l=m:=by
 induction l with
 | nil=>intro m _ _ e;exact(Rw.mp e.symm).symm
 | cons a l ih=>
  intro m ha hb e
  cases m with
  | nil=>exact xC e
  | cons b m=>
   have ha:=Ac.mp (show(a.atom&&l.all V.atom)=true from ha)
   have hb:=Ac.mp (show(b.atom&&m.all V.atom)=true from hb)
   injection e with e1 e2
   (refine rwl (fD ha.1 hb.1 e1) (rwl (ih ha.2 hb.2 e2) ?_);rfl)
theorem cJ(prog:Ar){a:V}(ha:a.atom=true):(HG prog w).hash (Ee a)=Nf w a:=by
 cases a with
 | int i=>rfl
 | str i=>rfl
 | _=>exact xF ha
theorem mT(prog:Ar){l:List V}(h:l.all V.atom=true):(l.map Ee).map (HG prog w).hash=l.map (Nf w):=by
 refine rwl CQ ?_
 exact DE λa ha=>cJ prog (BE.mp h a ha)
variable{prog:Ar}{A:Aq}{E:AB→AF→Prop}{s:AF}
theorem Ki{k:V}{u:AB}{Q:Int→AF→Prop}(hu:A.units<Av)(hk:k.simple=true)(x:VR s.heap μ k u)(h:∀tk,Q (AZ w k) {s with toks:=tk}):AP (AU prog w) A (pyHash u) Q E s:=by
 cases k with
 | int i=>(refine exE x ?_;clear x;intro t z8;subst z8);exact Yo (h _)
 | str i=>(refine exE x ?_;clear x;intro t z9;subst z9);exact Yp (h _)
 | tup l=>
  have ha:l.all V.atom=true:=hk
  obtain⟨a,rfl⟩:∃a,u= .ref a:=x.elim λa zz=>zz.elim λ_ zz=>zz.elim λe _=>⟨a,e⟩
  refine wpAny_pyHash_tuple (knd:=HG prog w) hu (VR.tupKey x ha) ?_
  have e:tupleKeyHash (HG prog w) (l.map Ee)=AZ w (.tup l):=by
   unfold tupleKeyHash
   refine rwl (mT prog ha) ?_;rfl
  refine rwl e ?_;exact h _
 | _=>exact xF hk
theorem Mv{k:V}{u:AB}{Q:AL→AF→Prop}(hk:k.simple=true)(x:VR s.heap μ k u)(h:Q true s):AP (AU prog w) A (eqIsQuiet 8 u) Q E s:=by
 cases k with
 | int i=>(refine exE x ?_;clear x;intro t z0;subst z0);refine rwl (Ys _ rfl) ?_;exact AN h
 | str i=>(refine exE x ?_;clear x;intro t z1;subst z1);refine rwl (Ys _ rfl) ?_;exact AN h
 | tup l=>
  have ha:l.all V.atom=true:=hk
  obtain⟨a,rfl⟩:∃a,u= .ref a:=x.elim λa zz=>zz.elim λ_ zz=>zz.elim λe _=>⟨a,e⟩
  exact wpAny_eqIsQuiet_tuple (knd:=HG prog w) (VR.tupKey x ha) h
 | _=>exact xF hk
theorem Qd{k j:V}{u v:AB}(hu:A.units<Av)(hk:k.simple=true)(hj:j.simple=true)(x:VR s.heap μ k u)(y:VR s.heap μ j v):Cp A s u v (V.beq k j):=by
 cases k with
 | int i=>
  (refine exE x ?_;clear x;intro t z2;subst z2)
  cases j with
  | int i'=>(refine exE y ?_;clear y;intro t' z3;subst z3);exact Cp.int_int i t i' t'
  | str z=>(refine exE y ?_;clear y;intro t' z4;subst z4);exact Rr i t _ t'
  | tup m=>(refine BV y ?_;clear y;intro a vs z5;subst z5;intro ht _ _);exact Cp.int_tuple i t ht.tup hu
  | _=>exact xF hj
 | str z=>
  (refine exE x ?_;clear x;intro t z6;subst z6)
  cases j with
  | int i'=>(refine exE y ?_;clear y;intro t' z7;subst z7);exact Rt _ t i' t'
  | str z'=>
   (refine exE y ?_;clear y;intro t' z8;subst z8)
   have q:=Cp.str_str (A:=A) (s:=s) (AK z) t (AK z') t'
   rw [QW] at q
   exact q
  | tup m=>(refine BV y ?_;clear y;intro a vs z9;subst z9;intro ht _ _);exact Cp.str_tuple _ t ht.tup hu
  | _=>exact xF hj
 | tup l=>
  obtain⟨a,rfl⟩:∃a,u= .ref a:=x.elim λa zz=>zz.elim λ_ zz=>zz.elim λe _=>⟨a,e⟩
  have ha:l.all V.atom=true:=hk
  cases j with
  | int i'=>(refine exE y ?_;clear y;intro t' z0;subst z0);(refine BV x ?_;clear x;intro a' vs e ht _ _);cases e;exact Cp.tuple_int i' t' ht.tup hu
  | str z'=>(refine exE y ?_;clear y;intro t' z1;subst z1);(refine BV x ?_;clear x;intro a' vs e ht _ _);cases e;exact Cp.tuple_str _ t' ht.tup hu
  | tup m=>
   have hb:m.all V.atom=true:=hj
   obtain⟨b,rfl⟩:∃b,v= .ref b:=y.elim λa zz=>zz.elim λ_ zz=>zz.elim λe _=>⟨a,e⟩
   intro prog w' E Q hq
   refine wpAny_eqBool_tuple (knd:=HG prog w') hu (VR.tupKey x ha) (VR.tupKey y hb) ?_
   have e:decide (l.map Ee=m.map Ee)=V.beq (.tup l) (.tup m):=by
    (refine rwi Rv (rwi Li ?_);rewrite [V.beq_iff])
    exact⟨λq=>AW V.tup (dH l ha hb q),λq=>AW (GG Ee) (V.tup.inj q)⟩
   refine rwl e ?_;exact hq
  | _=>exact xF hj
 | _=>exact xF hk
end
end Mine
namespace Mine
open PySem PySem.Calls PyProof.Rows PySem.SeqAt
section
variable{w:Ae}{ca:AE→AD}{h₀ h:AQ}{μ:List AD}{st:St}
theorem DRs.get(es:List (V×V)):∀{ds:List Be} {i:AA} {e:V×V},DRs w h μ es ds→es[i]? =some e→∃k v,ds[i]? =some ⟨AZ w e.1,k,v⟩∧VR h μ e.1 k∧VR h μ e.2 v:=by
 induction es with
 | nil=>exact λ_ e=>xN e
 | cons e es ih=>
  intro ds i f ⟨k,v,r,e',x,y,z⟩ q
  subst e'
  cases i with
  | zero=>exact AV q▸⟨k,v,rfl,x,y⟩
  | succ i=>exact ih (ds:=r) (i:=i) z q
theorem DRs.at{es:List (V×V)}{ds:List Be}{i:AA}{d:Be}(x:DRs w h μ es ds)(q:ds[i]? =some d):∃e k v,es[i]? =some e∧d=⟨AZ w e.1,k,v⟩∧VR h μ e.1 k∧VR h μ e.2 v:=by
 have l:i<es.length:=by refine rwr x.length ?_;exact(BA.mp q).1
 refine A6 (DRs.get es x (Ba l)) λk v e1 r=>?_
 exact⟨_,k,v,Ba l,AV (q.symm.trans e1),r⟩
theorem Ti{es:List (V×V)}:Cf es=true→∀e∈es,e.1.simple=true:=by
 induction es with
 | nil=>exact λ_ _ h=>xM h
 | cons d es ih=>
  intro ok e h
  refine A7 (HM ok) λh1 _ h3=>?_
  exact(Ak.mp h).elim (λq=>q▸h1) (ih h3 e)
theorem Hj{k v:V}{es:List (V×V)}:Aa k ((k,v)::es)=some v:=AM (V.beq_self k)
theorem Fv{a k v:V}{es:List (V×V)}(h:a≠k):Aa k ((a,v)::es)=Aa k es:=AO λq=>h (V.beq_eq a q)
theorem Gr{es:List (V×V)}{k:V}:Aa k es=none↔∀(j:AA) (v:V),es[j]? ≠some (k,v):=by
 induction es with
 | nil=>exact⟨λ_ _ _ q=>(xN q),λ_=>rfl⟩
 | cons d es ih=>
  obtain⟨a,v⟩:=d
  by_cases e:a=k
  ·refine rwl e (rwl Hj ?_)
   exact⟨λq=>(xS q),λq=>absurd rfl (q 0 v)⟩
  ·refine rwl (Fv e) (rwi ih ?_)
   refine⟨λq j u hj=>?_,λq j u hj=>q (j+1) u hj⟩
   cases j with
   | zero=>exact e (AW Lj (AV hj))
   | succ j=>exact q j u hj
theorem Nm{es:List (V×V)}{k v:V}:∀{j:AA},Cf es=true→es[j]? =some (k,v)→Aa k es=some v:=by
 induction es with
 | nil=>exact λ_ e=>xN e
 | cons d es ih=>
  obtain⟨a,u⟩:=d
  intro j ok e
  cases j with
  | zero=>cases AV e;exact Hj
  | succ j=>
   refine A7 (HM ok) λ_ h2 h3=>?_
   refine rwl (Fv λ(q:a=k)=>Gr.mp h2 j v (q▸e)) ?_
   exact ih h3 e
theorem mK{es:List (V×V)}{k u v:V}:∀{i j:AA},Cf es=true→es[i]? =some (k,u)→es[j]? =some (k,v)→i=j:=by
 induction es with
 | nil=>exact λ_ e=>xN e
 | cons d es ih=>
  intro i j ok e e'
  refine A7 (HM ok) λ_ h2 h3=>?_
  have z:∀{i:AA} {v:V},d.1=k→es[i]? =some (k,v)→As:=λq e=>Gr.mp h2 _ _ (q▸e)
  cases i with
  | zero=>cases j with
   | zero=>rfl
   | succ j=>exact(z (AW Lj (AV e)) e').elim
  | succ i=>cases j with
   | zero=>exact(z (AW Lj (AV e')) e).elim
   | succ j=>exact AW (· +1) (ih h3 e e')
noncomputable def Hit(es:List (V×V))(k:V)(i:AA)(hit:AH AA):Prop:=(hit=none∧∀j v,j<i→es[j]? ≠some (k,v))∨∃j v,hit=some j∧j<i∧es[j]? =some (k,v)
noncomputable def atH(D:AS Be)(H:Int)(i:AA):AL:=(D[i]?.map (·.hash))==some H
noncomputable def Fd(es:List (V×V))(D:AS Be)(H:Int)(k:V)(rest:List AA)(hit:AH AA):Prop:=∃i,rest=(Nu i (D.size-i)).filter (atH D H)∧i≤D.size∧Hit es k i hit
structure Tie(es:List (V×V))(D:AS Be)(H:Int)(k:V):Prop where
 has:∀{j:AA} {v:V},es[j]? =some (k,v)→atH D H j=true
 lt:∀{j:AA} {v:V},es[j]? =some (k,v)→j<D.size
section
variable{es:List (V×V)}{D:AS Be}{H:Int}{k:V}{rest:List AA}{ht:AH AA}{y:AA}
theorem Fd.init:Fd es D H k (placesWithHash D.size (λi=>D[i]?.map (·.hash)) H) none:=
 ⟨0,AW (List.filter _) List.range_eq_range',BL _,.inl ⟨rfl,λ_ _ h=>absurd h (CR _)⟩⟩
theorem Fd.next(T:Tie es D H k)(F:Fd es D H k (y::rest) ht):y<D.size∧rest=(Nu (y+1) (D.size-(y+1))).filter (atH D H)∧Hit es k y ht:=by
 (refine Al F ?_;clear F;intro i hr hi hH)
 refine QK (filter_range'_cons _ _ _ _ _ hr.symm) λhix hxn hpx hskip hrest=>?_
 rw [Fb hi] at hxn hrest
 refine⟨hxn,hrest,?_⟩
 rcases hH with ⟨h0,hno⟩ | ⟨j,p,h1,hji,hj⟩
 ·refine .inl ⟨h0,λj p hjx hj=>?_⟩
  rcases Np j i with h | h
  ·exact hno j p h hj
  ·exact DD ((hskip j h hjx).symm.trans (T.has hj))
 ·exact .inr ⟨j,p,h1,Bg hji hix,hj⟩
theorem Fd.skip(T:Tie es D H k)(F:Fd es D H k (y::rest) ht){e:V×V}(he:es[y]? =some e)(hne:e.1≠k):Fd es D H k rest ht:=by
 refine A7 (F.next T) λh1 h2 h3=>?_
 refine⟨y+1,h2,h1,?_⟩
 rcases h3 with ⟨h0,hno⟩ | ⟨j,p,h1,hji,hj⟩
 ·refine .inl ⟨h0,λj p hjx hj=>?_⟩
  rcases Iz (Bf hjx) with h | h
  ·exact hno j p h hj
  ·exact hne (AW Lj (AV (he.symm.trans (h▸hj))))
 ·exact .inr ⟨j,p,h1,Cv hji,hj⟩
theorem Fd.hit(T:Tie es D H k)(ok:Cf es=true)(F:Fd es D H k (y::rest) ht){v:V}(he:es[y]? =some (k,v)):ht=none∧Fd es D H k rest (some y):=by
 refine A7 (F.next T) λh1 h2 h3=>?_
 refine⟨?_,y+1,h2,h1,.inr ⟨y,v,rfl,DZ y,he⟩⟩
 rcases h3 with ⟨h0,_⟩ | ⟨j,p,_,hji,hj⟩
 ·exact h0
 ·exact absurd (mK (i:=j) (j:=y) ok hj he) (BP hji)
theorem Fd.last(T:Tie es D H k)(F:Fd es D H k [] ht):(ht=none∧∀(j:AA) (v:V),es[j]? ≠some (k,v))∨∃(j:AA) (v:V),ht=some j∧es[j]? =some (k,v):=by
 (refine Al F ?_;clear F;intro i hr hi hH)
 rcases hH with ⟨h0,hno⟩ | ⟨j,p,h1,_,hj⟩
 ·refine .inl ⟨h0,λj p hj=>?_⟩
  rcases Np j i with h | h
  ·exact hno j p h hj
  ·exact Rx.mp hr.symm j (List.mem_range'_1.mpr ⟨h,by refine rwl (Fb hi) ?_;exact T.lt hj⟩) (T.has hj)
 ·exact .inr ⟨j,p,h1,hj⟩
end
variable{prog:Ar}{A:Aq}{E:AB→AF→Prop}{s:AF}
theorem mv{k:V}{u:AB}{GH:List AB}{Q:AL→AF→Prop}(hk:k.simple=true)(x:VR s.heap μ k u)
  (hst:∀v∈GH,∃k',k'.simple=true∧VR s.heap μ k' v) (h:Q false s):AP (AU prog w) A (tableMayTell u GH) Q E s:=by
 unfold tableMayTell
 split
 ·exact AN h
 ·refine AG (Mv hk x ?_)
  simp only [Ry,Fc,Fe]
  refine AG ?_
  refine J2 _ (λrest r s'=>s=s'∧r=(none,())∧∀v∈rest,∃k',k'.simple=true∧VR s.heap μ k' v) _ ?_ ?_ _ _ ⟨rfl,rfl,hst⟩
  ·(intro y rest r s' zr2;(refine A7 zr2 ?_;clear zr2;intro z2;subst z2;intro z3;subst z3;intro hr))
   refine AJ (hr y Ah) λk' hk' hb=>?_
   refine AG (Mv hk' hb ?_)
   simp only [Ry,Fc,Fe]
   exact AN ⟨rfl,rfl,λv hv=>hr v (Am _ hv)⟩
  ·(intro r s' zr3;(refine A7 zr3 ?_;clear zr3;intro z4;subst z4;intro z5;subst z5;intro _))
   exact AN h
theorem Q5{α:Type}{d:AD}{n:AA}{k j:V}{u v:AB}{D:AS Be}{O:Obj}{f:AL→CH α}{z:CH α}{Q:α→AF→Prop}(hu:A.units<Av)(hk:k.simple=true)(x:VR s.heap μ k u)(ho:s.heap.get? d=some O)(hd:O.data= .dict D n)(hj:j.simple=true)(y:VR s.heap μ j v)
  (h:AP (AU prog w) A (f (V.beq j k)) Q E s):AP (AU prog w) A (do
   let before ←dictEpoch d (keyPart u)
   let same ←eqBool v u
   let after ←dictEpoch d (keyPart u)
   if(after != before)=true then z else f same) Q E s:=by
 refine AG (Nv ho hd (AG (Qd hu hj hk y x _ _ _ _ (AG (Nv ho hd ?_)))))
 refine rwl (AO λq=>Ho.mp q rfl) ?_
 exact h
theorem Mo{d:AD}{n:AA}{k:V}{u:AB}{es:List (V×V)}{ds:List Be}{Q:AH AA→AF→Prop}(nd:μ.Nodup)(hu:A.units<Av)(hk:k.simple=true)(x:VR s.heap μ k u)
  (ho:s.heap.get? d=some (Di ds n)) (xs:DRs w s.heap μ es ds) (ok:Cf es=true)
  (hnone:(∀(j:AA) (v:V),es[j]? ≠some (k,v))→Q none s) (hsome:∀(j:AA) (v:V),es[j]? =some (k,v)→Q (some j) s):
  AP (AU prog w) A (dictFind d u (AZ w k)) Q E s:=by
 have hd:(Di ds n).data= .dict ds.toArray n:=rfl
 have at_:∀j,j<ds.toArray.size→∃e kv vv,es[j]? =some e∧ds.toArray[j]? =some ⟨AZ w e.1,kv,vv⟩∧e.1.simple=true∧VR s.heap μ e.1 kv:=λj hj=>by
  have hj:j<es.length:=xs.length▸(show j<ds.length from hj)
  refine BO (DRs.get es xs (Ba hj)) λkv vv e1 r1 _=>?_
  exact⟨_,kv,vv,Ba hj,En.trans e1,Ti ok _ (Ff _),r1⟩
 have T:Tie es ds.toArray (AZ w k) k:=⟨λ{j v} hj=>by
  refine A6 (DRs.get es xs hj) λkv vv e1 _=>?_
  unfold atH
  refine rwl (En) (rwl e1 ?_)
  exact G3 _,λ{j v} hj=>show j<ds.length from xs.length.symm▸(BA.mp hj).1⟩
 have miss:∀{e:V×V},¬(AZ w e.1==AZ w k)=true→e.1≠k:=λq z=>q (z▸G3 _)
 unfold dictFind
 refine Bj ?_
 refine AG (J3 ho hd ?_)
 generalize hH:AZ w k=H at T miss ⊢
 generalize Di ds n=O at ho hd
 generalize ds.toArray=D at*
 extract_lets places GH hit0 jt jr jp
 have mem_:∀e∈D,∃(e':V×V) (kv vv:AB),e=⟨AZ w e'.1,kv,vv⟩∧e'.1.simple=true∧VR s.heap μ e'.1 kv:=λe he=>by
  obtain⟨i,hi,hei⟩:=AS.mem_iff_getElem.mp he
  refine Gq (at_ i hi) λe' kv vv he' hdv hsm hkv=>?_
  replace hdv:=hei▸I0 hi▸hdv
  exact⟨e',kv,vv,AV hdv,hsm,hkv⟩
 have hst:∀v∈GH,∃k',k'.simple=true∧VR s.heap μ k' v:=λv hv=>by
  refine AJ (Fg.mp hv) λi _ hi=>?_
  (refine AJ (Dn.mp hi) ?_;intro e hei z6;subst z6)
  (refine Mg (mem_ e (AS.mem_of_getElem? hei)) ?_;intro e' kv vv z7;subst z7;intro hsm hkv)
  exact⟨e'.1,hsm,hkv⟩
 have hany:¬(D.any λe=>e.key==u&&e.hash != H)=true:=λq=>by
  obtain⟨i,hi,hc⟩:=AS.any_eq_true.mp q
  refine Gq (at_ i hi) λe' kv vv he' hdv hsm hkv=>?_
  replace hdv:=I0 hi▸hdv
  replace hc:=AV hdv▸hc
  (have zz:=Ac.mp hc;have q1:=zz.1;have q2:=zz.2;clear zz)
  exact Ho.mp q2 (by(refine rwr hH (rwl (VR.inj nd hkv ((eq_of_beq q1:kv=u)▸x)) ?_);rfl))
 have walk:AP (AU prog w) A (dictWalkPlain d u H D places) Q E s:=by
  refine AG (J2 _ (λrest b s'=>s=s'∧b=(none,())∧Fd es D H k rest none) _ ?_ ?_ _ _ ⟨rfl,rfl,Fd.init⟩)
  ·(intro y rest b s' zr4;(refine A7 zr4 ?_;clear zr4;intro z8;subst z8;intro z9;subst z9;intro F))
   refine Gq (at_ y (F.next T).1) λe kv vv he hdv hsm hkv=>?_
   refine rwl hdv ?_
   refine A5 (λhh=>Q5 hu hk x ho hd hsm hkv ?_) λhh=>AN ⟨rfl,rfl,F.skip T he (miss hh)⟩
   refine A5 (λhb=>?_) λhb=>AG (Dc (AN ⟨rfl,rfl,F.skip T he λq=>hb (q▸V.beq_self _)⟩))
   exact AG (Dc (AN (AN (hsome y e.2 (V.beq_eq _ hb▸he)))))
  ·(intro b s' zr5;(refine A7 zr5 ?_;clear zr5;intro z0;subst z0;intro z1;subst z1;intro F))
   exact AN (hnone ((F.last T).elim (·.2) λzq1=>zq1.elim λ_ zz=>zz.elim λ_ zz=>zz.elim λq _=>nomatch q))
 have long:AP (AU prog w) A (jt false) Q E s:=by
  show AP _ _ (if(false&&decide (GH.length≥2))=true then _ else _) _ _ _
  refine rwl (AO (by simp)) ?_
  refine AG (J2 _ (λrest b s'=>s=s'∧∃hit,b=(none,hit)∧Fd es D H k rest hit) _ ?_ ?_ _ _ ⟨rfl,none,rfl,Fd.init⟩)
  ·(intro y rest b s' zr6;obtain⟨rfl,hit,rfl,F⟩:=zr6)
   refine Gq (at_ y (F.next T).1) λe kv vv he hdv hsm hkv=>?_
   refine rwl hdv ?_
   refine A5 (λhh=>Q5 hu hk x ho hd hsm hkv ?_) λhh=>AN ⟨rfl,hit,rfl,F.skip T he (miss hh)⟩
   refine A5 (λhb=>?_) λhb=>AG (Dc ?_)
   ·have he':es[y]? =some (k,e.2):=V.beq_eq _ hb▸he
    (have zz:=F.hit T ok he';have h0:=zz.1;have F':=zz.2;clear zz)
    refine rwl h0 ?_
    refine AG (Dc (A5 (λ_=>AN (AN (hsome y _ he'))) λ_=>AN ⟨rfl,some y,rfl,F'⟩))
   ·refine rwl (AO (by simp)) ?_
    exact AN ⟨rfl,hit,rfl,F.skip T he λq=>hb (q▸V.beq_self _)⟩
  ·(intro b s' zr7;obtain⟨rfl,hit,rfl,F⟩:=zr7)
   rcases F.last T with ⟨q,h⟩ | ⟨j,v,q,h⟩
   ·exact q▸AN (hnone h)
   ·exact q▸AN (hsome j v h)
 have tail:AP (AU prog w) A (jr ()) Q E s:=A5 (λ_=>AG (AN long)) λ_=>AG (mv hk x hst long)
 clear_value jt jr
 have rest:AP (AU prog w) A (jp ()) Q E s:=by
  refine A5 (λ_=>walk) λ_=>?_
  split
  ·exact(AW (AP (AU prog w) A · Q E s) (AO hany)).mpr tail
  ·exact tail
 clear_value jp
 clear tail walk hst hany mem_ miss
 cases k with
 | str kx=>
  (refine exE x ?_;clear x;intro kt z2;subst z2)
  refine A5 (λhstrs=>?_) λ_=>rest
  have hidx:∀(j:AA) (hj:j<D.size),D[j].key.isStr (AK kx)=true↔∃v,es[j]? =some (.str kx,v):=λj hj=>by
   refine Gq (at_ j hj) λe' kv vv he' hdv hsm hkv=>?_
   replace hdv:=I0 hj▸hdv
   have e1:=AV hdv
   have hs:isExactStrKey kv=true:=(AW (λe:Be=>isExactStrKey e.key) e1).symm.trans (AS.all_eq_true.mp hstrs j hj)
   obtain⟨⟨y,z⟩⟩:∃y:V×V,e'=y:=⟨_,rfl⟩
   obtain⟨a,b⟩:=e'
   refine rwl e1 (rwl he' ?_)
   cases a with
   | str y=>
    (refine exE hkv ?_;clear hkv;intro tz z3;subst z3)
    show(AK y==AK kx)=true↔_
    refine rwl (QW ..) (rwi Li ?_)
    exact⟨λq=>⟨b,by(refine rwl q ?_;rfl)⟩,λzq1=>zq1.elim λv q=>V.str.inj (AW Lj (AV q))⟩
   | int y=>(refine exE hkv ?_;clear hkv;intro _ z4;subst z4);exact xF hs
   | tup y=>(refine A6 hkv ?_;clear hkv;intro _ _ z5;subst z5;intro _);exact xF hs
   | _=>exact xF hsm
  unfold foundByValue
  cases hf:D.findIdx? (λe=>e.key.isStr (AK kx)) with
  | none=>exact AN (hnone λj v hj=>DD ((AS.findIdx?_eq_none_iff.mp hf _ (Yt (T.lt hj))).symm.trans ((hidx j (T.lt hj)).mpr ⟨v,hj⟩)))
  | some j=>
   obtain⟨hlt,hi,_⟩:=AS.findIdx?_eq_some_iff_getElem.mp hf
   refine exE ((hidx j hlt).mp hi) λv hv=>?_
   refine Gq (at_ j hlt) λe' kv vv he' hdv hsm hkv=>?_
   (have zz:=AV (hv.symm.trans he');subst zz)
   simp only [hdv]
   refine Q5 hu hk ⟨kt,rfl⟩ ho hd hsm hkv ?_
   refine rwl (V.beq_self ..) ?_
   exact AG (Dc (AN (hsome j v hv)))
 | int ki=>(refine exE x ?_;clear x;intro kt z6;subst z6);exact rest
 | tup kl=>(refine A6 x ?_;clear x;intro ka vs z7;subst z7;intro _);exact rest
 | _=>exact xF hk
end
end Mine
namespace Mine
open PySem PySem.Calls PyProof.Rows PySem.SeqAt
section
variable{w:Ae}{ca:AE→AD}{h₀ h h':AQ}{μ μ':List AD}{st:St}
theorem NK(S:SR w ca h₀ h st μ){a:AD}(ha:a∈μ)(hs:C7 a h h'):Pass h h' μ μ:=
 ⟨⟨[],by simp,by simp⟩,λb vs n t=>IsTp.to t λo e=>(hs.2 b (λz=>n (z▸ha))).trans e⟩
theorem DRs.snoc{k v:V}{ku vu:AB}(y:VR h μ k ku)(z:VR h μ v vu)(es:List (V×V)):∀{ds:List Be},DRs w h μ es ds→DRs w h μ (es++[(k,v)]) (ds++[⟨AZ w k,ku,vu⟩]):=by
 induction es with
 | nil=>intro ds x;(have zz:=(show ds=[] from x);subst zz);exact⟨ku,vu,[],rfl,y,z,rfl⟩
 | cons e es ih=>exact λzq1=>zq1.elim λk' zz=>zz.elim λv' zz=>zz.elim λr zz=>zz.elim λe' zz=>zz.elim λa zz=>zz.elim λb c=>e'▸⟨k',v',_,rfl,a,b,ih c⟩
theorem Mh{k v u:V}{es:List (V×V)}:CD k v ((k,u)::es)=(k,v)::es:=AM (V.beq_self k)
theorem Kj{a k v u:V}{es:List (V×V)}(h:a≠k):CD k v ((a,u)::es)=(a,u)::CD k v es:=AO λq=>h (V.beq_eq a q)
theorem Qz{k u:V}{es:List (V×V)}:EY k ((k,u)::es)=es:=AM (V.beq_self k)
theorem Q2{a k u:V}{es:List (V×V)}(h:a≠k):EY k ((a,u)::es)=(a,u)::EY k es:=AO λq=>h (V.beq_eq a q)
theorem Mb{e:V×V}{es:List (V×V)}(h1:e.1.simple=true)(h2:Aa e.1 es=none)(h3:Cf es=true):Cf (e::es)=true:=
 Ac.mpr ⟨Ac.mpr ⟨h1,Dz.mpr h2⟩,h3⟩
theorem QA{k v:V}{es:List (V×V)}:Aa k es=none→CD k v es=es++[(k,v)]:=by
 induction es with
 | nil=>exact λ_=>rfl
 | cons e es ih=>
  obtain⟨a,u⟩:=e
  intro h
  by_cases q:a=k
  ·replace h:=Hj▸q▸h;exact xS h
  ·replace h:=Fv q▸h
   (refine rwl (Kj q) (rwl (ih h) (rwl Lk ?_));rfl)
theorem fv{k v a:V}{es:List (V×V)}:Aa a (CD k v es)=if V.beq k a then some v else Aa a es:=by
 induction es with
 | nil=>exact rfl
 | cons e es ih=>
  obtain⟨b,u⟩:=e
  by_cases q:b=k
  ·refine rwl q (rwl Mh ?_)
   by_cases z:k=a
   ·refine rwl z (rwl Hj (rwl (V.beq_self ..) ?_));rfl
   ·refine rwl (Fv z) (rwl (Fv z) (rwl (V.beq_false z) ?_));rfl
  ·refine rwl (Kj q) ?_
   by_cases z:b=a
   ·refine rwl z (rwl Hj (rwl Hj (rwl (V.beq_false λe=>q (z.trans e.symm)) ?_)));rfl
   ·(refine rwl (Fv z) (rwl (Fv z) (rwl ih ?_));rfl)
theorem Wn{k v:V}{es:List (V×V)}(hk:k.simple=true):Cf es=true→Cf (CD k v es)=true:=by
 induction es with
 | nil=>exact λ_=>Mb hk rfl rfl
 | cons e es ih=>
  obtain⟨b,u⟩:=e
  intro ok
  refine A7 (HM ok) λh1 h2 h3=>?_
  by_cases q:b=k
  ·refine rwl q (rwl Mh ?_);exact Mb hk (q▸h2) h3
  ·refine rwl (Kj q) ?_
   exact Mb h1 (by refine rwl fv (rwl (V.beq_false λe=>q e.symm) ?_);exact h2) (ih h3)
theorem k6{k a:V}{es:List (V×V)}:Aa a es=none→Aa a (EY k es)=none:=by
 induction es with
 | nil=>exact λ_=>rfl
 | cons e es ih=>
  obtain⟨b,u⟩:=e
  intro h
  by_cases z:b=a
  ·replace h:=Hj▸z▸h;exact xS h
  ·replace h:=Fv z▸h
   by_cases q:b=k
   ·refine rwl q (rwl Qz ?_);exact h
   ·refine rwl (Q2 q) (rwl (Fv z) ?_);exact ih h
theorem jS{k:V}{es:List (V×V)}:Cf es=true→Cf (EY k es)=true:=by
 induction es with
 | nil=>exact λ_=>rfl
 | cons e es ih=>
  obtain⟨b,u⟩:=e
  intro ok
  refine A7 (HM ok) λh1 h2 h3=>?_
  by_cases q:b=k
  ·refine rwl q (rwl Qz ?_);exact h3
  ·refine rwl (Q2 q) ?_;exact Mb h1 (k6 h2) (ih h3)
theorem DRs.put{k v v0:V}{vu:AB}(q:VR h μ v vu)(es:List (V×V)):∀{ds:List Be} {j:AA},Cf es=true→DRs w h μ es ds→es[j]? =some (k,v0)→
  DRs w h μ (CD k v es) (ds.modify j λe=>{e with val:=vu}):=by
 induction es with
 | nil=>exact λ_ _ e=>xN e
 | cons d es ih=>
  obtain⟨a,u⟩:=d
  intro ds j ok ⟨k',v',r,e',x,y,z⟩ e
  subst e'
  cases j with
  | zero=>cases AV e;refine rwl Mh ?_;exact⟨k',vu,r,rfl,x,q,z⟩
  | succ j=>
   refine A7 (HM ok) λh1 h2 h3=>?_
   refine rwl (Kj λ(z:a=k)=>Gr.mp h2 j v0 (z▸e)) ?_
   exact⟨k',v',_,rfl,x,y,ih h3 z e⟩
theorem DRs.del{k v0:V}(es:List (V×V)):∀{ds:List Be} {j:AA},Cf es=true→DRs w h μ es ds→es[j]? =some (k,v0)→DRs w h μ (EY k es) (ds.eraseIdx j):=by
 induction es with
 | nil=>exact λ_ _ e=>xN e
 | cons d es ih=>
  obtain⟨a,u⟩:=d
  intro ds j ok ⟨k',v',r,e',x,y,z⟩ e
  subst e'
  cases j with
  | zero=>cases AV e;refine rwl Qz ?_;exact z
  | succ j=>
   refine A7 (HM ok) λh1 h2 h3=>?_
   refine rwl (Q2 λ(z:a=k)=>Gr.mp h2 j v0 (z▸e)) ?_
   exact⟨k',v',_,rfl,x,y,ih h3 z e⟩
theorem DRs.here{es:List (V×V)}{ds:List Be}{i:AA}{e:V×V}(x:DRs w h μ es ds)(q:es[i]? =some e):∃k v,ds.toArray[i]? =some ⟨AZ w e.1,k,v⟩∧VR h μ e.1 k∧VR h μ e.2 v:=
 (DRs.get es x q).elim λk zz=>zz.elim λv zz=>zz.elim λe r=>⟨k,v,En.trans e,r⟩
variable{prog:Ar}{A:Aq}{E:AB→AF→Prop}{s:AF}
theorem SR.notMods(S:SR w ca h₀ h st μ)(SM:∃o,h₀.get? B6=some o){a:AD}(ha:a∈μ):(a==B6)=false:=J0.mpr λq=>by
 (refine exE SM ?_;clear SM;intro o eo)
 have:=S.above a ha;replace this:=eo▸q▸this;cases this
theorem SR.toks{s:AF}{tk:AA}(S:SR w ca h₀ s.heap st μ):SR w ca h₀ ({s with toks:=tk}:AF).heap st μ:=S
section
variable{i n:AA}{d:AD}{k v:V}{u vu:AB}{es:List (V×V)}
theorem QO{Q:AH AB→AF→Prop}(S:SR w ca h₀ s.heap st μ)(hu:A.units<Av)(hd:μ[i]? =some d)(he:st[i]? =some (.dict es n))(hk:k.simple=true)(x:VR s.heap μ k u)
  (h:∀tk,match Aa k es with | none=>Q none {s with toks:=tk} | some v=>∀vu,VR s.heap μ v vu→Q (some vu) {s with toks:=tk}):AP (AU prog w) A (Ll d u) Q E s:=by
 refine Al (S.dict he hd) λds ho xs ok=>?_
 unfold Ll
 try with_reducible refine Bj ?_
 refine AG (Ki hu hk x λtk=>AG (Mo (s:={s with toks:=tk}) (μ:=μ) S.nodup hu hk x ho xs ok ?_ ?_))
 ·intro hno
  have q:=h tk
  replace q:=Gr.mpr hno▸q
  exact AN q
 ·intro j v hj
  have q:=h tk
  replace q:=Nm ok hj▸q
  refine BO (xs.here hj) λkv vv e2 _ r=>?_
  refine AG (J3 (s:={s with toks:=tk}) ho rfl ?_)
  refine rwl e2 ?_
  exact AN (q vv r)
theorem mn(S:SR w ca h₀ s.heap st μ)(hd:μ[i]? =some d)(he:st[i]? =some (.dict es n)){j:AA}{v0:V}{ds:List Be}(ho:s.heap.get? d=some (Di ds n))(xs:DRs w s.heap μ es ds)(ok:Cf es=true)(hj:es[j]? =some (k,v0))(y:VR s.heap μ v vu):
  ∀tk,Nx w ca h₀ s.heap s μ {s with heap:=s.heap.update d (Obj.mapDict λx=>x.modify j λe=>{e with val:=vu}),toks:=tk} μ (st.set i (.dict (CD k v es) n)):=λtk=>by
 have sb:C7 d s.heap (s.heap.update d (Obj.mapDict λx=>x.modify j λe=>{e with val:=vu})):=DF ..
 have P:=NK S (SR.mem hd) sb
 refine Nx.turn S hd sb ?_
 refine⟨ds.modify j λe=>{e with val:=vu},?_,DRs.put (y.pass P) es ok (xs.pass P) hj,?_⟩
 ·refine rwl (GI _ ho rfl) ?_
  show some (GJ _ _ _ _)=some (GJ _ _ _ _)
  simp [List.modify_toArray]
 ·have:k.simple=true:=Ti ok _ (Bx hj)
  exact Wn this ok
theorem Xg(S:SR w ca h₀ s.heap st μ)(hd:μ[i]? =some d)(he:st[i]? =some (.dict es n)){ds:List Be}(ho:s.heap.get? d=some (Di ds n))(xs:DRs w s.heap μ es ds)(ok:Cf es=true)(hk:k.simple=true)(hn:Aa k es=none)
  (x:VR s.heap μ k u) (y:VR s.heap μ v vu):
  ∀tk,Nx w ca h₀ s.heap s μ {s with heap:=s.heap.update d (Rz λa=>a.push ⟨AZ w k,u,vu⟩),toks:=tk} μ (st.set i (.dict (es++[(k,v)]) (n+1))):=λtk=>by
 have sb:C7 d s.heap (s.heap.update d (Rz λa=>a.push ⟨AZ w k,u,vu⟩)):=DF ..
 have P:=NK S (SR.mem hd) sb
 refine Nx.turn S hd sb ?_
 refine⟨ds++[⟨AZ w k,u,vu⟩],?_,DRs.snoc (x.pass P) (y.pass P) es (xs.pass P),?_⟩
 ·refine rwl (GI _ ho rfl) ?_
  show some (GJ _ _ _ _)=some (GJ _ _ _ _)
  simp
 ·have:=Wn (v:=v) hk ok
  rwa [QA hn] at this
theorem Dx{n:AA}(h:fits n=true):n+1≤Dd:=by
 have h1:n≤100000:=BC h
 have h2:100001≤Dd:=by decide
 omega
theorem Q3{Q:Ek→AF→Prop}(S:SR w ca h₀ s.heap st μ)(hu:A.units<Av)(hd:μ[i]? =some d)(he:st[i]? =some (.dict es n))(hk:k.simple=true)(x:VR s.heap μ k u)(y:VR s.heap μ v vu)(hz:fits es.length=true)
  (h:∀s',Nx w ca h₀ s.heap s μ s' μ (st.set i (.dict (CD k v es) (if(Aa k es).isSome then n else n+1)))→Q () s'):AP (AU prog w) A (Nw d u vu) Q E s:=by
 refine Al (S.dict he hd) λds ho xs ok=>?_
 unfold Nw
 try with_reducible refine Bj ?_
 refine AG (Ki hu hk x λtk=>?_)
 unfold dictSetHashed
 try with_reducible refine Bj ?_
 refine AG (Mo (s:={s with toks:=tk}) (μ:=μ) S.nodup hu hk x ho xs ok ?_ ?_)
 ·intro hno
  have hn:=Gr.mpr hno
  refine AG (Dc (R0 (s:={s with toks:=tk}) ho rfl ?_ (hz:=?_)))
  ·have:=Xg (vu:=vu) S hd he ho xs ok hk hn x y tk
   replace this:=Cq (QA hn)▸this
   replace h:=hn▸h
   exact h _ this
  ·exact(show(ds.length≤Dd) from xs.length▸DT (Dx hz))
 ·intro j v0 hj
  replace h:=Nm ok hj▸h
  exact AG (Dc (AG (wpAny_updateDict (s:={s with toks:=tk}) ho rfl (wpAny_point (h _ (mn S hd he ho xs ok hj y tk))))))
theorem gq{Q:AB→AF→Prop}(S:SR w ca h₀ s.heap st μ)(hu:A.units<Av)(hd:μ[i]? =some d)(he:st[i]? =some (.dict es n))(hk:k.simple=true)(x:VR s.heap μ k u)(y:VR s.heap μ v vu)
  (h1:∀v0,Aa k es=some v0→∀tk wu,VR s.heap μ v0 wu→Q wu {s with toks:=tk})
  (h2:Aa k es=none→fits es.length=true∧∀s',Nx w ca h₀ s.heap s μ s' μ (st.set i (.dict (es++[(k,v)]) (n+1)))→Q vu s'):AP (AU prog w) A (R3 d u vu) Q E s:=by
 refine Al (S.dict he hd) λds ho xs ok=>?_
 unfold R3
 try with_reducible refine Bj ?_
 refine AG (Ki hu hk x λtk=>?_)
 refine AG (Mo (s:={s with toks:=tk}) (μ:=μ) S.nodup hu hk x ho xs ok ?_ ?_)
 ·intro hno
  have hn:=Gr.mpr hno
  (have zz:=h2 hn;have hz:=zz.1;have h:=zz.2;clear zz)
  refine AG (Dc (AG (R0 (s:={s with toks:=tk}) ho rfl ?_ (hz:=?_))))
  ·exact AN (h _ (Xg (vu:=vu) S hd he ho xs ok hk hn x y tk))
  ·exact(show(ds.length≤Dd) from xs.length▸DT (Dx hz))
 ·intro j v0 hj
  refine BO (xs.here hj) λkv vv e2 _ r=>?_
  refine AG (J3 (s:={s with toks:=tk}) ho rfl ?_)
  refine rwl e2 ?_
  exact AG (Dc (AN (h1 v0 (Nm ok hj) tk vv r)))
theorem lH{Q:AH Be→AF→Prop}(S:SR w ca h₀ s.heap st μ)(hu:A.units<Av)(hd:μ[i]? =some d)(he:st[i]? =some (.dict es n))(hk:k.simple=true)(x:VR s.heap μ k u)(hz:fits es.length=true)
  (hv:Aa k es=some v) (h:∀s' ku vu,Nx w ca h₀ s.heap s μ s' μ (st.set i (.dict (EY k es) (n+1)))→VR s'.heap μ v vu→Q (some ⟨AZ w k,ku,vu⟩) s'):AP (AU prog w) A (Yu d u) Q E s:=by
 refine Al (S.dict he hd) λds ho xs ok=>?_
 unfold Yu
 try with_reducible refine Bj ?_
 refine AG (Ki hu hk x λtk=>?_)
 refine AG (Mo (s:={s with toks:=tk}) (μ:=μ) S.nodup hu hk x ho xs ok ?_ ?_)
 ·intro hno
  replace hv:=Gr.mpr hno▸hv;cases hv
 ·intro j v0 hj
  refine BO (xs.here hj) λkv vv e2 _ r=>?_
  replace hv:=Nm ok hj▸hv;(replace hv:=AV hv;subst hv)
  refine AG (J3 (s:={s with toks:=tk}) ho rfl ?_)
  refine rwl e2 ?_
  have hj':j<ds.length:=by refine rwl xs.length ?_;exact(BA.mp hj).1
  refine AG (R0 (s:={s with toks:=tk}) ho rfl ?_ (hz:=?_))
  ·have sb:C7 d s.heap (s.heap.update d (Rz λa=>a.eraseIdxIfInBounds j)):=DF ..
   have P:=NK S (SR.mem hd) sb
   refine AN (h _ kv vv (Nx.turn S hd sb ?_) (r.pass P))
   refine⟨ds.eraseIdx j,?_,DRs.del es ok (xs.pass P) hj,jS ok⟩
   refine rwl (GI _ ho rfl) ?_
   show some (GJ _ _ _ _)=some (GJ _ _ _ _)
   simp [Yv,hj']
  ·exact(show(ds.length≤Dd) from xs.length▸DT (Dx hz))
end
end
end Mine
namespace Mine
open PySem PySem.Calls PyProof.Rows PySem.SeqAt
section
variable{w:Ae}{ca:AE→AD}{h₀ h h':AQ}{μ μ':List AD}{st st':St}{s:AF}
theorem C2(h:AQ):h.get? h.objs.size=none:=by
 cases e:h.get? h.objs.size with
 | none=>rfl
 | some o=>exact absurd (BQ e) (CY _)
noncomputable def BU(w:Ae)(ca:AE→AD)(h₀:AQ)(s:AF)(μ:List AD)(st':St)(v:V)(Q:AB→AF→Prop):Prop:=
 ∀s' μ' u,Nx w ca h₀ s.heap s μ s' μ' st'→VR s'.heap μ' v u→Q u s'
theorem gx(S:SR w ca h₀ s.heap st μ){xs:List V}{vs:List AB}(x:VRs s.heap μ xs vs)(tk n:AA):
  Nx w ca h₀ s.heap s μ {s with heap:=s.heap.push {cls:=.type "list",data:=.seq vs.toArray n},toks:=tk} (μ++[s.heap.objs.size]) (st++[.list xs]):=by
 refine Nx.new S (λb ob e=>Az _ e) (C2 _) ?_
 exact⟨vs,n,Bb _ rfl,x.pass (PE (λb ob e=>Az _ e) (C2 _))⟩
theorem Kq(S:SR w ca h₀ s.heap st μ)(h':AQ)(a:AD):VR h' (μ++[a]) (.ref st.length) (.ref a):=⟨a,rfl,S.len▸Iv⟩
theorem JT{o:O}{v:V}(e:Ci o st=some (v,st')):fits (Kh o)=true∧v= .ref st.length∧st'=st++[o]:=gdE e λh e=>by cases e;exact⟨h,rfl,rfl⟩
theorem Ng{l:List V}{v:V}(e:EC l st=some (v,st')):fits l.length=true∧v= .tup l∧st'=st:=gdE e λh e=>by cases e;exact⟨h,rfl,rfl⟩
theorem Qh(S:SR w ca h₀ s.heap st μ){xs:List V}{v:V}{Q:AB→AF→Prop}(e:Ci (.list xs) st=some (v,st'))(h:BU w ca h₀ s μ st' v Q){vs:List AB}(x:VRs s.heap μ xs vs)(tk n:AA):
  Q (.ref s.heap.objs.size) {s with heap:=s.heap.push {cls:=.type "list",data:=.seq vs.toArray n},toks:=tk}:=by
 (refine A7 (JT e) ?_;intro _ z8;subst z8;intro z9;subst z9)
 exact h _ _ _ (gx S x tk n) (Kq S _ _)
theorem dn(S:SR w ca h₀ s.heap st μ){xs:List V}{vs:List AB}(x:VRs s.heap μ xs vs)(n:AA):
  VR (s.heap.push {cls:=.type "tuple",data:=.seq vs.toArray n}) μ (.tup xs) (.ref s.heap.objs.size):=by
 refine⟨_,vs,rfl,⟨_,Bb _ rfl,rfl,rfl,_,rfl⟩,λhm=>?_,x.pass (Jt λb ob e=>Az _ e)⟩
 refine exE (S.here hm) λo e=>?_
 rw [C2] at e;cases e
theorem MQ(S:SR w ca h₀ s.heap st μ){xs:List V}{v:V}{Q:AB→AF→Prop}(e:EC xs st=some (v,st'))(h:BU w ca h₀ s μ st' v Q){vs:List AB}(x:VRs s.heap μ xs vs)(tk n:AA):
  Q (.ref s.heap.objs.size) {s with heap:=s.heap.push {cls:=.type "tuple",data:=.seq vs.toArray n},toks:=tk}:=by
 (refine A7 (Ng e) ?_;intro _ z0;subst z0;intro z1;subst z1)
 exact h _ _ _ (Nx.grow S λb ob e=>Az _ e) (dn S x n)
theorem IT(S:SR w ca h₀ s.heap st μ){v:V}{u:AB}{Q:AB→AF→Prop}(h:BU w ca h₀ s μ st v Q)(x:VR s.heap μ v u)(tk:AA):Q u {s with toks:=tk}:=
 h _ _ _ (Nx.tok S tk) x
theorem Ii(S:SR w ca h₀ s.heap st μ){v:V}{u:AB}{Q:AB→AF→Prop}(h:BU w ca h₀ s μ st v Q)(x:VR s.heap μ v u):Q u s:=
 h _ _ _ (Nx.refl S) x
theorem FH(S:SR w ca h₀ s.heap st μ){a v:V}{u:AB}{Q:AB→AF→Prop}(h:BU w ca h₀ s μ st' v Q)(e:some (a,st)=some (v,st'))(x:VR s.heap μ a u)(tk:AA):Q u {s with toks:=tk}:=by
 cases e;exact IT S h x tk
theorem Jv(S:SR w ca h₀ s.heap st μ){a v:V}{u:AB}{Q:AB→AF→Prop}(h:BU w ca h₀ s μ st' v Q)(e:some (a,st)=some (v,st'))(x:VR s.heap μ a u):Q u s:=by
 cases e;exact Ii S h x
theorem VR.int_(i:Int)(t:Tok):VR h μ (.int i) (.int i t):=⟨t,rfl⟩
theorem VR.bool_(b:AL):VR h μ (.bool b) (.bool b):=rfl
theorem VR.none_:VR h μ .none .none:=rfl
theorem VR.str_(x:AE)(t:Tok):VR h μ (.str x) (.str (AK x) t):=⟨t,rfl⟩
noncomputable def opB:BOp→Operator
 | .add=>.Add | .sub=>.Sub | .mul=>.Mult | .mod=>.Mod
noncomputable def opC:COp→CmpOp
 | .eq=>.Eq | .ne=>.NotEq | .lt=>.Lt | .le=>.LtE | .gt=>.Gt | .inn=>.In | .nin=>.NotIn | .isn=>.Is
theorem LM{i:Int}(h:BJ i=true):-2147483648<i∧i<2147483648:=(Ac.mp h).elim λa b=>⟨BC a,BC b⟩
theorem jq{i:Int}(h:BJ i=true):Yw i≤64:=by
 have h1:i.natAbs<2 ^ 31:=by
  have q:=LM h
  cases i with
  | ofNat n=>exact R4.mp q.2
  | negSucc n=>exact R4.mp (Int.neg_lt_neg_iff.mp q.1)
 unfold Yw
 split
 ·exact BL _
 ·rename_i hz
  have:=(AA.log2_lt λq=>hz (CZ.mpr (Int.natAbs_eq_zero.mp q))).mpr h1
  omega
variable{prog:Ar}{A:Aq}{E:AB→AF→Prop}
theorem da{l m:List V}{v:V}{x y:AB}{Q:AB→AF→Prop}(e:EC (l++m) st=some (v,st'))(S:SR w ca h₀ s.heap st μ)(ra:VR s.heap μ (.tup l) x)(rb:VR s.heap μ (.tup m) y)
  (h:BU w ca h₀ s μ st' v Q):AP (AU prog w) A (Lm .Add x y) Q E s:=by
 (refine BV ra ?_;clear ra;intro aa vs z2;subst z2;intro z3;rcases z3 with ⟨⟨cls,dd,data,sl⟩,ho,hc,hdd,n,hd⟩;intro na ra)
 (refine BV rb ?_;clear rb;intro ab us z4;subst z4;intro z5;rcases z5 with ⟨⟨cls2,dd2,data2,sl2⟩,ho2,hc2,hdd2,n2,hd2⟩;intro nb rb)
 subst hc;subst hd;subst hc2;subst hd2
 have hf:=(Ng e).1
 have l1:=ra.length
 have l2:=rb.length
 by_cases hv:vs=[]
 ·subst hv
  (have zz:=Ln.mp l1.symm;subst zz)
  refine Ny ⟨_,ho,rfl⟩ ⟨_,ho2,rfl⟩ R5 R6 R7 R8 (R9 _ _)
   (tuple_addW0 aa ab [].toArray us.toArray n n2 dd dd2 sl sl2 rfl) ⟨ho,ho2,?_⟩
  exact Jv S h (gdE e λ_ e=>e) ⟨ab,us,rfl,⟨_,ho2,rfl,hdd2,_,rfl⟩,nb,rb⟩
 ·have hv':¬vs.toArray.size=0:=λq=>hv (Ln.mp q)
  by_cases hw:us=[]
  ·subst hw
   (have zz:=Ln.mp l2.symm;subst zz)
   refine Ny ⟨_,ho,rfl⟩ ⟨_,ho2,rfl⟩ R5 R6 R7 R8 (R9 _ _)
    (tuple_addW1 aa ab vs.toArray [].toArray n n2 dd dd2 sl sl2 (by simpa using hv) (by simp)) ⟨ho,ho2,?_⟩
   exact Jv S h (gdE e λ_ e=>e) ⟨aa,vs,by rfl,⟨_,ho,rfl,hdd,_,rfl⟩,na,(Bo l).symm▸ra⟩
  ·refine Ny ⟨_,ho,rfl⟩ ⟨_,ho2,rfl⟩ R5 R6 R7 R8 (R9 _ _)
    (tuple_addW2 aa ab vs.toArray us.toArray n n2 dd dd2 sl sl2 (by simpa using hv) (by simpa using hw) (by
     show vs.length+us.length≤Dd
     refine rwl l1 (rwl l2 (rwr Au ?_));exact DT (Dx hf))) ⟨ho,ho2,?_⟩
   refine rwl (SA ..) ?_
   exact MQ S e h (ra.append rb) s.toks 0
theorem kj{xs ys:List V}{i j:AA}{v:V}{x y:AB}{Q:AB→AF→Prop}(hx:st[i]? =some (.list xs))(hy:st[j]? =some (.list ys))(e:Ci (.list (xs++ys)) st=some (v,st'))(S:SR w ca h₀ s.heap st μ)(ra:VR s.heap μ (.ref i) x)(rb:VR s.heap μ (.ref j) y)
  (h:BU w ca h₀ s μ st' v Q):AP (AU prog w) A (Lm .Add x y) Q E s:=by
 (refine AJ ra ?_;clear ra;intro aa z6;subst z6;intro ha)
 (refine AJ rb ?_;clear rb;intro ab z7;subst z7;intro hb)
 refine A6 (S.list hx ha) λvs n1 e1 r1=>?_
 refine A6 (S.list hy hb) λus n2 e2 r2=>?_
 refine Ny ⟨_,e1,rfl⟩ ⟨_,e2,rfl⟩ noFill_list_add seq_list_add PySem.F.slot_list_add PySem.F.entry_list_add (PySem.F.args_list_add_2 _ _)
  (list_addW aa ab vs.toArray us.toArray n1 n2 none none #[] #[] (by
   show vs.length+us.length≤Dd
   refine rwl r1.length (rwl r2.length (rwr Au ?_));exact DT (Dx (JT e).1))) ⟨e1,e2,?_⟩
 refine rwl (SA ..) ?_
 exact Qh S e h (r1.append r2) s.toks 0
theorem i8{op:BOp}{a b v:V}{x y:AB}{Q:AB→AF→Prop}(e:F8 op a b st=some (v,st'))(S:SR w ca h₀ s.heap st μ)(ra:VR s.heap μ a x)(rb:VR s.heap μ b y)
  (h:BU w ca h₀ s μ st' v Q):AP (AU prog w) A (Lm (opB op) x y) Q E s:=by
 have twoI:∀{f:Int→Int→AH (V×St)},Bw a (λi=>Bw b λj=>f i j)=some (v,st')→(∀i j t u,x= .int i t→y= .int j u→f i j=some (v,st')→AP (AU prog w) A (Lm (opB op) x y) Q E s)→AP (AU prog w) A (Lm (opB op) x y) Q E s:=
  λe k=>E9 e λi q e=>E9 e λj q' e=>(q▸ra:VR s.heap μ (.int i) x).elim λt h1=>(q'▸rb:VR s.heap μ (.int j) y).elim λu h2=>k i j t u h1 h2 e
 cases op with
 | add=>cases a with
  | int i=>exact twoI (f:=λi j=>if BJ i&&BJ j then some (.int (i+j),st) else none) e λi j t u h1 h2 e=>h1▸h2▸gdE e λ_ e=>add_int (FH S h e (VR.int_ _ _) _)
  | tup l=>exact MZ e λm q e=>da e S ra (q▸rb) h
  | ref i=>exact FT e λj q e=>FL e λxs hx e=>FL e λys hy e=>kj hx hy e S ra (q▸rb) h
  | _=>exact no e
 | sub=>exact twoI e λi j t u h1 h2 e=>h1▸h2▸gdE e λ_ e=>sub_int (FH S h e (VR.int_ _ _) _)
 | mul=>exact twoI e λi j t u h1 h2 e=>h1▸h2▸gdE e λhs e=>mul_int (FH S h e (VR.int_ _ _) _) (IntMulOk.of_left (jq (Ac.mp hs).1))
 | mod=>exact twoI e λi j t u h1 h2 e=>h1▸h2▸gdE e λhs e=>have hj:0<j:=BC (Ac.mp hs).1
  mod_int (Int.ne_of_gt hj) ((Int.fmod_eq_emod_of_nonneg i (SD hj)).symm▸FH S h e (VR.int_ _ _) _)
theorem d7{f:V→AH AL}(l:List V):∀{es:List AL},Gk f l=some es→es.length=l.length∧∀(j:AA) (a:V),l[j]? =some a→∃b,es[j]? =some b∧f a=some b:=by
 induction l with
 | nil=>intro es e;(replace e:=AV e;subst e);exact⟨rfl,λ_ _ h=>xN h⟩
 | cons a l ih=>
  exact λe=>Bn e λb e1 e=>Bn e λr e2 e=>by
   (replace e:=AV e;subst e)
   (have zz:=ih e2;have h1:=zz.1;have h2:=zz.2;clear zz)
   refine⟨AW (· +1) h1,λj x hx=>?_⟩
   cases j with
   | zero=>exact AV hx▸⟨b,rfl,e1⟩
   | succ j=>exact h2 j x hx
open Classical in
noncomputable def Jf(f:V→AH AL)(h:AQ)(μ:List AD)(y:AB):AL:=
 if hx:∃a b,VR h μ a y∧f a=some b then hx.choose_spec.choose else false
theorem V2{f:V→AH AL}(nd:μ.Nodup){a:V}{b:AL}{y:AB}(x:VR h μ a y)(e:f a=some b):Jf f h μ y=b:=by
 have hx:∃a b,VR h μ a y∧f a=some b:=⟨a,b,x,e⟩
 unfold Jf
 refine rwl (I1 hx) ?_
 have q:=hx.choose_spec.choose_spec
 have key:∀a' b',VR h μ a' y→f a'=some b'→b'=b:=λa' b' x' e'=>by
  replace e':=e▸VR.inj nd x' x▸e'
  exact(AV e').symm
 exact key _ _ q.1 q.2
theorem WG{f:V→AH AL}(nd:μ.Nodup)(l:List V):∀{es:List AL} {vs:List AB},Gk f l=some es→VRs h μ l vs→vs.map (Jf f h μ)=es:=by
 induction l with
 | nil=>intro es vs e x;(replace e:=AV e;subst e);(have zz:=(show vs=[] from x);subst zz);rfl
 | cons a l ih=>
  intro es vs e ⟨v,r',e',x1,x2⟩
  exact Bn e λb e1 e=>Bn e λr e2 e=>by
   (replace e:=AV e;subst e)
   (refine rwl e' (rwl BF (rwl (V2 nd x1 e1) (rwl (ih e2 x2) ?_)));rfl)
theorem QE(SM:∃o,h₀.get? B6=some o){n:AA}{l:List V}{es:List AL}{vs:List AB}{b:V}{y:AB}(S:SR w ca h₀ s.heap st μ)(hu:A.units+n<Av)(e:Gk (λa=>eqR n st a b) l=some es)(x:VRs s.heap μ l vs)(rb:VR s.heap μ b y):
  ∀z,z∈vs.toArray→Cp A s z y (Jf (λa=>eqR n st a b) s.heap μ z):=λz hz=>by
 have hz':z∈vs:=Rp.mp hz
 refine exE (Lg hz') λj hj=>?_
 refine AJ (x.at hj) λa ha r=>?_
 refine Bs (d7 l e) λ_ q=>?_
 refine AJ (q j a ha) λc _ ec=>?_
 refine rwl (V2 S.nodup r ec) ?_
 exact(Ql w ca h₀ SM n A s a b z y c S hu ec r rb).2
end
end Mine
namespace Mine
open PySem PySem.Calls PyProof.Rows PySem.SeqAt
section
variable{w:Ae}{ca:AE→AD}{h₀ h h':AQ}{μ μ':List AD}{st st':St}{s:AF}{prog:Ar}{A:Aq}{E:AB→AF→Prop}
theorem SR.dictType(S:SR w ca h₀ s.heap st μ){i n:AA}{d:AD}{es:List (V×V)}(hd:μ[i]? =some d)(he:st[i]? =some (.dict es n)):s.TypeIs (.ref d) "dict":=by
 refine AJ (S.dict he hd) λds ho _=>?_
 exact⟨_,ho,rfl⟩
theorem X8{i n:AA}{d:AD}{k:V}{u:AB}{es:List (V×V)}{Q:AL→AF→Prop}(SM:∃o,h₀.get? B6=some o)(S:SR w ca h₀ s.heap st μ)(hu:A.units+1<Av)(hd:μ[i]? =some d)(he:st[i]? =some (.dict es n))(hk:k.simple=true)(x:VR s.heap μ k u)
  (h:∀tk,Q (Aa k es).isSome {s with toks:=tk}):AP (AU prog w) A (contains (.ref d) u) Q E s:=by
 have hT:=S.dictType hd he
 unfold contains
 try with_reducible refine Bj ?_
 refine AG (Nz hT SE.lookup ?_)
 show AP _ _ (if(some (AB.builtin "dict.__contains__")==some I2)=true then _ else _) _ E s
 refine rwl (AO (by refine rwl (beq_builtin_none ..) ?_;exact DD)) ?_
 refine AG (wpAny_callSpecialUnlessNone?_slot (name:=AK "__contains__") hT SE
  (Dq SE hT entry_dict_contains ?_ (args_dict_contains _ _)))
 show AP _ _ (Ll d u>>= _) _ _ s
 refine AG (QO S hu hd he hk x λtk=>?_)
 have q:=h tk
 cases hf:Aa k es with
 | some p=>
  replace q:=hf▸q
  intro vu _
  show AP _ _ (ret (.bool true)) _ _ _
  exact AN ⟨_,rfl,Hp q⟩
 | none=>
  replace q:=hf▸q
  show AP _ _ (BW.Dict.pendingKey? d u>>= _) _ _ _
  exact AG (wpAny_pendingKey_other (S.notMods SM (SR.mem hd)) (AN ⟨_,rfl,Hp q⟩))
noncomputable def Ins(prog:Ar)(w:Ae)(A:Aq)(E:AB→AF→Prop)(s:AF)(x y:AB)(c:AL):Prop:=∀{Q:AB→AF→Prop},((∀tk,Q (.bool c) {s with toks:=tk})→AP (AU prog w) A (SF .In x y) Q E s)∧((∀tk,Q (.bool (!c)) {s with toks:=tk})→AP (AU prog w) A (SF .NotIn x y) Q E s)
theorem TS{l:List V}{a:V}{c:AL}{us:List AB}(nd:μ.Nodup){es:List AL}(e:Gk (λz=>eqR Bv st z a) l=some es)(rb:VRs h μ l us):us.toArray.any (Jf (λz=>eqR Bv st z a) h μ)=es.any id:=by
 refine rwr (WG nd l e rb) (rwl SG (rwr AS.any_toList ?_));rfl
theorem WK{a b:V}{x y:AB}{c:AL}(SM:∃o,h₀.get? B6=some o)(S:SR w ca h₀ s.heap st μ)(hu:A.units+20<Av)(e:inR a b st=some c)(ra:VR s.heap μ a x)(rb:VR s.heap μ b y):Ins prog w A E s x y c:=by
 have hu1:A.in1.units+Bv<Av:=by show A.units+1+12<Av;omega
 intro Q
 cases b with
 | str z=>
  exact ko e λz' q e=>by
   (refine exE (q▸ra:VR s.heap μ (.str z') x) ?_;intro t z8;subst z8)
   (refine exE rb ?_;clear rb;intro u z9;subst z9)
   (replace e:=AV e;subst e)
   exact⟨λh=>PyProof.Rows.in_str (h s.toks),λh=>PyProof.Rows.notIn_str (h s.toks)⟩
 | tup l=>
  (refine BV rb ?_;clear rb;intro ab us z0;subst z0;intro tb nb rb)
  exact Hg e λes e1 q=>by
   have key:=QE SM S hu1 e1 rb ra
   have z:=(TS (c:=c) S.nodup e1 rb).trans q
   exact⟨λh=>in_tupleAt _ tb.tup key (z.symm▸h s.toks),λh=>notIn_tupleAt _ tb.tup key (z.symm▸h s.toks)⟩
 | ref i=>
  (refine AJ rb ?_;clear rb;intro ab z1;subst z1;intro hb)
  refine Hm e (λxs hx e=>?_) λes n hx e=>gdE e λhk e=>?_
  ·refine A6 (S.list hx hb) λus n e0 rb=>?_
   exact Hg e λes e1 q=>by
    have key:=QE SM S hu1 e1 rb ra
    have z:=(TS (c:=c) S.nodup e1 rb).trans q
    exact⟨λh=>in_listAt _ (B0 e0) key (z.symm▸h s.toks),λh=>notIn_listAt _ (B0 e0) key (z.symm▸h s.toks)⟩
  ·(replace e:=AV e;subst e)
   have hu:A.units+1<Av:=by omega
   refine⟨λh=>?_,λh=>?_⟩
   ·show AP _ _ (do return .bool (←contains (.ref ab) x)) Q E s
    exact AG (X8 SM S hu hb hx hk ra λtk=>AN (h tk))
   ·show AP _ _ (do return .bool (!(←contains (.ref ab) x))) Q E s
    exact AG (X8 SM S hu hb hx hk ra λtk=>AN (h tk))
 | _=>exact no e
theorem mW{a:V}{x:AB}(ra:VR h μ a x):(x==I2)=a.isNone:=by
 cases a with
 | none=>(have zz:=(show x= .none from ra);subst zz);rfl
 | bool b=>(have zz:=(show x= .bool b from ra);subst zz);rfl
 | int b=>(refine exE ra ?_;clear ra;intro t z2;subst z2);rfl
 | str b=>(refine exE ra ?_;clear ra;intro t z3;subst z3);rfl
 | tup b=>(refine A6 ra ?_;clear ra;intro t _ z4;subst z4;intro _);rfl
 | ref b=>(refine AJ ra ?_;clear ra;intro t z5;subst z5;intro _);rfl
theorem iS{b:V}(h:b.isNone=true):b= .none:=by
 cases b with
 | none=>rfl
 | _=>exact xF h
theorem NT{op:COp}{a b:V}{x y:AB}{c:AL}{Q:AB→AF→Prop}(SM:∃o,h₀.get? B6=some o)(S:SR w ca h₀ s.heap st μ)(hu:A.units+20<Av)(e:Ct op a b st=some c)(ra:VR s.heap μ a x)(rb:VR s.heap μ b y)
  (h:∀tk,Q (.bool c) {s with toks:=tk}):AP (AU prog w) A (SF (opC op) x y) Q E s:=by
 have hu1:A.units+Bv<Av:=by show A.units+12<Av;omega
 have twoI:∀{f:Int→Int→AL} {P:Prop},Bw a (λi=>Bw b λj=>some (f i j))=some c→(∀i j t u,x= .int i t→y= .int j u→f i j=c→P)→P:=
  λe k=>E9 e λi q e=>E9 e λj q' e=>(q▸ra:VR s.heap μ (.int i) x).elim λt h1=>(q'▸rb:VR s.heap μ (.int j) y).elim λu h2=>k i j t u h1 h2 (AV e)
 cases op with
 | eq=>exact(Ql w ca h₀ SM Bv A s a b x y c S hu1 e ra rb).1.1 prog w E Q (h s.toks)
 | ne=>exact Hg e λd e q=>(Ql w ca h₀ SM Bv A s a b x y d S hu1 e ra rb).1.2 prog w E Q (q.symm▸h s.toks)
 | lt=>exact twoI e λi j t u h1 h2 q=>h1▸h2▸lt_int (q.symm▸h s.toks)
 | le=>exact twoI e λi j t u h1 h2 q=>h1▸h2▸le_int (q.symm▸h s.toks)
 | gt=>exact twoI e λi j t u h1 h2 q=>h1▸h2▸gt_int (q.symm▸h s.toks)
 | isn=>
  exact gdE e λhb e=>by
   (have zz:=iS hb;subst zz)
   (have zz:=(show y= .none from rb);subst zz)
   refine is_none ?_
   refine rwl (mW ra) (rwl (AV e) ?_)
   exact h s.toks
 | inn=>exact(WK SM S hu e ra rb).1 h
 | nin=>exact Hg e λd e q=>(WK SM S hu e ra rb).2 (q.symm▸h)
end
end Mine
namespace Mine
open PySem PySem.Calls PyProof.Rows PySem.SeqAt
theorem eE(slice:Expr)(x y:AB):∃ops,subscripted slice false x y=operate ops (N5 x y):=by
 cases slice with
 | Slice _ _ st _=>cases st<;>exact⟨_,rfl⟩
 | _=>exact⟨_,rfl⟩
section
variable{w:Ae}{ca:AE→AD}{h₀ h h':AQ}{μ μ':List AD}{st st':St}{s:AF}{prog:Ar}{A:Aq}{E:AB→AF→Prop}
theorem V6{value slice:Expr}{x y:AB}{Q:AB→AF→Prop}(h:J4 (AU prog w) A E x y Q s):AP (AU prog w) A (subscriptTail value slice x y) Q E s:=by
 (refine BO h ?_;clear h;intro T id hl hT hg)
 refine exE (eE slice x y) λops hs=>?_
 exact tail_any hT hl hg hs
theorem XY(c:Ir):AK (Gx [c])=⟨#[c.toNat]⟩:=by
 refine rwl (FY ..) ?_;simp
theorem VRs.toTup{l:List V}{a:AD}{x:AB}(r:VR h μ (.tup l) x):∃a vs,x= .ref a∧IsTup h a vs.toArray∧a∉μ∧VRs h μ l vs:=
 r.elim λa zz=>zz.elim λvs zz=>zz.elim λe zz=>zz.elim λt zz=>zz.elim λn r=>⟨a,vs,e,t.tup,n,r⟩
theorem Kr{k:Int}(h:(decide (0≤k)&&BJ k)=true):0≤k∧k<2 ^ 63∧k.toNat<2147483648∧∀n:AA,k.toNat<n→k<n:=
 let⟨a,b⟩:=Ac.mp h;have a:=BC a;have b:=(LM b).2;⟨a,by omega,by omega,λn h=>by omega⟩
theorem RX(z:AE):(AK z).length=z.toList.length:=by refine rwl (FY ..) ?_;simp [Str.length]
theorem bg{i n:AA}{d:AD}{k v:V}{u:AB}{es:List (V×V)}{Q:AB→AF→Prop}(S:SR w ca h₀ s.heap st μ)(hu:A.units+1<Av)(hd:μ[i]? =some d)(he:st[i]? =some (.dict es n))(hk:k.simple=true)(x:VR s.heap μ k u)
  (hv:Aa k es=some v) (h:∀tk vu,VR s.heap μ v vu→Q vu {s with toks:=tk}):AP (AU prog w) A (N5 (.ref d) u) Q E s:=by
 have hT:=S.dictType hd he
 unfold N5
 try with_reducible refine Bj ?_
 refine AG (N6 hT (by decide) ?_)
 refine AG (G5 (name:=AK "__getitem__") hT SH
  (Dq SH hT entry_dict_getitem ?_ (args_dict_getitem _ _)))
 show AP _ _ (Ll d u>>= _) _ _ s
 refine AG (QO S hu hd he hk x λtk=>?_)
 refine rwl hv ?_
 intro vu r
 exact AN ⟨vu,rfl,AN (h tk vu r)⟩
theorem cH{a b v:V}{x y:AB}{Q:AB→AF→Prop}(S:SR w ca h₀ s.heap st μ)(hu:A.units+20<Av)(e:CP a b st=some v)(ra:VR s.heap μ a x)(rb:VR s.heap μ b y)
  (h:BU w ca h₀ s μ st v Q):J4 (AU prog w) A E x y Q s:=by
 cases a with
 | tup l=>
  refine E9 e λk q e=>gdE e λhk e=>?_
  refine Jk (Kr hk) λhk0 hk hkn hlt=>?_
  (refine BV (VRs.toTup (a:=0) ra) ?_;intro aa vs z6;subst z6;intro t na r)
  (refine exE (q▸rb:VR s.heap μ (.int k) y) ?_;intro tt z7;subst z7)
  refine AJ (VRs.get r e) λu e1 r1=>?_
  have hl:k.toNat<vs.length:=(BA.mp e1).1
  exact⟨"tuple",_,Yx.lookup,t.typeIs,getItem_tuple (j:=k.toNat) (x:=u) t (by omega) hk (seqIndex_of hk0 (hlt _ hl)) (En.trans e1) (Ii S h r1)⟩
 | str z=>
  refine E9 e λk q e=>gdE e λhk e=>Hg e λc e1 q2=>?_
  refine Jk (Kr hk) λhk0 hk hkn hlt=>?_
  (refine exE ra ?_;clear ra;intro t z8;subst z8)
  (refine exE (q▸rb:VR s.heap μ (.int k) y) ?_;intro tt z9;subst z9)
  have hl:k.toNat<z.toList.length:=(BA.mp e1).1
  refine⟨"str",_,Yy.lookup,N7 _ _ _,PyProof.Rows.getItem_str (c:=c.toNat) ?_ ?_ (IT S h ?_ _)⟩
  ·simp;omega
  ·refine rwl (RX ..) (rwl (seqIndex_of hk0 (hlt _ hl)) (rwl (FY ..) ?_))
   simp [e1]
  ·refine rwr (XY ..) (rwr q2 ?_);exact VR.str_ _ _
 | ref i=>
  (refine AJ ra ?_;clear ra;intro aa z0;subst z0;intro ha)
  refine Hm e (λxs hx e=>E9 e λk q e=>gdE e λhk e=>?_) λes n hx e=>gdE e λhk e=>?_
  ·refine Jk (Kr hk) λhk0 hk hkn hlt=>?_
   refine A6 (S.list hx ha) λvs n e0 r=>?_
   (refine exE (q▸rb:VR s.heap μ (.int k) y) ?_;intro tt z1;subst z1)
   refine AJ (VRs.get r e) λu e1 r1=>?_
   exact⟨"list",_,Yz,(B0 e0).typeIs,wpAny_getItem_list (B0 e0) hk0 hk (En.trans e1) (Ii S h r1)⟩
  ·exact⟨"dict",_,SH.lookup,S.dictType ha hx,bg S (by omega) ha hx hk rb e λtk vu r=>IT S h r tk⟩
 | _=>exact no e
noncomputable def BR(h:AQ)(μ:List AD)(o:AH V)(x:AB):Prop:=match o with
 | none=>x= .none
 | some v=>VR h μ v x
noncomputable def Jp(k:AH Int)(d n:AA):Prop:=match k with
 | none=>n=d
 | some i=>i=n∧n<2147483648
theorem BR.part{o:AH V}{x:AB}{d n:AA}(r:BR h μ o x)(e:Eh d o=some n):∃k:AH Int,IsPart x k∧Jp k d n:=by
 cases o with
 | none=>(have zz:=(show x= .none from r);subst zz);exact⟨none,.none,(AV e).symm⟩
 | some v=>
  refine E9 e λk q e=>gdE e λhk e=>?_
  (refine exE (q▸(show VR h μ v x from r):VR h μ (.int k) x) ?_;intro t z2;subst z2)
  refine Jk (Kr hk) λhk0 hk hkn hlt=>?_
  (replace e:=AV e;subst e)
  exact⟨some k,.int k t,(Int.toNat_of_nonneg hk0).symm,hkn⟩
theorem cp{vs:List AB}{k1 k2:AH Int}{a b:AA}(h1:Jp k1 0 a)(h2:Jp k2 vs.length b):
  (slicePick vs.toArray k1 k2 none)=(cut vs a b).toArray:=by
 refine rwl (slicePick_plain ..) ?_
 have q1:k1.elim 0 (clipAt vs.toArray.size)=min a vs.length:=by
  cases k1 with
  | none=>(have zz:=(show a=0 from h1);subst zz);exact(AA.zero_min _).symm
  | some i=>(refine Bs h1 ?_;clear h1;intro z3;subst z3;intro _);simp [clipAt_nat]
 have q2:k2.elim vs.toArray.size (clipAt vs.toArray.size)=min b vs.length:=by
  cases k2 with
  | none=>(have zz:=(show b=vs.length from h2);subst zz);exact(Lh _).symm
  | some i=>(refine Bs h2 ?_;clear h2;intro z4;subst z4;intro _);simp [clipAt_nat]
 refine rwl q1 (rwl q2 ?_)
 refine AW J5 ?_
 unfold cut
 refine rwr List.drop_take (rwr List.take_eq_take_min ?_)
 rcases AA.le_total a vs.length with ha | ha
 ·(refine rwl (J6 ha) ?_;rfl)
 ·(refine rwl (N8 ha) (rwl (J7 (Y0 ..)) (rwl (J7 (AR (Y0 ..) ha)) ?_));rfl)
theorem VX{x:AB}{k:AH Int}{Q:AH Int→AF→Prop}(p:IsPart x k)(h:Q k s):AP (AU prog w) A (BW.Slice.slicePartIndex x) Q E s:=by
 cases p with
 | none=>exact slicePart_none h
 | int i t=>exact slicePart_int h
theorem kK{sl:AD}{x1 x2:AB}{k1 k2:AH Int}{a b n:AA}{Q:Int×Int×AA→AF→Prop}(hs:s.heap.IsSliceOf sl x1 x2 .none)(p1:IsPart x1 k1)(p2:IsPart x2 k2)
  (h1:Jp k1 0 a) (h2:Jp k2 n b) (hab:a≤b) (hb:b≤n) (h:Q ((a:Int),1,b-a) s):
  AP (AU prog w) A (Y3 (.ref sl) (pure (n:Int))) Q E s:=by
 refine Al (id hs) λos hos hcs hds=>?_
 unfold Y3 BW.Slice.sliceFields
 refine AG (AG (G6 hos hds (x:=x1) rfl (AG (G6 hos hds (x:=x2) rfl (AG (G6 hos hds (x:=.none) rfl (AN ?_)))))))
 refine AG (slicePart_none ?_)
 show AP _ _ (if((1:Int)==0)=true then _ else _) _ _ s
 refine rwl (AO (by decide)) ?_
 refine AG (VX p1 (AG (VX p2 (AG (AN ?_)))))
 show AP _ _ (match SI k1 k2 1 (n:Int) with | (lo,hi)=>pure (lo,(1:Int),N9 lo hi 1)) _ _ s
 have e1:SI k1 k2 1 (n:Int)=((a:Int),(b:Int)):=by
  have lo:∀i:AA,¬(i:Int)<0:=λi=>OA.mpr (Hq i)
  have m:∀{i:AA},i≤n→min (i:Int) (n:Int)=i:=λh=>Int.min_eq_left (Lo.mpr h)
  unfold SI
  cases k1 with
  | none=>
   (have zz:=(show a=0 from h1);subst zz)
   cases k2 with
   | none=>(have zz:=(show b=n from h2);subst zz);rfl
   | some j=>(refine Bs h2 ?_;clear h2;intro z5;subst z5;intro _);simp [m hb,lo]
  | some i=>
   (refine Bs h1 ?_;clear h1;intro z6;subst z6;intro _)
   cases k2 with
   | none=>(have zz:=(show b=n from h2);subst zz);simp [m hab,lo]
   | some j=>(refine Bs h2 ?_;clear h2;intro z7;subst z7;intro _);simp [m hb,m (AR hab hb),lo]
 refine rwl e1 ?_
 show AP _ _ (pure ((a:Int),(1:Int),N9 (a:Int) (b:Int) 1)) _ _ s
 have e2:N9 (a:Int) (b:Int) 1=b-a:=by
  unfold N9
  have z:(1:Int)>0:=by omega
  simp only [z,G0,Int.ediv_one]
  split
  ·refine rwl (Int.sub_add_cancel ..) ?_;exact Int.toNat_sub b a
  ·rename_i h;exact(AA.sub_eq_zero_of_le (Lo.mp (OA.mp h))).symm
 refine rwl e2 ?_
 exact AN h
theorem iT(xs:List AB)(a b:AA)(hb:b≤xs.length):((Ab (b-a)).filterMap λ(k:AA)=>xs.toArray[((a:Int)+(k:Int)*1).toNat]?).toArray=(cut xs a b).toArray:=by
 have e:(λ(k:AA)=>xs.toArray[((a:Int)+(k:Int)*1).toNat]?)= λk=>xs.toArray[a+k]? :=by
  funext k
  have:((a:Int)+(k:Int)*1).toNat=a+k:=AW (λz=>((a:Int)+z).toNat) (Int.mul_one (k:Int))
  (refine rwl this ?_;rfl)
 refine rwl e ?_
 have:=pick_run xs.toArray a (b-a)
 replace this:=List.filterMap_map▸this
 have e2:((λx=>xs.toArray[x]?)∘λx=>a+x)= λk=>xs.toArray[a+k]? :=rfl
 replace this:=e2▸this
 refine rwl this ?_
 unfold cut
 (refine rwl List.drop_take ?_;rfl)
theorem VRs.cut{l:List V}{vs:List AB}(r:VRs h μ l vs)(a b:AA):VRs h μ (Mine.cut l a b) (Mine.cut vs a b):=(r.take b).drop a
theorem l3{α:Type}{l:List α}{a b:AA}(ha:a=0)(hb:b=l.length):cut l a b=l:=by unfold cut;refine rwl ha (rwl hb (rwl Cr ?_));rfl
theorem cD{l:List V}{v:V}{lo hi:AH V}{a b:AA}{x x1 x2:AB}{sl:AD}{Q:AB→AF→Prop}(S:SR w ca h₀ s.heap st μ)(hsl:s.heap.IsSliceOf sl x1 x2 .none)(ea:Eh 0 lo=some a)(eb:Eh l.length hi=some b)(hab:a≤b)(hbl:b≤l.length)
  (e:EC (cut l a b) st=some (v,st')) (ra:VR s.heap μ (.tup l) x) (r1:BR s.heap μ lo x1) (r2:BR s.heap μ hi x2) (h:BU w ca h₀ s μ st' v Q):J4 (AU prog w) A E x (.ref sl) Q s:=by
 refine AJ (BR.part r1 ea) λk1 p1 q1=>?_
 refine AJ (BR.part r2 eb) λk2 p2 q2=>?_
 (refine BV (VRs.toTup (a:=0) ra) ?_;intro aa vs z8;subst z8;intro t na r)
 have hlen:=r.length
 refine Al (id hsl) λos hos hcs hds=>?_
 refine⟨"tuple",_,Yx.lookup,t.typeIs,?_⟩
 unfold N5
 refine Bj ?_
 refine AG (N6 t.typeIs (by decide) ?_)
 refine AG (G5 (name:=AK "__getitem__") t.typeIs slot_tuple_getitem
  (Dq slot_tuple_getitem t.typeIs entry_tuple_getitem ?_ (args_tuple_getitem _ _)))
 show AP _ _ (BW.Tuple.tupleItemsOf (.ref aa)>>= _) _ _ s
 refine AG (tupleItemsOf_ t (AG (I3 ⟨os,hos,hcs⟩ ?_)))
 refine rwl (AM (by decide)) ?_
 refine AG (kK (n:=vs.toArray.size) hsl p1 p2 q1 (show Jp k2 vs.length b from hlen.symm▸q2) hab (AR hbl (Bk hlen.symm)) ?_)
 refine A5 (λhw=>?_) λ_=>?_
 ·(have zz:=Ac.mp hw;have h1:=zz.1;have h3:=zz.2;clear zz)
  refine Bs (Ac.mp h1) λh1 _=>?_
  have ha:a=0:=Int.ofNat_inj.mp (eq_of_beq h1)
  have hb:b=l.length:=(AW (b- ·) ha.symm).trans ((eq_of_beq h3:b-a=vs.length).trans hlen)
  replace e:=l3 ha hb▸e
  refine AG (AG (I3 t.typeIs (AN ?_)))
  refine rwl (AM (by decide)) ?_
  exact AG (Dc (AN ⟨_,rfl,AN (Jv S h (gdE e λ_ e=>e) ra)⟩))
 ·refine rwl (iT vs a b (AR hbl (Bk hlen.symm))) ?_
  refine AG (Hr ?_ ?_)
  ·exact AN ⟨_,rfl,AN (MQ S e h (r.cut a b) s.toks 0)⟩
  ·exact(show(cut vs a b).length≤Dd from(r.cut a b).length▸DT (Dx (Ng e).1))
theorem jh{z:AE}{v:V}{k:Int}{x x1 x2:AB}{sl:AD}{Q:AB→AF→Prop}(S:SR w ca h₀ s.heap st μ)(hsl:s.heap.IsSliceOf sl x1 x2 .none)(hb:(decide (0≤k)&&decide (k≤z.toList.length)&&fits z.toList.length)=true)
  (e:some (V.str (Gx (z.toList.take k.toNat)),st)=some (v,st')) (ra:VR s.heap μ (.str z) x) (r1:BR s.heap μ none x1) (r2:BR s.heap μ (some (.int k)) x2) (h:BU w ca h₀ s μ st' v Q):J4 (AU prog w) A E x (.ref sl) Q s:=by
 (have zz:=Ac.mp hb;have hb:=zz.1;have hf:=zz.2;clear zz)
 (have zz:=Ac.mp hb;have h1:=zz.1;have h2:=zz.2;clear zz)
 (have zz:=(show x1= .none from r1);subst zz)
 (refine exE r2 ?_;clear r2;intro t2 z9;subst z9)
 (refine exE ra ?_;clear ra;intro t z0;subst z0)
 refine⟨"str",_,Yy.lookup,N7 _ _ _,wpAny_getItem_str_slice (l:=none) (u:=some (k,t2)) (st:=none) hsl rfl
  (post_val_or_str ⟨AR (Txt.slice_le _ none (some k)) (RX z▸DT (Dx hf)),λt' tk=>?_⟩)⟩
 have e4:Txt.slice (AK z) none (some k)=AK (Gx (z.toList.take k.toNat)):=by
  refine rwl (eq_of_beq (slice_closes_toL (x:=AK z) (BC h1) (by refine rwl (RX ..) ?_;exact BC h2))) (rwl (FY ..) (rwl (FY ..) ?_))
  simp [Lp]
 show Q (.str (Txt.slice (AK z) none (some k)) t') _
 refine rwl e4 ?_
 exact FH S h e (VR.str_ _ _) tk
theorem bz{i:AA}{xs:List V}{v:V}{lo hi:AH V}{a b:AA}{x x1 x2:AB}{sl:AD}{Q:AB→AF→Prop}(S:SR w ca h₀ s.heap st μ)(hsl:s.heap.IsSliceOf sl x1 x2 .none)(hx:Ih st[i]? =some xs)(ea:Eh 0 lo=some a)(eb:Eh xs.length hi=some b)(hf:fits xs.length=true)
  (e:Ci (.list (cut xs a b)) st=some (v,st')) (ra:VR s.heap μ (.ref i) x) (r1:BR s.heap μ lo x1) (r2:BR s.heap μ hi x2) (h:BU w ca h₀ s μ st' v Q):J4 (AU prog w) A E x (.ref sl) Q s:=by
 (refine AJ ra ?_;clear ra;intro aa z1;subst z1;intro ha)
 refine AJ (BR.part r1 ea) λk1 p1 q1=>?_
 refine AJ (BR.part r2 eb) λk2 p2 q2=>?_
 obtain⟨vs,hl,r⟩:∃vs:List AB,s.heap.IsList aa vs.toArray∧VRs s.heap μ xs vs:=by
  refine Bn hx λob hq hx=>?_
  cases ob with
  | list ys=>(replace hx:=AV hx;subst hx);refine A6 (S.list hq ha) λvs n e0 r=>?_;exact⟨vs,B0 e0,r⟩
  | fro x ys=>
   (replace hx:=AV hx;subst hx)
   refine BO (S.at hq ha) λvs n e1 e2 r=>?_
   exact⟨vs,⟨_,e2,e1.1,n,e1.2⟩,r⟩
  | _=>exact no hx
 have hlen:=r.length
 refine⟨"list",_,Yz,hl.typeIs,wpAny_getItem_list_slice hl hsl p1 p2 .none (by simp) ?_ (show vs.length≤Dd from hlen▸DT (Dx hf))⟩
 refine rwl (cp q1 (hlen.symm▸q2)) ?_
 exact Qh S e h (r.cut a b) s.toks 0
theorem iV{o v:V}{lo hi:AH V}{x x1 x2:AB}{Q:AB→AF→Prop}(S:SR w ca h₀ s.heap st μ)(hu:A.units+20<Av)(e:EV o lo hi st=some (v,st'))(ra:VR s.heap μ o x)(r1:BR s.heap μ lo x1)(r2:BR s.heap μ hi x2)
  (h:BU w ca h₀ s μ st' v Q):J4 (AU prog w) A E x (.ref s.heap.objs.size) Q {s with heap:=s.heap.push {cls:=.type "slice",data:=.fields #[x1,x2,.none]}}:=by
 have N0:Nx w ca h₀ s.heap s μ {s with heap:=s.heap.push {cls:=.type "slice",data:=.fields #[x1,x2,.none]}} μ st:=Nx.grow (t:=s.toks) S λb ob e=>Az _ e
 have hsl:(s.heap.push {cls:=.type "slice",data:=.fields #[x1,x2,.none]}).IsSliceOf s.heap.objs.size x1 x2 .none:=AQ.IsSliceOf.new ..
 have S0:=N0.sr
 have h':BU w ca h₀ _ μ st' v Q:=λs' μ' u N r=>h s' μ' u (N0.then N) r
 have ra:=ra.pass N0.pass
 have br:∀{o x},BR s.heap μ o x→BR (s.heap.push {cls:=.type "slice",data:=.fields #[x1,x2,.none]}) μ o x:=λ{o x} r=>by
  cases o with
  | none=>exact r
  | some v=>exact VR.pass N0.pass r
 cases o with
 | tup l=>exact Bn e λa ea e=>Bn e λb eb e=>gdE e λhab e=>(Ac.mp hab).elim λh1 h2=>cD S0 hsl ea eb (BC h1) (BC h2) e ra (br r1) (br r2) h'
 | str z=>cases lo with
  | none=>exact Bn e λd hd e=>E9 e λk q e=>gdE e λhb e=>jh S0 hsl hb e ra (br r1) (by subst hd;subst q;exact br r2) h'
  | some _=>exact no e
 | ref i=>exact Bn e λxs hx e=>Bn e λa ea e=>Bn e λb eb e=>gdE e λhf e=>bz S0 hsl hx ea eb hf e ra (br r1) (br r2) h'
 | _=>exact no e
end
end Mine
namespace Mine
open PySem PySem.Calls PyProof.Rows PySem.SeqAt
structure GY(h:AQ)(C N:AD)(mN:Str→AH AB)(c:AE):Prop where
 cls:ClsAt h C N mN
 sa:mN "__setattr__"=none
 ga:mN "__getattribute__"=none
 gt:mN "__getattr__"=none
 attrs:∀a∈Bz c,mN (AK a)=none
theorem i6{c a:AE}(h:a∈Bz c):a∈Bz "Bank"++Bz "Unions"++Bz "Heap"++Bz "Tables":=by
 by_cases h1:c="Bank"
 ·exact D7 _ (D7 _ (D7 _ (h1▸h)))
 by_cases h2:c="Unions"
 ·exact D7 _ (D7 _ (D8 _ (h2▸h)))
 by_cases h3:c="Heap"
 ·exact D7 _ (D8 _ (h3▸h))
 by_cases h4:c="Tables"
 ·exact D8 _ (h4▸h)
 ·exact absurd (Eq.mp (AW (a∈ ·) (show Bz c=[] from(AO h1).trans ((AO h2).trans ((AO h3).trans (AO h4))))) h) Dm
theorem cq:((Bz "Bank"++Bz "Unions"++Bz "Heap"++Bz "Tables").all λa=>match fastLookup "object" (AK a) with | some none=>true | _=>false)=true:=by kernel_rfl
theorem UI(c:AE)(a:AE)(h:a∈Bz c):OB (.type "object") (AK a)=pure none:=by
 have:=BE.mp cq a (i6 h)
 refine rwl (Lq ..) (rwl OC ?_)
 revert this
 cases fastLookup "object" (AK a) with
 | none=>intro h;cases h
 | some r=>cases r with
  | none=>exact λ_=>rfl
  | some r=>intro h;cases h
section
variable{w:Ae}{ca:AE→AD}{h₀ h h':AQ}{μ μ':List AD}{st st':St}{s:AF}{prog:Ar}{A:Aq}{E:AB→AF→Prop}
theorem VR.handed{v:V}{u:AB}(x:VR h μ v u):handedOut u=pure u:=by
 cases v with
 | none=>(have zz:=(show u= .none from x);subst zz);rfl
 | bool b=>(have zz:=(show u= .bool b from x);subst zz);rfl
 | int b=>(refine exE x ?_;clear x;intro t z2;subst z2);rfl
 | str b=>(refine exE x ?_;clear x;intro t z3;subst z3);rfl
 | tup b=>(refine A6 x ?_;clear x;intro t _ z4;subst z4;intro _);rfl
 | ref b=>(refine AJ x ?_;clear x;intro t z5;subst z5;intro _);rfl
theorem SR.inst(S:SR w ca h₀ h st μ){r:AA}{c:AE}{fs:List (AE×V)}{x:AD}(e1:st[r]? =some (.inst c))(e2:st[r+1]? =some (.ns fs))(hx:μ[r]? =some x):
  ∃d mA o,μ[r+1]? =some d∧d≠x∧h.get? x=some o∧o.dict=some d∧h.Inst x (ca c) mA∧Within mA (fs.map λf=>AK f.1)∧(∀y,match Ce y fs with
  | some v=>∃u,mA (AK y)=some u∧VR h μ v u
  | none=>mA (AK y)=none):=by
 refine Qs (S.at e1 hx) λd o hd ne ho hc hnc hdd=>?_
 refine Al (S.at e2 hd) λmA hn wi f=>?_
 exact⟨d,mA,o,hd,ne,ho,hdd,⟨o,ho,hc,hnc,.inr ⟨d,hdd,ne,hn⟩⟩,wi,f⟩
theorem SR.clsApart(S:SR w ca h₀ h st μ){x:AD}{C:AD}{o:Obj}(hx:x∈μ)(hC:h₀.get? C=some o):x≠C:=λq=>by replace hC:=(S.above _ (q▸hx))▸hC;exact xN hC
theorem gE{o v:V}{a:AE}{x:AB}{expr:AL}{Q:AB→AF→Prop}(CB:∀c,Bz c≠[]→∃N mN,GY h₀ (ca c) N mN c)(S:SR w ca h₀ s.heap st μ)(e:Ed o a st=some v)(ra:VR s.heap μ o x)
  (h:BU w ca h₀ s μ st v Q):AP (AU prog w) A (getAttr x (AK a) expr) Q E s:=by
 refine FT e λr q e=>V8 e λc e1 e=>QH e λfs e2 e=>gdE e λhc e=>?_
 (refine AJ (q▸ra:VR s.heap μ (.ref r) x) ?_;intro xa z6;subst z6;intro hx)
 have hc':=GK.mp hc
 refine QQ (S.inst e1 e2 hx) λd mA ob hd ne ho hdd I wi f=>?_
 have fa:=f a
 replace fa:=e▸fa
 (refine AJ fa ?_;clear fa;intro u hu r1)
 refine CU (CB c λq=>Dm (q▸hc')) λN mN B=>?_
 obtain⟨nm,q,bs,sn,sub,col,dd,k0,k1,k2,k3,k5,hC₀⟩:=B.cls.obj
 obtain⟨hh,g,dr,t,os⟩:=s
 exact load_attr (S.base _ _ hC₀) (B.cls.keeps S.base).ns B.ga (B.attrs a hc') (UI c a hc') I hu r1.handed (IT S h r1 _)
theorem VN{a:AE}{u v:V}{fs:List (AE×V)}:By a v ((a,u)::fs)=(a,v)::fs:=AM rfl
theorem UX{a c:AE}{u v:V}{fs:List (AE×V)}(h:c≠a):By a v ((c,u)::fs)=(c,u)::By a v fs:=AO h
theorem Qt{a:AE}{v:V}{fs:List (AE×V)}:Ce a ((a,v)::fs)=some v:=AM rfl
theorem ND{a c:AE}{v:V}{fs:List (AE×V)}(h:c≠a):Ce a ((c,v)::fs)=Ce a fs:=AO h
theorem gJ{a b:AE}{v:V}{fs:List (AE×V)}:Ce b (By a v fs)=if a=b then some v else Ce b fs:=by
 induction fs with
 | nil=>exact rfl
 | cons e fs ih=>
  obtain⟨c,u⟩:=e
  by_cases q:c=a
  ·refine rwl q (rwl VN ?_)
   by_cases z:a=b
   ·(refine rwl (AM z) (rwl z (rwl Qt ?_));rfl)
   ·(refine rwl (AO z) (rwl (ND z) (rwl (ND z) ?_));rfl)
  ·refine rwl (UX q) ?_
   by_cases z:c=b
   ·(refine rwl (AO λw=>q (z.trans w.symm)) (rwl z (rwl Qt (rwl Qt ?_)));rfl)
   ·(refine rwl (ND z) (rwl (ND z) (rwl ih ?_));rfl)
theorem fX{a:AE}{v:V}{x:AE}{fs:List (AE×V)}:x∈fs.map (·.1)∨x=a→x∈(By a v fs).map (·.1):=by
 induction fs with
 | nil=>exact λh=>h.elim (λh=>xM h) λh=>Aw.mpr h
 | cons e fs ih=>
  obtain⟨c,u⟩:=e
  intro h
  by_cases q:c=a
  ·refine rwl q (rwl VN ?_)
   exact h.elim (λh=>q▸h) λh=>h▸Ah
  ·refine rwl (UX q) ?_
   exact h.elim (λh=>(Ak.mp h).elim (λh=>h▸Ah) λh=>Am _ (ih (.inl h))) λh=>Am _ (ih (.inr h))
theorem dc{h':AQ}{d:AD}{a:AE}{v:V}{y:AB}{fs:List (AE×V)}{mA:Str→AH AB}{i:AA}(P:Pass h h' μ μ)(wi:Within mA (fs.map λf=>AK f.1))(f:∀x,match Ce x fs with
  | some v=>∃u,mA (AK x)=some u∧VR h μ v u
  | none=>mA (AK x)=none) (hns:h'.Ns1 d λn=>if n=AK a then some y else mA n) (rb:VR h μ v y):OR w ca h' μ i d (.ns (By a v fs)):=by
 refine⟨_,hns,λz hz=>?_,λz=>?_⟩
 ·have key:∀{x},x∈fs.map (·.1)∨x=a→AK x∈(By a v fs).map λf=>AK f.1:=λhx=>by
   refine AJ (Ay.mp (fX (v:=v) hx)) λn hn e=>?_
   exact Ay.mpr ⟨n,hn,AW AK e⟩
  by_cases q:z=AK a
  ·exact q▸key (.inr rfl)
  ·refine AJ (Ay.mp (wi z (λe=>hz ((AO q).trans e)))) λn hn e=>?_
   exact e▸key (.inl (List.mem_map_of_mem hn))
 ·refine rwl gJ ?_
  by_cases q:a=z
  ·refine rwl (AM q) ?_
   exact⟨y,AM (q▸rfl),rb.pass P⟩
  ·refine rwl (AO q) ?_
   have qz:AK z≠AK a:=λe=>q (ED e).symm
   have fz:=f z
   revert fz
   cases Ce z fs with
   | none=>exact λfz=>(AO qz).trans fz
   | some v'=>exact λzq1=>zq1.elim λu' zz=>zz.elim λhu' ru'=>⟨u',(AO qz).trans hu',ru'.pass P⟩
theorem dY{o v:V}{a:AE}{x y:AB}{Q:Ek→AF→Prop}(CB:∀c,Bz c≠[]→∃N mN,GY h₀ (ca c) N mN c)(S:SR w ca h₀ s.heap st μ)(e:LP o a v st=some st')(ra:VR s.heap μ o x)(rb:VR s.heap μ v y)
  (h:∀s',Nx w ca h₀ s.heap s μ s' μ st'→Q () s'):AP (AU prog w) A (setAttr x (AK a) y) Q E s:=by
 refine FT e λr q e=>V8 e λc e1 e=>QH e λfs e2 e=>gdE e λhc e=>?_
 (refine AJ (q▸ra:VR s.heap μ (.ref r) x) ?_;intro xa z7;subst z7;intro hx)
 (have zz:=Ac.mp hc;have hc:=zz.1;have hfl:=zz.2;clear zz)
 have hc':=GK.mp hc
 have h:=λs' N=>h s' (AV e▸N)
 refine QQ (S.inst e1 e2 hx) λd mA ob hd ne ho hdd I wi f=>?_
 refine CU (CB c λq=>Dm (q▸hc')) λN mN B=>?_
 obtain⟨nm,q,bs,sn,sub,col,dd,k0,k1,k2,k3,k5,hC₀⟩:=B.cls.obj
 have hxm:=SR.mem hx
 have hdm:=SR.mem hd
 obtain⟨hh,g,dr,t,os⟩:=s
 refine store_attr PySem.F.store_object (S.base _ _ hC₀) (B.cls.keeps S.base).ns B.sa (B.attrs a hc') (UI c a hc') (S.clsApart hxm hC₀) I (λh' tk' I' hk hsame=>?_) wi (by
  have:(100:AA)≤Dd:=by decide
  have:=BC hfl
  refine rwl (AY ..) ?_;omega)
 refine RG (hsame ob ho) λo₁ ho₁ c₁ dt₁ _ dk₁=>?_
 have kk:∀b ob2,b≠xa→b≠d→hh.get? b=some ob2→h'.get? b=some ob2:=λb ob2 h1 h2 e=>hk b ob2 h1 (λo₀ dx e₀ ed q=>h2 (q.trans (AV (ed.symm.trans ((AV (e₀.symm.trans ho))▸hdd))))) e
 have km:∀b ob2,b∉μ→hh.get? b=some ob2→h'.get? b=some ob2:=λb ob2 n=>kk b ob2 (λz=>n (z▸hxm)) λz=>n (z▸hdm)
 have P:Pass hh h' μ μ:=⟨⟨[],(Bo μ).symm,λ_ h=>xM h⟩,λb vs n t=>IsTp.to t λo e=>km b o n e⟩
 have newNs:OR w ca h' μ (r+1) d (.ns (By a v fs)):=by
  (refine DC I' ?_;clear I';intro o2 ho2 _ _ hI)
  (have zz:=AV (ho₁.symm.trans ho2);subst zz)
  rcases hI with ⟨hn,_⟩ | ⟨d2,hd2,_,hns⟩
  ·exact xS ((dk₁ d hdd).symm.trans hn)
  ·(have zz:=AV ((dk₁ d hdd).symm.trans hd2);subst zz)
   exact dc P wi f hns rb
 have S':SR w ca h₀ h' (st.set (r+1) (.ns (By a v fs))) μ:=by
  refine⟨S.len.trans Gz.symm,S.nodup,λb ob2 eb=>km b ob2 (λhm=>by replace eb:=S.above _ hm▸eb;exact xN eb) (S.base b ob2 eb),S.above,λj oj ej=>?_⟩
  by_cases hj:r+1=j
  ·subst hj
   replace ej:=OD (BA.mp e2).1▸ej
   exact⟨d,hd,AV ej▸newNs⟩
  ·replace ej:=Jz hj▸ej
   refine AJ (S.obj j oj ej) λb hb yb=>?_
   by_cases hjr:j=r
   ·subst hjr
    (have zz:=AV (e1.symm.trans ej);subst zz)
    refine Qs (S.at e1 hx) λd' ob' hd' ne' ho' hcls' hncls' hdd'=>?_
    (have zz:=AV (ho'.symm.trans ho);subst zz)
    exact⟨xa,hx,d,o₁,hd,ne,ho₁,c₁.trans hcls',λc=>dt₁▸hncls' c,dk₁ _ hdd⟩
   ·refine exE yb.here λob2 eb2=>?_
    exact⟨b,hb,yb.pass P ((kk b ob2 (λz=>hjr (S.inj (z▸hb) hx)) (λz=>hj (S.inj hd (z▸hb))) eb2).trans eb2.symm)⟩
 refine h _ ?_
 have N:=Nx.of (s:=⟨hh,g,dr,t,os⟩) (t:=tk') S (ν:=[]) (h':=h') (st1:=st.set (r+1) (.ns (By a v fs))) (λb ob2 n e=>km b ob2 n e)
  (λb ob2 e=>by
   by_cases q1:b=xa
   ·exact⟨o₁,q1▸ho₁⟩
   ·by_cases q2:b=d
    ·exact q2▸newNs.here
    ·exact⟨ob2,kk b ob2 q1 q2 e⟩) (λ_ h=>xM h) ((Bo μ).symm▸S')
 rwa [Bo] at N
end
end Mine
namespace Mine
open PySem PySem.Calls PyProof.Rows PySem.SeqAt PySem.MeetsSeq
structure Wt(T m id:AE):Prop where
 attrs:PlainAttrs T
 slot:Slot T (AK m) id
 ty:Lr (.builtin id)=pure (.type "method_descriptor")
theorem bt{t m id:AE}(h:GB t m=some id):Wt t m id:=by
 have all:∀x∈Py,Wt x.1 x.2.1 x.2.2:=by
  unfold Py
  refine G7.mpr ⟨⟨PySem.F.plainAttrs_tuple,Y4,PySem.F.type_tuple_index⟩,G7.mpr ⟨⟨PySem.F.plainAttrs_str,Y5,PySem.F.type_str_isspace⟩,G7.mpr ⟨⟨SJ,SK,PySem.F.type_list_append⟩,G7.mpr ⟨⟨SJ,Y6,PySem.F.type_list_extend⟩,G7.mpr ⟨⟨SJ,Y7,PySem.F.type_list_pop⟩,G7.mpr ⟨⟨SN,Y8,PySem.F.type_dict_setdefault⟩,G7.mpr ⟨⟨SN,Y9,PySem.F.type_dict_get⟩,G7.mpr ⟨⟨SN,ZA,PySem.F.type_dict_pop⟩,λ_ h=>(xM h)⟩⟩⟩⟩⟩⟩⟩⟩
 refine Hg h λx e q=>?_
 have:=List.find?_some e
 (have zz:=Ac.mp this;have h1:=zz.1;have h2:=zz.2;clear zz)
 exact eq_of_beq h1▸eq_of_beq h2▸q▸all x (List.mem_of_find?_eq_some e)
section
variable{w:Ae}{ca:AE→AD}{h₀ h h':AQ}{μ μ':List AD}{st st':St}{s:AF}{prog:Ar}{A:Aq}{E:AB→AF→Prop}
theorem gI{a:V}{t:AE}{x:AB}(e:Fx a st=some t)(S:SR w ca h₀ s.heap st μ)(r:VR s.heap μ a x):s.TypeIs x t∧∀b,x= .ref b→∃o,s.heap.get? b=some o∧o.dict=none:=by
 have key:∀{a':AD} {o:Obj} {t:AE},s.heap.get? a'=some o→o.cls= .type t→o.dict=none→s.TypeIs (.ref a') t∧∀b,Hs a'= .ref b→∃o,s.heap.get? b=some o∧o.dict=none:=
  λe c d=>⟨⟨_,e,c⟩,λb q=>⟨_,Hs.inj q▸e,d⟩⟩
 cases a with
 | tup l=>
  (replace e:=AV e;subst e)
  (refine BO r ?_;clear r;intro a' vs z8;subst z8;intro z9;rcases z9 with ⟨o,e1,c,d,_⟩;intro _)
  exact key e1 c d
 | str l=>
  (replace e:=AV e;subst e)
  (refine exE r ?_;clear r;intro t z0;subst z0)
  exact⟨N7 _ _ _,λb q=>nomatch q⟩
 | ref i=>
  (refine AJ r ?_;clear r;intro a' z1;subst z1;intro ha)
  refine Bn e λo hx e=>?_
  cases o with
  | list xs=>(replace e:=AV e;subst e);refine A6 (S.list hx ha) λvs n e0 _=>?_;exact key e0 rfl rfl
  | dict es n=>(replace e:=AV e;subst e);refine AJ (S.dict hx ha) λds e0 _=>?_;exact key e0 rfl rfl
  | _=>exact no e
 | _=>exact no e
theorem Nx.list(S:SR w ca h₀ s.heap st μ){r:AA}{a:AD}{ys:List V}{us:List AB}{f:AS AB→AS AB}{vs:List AB}{n:AA}(ha:μ[r]? =some a)(e0:s.heap.get? a=some (EK vs n))
  (hf:f vs.toArray=us.toArray) (x:VRs s.heap μ ys us) (tk:AA):Nx w ca h₀ s.heap s μ {s with heap:=s.heap.update a (DG f),toks:=tk} μ (st.set r (.list ys)):=by
 have sb:C7 a s.heap (s.heap.update a (DG f)):=DF ..
 have P:=NK S (SR.mem ha) sb
 refine Nx.turn S ha sb ⟨us,(if(f vs.toArray).size==vs.toArray.size then n else n+1),?_,x.pass P⟩
 refine rwl (GI _ e0 rfl) ?_
 show some (GJ _ _ (.seq (f vs.toArray) _) _)=some (GJ _ _ (.seq us.toArray _) _)
 (refine rwl hf ?_;rfl)
theorem VRs.dropLast:∀{l:List V} {vs:List AB},VRs h μ l vs→VRs h μ l.dropLast vs.dropLast:=λ{l vs} x=>by
 refine rwl ZC (rwl ZC (rwl x.length ?_));exact x.take _
theorem iE(l:AD)(items:AS AB)(n:AA)(dd:AH AD)(sl:AS (AH AB))(x:AB)(e:AB→AL)(j:AA)(hj:items.toList.findIdx? e=some j):
  Meets (BW.«tuple.index» ⟨[.ref l,x],[]⟩)
   (λA R s=>s.heap.get? l=some {cls:=.type "tuple",dict:=dd,data:=.seq items n,slots:=sl}∧(∀y,y∈items→Cp A.in1 s y x (e y))∧R (.ok (.ret (.int (j:AA) s.toks))) {s with toks:=s.toks+1}):=
 .of_wp λprog w A R s h=>by
  (refine A7 h ?_;clear h;intro hl he h)
  unfold BW.«tuple.index»
  refine AG (AN ?_)
  refine AG (wpAny_tupleItemsOf hl rfl ?_)
  dsimp only
  refine AG (AN (AG (AN ?_)))
  refine rwl (ZD.forIn_eq_forIn_range' ..) ?_
  simp only [ZD.size,AA.sub_zero,AA.add_sub_cancel,AA.div_one,Lh]
  obtain⟨hjl,hej,hmin⟩:=List.findIdx?_eq_some_iff_getElem.mp hj
  have hjl':j<items.size:=by simpa using hjl
  refine AG ?_
  refine J2 _ (λrest b s'=>s=s'∧b=(none,())∧∃i,rest=Nu i (items.size-i)∧i≤j) _ ?_ ?_ _ _ ⟨rfl,rfl,0,by simp,BL _⟩
  ·(intro y rest b s' zr8;obtain⟨rfl,rfl,i,hr,hi⟩:=zr8)
   have hlt:i<items.size:=Bi hi hjl'
   obtain⟨rfl,hrest⟩:y=i∧rest=Nu (i+1) (items.size-(i+1)):=by
    have e:items.size-i=(items.size-(i+1))+1:=(G8 (ZE hlt)).symm
    replace hr:=ZF▸e▸hr
    injection hr with h1 h2
    exact⟨h1,h2⟩
   refine rwl (I0 hlt) ?_
   refine AG (he _ (Yt hlt) prog w _ _ ?_)
   by_cases q:y=j
   ·subst q
    have:e items[y]=true:=by simpa using hej
    refine rwl this (rwl (AM rfl) ?_)
    show AP _ _ ((mkInt y>>= λv=>ret v)>>= _) _ _ _
    exact AG (AG (wpAny_mkInt (AN (AN (AN ⟨_,rfl,h⟩)))))
   ·have:e items[y]=false:=by
     have:=hmin y (G9 hi q)
     simpa using this
    refine rwl this (rwl (AO (by decide)) ?_)
    exact AN ⟨rfl,rfl,y+1,hrest,G9 hi q⟩
  ·(intro b s' zr9;obtain⟨rfl,rfl,i,hr,hi⟩:=zr9)
   have e:items.size-i=(items.size-(i+1))+1:=(G8 (ZE (Bi hi hjl'))).symm
   replace hr:=ZF▸e▸hr;exact xD hr
theorem VRs.none{us:List AB}(rs:VRs h μ [] us):us=[]:=rs
theorem VRs.one{y:V}{us:List AB}(rs:VRs h μ [y] us):∃u,us=[u]∧VR h μ y u:=rs.elim λu zz=>zz.elim λ_ zz=>zz.elim λe zz=>zz.elim λr q=>⟨u,by(refine rwl e (rwl (show _=[] from q) ?_);rfl),r⟩
theorem VRs.two{y z:V}{us:List AB}(rs:VRs h μ [y,z] us):∃u v,us=[u,v]∧VR h μ y u∧VR h μ z v:=rs.elim λu zz=>zz.elim λ_ zz=>zz.elim λe zz=>zz.elim λr q=>(VRs.one q).elim λv zz=>zz.elim λe2 r2=>⟨u,v,by(refine rwl e (rwl e2 ?_);rfl),r,r2⟩
section
variable{v:V}{x:AB}{us:List AB}{vs:List V}{Q:AB→AF→Prop}
theorem my{l:List V}{y:V}{u:AB}(SM:∃o,h₀.get? B6=some o)(S:SR w ca h₀ s.heap st μ)(hu:A.units+20<Av)(e:((JM (eqR Bv st) y l).map λ(i:AA)=>(V.int (i:Int),st))=some (v,st'))(ra:VR s.heap μ (.tup l) x)(ry:VR s.heap μ y u)
  (h:BU w ca h₀ s μ st' v Q):AP (AU prog w) A (call (.builtin "tuple.index") [x,u]) Q E s:=by
 refine Hg e λj e ee=>Bn e λes e1 e2=>?_
 (refine BV ra ?_;clear ra;intro aa ws z2;subst z2;intro z3;rcases z3 with ⟨⟨cls,dd,data,sl⟩,ho,hc,hdd,n,hd⟩;intro na ra)
 subst hc;subst hd;subst hdd
 have hu1:A.in1.units+Bv<Av:=by show A.units+1+12<Av;omega
 have q:ws.findIdx? (Jf (λz=>eqR Bv st z y) s.heap μ)=some j:=by
  replace e2:=ZG▸Cq (WG S.nodup l e1 ra)▸e2
  exact e2
 exact J8 Y4 ⟨_,ho,rfl⟩ PySem.F.entry_tuple_index (PySem.F.args_tuple_index_2 _ _) (iE aa ws.toArray n none sl u _ j q)
  ⟨ho,QE SM S hu1 e1 ra ry,FH S h (AW some ee) (VR.int_ _ _) _⟩
theorem cM{r:AA}{aa:AD}{xs:List V}{y:V}{u:AB}(S:SR w ca h₀ s.heap st μ)(ha:μ[r]? =some aa)(hx:st[r]? =some (.list xs))(hf:fits xs.length=true)(e:some (V.none,st.set r (.list (xs++[y])))=some (v,st'))(ry:VR s.heap μ y u)
  (h:BU w ca h₀ s μ st' v Q):AP (AU prog w) A (call (.builtin "list.append") [.ref aa,u]) Q E s:=by
 refine A6 (S.list hx ha) λws n e0 rx=>?_
 cases e
 refine J8 SK ⟨_,e0,rfl⟩ ZH (ZI _ _) (list_append aa ws.toArray n u (show ws.length≤Dd from rx.length▸DT (Dx hf))) ⟨e0,?_⟩
 exact h _ _ _ (Nx.list (us:=ws++[u]) S ha e0 (ZJ ..) (rx.append (VRs.cons ry VRs.nil)) s.toks) VR.none_
theorem jx{r q:AA}{aa:AD}{xs ys:List V}{u:AB}(S:SR w ca h₀ s.heap st μ)(ha:μ[r]? =some aa)(hx:st[r]? =some (.list xs))(hy:st[q]? =some (.list ys))(hf:fits (xs.length+ys.length)=true)
  (e:some (V.none,st.set r (.list (xs++ys)))=some (v,st')) (ry:VR s.heap μ (.ref q) u) (h:BU w ca h₀ s μ st' v Q):AP (AU prog w) A (call (.builtin "list.extend") [.ref aa,u]) Q E s:=by
 refine A6 (S.list hx ha) λws n e0 rx=>?_
 (refine AJ ry ?_;clear ry;intro ab z4;subst z4;intro hb)
 refine A6 (S.list hy hb) λzs n2 e2 r2=>?_
 cases e
 have hsz:ws.toArray.size+zs.toArray.size≤Dd:=show ws.length+zs.length≤Dd from rx.length▸r2.length▸DT (Dx hf)
 have ht:¬(!ws.toArray.isEmpty&&ZK (ws.toArray.size+zs.toArray.size))=true:=by
  unfold ZK
  refine rwl (B5 (SO.mpr hsz)) (rwl (Nt ..) ?_)
  exact DD
 refine J8 Y6 ⟨_,e0,rfl⟩ PySem.F.entry_list_extend (PySem.F.args_list_extend_2 _ _) (AutoSeq1.list_extend_list_list_0 aa ws.toArray n ab zs.toArray n2 ht (by omega) (by omega)) ⟨e0,e2,?_⟩
 exact h _ _ _ (Nx.list (us:=ws++zs) S ha e0 (SA ..) (rx.append r2) s.toks) VR.none_
theorem dM{r:AA}{aa:AD}{xs:List V}{y:V}(S:SR w ca h₀ s.heap st μ)(ha:μ[r]? =some aa)(hx:st[r]? =some (.list xs))(hy:xs.getLast? =some y)(hf:fits xs.length=true)(e:some (y,st.set r (.list xs.dropLast))=some (v,st'))
  (h:BU w ca h₀ s μ st' v Q):AP (AU prog w) A (call (.builtin "list.pop") [.ref aa]) Q E s:=by
 refine A6 (S.list hx ha) λws n e0 rx=>?_
 cases e
 replace hy:=List.getLast?_eq_getElem?▸hy
 refine AJ (rx.get hy) λu e1 r1=>?_
 replace e1:=Cq rx.length▸e1
 have hl:ws.length-1<ws.length:=(BA.mp e1).1
 refine J8 Y7 ⟨_,e0,rfl⟩ PySem.F.entry_list_pop (PySem.F.args_list_pop_1 _) (list_pop_last aa ws.toArray n u (En.trans e1) (show ws.length≤Dd from rx.length▸DT (Dx hf))) ⟨e0,?_⟩
 have N:=Nx.list (us:=ws.dropLast) (f:=λxs=>xs.eraseIdxIfInBounds (ws.toArray.size-1)) S ha e0 (by simp [Yv,hl]) rx.dropLast s.toks
 exact h _ _ _ N (r1.pass N.pass)
theorem i9{r n:AA}{aa:AD}{es:List (V×V)}{k d:V}{ku du:AB}(SM:∃o,h₀.get? B6=some o)(S:SR w ca h₀ s.heap st μ)(hu1:A.in1.units<Av)(ha:μ[r]? =some aa)(hx:st[r]? =some (.dict es n))(hk:k.simple=true)
  (e:(match Aa k es with
   | some w=>some (w,st)
   | none=>if fits es.length then some (d,st.set r (.dict (es++[(k,d)]) (n+1))) else none)=some (v,st')) (rk:VR s.heap μ k ku) (rd:VR s.heap μ d du) (h:BU w ca h₀ s μ st' v Q):AP (AU prog w) A (call (.builtin "dict.setdefault") [.ref aa,ku,du]) Q E s:=by
 have hT:=S.dictType ha hx
 refine Dq Y8 hT PySem.F.entry_dict_setdefault ?_ (PySem.F.args_dict_setdefault_3 _ _ _)
 unfold BW.«dict.setdefault»
 refine AG (AG (Ls hT ?_))
 show AP _ _ (pure (aa,ku,some du)) _ _ s
 refine AN ?_
 show AP _ _ (if(aa==B6)=true then _ else(R3 aa ku du>>= _)) _ _ s
 refine rwl (AO (by refine rwl (S.notMods SM (SR.mem ha)) ?_;exact DD)) ?_
 refine AG (gq S hu1 ha hx hk rk rd (λv0 hv tk wu rw'=>?_) λhn=>?_)
 ·replace e:=hv▸e
  exact AN ⟨_,rfl,FH S h e rw' tk⟩
 ·replace e:=hn▸e
  refine gdE e λhf e=>⟨hf,λs' N=>AN ⟨_,rfl,?_⟩⟩
  cases e
  exact h _ _ _ N (rd.pass N.pass)
theorem l4{r n:AA}{aa:AD}{es:List (V×V)}{k d:V}{ku du:AB}(SM:∃o,h₀.get? B6=some o)(S:SR w ca h₀ s.heap st μ)(hu1:A.in1.units<Av)(ha:μ[r]? =some aa)(hx:st[r]? =some (.dict es n))(hk:k.simple=true)
  (e:some ((Aa k es).getD d,st)=some (v,st')) (rk:VR s.heap μ k ku) (rd:VR s.heap μ d du) (h:BU w ca h₀ s μ st' v Q):AP (AU prog w) A (call (.builtin "dict.get") [.ref aa,ku,du]) Q E s:=by
 refine Dq Y9 (S.dictType ha hx) PySem.F.entry_dict_get ?_ (PySem.F.args_dict_get_3 _ _ _)
 show AP _ _ (Ll aa ku>>= _) _ _ s
 refine AG (QO S hu1 ha hx hk rk λtk=>?_)
 revert e
 cases Aa k es with
 | none=>
  intro e
  show AP _ _ (BW.Dict.missed aa ku>>= _) _ _ _
  exact AG (wpAny_missed_other (S.notMods SM (SR.mem ha)) (AN ⟨_,rfl,FH S h e rd tk⟩))
 | some v0=>exact λe vu rv=>AN ⟨_,rfl,FH S h e rv tk⟩
theorem kB{r n:AA}{aa:AD}{es:List (V×V)}{k v0:V}{ku:AB}(S:SR w ca h₀ s.heap st μ)(hu1:A.in1.units<Av)(ha:μ[r]? =some aa)(hx:st[r]? =some (.dict es n))(hk:(k.isInt&&fits es.length)=true)(hv:Aa k es=some v0)
  (e:some (v0,st.set r (.dict (EY k es) (n+1)))=some (v,st')) (rk:VR s.heap μ k ku) (h:BU w ca h₀ s μ st' v Q):AP (AU prog w) A (call (.builtin "dict.pop") [.ref aa,ku]) Q E s:=by
 have hT:=S.dictType ha hx
 (have zz:=Ac.mp hk;have hk:=zz.1;have hf:=zz.2;clear zz)
 rw [F9 hk] at rk hv e
 cases e
 refine Dq ZA hT PySem.F.entry_dict_pop ?_ (PySem.F.args_dict_pop_2 _ _)
 have hpart:(keyPart ku).isSome=true:=by(refine exE rk ?_;clear rk;intro t z5;subst z5);rfl
 unfold BW.«dict.pop»
 refine AG (AG (Ls hT ?_))
 show AP _ _ (pure (aa,ku,none)) _ _ s
 refine AN ?_
 simp only [hpart,G0]
 refine AG (AN ?_)
 simp only [Fc,Fe]
 refine AG (lH S hu1 ha hx rfl rk hf hv λs' ku' vu N r=>?_)
 simp only [AH.isNone_some,Fc,Fe]
 exact AG (SP (AN ⟨_,rfl,h _ _ _ N r⟩))
theorem iD{a:V}{m t:AE}(SM:∃o,h₀.get? B6=some o)(S:SR w ca h₀ s.heap st μ)(hu:A.units+20<Av)
  (et:Fx a st=some t) (e:Ec a m vs st=some (v,st')) (ra:VR s.heap μ a x) (rs:VRs s.heap μ vs us) (h:BU w ca h₀ s μ st' v Q):
  ∃id,GB t m=some id∧AP (AU prog w) A (call (.builtin id) (x::us)) Q E s:=by
 have hu1:A.in1.units<Av:=by show A.units+1<Av;omega
 have mk:∀{t' m':AE} (id:AE),t'=t→m=m'→GB t' m'=some id→AP (AU prog w) A (call (.builtin id) (x::us)) Q E s→∃id,GB t m=some id∧AP (AU prog w) A (call (.builtin id) (x::us)) Q E s:=
  λid h1 h2 h3 h4=>⟨id,h1▸h2▸h3,h4⟩
 have a1:∀{y},vs=[y]→∃u,us=[u]∧VR s.heap μ y u:=λq=>VRs.one (q▸rs)
 have a2:∀{y z},vs=[y,z]→∃u v,us=[u,v]∧VR s.heap μ y u∧VR s.heap μ z v:=λq=>VRs.two (q▸rs)
 have a0:vs=[]→us=[]:=λq=>VRs.none (q▸rs)
 cases a with
 | tup l=>exact gdE e λhm e=>Jl e λy q e=>mk "tuple.index" (AV et) hm rfl (let⟨u,e1,ry⟩:=a1 q;e1▸my SM S hu e ra ry h)
 | str z=>
  refine gdE e λhm e=>Q8 e λq e=>mk "str.isspace" (AV et) hm rfl ?_
  (refine exE ra ?_;clear ra;intro t z6;subst z6)
  refine rwl (a0 q) ?_
  exact call_gives Y5 (N7 _ _ _) PySem.F.entry_str_isspace (PySem.F.args_str_isspace_1 _) (gives_str_isspace _ _) (Jv S h e (VR.bool_ _))
 | ref r=>
  (refine AJ ra ?_;clear ra;intro aa z7;subst z7;intro ha)
  refine Hm e (λxs hx e=>?_) λes n hx e=>?_
  ·have et:"list"=t:=AV ((AW (OE · Ip) hx).symm.trans et)
   exact Dh e (λhm e=>Jl e λy q e=>gdE e λhf e=>mk "list.append" et hm rfl (let⟨u,e1,ry⟩:=a1 q;e1▸cM S ha hx hf e ry h)) λ_ e=>Dh e (λhm e=>Jl e λy q e=>FT e λj qj e=>Dh e (λ_ e=>no e) λ_ e=>FL e λys hy e=>gdE e λhf e=>mk "list.extend" et hm rfl (let⟨u,e1,ry⟩:=a1 q;e1▸jx S ha hx hy hf e (qj▸ry) h)) λ_ e=>gdE e λhm e=>Q8 e λq e=>Bn e λy hy e=>gdE e λhf e=>mk "list.pop" et hm rfl ((a0 q).symm▸dM S ha hx hy hf e h)
  ·have et:"dict"=t:=AV ((AW (OE · Ip) hx).symm.trans et)
   exact Dh e (λhm e=>Kn e λk d q e=>gdE e λhk e=>mk "dict.setdefault" et hm rfl ((a2 q).elim λu zz=>zz.elim λu2 zz=>zz.elim λe1 zz=>zz.elim λrk rd=>e1▸i9 SM S hu1 ha hx hk e rk rd h)) λ_ e=>Dh e (λhm e=>Kn e λk d q e=>gdE e λhk e=>mk "dict.get" et hm rfl ((a2 q).elim λu zz=>zz.elim λu2 zz=>zz.elim λe1 zz=>zz.elim λrk rd=>e1▸l4 SM S hu1 ha hx hk e rk rd h)) λ_ e=>gdE e λhm e=>Jl e λk q e=>gdE e λhk e=>Bn e λv0 hv e=>mk "dict.pop" et hm rfl (let⟨u,e1,rk⟩:=a1 q;e1▸kB S hu1 ha hx hk hv e rk h)
 | _=>exact no et
end
theorem j6{r:AA}{k:Int}{v:V}{aa:AD}{xs:List V}{y z:AB}{Q:Ek→AF→Prop}(S:SR w ca h₀ s.heap st μ)(ha:μ[r]? =some aa)(hx:st[r]? =some (.list xs))(hk:(decide (0≤k)&&BJ k&&decide (k.toNat<xs.length))=true)(ri:VR s.heap μ (.int k) y)(rv:VR s.heap μ v z)
  (h:∀s',Nx w ca h₀ s.heap s μ s' μ (st.set r (.list (xs.set k.toNat v)))→Q () s'):AP (AU prog w) A (OF (.ref aa) y z) Q E s:=by
 refine A6 (S.list hx ha) λws n e0 rx=>?_
 (refine exE ri ?_;clear ri;intro t z8;subst z8)
 have hl:=B0 e0
 (have zz:=Ac.mp hk;have hk:=zz.1;have hk2:=zz.2;clear zz)
 refine A7 (Kr hk) λhk0 hk3 _=>?_
 unfold OF
 refine Bj ?_
 refine AG (N6 hl.typeIs (by decide) ?_)
 refine AG (G5 (name:=AK "__setitem__") hl.typeIs ZL
  (Dq ZL hl.typeIs entry_list_setitem ?_ (args_list_setitem _ _ _)))
 show AP _ _ (BW.List.listSubscript? (.int k t)>>= _) _ _ s
 refine AG (wpAny_listSubscript_int (fitsIndex_of hk0 hk3) ?_)
 (refine exE (Int.eq_ofNat_of_zero_le hk0) ?_;intro j z9;subst z9)
 have hj:j<ws.toArray.size:=show j<ws.length from rx.length▸BC hk2
 show AP _ _ ((seqItemAt aa j>>= λr=>pure (r.map (j,·)))>>= _) _ _ s
 refine AG (AG (wpAny_seqItemAt e0 rfl (AN ?_)))
 refine rwl (I0 hj) ?_
 show AP _ _ (setSeqItemAt aa j z>>= _) _ _ s
 refine AG (wpAny_setSeqItemAt e0 rfl ?_)
 have N:=Nx.list (us:=ws.set j z) (f:=(·.setIfInBounds j z)) S ha e0 (List.setIfInBounds_toArray ..) (rx.set j rv) s.toks
 exact AN ⟨.none,rfl,AN (h _ N)⟩
theorem dj{o i v:V}{x y z:AB}{Q:Ek→AF→Prop}(S:SR w ca h₀ s.heap st μ)(hu:A.units+20<Av)(e:JU o i v st=some st')(ra:VR s.heap μ o x)(ri:VR s.heap μ i y)(rv:VR s.heap μ v z)
  (h:∀s',Nx w ca h₀ s.heap s μ s' μ st'→Q () s'):AP (AU prog w) A (OF x y z) Q E s:=by
 refine FT e λr q e=>?_
 (refine AJ (q▸ra:VR s.heap μ (.ref r) x) ?_;intro aa z0;subst z0;intro ha)
 refine Hm e (λxs hx e=>E9 e λk q e=>gdE e λhk e=>j6 S ha hx hk (q▸ri) rv (AV e▸h)) λes n hx e=>gdE e λhk e=>?_
 have h:=λs' N=>h s' (AV e▸N)
 (have zz:=Ac.mp hk;have hk:=zz.1;have hf:=zz.2;clear zz)
 have hT:=S.dictType ha hx
 unfold OF
 refine Bj ?_
 refine AG (N6 hT (by decide) ?_)
 refine AG (G5 (name:=AK "__setitem__") hT ZM
  (Dq ZM hT entry_dict_setitem ?_ (args_dict_setitem _ _ _)))
 show AP _ _ (BW.Dict.notOrdered "__setitem__" ⟨[.ref aa,y,z],[]⟩>>= _) _ _ s
 refine AG (Ls hT ?_)
 show AP _ _ (Nw aa y z>>= _) _ _ s
 exact AG (Q3 S (by show A.units+1<Av;omega) ha hx hk ri rv hf λs' N=>AN ⟨.none,rfl,AN (h s' N)⟩)
end
end Mine
namespace Mine
open PySem PySem.Calls PyProof.Rows PySem.SeqAt PySem.MeetsSeq
noncomputable def HO(f:AE):AB:=
 if f="tuple"∨f="list"∨f="dict"∨f="set"∨f="int" then .type f else .builtin f
section
variable{w:Ae}{ca:AE→AD}{h₀ h h':AQ}{μ μ':List AD}{st st':St}{s:AF}{prog:Ar}{A:Aq}{E:AB→AF→Prop}
theorem Xq{n:AA}{m:AA}(h:fits n=true)(e:m=n):(m:Int)<2 ^ 63:=by
 exact e▸R4.mpr (Bi (BC h:n≤100000) (by decide))
theorem X5(xs:List V):∀{is:List Int},Mine.intsOf xs=some is→xs=is.map V.int∧∀i∈is,BJ i=true:=by
 induction xs with
 | nil=>intro is e;(replace e:=AV e;subst e);exact⟨rfl,λ_ h=>xM h⟩
 | cons x xs ih=>
  exact λe=>E9 e λi q e=>gdE e λhs e=>Hg e λjs e1 e2=>by
   (have zz:=ih e1;have q1:=zz.1;have q2:=zz.2;clear zz)
   refine rwr e2 (rwl q (rwl q1 ?_))
   exact⟨rfl,λj hj=>(Ak.mp hj).elim (λz=>z▸hs) (q2 j)⟩
theorem VRs.intAt{is:List Int}{vs:List AB}(x:VRs h μ (is.map V.int) vs){i:AA}{v:AB}(e:vs[i]? =some v):∃t,v= .int (is.getD i 0) t:=by
 refine AJ (x.at e) λa ha r=>?_
 replace ha:=DU▸ha
 (refine AJ (Dn.mp ha) ?_;intro k q z1;subst z1)
 (refine exE r ?_;clear r;intro t z2;subst z2)
 exact⟨t,by refine rwl (EO) (rwl q ?_);rfl⟩
theorem VF(is:List Int)(n:AA):n≤is.length→preSum (λj=>is.getD j 0) n=(is.take n).sum:=by
 induction n with
 | zero=>exact λ_=>rfl
 | succ n ih=>
  intro l
  (rewrite [preSum];refine rwl (ih (DT l)) (rwl (List.take_succ_eq_append_getElem l) (rwl ZN (rwl (EO) (rwl (Ba l) ?_)))))
  exact AW (_+ ·) (Int.add_zero _).symm
theorem bG{i s n:Int}(h1:-2147483648*n≤s∧s≤2147483648*n)(h2:-2147483648<i∧i<2147483648):-2147483648*(n+1)≤i+s∧i+s≤2147483648*(n+1):=by omega
theorem lX(is:List Int):(∀i∈is,BJ i=true)→-2147483648*(is.length:Int)≤is.sum∧is.sum≤2147483648*(is.length:Int):=by
 induction is with
 | nil=>exact λ_=>⟨I4 _,I4 _⟩
 | cons i is ih=>exact λh=>bG (ih λj hj=>h j (Am _ hj)) (LM (h i Ah))
theorem iY(is:List Int):∀(m:Int),m≤DY m is∧(∀i∈is,i≤DY m is)∧(DY m is=m∨DY m is∈is):=by
 induction is with
 | nil=>exact λm=>⟨I4 _,λ_ h=>(xM h),.inl rfl⟩
 | cons i is ih=>
  intro m
  show m≤DY (if m<i then i else m) is∧(∀j∈i::is,j≤DY (if m<i then i else m) is)∧(DY (if m<i then i else m) is=m∨DY (if m<i then i else m) is∈i::is)
  refine A7 (ih (if m<i then i else m)) λh1 h2 h3=>?_
  have hm:m≤(if m<i then i else m)∧i≤(if m<i then i else m)∧((if m<i then i else m)=m∨(if m<i then i else m)=i):=by
   by_cases q:m<i
   ·refine rwl (AM q) ?_;exact⟨SD q,I4 _,.inr rfl⟩
   ·refine rwl (AO q) ?_;exact⟨I4 _,OA.mp q,.inl rfl⟩
  refine⟨OG hm.1 h1,λj hj=>(Ak.mp hj).elim (λz=>OG (Int.le_of_eq z) (OG hm.2.1 h1)) (h2 j),?_⟩
  rcases h3 with h3 | h3
  ·exact hm.2.2.elim (λz=>.inl (h3.trans z)) λz=>.inr (Ak.mpr (.inl (h3.trans z)))
  ·exact .inr (Am _ h3)
theorem fg{i:Int}{is:List Int}{k:AA}(hk:k<(i::is).length)(hb:∀j,j<(i::is).length→(i::is).getD j 0≤(i::is).getD k 0):(i::is).getD k 0=DY i is:=by
 refine A7 (iY is i) λh1 h2 h3=>?_
 have mem:(i::is).getD k 0∈i::is:=by
  (rewrite [SQ];refine rwl (Ba hk) ?_);exact Ff hk
 apply Int.le_antisymm
 ·rcases Ak.mp mem with q | q
  ·refine rwl q ?_;exact h1
  ·exact h2 _ q
 ·have:DY i is∈i::is:=by
   rcases h3 with q | q
   ·refine rwl q ?_;exact Ah
   ·exact Am _ q
  obtain⟨j,hj,e⟩:=ZO this
  have:=hb j hj
  (rewrite [SQ] at this;replace this:=Ba hj▸this)
  simp only [AH.getD_some,e] at this
  exact this
theorem Nx.grow_but(S:SR w ca h₀ s.heap st μ){h':AQ}{tk:AA}{o:Obj}(k:∀b ob,b∉[s.heap.objs.size]→(s.heap.push o).get? b=some ob→h'.get? b=some ob):Nx w ca h₀ s.heap s μ {s with heap:=h',toks:=tk} μ st:=by
 refine Nx.grow S λb ob e=>k b ob ?_ (Az _ e)
 intro q
 simp only [Aw] at q
 subst q
 rw [C2] at e;cases e
theorem kz{r:AA}{xs:List V}{is:List Int}{x:AB}{Q:AB→AF→Prop}(hh:A.handled=none)(S:SR w ca h₀ s.heap st μ)(hx:st[r]? =some (.list xs))(ra:VR s.heap μ (.ref r) x)(e:Mine.intsOf xs=some is)(hl:is.length<1000)
  (h:BU w ca h₀ s μ st (.int is.sum) Q):AP (AU prog w) A (call (.builtin "sum") [x]) Q E s:=by
 (refine AJ ra ?_;clear ra;intro aa z3;subst z3;intro ha)
 refine A6 (S.list hx ha) λvs n e0 rx=>?_
 (refine Bs (X5 xs e) ?_;intro z4;subst z4;intro hs)
 have hlen:=rx.length
 have hlen':vs.length=is.length:=by simpa using hlen
 have hL:=B0 e0
 refine call_sum_walk (J9 hL ?_)
 have hne:aa≠s.heap.objs.size:=BP (BQ e0)
 refine⟨s.heap.objs.size,_,_,_,_,_,λj=>is.getD j 0,rfl,Walks.list (by exact hh) s.heap.objs.size aa hne vs.toArray,⟨⟨_,Bb _ rfl,rfl,rfl⟩,hL.push _⟩,?_,?_,?_,?_⟩
 ·intro b hb
  simp only [Ak,Dm,or_false] at hb
  refine rwl (Dr ..) ?_
  rcases hb with hb | hb
  ·refine rwl hb ?_;exact DZ _
  ·refine rwl hb ?_;exact Cv (BQ e0)
 ·intro i v hv
  exact rx.intAt (by simpa using hv)
 ·intro j hj
  have hj':j<is.length:=by simpa [hlen'] using hj
  have h1:BJ (is.getD j 0)=true:=by
   (rewrite [SQ];refine rwl (Ba hj') ?_);exact hs _ (Ff hj')
  have h2:=LM h1
  have h3:=lX (is.take (j+1)) λi hi=>hs i (SS hi)
  have h4:(is.take (j+1)).length≤1000:=AR (AR (Bk FC) (SU _ _)) (B7 hl)
  refine⟨show-(2 ^ 63)≤is.getD j 0∧is.getD j 0<2 ^ 63 from⟨by omega,by omega⟩,?_⟩
  refine rwl (VF is (j+1) (by omega)) ?_
  exact⟨by omega,by omega⟩
 ·intro h' tk t' k
  have e4:preSum (λj=>is.getD j 0) vs.toArray.size=is.sum:=by
   refine rwl (VF is _ (by simp [hlen'])) ?_
   (refine rwl (ZP (by simp [hlen'])) ?_;rfl)
  refine rwl e4 ?_
  exact h _ _ _ (Nx.grow_but S k) (VR.int_ _ _)
theorem iy{r:AA}{xs:List V}{i:Int}{is:List Int}{x:AB}{Q:AB→AF→Prop}(hh:A.handled=none)(S:SR w ca h₀ s.heap st μ)(hx:st[r]? =some (.list xs))(ra:VR s.heap μ (.ref r) x)(e:Mine.intsOf xs=some (i::is))
  (h:BU w ca h₀ s μ st (.int (DY i is)) Q):AP (AU prog w) A (call (.builtin "max") [x]) Q E s:=by
 (refine AJ ra ?_;clear ra;intro aa z5;subst z5;intro ha)
 refine A6 (S.list hx ha) λvs n e0 rx=>?_
 (refine Bs (X5 xs e) ?_;intro z6;subst z6;intro hs)
 have hlen:=rx.length
 have hlen':vs.length=(i::is).length:=by simpa using hlen
 have hL:=B0 e0
 refine call_max_walk (J9 hL ?_)
 have hne:aa≠s.heap.objs.size:=BP (BQ e0)
 have hv:∀(j:AA) (v:AB),vs.toArray[j]? =some v→∃t,v=AB.int ((i::is).getD j 0) t:=λj v hv=>rx.intAt (by simpa using hv)
 refine⟨s.heap.objs.size,_,_,_,_,_,λa b=>decide ((i::is).getD a 0>(i::is).getD b 0),rfl,Walks.list (by exact hh) s.heap.objs.size aa hne vs.toArray,⟨⟨_,Bb _ rfl,rfl,rfl⟩,hL.push _⟩,?_,by simp [hlen'],CmpOf.ints_gt _ hv,?_⟩
 ·intro b hb
  simp only [Ak,Dm,or_false] at hb
  refine rwl (Dr ..) ?_
  rcases hb with hb | hb
  ·refine rwl hb ?_;exact DZ _
  ·refine rwl hb ?_;exact Cv (BQ e0)
 ·intro v h' tk hP k
  (refine exE (hv _ _ hP) ?_;intro t z7;subst z7)
  (have zz:=(argBest_gt (λj=>(i::is).getD j 0) (vs.toArray.size-1));have b1:=zz.1;have b2:=zz.2;clear zz)
  have hlt:argBest (λa b=>decide ((i::is).getD a 0>(i::is).getD b 0)) (vs.toArray.size-1)<(i::is).length:=by
   refine Bi b1 ?_
   show vs.length-1<(i::is).length
   refine rwl hlen' ?_;exact DZ is.length
  refine rwl (fg hlt λj hj=>b2 j (AR (Bf hj) (Bk (AW (· -1) hlen'.symm)))) ?_
  exact h _ _ _ (Nx.grow_but S k) (VR.int_ _ _)
end
end Mine
namespace Mine
open PySem PyProof.Rows PySem.W
structure Ord(lt:AA→AA→AL):Prop where
 irr:∀a,lt a a=false
 tr:∀a b c,lt b a=false→lt c b=false→lt c a=false
 asym:∀a b,lt a b=true→lt b a=false
noncomputable abbrev at'(p:AS AA)(i:AA):AA:=p.getD i 0
theorem LW{p q:AS AA}{i j:AA}(h:p[i]? =q[j]?):at' p i=at' q j:=by
 show p.getD i 0=q.getD j 0
 simp only [KA,h]
theorem WT{p:AS AA}{i j:AA}(hj:j≤p.size)(k:AA):at' (kas_rev p i j) k=if i≤k∧k<j then at' p (i+j-1-k) else at' p k:=by
 have:=getElem?_mirror_all (xs:=p) (i:=i) hj k
 split at this
 ·rename_i h;refine rwl (AM h) ?_;exact LW this
 ·rename_i h;refine rwl (AO h) ?_;exact LW this
theorem iU{p:AS AA}{s d:AA}(hs:s<p.size)(hd:d≤s)(k:AA):at' (bubble p s d) k=if k=s-d then at' p s else if s-d<k∧k≤s then at' p (k-1) else at' p k:=by
 have:=getElem?_bubble (xs:=p) hs d hd k
 split at this
 ·rename_i h;refine rwl (AM h) ?_;exact LW this
 ·rename_i h
  refine rwl (AO h) ?_
  split at this
  ·rename_i h2;refine rwl (AM h2) ?_;exact LW this
  ·rename_i h2;refine rwl (AO h2) ?_;exact LW this
noncomputable def Pm(n:AA)(p:AS AA):Prop:=p.toList.Perm (Ab n)
theorem Pm.size{n:AA}{p:AS AA}(h:Pm n p):p.size=n:=by
 have:=h.length_eq
 simpa using this
theorem Pm.lt{n:AA}{p:AS AA}(h:Pm n p){i:AA}(hi:i<n):at' p i<n:=by
 have hs:i<p.size:=by refine rwl h.size ?_;exact hi
 have:at' p i∈p.toList:=by
  show p.getD i 0∈_
  simp [GN,hs]
 exact Ca.mp (h.mem_iff.mp this)
theorem Pm.rev{n:AA}{p:AS AA}(h:Pm n p)(i j:AA):Pm n (kas_rev p i j):=(ZQ.mp (mirror_perm p i j _)).trans h
theorem Pm.bub{n:AA}{p:AS AA}(h:Pm n p)(i j:AA):Pm n (bubble p i j):=(ZQ.mp (bubble_perm p i j)).trans h
section
variable{lt:AA→AA→AL}
noncomputable def Up(lt:AA→AA→AL)(p:AS AA)(k:AA):Prop:=∀i j,i≤j→j<k→lt (at' p j) (at' p i)=false
noncomputable def Down(lt:AA→AA→AL)(p:AS AA)(k:AA):Prop:=∀i j,i≤j→j<k→lt (at' p i) (at' p j)=false
variable{n:AA}{s:AF}{cmp:AA→AA→(AL→AF→Prop)→AF→Prop}(hc:∀i j C,i<n→j<n→C (lt i j) s→cmp i j C s)(O:Ord lt)
noncomputable def Alike(lt:AA→AA→AL)(p:AS AA)(a m:AA):Prop:=∀i j,a≤i→i<m→a≤j→j<m→lt (at' p i) (at' p j)=false
theorem Kl{i m:AA}(h:i<m+1){g:Prop}(k1:i<m→g)(k2:i=m→g):g:=(Iz (Bf h)).elim k1 k2
section
include O
omit hc
theorem Up.step{p:AS AA}{m:AA}(hu:Up lt p m)(h1:1≤m)(hq:lt (at' p m) (at' p (m-1))=false):Up lt p (m+1):=λi j hij hj=>Kl hj (hu i j hij) λe=>by
 subst e
 exact(Iz hij).elim (λhi=>O.tr _ _ _ (hu i (j-1) (Lu hi) (Hv h1 I5)) hq) λe=>e▸O.irr _
theorem Down.step{p:AS AA}{m:AA}(hd:Down lt p m)(h1:1≤m)(hq:lt (at' p (m-1)) (at' p m)=false):Down lt p (m+1):=λi j hij hj=>Kl hj (hd i j hij) λe=>by
 subst e
 exact(Iz hij).elim (λhi=>O.tr _ _ _ hq (hd i (j-1) (Lu hi) (Hv h1 I5))) λe=>e▸O.irr _
theorem Alike.one{p:AS AA}{m:AA}:Alike lt p m (m+1):=λi j h1 h2 h3 h4=>by
 refine rwl (Iu (Bf h2) h1) (rwl (Iu (Bf h4) h3) ?_)
 exact O.irr _
theorem Alike.step{p:AS AA}{a m:AA}(he:Alike lt p a m)(ha:a<m)(hl:lt (at' p m) (at' p (m-1))=false)(hl2:lt (at' p (m-1)) (at' p m)=false):Alike lt p a (m+1):=λi j h1 h2 h3 h4=>have a1:a≤m-1:=Lu ha
 have a2:m-1<m:=Hv (Bi (BL _) ha) I5
 Kl h2 (λhi=>Kl h4 (he i j h1 hi h3) λe=>e▸O.tr _ _ _ hl2 (he _ _ h1 hi a1 a2)) λe=>e▸Kl h4 (λhj=>O.tr _ _ _ (he _ _ a1 a2 h3 hj) hl) λe=>e▸O.irr _
end
theorem FQ{a m k:AA}(h1:a≤k)(h2:k<m):a≤a+m-1-k∧a+m-1-k<m:=by omega
theorem Gn{p:AS AA}{a m k:AA}(hm:m≤p.size)(h1:a≤k)(h2:k<m):at' (kas_rev p a m) k=at' p (a+m-1-k):=(WT hm k).trans (AM ⟨h1,h2⟩)
theorem Pd{p:AS AA}{a m k:AA}(hm:m≤p.size)(h:¬(a≤k∧k<m)):at' (kas_rev p a m) k=at' p k:=(WT hm k).trans (AO h)
theorem XR{p:AS AA}{a m:AA}(hm:m≤p.size):at' (kas_rev p a m) m=at' p m:=Pd hm λh=>CY _ h.2
theorem Down.rev{p:AS AA}{m:AA}(hm:m≤p.size)(hd:Down lt p m):Up lt (kas_rev p 0 m) m:=λi j hij hj=>by
 have hi:=Bi hij hj
 refine rwl (Gn hm (BL _) hi) (rwl (Gn hm (BL _) hj) ?_)
 exact hd _ _ (SV hij _) (FQ (BL _) hi).2
theorem Up.rev{p:AS AA}{m:AA}(hm:m≤p.size)(hu:Up lt p m):Down lt (kas_rev p 0 m) m:=λi j hij hj=>by
 have hi:=Bi hij hj
 refine rwl (Gn hm (BL _) hi) (rwl (Gn hm (BL _) hj) ?_)
 exact hu _ _ (SV hij _) (FQ (BL _) hi).2
theorem W0{p:AS AA}{m a:AA}(hm:m≤p.size)(hd:Down lt p m)(he:Alike lt p a m):Down lt (kas_rev p a m) m:=λi j hij hj=>by
 have hi:=Bi hij hj
 by_cases hai:a≤i
 ·refine rwl (Gn hm hai hi) (rwl (Gn hm (AR hai hij) hj) ?_)
  exact he _ _ (FQ hai hi).1 (FQ hai hi).2 (FQ (AR hai hij) hj).1 (FQ (AR hai hij) hj).2
 ·refine rwl (Pd (k:=i) hm λh=>hai h.1) ?_
  by_cases haj:a≤j
  ·refine rwl (Gn hm haj hj) ?_
   exact hd _ _ (AR (AA.le_of_not_le hai) (FQ haj hj).1) (FQ haj hj).2
  ·refine rwl (Pd hm λh=>haj h.1) ?_
   exact hd _ _ hij hj
theorem Xr{p:AS AA}{k l:AA}(hk:k<p.size)(hl:l≤k)(x:AA):at' (bubble p k (k-l)) x=if x=l then at' p k else if l<x∧x≤k then at' p (x-1) else at' p x:=by
 have:=iU hk (OH k l) x
 rwa [AA.sub_sub_self hl] at this
theorem bV{l r:AA}(h:¬l≥r):(l+r)/2<r:=by omega
theorem gL{l r:AA}(h:¬l≥r):l≤(l+r)/2:=by omega
include hc O
theorem WC{p:AS AA}(hp:Pm n p)(f:AA):∀(m:AA) {Q:AA→AF→Prop},1≤m→m+f=n→Up lt p m→(∀m',1≤m'→m'≤n→Up lt p m'→(m'<n→lt (at' p m') (at' p (m'-1))=true)→Q m' s)→(kas_asc p f m).kasWp cmp Q s:=by
 induction f with
 | zero=>exact λm Q h1 hm hu h=>h m h1 (Bk hm) hu λz=>absurd z (Fh (Bk hm.symm))
 | succ f ih=>
  intro m Q h1 hm hu h
  have hmn:m<n:=hm▸OI (DV f)
  refine hc _ _ _ (hp.lt hmn) (hp.lt (Bi (OH m 1) hmn)) ?_
  cases hq:lt (at' p m) (at' p (m-1)) with
  | true=>exact h m h1 (B7 hmn) hu λ_=>hq
  | false=>exact ih (m+1) (DV m) ((I6 m f).trans hm) (hu.step O h1 hq) h
theorem ir{p:AS AA}(hp:Pm n p){k:AA}(hk:k<n)(hu:Up lt p k)(f:AA):∀(l r:AA) {Q:AA→AF→Prop},r≤l+f→l≤r→r≤k→(∀i,i<l→lt (at' p k) (at' p i)=false)→(∀i,r≤i→i<k→lt (at' p k) (at' p i)=true)→
  (∀l',l'≤k→(∀i,i<l'→lt (at' p k) (at' p i)=false)→(∀i,l'≤i→i<k→lt (at' p k) (at' p i)=true)→Q l' s)→(kas_place p k f l r).kasWp cmp Q s:=by
 induction f with
 | zero=>exact λl r Q hf hl hr h1 h2 h=>h l (AR hl hr) h1 λi hi=>h2 i (AR hf hi)
 | succ f ih=>
  intro l r Q hf hl hr h1 h2 h
  unfold kas_place
  by_cases hlr:l≥r
  ·refine rwl (AM hlr) ?_
   exact h l (AR hl hr) h1 λi hi=>h2 i (AR hlr hi)
  ·refine rwl (AO hlr) ?_
   have m1:=bV hlr
   have m2:=gL hlr
   revert m1 m2
   refine gen ((l+r)/2) λm m1 m2=>?_
   have mk:=Bg m1 hr
   refine hc _ _ _ (hp.lt hk) (hp.lt (Eo mk hk)) ?_
   cases hq:lt (at' p k) (at' p m) with
   | true=>
    refine ih l m (Bf (Bg m1 hf)) m2 (B7 mk) h1 (λi hi hik=>?_) h
    cases hz:lt (at' p k) (at' p i) with
    | true=>rfl
    | false=>exact absurd (hq.symm.trans (O.tr _ _ _ (hu _ i hi hik) hz)) (by decide)
   | false=>exact ih (m+1) r (AR hf (I6 m f▸FD m2 _)) m1 hr (λi hi=>O.tr _ _ _ (hu i m (Bf hi) mk) hq) h2 h
omit hc in
theorem dK{p:AS AA}{k l:AA}(hs:k<p.size)(hu:Up lt p k)(hl:l≤k)(h1:∀i,i<l→lt (at' p k) (at' p i)=false)(h2:∀i,l≤i→i<k→lt (at' p k) (at' p i)=true):Up lt (bubble p k (k-l)) (k+1):=λi j hij hj=>by
 have hjk:=Bf hj
 rw [Xr hs hl,Xr hs hl]
 by_cases hjl:j=l
 ·refine rwl (AM hjl) ?_
  by_cases hil:i=l
  ·refine rwl (AM hil) ?_;exact O.irr _
  ·have hi:=G9 (hjl▸hij) hil
   refine rwl (AO hil) (rwl (AO λh=>AA.lt_asymm hi h.1) ?_)
   exact h1 i hi
 ·refine rwl (AO hjl) ?_
  by_cases hlj:l<j
  ·have hj1:j-1<k:=Bg (Hv (Bi (BL _) hlj) I5) hjk
   refine rwl (AM ⟨hlj,hjk⟩) ?_
   by_cases hil:i=l
   ·refine rwl (AM hil) ?_
    exact O.asym _ _ (h2 (j-1) (Lu hlj) hj1)
   ·refine rwl (AO hil) ?_
    by_cases hi2:l<i∧i≤k
    ·refine rwl (AM hi2) ?_;exact hu _ _ (AA.sub_le_sub_right hij 1) hj1
    ·have hi:=G9 (Ds λh=>hi2 ⟨h,AR hij hjk⟩) hil
     refine rwl (AO hi2) ?_;exact hu _ _ (Lu (Eo hi hlj)) hj1
  ·have hj2:=G9 (Ds hlj) hjl
   have hi:=Bi hij hj2
   refine rwl (AO λh=>hlj h.1) (rwl (AO (BP hi)) (rwl (AO λh=>AA.lt_asymm hi h.1) ?_))
   exact hu _ _ hij (Bg hj2 hl)
theorem bin_(f:AA):∀(k:AA) {p:AS AA} {Q:AS AA→AF→Prop},Pm n p→k+f=n→Up lt p k→(∀p',Pm n p'→Up lt p' n→Q p' s)→(kas_bin f p k).kasWp cmp Q s:=by
 induction f with
 | zero=>exact λk p Q hp hk hu h=>h p hp (hk▸hu)
 | succ f ih=>
  intro k p Q hp hk hu h
  have hkn:k<n:=hk▸OI (DV f)
  unfold kas_bin
  refine rwl (KasT.kasWp_bind ..) ?_
  exact ir hc O hp hkn hu k 0 k (Bk (CI k).symm) (BL _) (Aj _) (λi hi=>absurd hi (CR _)) (λi hi hik=>absurd hik (Fh hi)) λl hl h1 h2=>ih (k+1) (hp.bub _ _) ((I6 k f).trans hk) (dK O (hp.size.symm▸hkn) hu hl h1 h2) h
theorem iq(f:AA):∀{p:AS AA} (m q:AA) {Q:AS AA×AA×AA→AF→Prop},Pm n p→m+f=n→q<m→Down lt p m→Alike lt p (m-(q+1)) m→
  (∀p' m' q',Pm n p'→m≤m'→m'≤n→q'<m'→Down lt p' m'→Alike lt p' (m'-(q'+1)) m'→Q (p',m',q') s)→(kas_desc f p m q).kasWp cmp Q s:=by
 induction f with
 | zero=>exact λm q Q hp hm hq hd he h=>h _ m q hp (Aj _) (Bk hm) hq hd he
 | succ f ih=>
  intro p m q Q hp hm hq hd he h
  have hmn:m<n:=hm▸OI (DV f)
  have hms:m≤p.size:=hp.size.symm▸B7 hmn
  have h1:1≤m:=Bi (BL _) hq
  have h2:m-1<m:=Hv h1 I5
  have hmf:=(I6 m f).trans hm
  refine hc _ _ _ (hp.lt hmn) (hp.lt (Eo h2 hmn)) ?_
  have up:∀p' m' q',Pm n p'→m+1≤m'→m'≤n→q'<m'→Down lt p' m'→Alike lt p' (m'-(q'+1)) m'→Q (p',m',q') s:=λp2 m2 q2 a1 a2=>h p2 m2 q2 a1 (DT a2)
  cases hl:lt (at' p m) (at' p (m-1)) with
  | true=>
   have hb:=O.asym _ _ hl
   have step:∀{p':AS AA},Pm n p'→Down lt p' m→lt (at' p' (m-1)) (at' p' m)=false→(kas_desc f p' (m+1) 0).kasWp cmp Q s:=λ{p'} hp' hd' eb=>ih (m+1) 0 hp' hmf (DV m) (hd'.step O h1 eb) (Alike.one O) up
   refine(show(if q>0 then kas_desc f (kas_rev p (m-(q+1)) m) (m+1) 0 else kas_desc f p (m+1) 0).kasWp cmp Q s from ?_)
   by_cases hq0:q>0
   ·refine rwl (AM hq0) ?_
    have ha:m-(q+1)≤m-1:=SV (CJ (BL q)) m
    refine step (hp.rev _ _) (W0 hms hd he) ?_
    refine rwl (XR hms) (rwl (Gn hms ha h2) ?_)
    exact O.tr _ _ _ hb (he _ _ (FQ ha h2).1 (FQ ha h2).2 ha h2)
   ·refine rwl (AO hq0) ?_
    exact step hp hd hb
  | false=>
   refine hc _ _ _ (hp.lt (Eo h2 hmn)) (hp.lt hmn) ?_
   cases hl2:lt (at' p (m-1)) (at' p m) with
   | true=>exact h p m q hp (Aj _) (B7 hmn) hq hd he
   | false=>
    refine ih (m+1) (q+1) hp hmf (OJ hq) (hd.step O h1 hl2) ?_ up
    refine rwl (AA.add_sub_add_right ..) ?_
    exact he.step O (Hv h1 (DV q)) hl hl2
theorem YU{p:AS AA}{m:AA}{Q:AA×AS AA→AF→Prop}(hp:Pm n p)(h1:1≤m)(hm:m≤n)(hd:Down lt p m)(h:∀m' p',Pm n p'→1≤m'→m'≤n→Up lt p' m'→Q (m',p') s):(kas_tail3 m n p).kasWp cmp Q s:=by
 unfold kas_tail3
 refine rwl (KasT.kasWp_bind ..) ?_
 exact WC hc O (hp.rev 0 m) (n-m) m h1 (Fb hm) (hd.rev (hp.size.symm▸hm)) λm' a1 a2 a3 _=>h m' _ (hp.rev 0 m) a1 a2 a3
theorem WR{p:AS AA}{m:AA}{Q:AA×AS AA→AF→Prop}(hp:Pm n p)(hm:m+1≤n)(hd:Down lt p (m+1))(h:∀m' p',Pm n p'→1≤m'→m'≤n→Up lt p' m'→Q (m',p') s):(kas_descPart m n p).kasWp cmp Q s:=by
 unfold kas_descPart
 refine rwl (KasT.kasWp_bind ..) ?_
 refine iq hc O (n-(m+1)) (m+1) 0 hp (Fb hm) (DV m) hd (Alike.one O) λp2 m2 q2 a1 a2 a3 a4 a5 a6=>?_
 have b1:1≤m2:=AR (DV m) a2
 refine(show(if q2>0 then kas_tail3 m2 n (kas_rev p2 (m2-(q2+1)) m2) else kas_tail3 m2 n p2).kasWp cmp Q s from ?_)
 by_cases hq0:q2>0
 ·refine rwl (AM hq0) ?_
  exact YU hc O (a1.rev _ _) b1 a3 (W0 (a1.size.symm▸a3) a5 a6) h
 ·refine rwl (AO hq0) ?_
  exact YU hc O a1 b1 a3 a5 h
theorem bS{Q:AS AA→AF→Prop}(h1:1≤n)(h:∀p,Pm n p→Up lt p n→Q p s):(kas_sort n).kasWp cmp Q s:=by
 unfold kas_sort
 refine rwl (KasT.kasWp_bind ..) ?_
 have hp0:Pm n (J5 (Ab n)):=Fj _
 have fin:∀m' p',Pm n p'→1≤m'→m'≤n→Up lt p' m'→KasT.kasWp cmp (if(m',p').1<n then kas_bin (n-max (m',p').1 1) (m',p').2 (max (m',p').1 1) else .ret (m',p').2) Q s:=λm' p' a1 a2 a3 a4=>by
  dsimp only
  refine rwl (OK a2) ?_
  by_cases hn:m'<n
  ·refine rwl (AM hn) ?_
   exact bin_ hc O _ _ a1 (Fb a3) a4 h
  ·refine rwl (AO hn) ?_
   exact h p' a1 (Iu a3 (Ds hn)▸a4)
 unfold kas_count
 refine rwl (KasT.kasWp_bind ..) ?_
 have u1:Up lt (J5 (Ab n)) 1:=λi j hij hj=>by
  (have zz:=AA.lt_one_iff.mp hj;subst zz)
  (have zz:=SW.mp hij;subst zz)
  exact O.irr _
 revert hp0 u1
 refine gen (J5 (Ab n)) λp0 hp0 u1=>?_
 refine WC hc O hp0 (n-1) 1 (Aj _) (Fb h1) u1 λm a1 a2 a3 a4=>?_
 by_cases hmn:(m==n)=true
 ·refine rwl (AM hmn) ?_
  exact fin m _ hp0 a1 a2 a3
 ·refine rwl (AO hmn) ?_
  have hlt:m<n:=G9 a2 λe=>hmn (CZ.mpr e)
  have hms:m≤p0.size:=hp0.size.symm▸a2
  have h2:m-1<m:=Hv a1 I5
  have hb:=O.asym _ _ (a4 hlt)
  by_cases hm1:m>1
  ·refine rwl (AM hm1) ?_
   refine hc _ _ _ (hp0.lt h1) (hp0.lt (Eo h2 hlt)) ?_
   cases hl:lt (at' p0 0) (at' p0 (m-1)) with
   | true=>exact fin m _ hp0 a1 a2 a3
   | false=>
    refine WR hc O (hp0.rev 0 m) hlt (Down.step O (a3.rev hms) a1 ?_) fin
    refine rwl (XR hms) (rwl (Gn hms (BL _) h2) ?_)
    have r:=(FQ (BL (m-1)) h2).2
    exact O.tr _ _ _ hb (O.tr _ _ _ hl (a3 0 _ (BL _) r))
  ·refine rwl (AO hm1) ?_
   have e0:m=1:=Iu (Ds hm1) a1
   subst e0
   exact WR hc O hp0 hlt (Down.step O (λi j hij hj=>by
    (have zz:=AA.lt_one_iff.mp hj;subst zz)
    (have zz:=SW.mp hij;subst zz)
    exact O.irr _) a1 hb) fin
end
end Mine
namespace Mine
open PySem PySem.Calls PyProof.Rows PySem.SeqAt PySem.MeetsSeq
theorem gV(a b:List AA):a<b∨a=b∨b<a:=by
 by_cases h:a<b
 ·exact .inl h
 ·by_cases h2:b<a
  ·exact .inr (.inr h2)
  ·exact .inr (.inl (List.le_antisymm (List.not_lt.mp h2) (List.not_lt.mp h)))
theorem toNat_inj{x y:AE}(h:x.toList.map GC=y.toList.map GC):x=y:=by
 have h2:x.toList=y.toList:=(Ye (λa b e=>Ir.ext (Yg.mp e))).mp h
 exact Yh.mp h2
theorem La{v:V}(h:v.isAnyS=true):∃x,v= .str x:=by
 cases v with
 | str x=>exact⟨x,rfl⟩
 | _=>exact xF h
theorem Km{P:V→V→Prop}{a b:V}(h:DA a b=true)(hi:∀i j,P (.int i) (.int j))(hs:∀x y,P (.str x) (.str y)):P a b:=by
 rcases DH.mp h with h | h
 ·(have zz:=Ac.mp h;have h1:=zz.1;have h2:=zz.2;clear zz)
  refine rwl (F9 h1) (rwl (F9 h2) ?_);exact hi _ _
 ·(have zz:=Ac.mp h;have h1:=zz.1;have h2:=zz.2;clear zz)
  (refine exE (La h1) ?_;intro x z8;subst z8)
  (refine exE (La h2) ?_;intro y z9;subst z9)
  exact hs x y
theorem X0(i j:Int):ltV (.int i) (.int j)=true∨V.int i= .int j∨ltV (.int j) (.int i)=true:=
 (Int.lt_trichotomy i j).imp An (.imp (AW V.int) An)
theorem XQ{i j:Int}(h:ltV (.int i) (.int j)=true):ltV (.int j) (.int i)=false:=B5 (Int.lt_asymm (BC h))
theorem gN{a b:V}(h:DA a b=true):ltV a b=true∨a=b∨ltV b a=true:=
 Km (P:=λa b=>ltV a b=true∨a=b∨ltV b a=true) h X0 λx y=>(gV (x.toList.map GC) (y.toList.map GC)).imp An (.imp (λh=>AW V.str (toNat_inj h)) An)
theorem UO{a b:V}(h:DA a b=true):ltV a b=true→ltV b a=false:=
 Km (P:=λa b=>ltV a b=true→ltV b a=false) h (λ_ _=>XQ) λ_ _ h1=>B5 λh2=>List.lt_irrefl _ (List.lt_trans (BC h1) h2)
theorem bD{a b c:V}(h:DA a b=true)(h':DA b c=true):ltV a b=true→ltV b c=true→ltV a c=true:=by
 have key:∀{b c:V},DA b c=true→∀a,DA a b=true→ltV a b=true→ltV b c=true→ltV a c=true:=λh'=>Km (P:=λb c=>∀a,DA a b=true→ltV a b=true→ltV b c=true→ltV a c=true) h' (λj k a h h1 h2=>by
  have hb:a.isInt=true:=by
   rcases DH.mp h with h | h
   ·exact(Ac.mp h).1
   ·exact xF ((Ac.mp h).2)
  rw [F9 hb] at h1 ⊢
  exact An (Int.lt_trans (BC h1) (BC h2))) λy z a h h1 h2=>by
  have hb:a.isAnyS=true:=by
   rcases DH.mp h with h | h
   ·exact xF ((Ac.mp h).2)
   ·exact(Ac.mp h).1
  (refine exE (La hb) ?_;intro x z0;subst z0)
  exact An (List.lt_trans (BC h1) (BC h2))
 exact key h' a h
theorem Gh{a:V}{as bs:List V}:ltL (a::as) (a::bs)=ltL as bs:=AM (V.beq_self a)
theorem FK{a b:V}{as bs:List V}(h:a≠b):ltL (a::as) (b::bs)=ltV a b:=AO λq=>h (V.beq_eq a q)
theorem j3(as:List V):ltL as as=false:=by
 induction as with
 | nil=>rfl
 | cons a as ih=>(refine rwl Gh (rwl ih ?_);rfl)
theorem iu(as:List V):∀{bs:List V},DN as bs=true→ltL as bs=true∨as=bs∨ltL bs as=true:=by
 induction as with
 | nil=>
  intro bs _
  cases bs with
  | nil=>exact .inr (.inl rfl)
  | cons b bs=>exact .inl rfl
 | cons a as ih=>
  intro bs h
  cases bs with
  | nil=>exact .inr (.inr rfl)
  | cons b bs=>
   (have zz:=Ac.mp h;have h1:=zz.1;have h2:=zz.2;clear zz)
   by_cases e:a=b
   ·refine rwl e (rwl Gh (rwl Gh ?_))
    exact(ih h2).imp id (.imp (AW (b:: ·)) id)
   ·refine rwl (FK e) (rwl (FK (Bq e)) ?_)
    exact(gN h1).imp id λh=>.inr (h.resolve_left e)
theorem kP(as:List V):∀{bs:List V},DN as bs=true→ltL as bs=true→ltL bs as=false:=by
 induction as with
 | nil=>
  intro bs _ h
  cases bs with
  | nil=>exact xF h
  | cons b bs=>rfl
 | cons a as ih=>
  intro bs h h1
  cases bs with
  | nil=>exact xF h1
  | cons b bs=>
   (have zz:=Ac.mp h;have g1:=zz.1;have g2:=zz.2;clear zz)
   by_cases e:a=b
   ·replace h1:=Gh▸e▸h1
    refine rwl e (rwl Gh ?_);exact ih g2 h1
   ·replace h1:=FK e▸h1
    refine rwl (FK (Bq e)) ?_
    exact UO g1 h1
theorem eT(as:List V):∀{bs cs:List V},DN as bs=true→DN bs cs=true→ltL as bs=true→ltL bs cs=true→ltL as cs=true:=by
 induction as with
 | nil=>
  intro bs cs _ _ h h'
  cases bs with
  | nil=>exact xF h
  | cons b bs=>cases cs with
   | nil=>exact xF h'
   | cons c cs=>rfl
 | cons a as ih=>
  intro bs cs h h' h1 h2
  cases bs with
  | nil=>exact xF h1
  | cons b bs=>cases cs with
   | nil=>exact xF h2
   | cons c cs=>
    (have zz:=Ac.mp h;have g1:=zz.1;have g2:=zz.2;clear zz)
    (have zz:=Ac.mp h';have k1:=zz.1;have k2:=zz.2;clear zz)
    by_cases e:a=b
    ·replace h1:=Gh▸e▸h1
     by_cases e2:b=c
     ·replace h2:=Gh▸e2▸h2
      refine rwl e (rwl e2 (rwl Gh ?_));exact ih g2 k2 h1 h2
     ·replace h2:=FK e2▸h2
      refine rwl e (rwl (FK e2) ?_);exact h2
    ·replace h1:=FK e▸h1
     by_cases e2:b=c
     ·refine rwr e2 (rwl (FK e) ?_);exact h1
     ·replace h2:=FK e2▸h2
      refine rwl (FK λe3:a=c=>DD ((UO g1 h1).symm.trans (e3▸h2))) ?_
      exact bD g1 k1 h1 h2
theorem RN{P:V→V→Prop}{a b:V}(h:Gp a b=true)(hi:∀i j,P (.int i) (.int j))(ht:∀l m,DN l m=true→P (.tup l) (.tup m)):P a b:=by
 rcases DH.mp h with h | h
 ·(have zz:=Ac.mp h;have h1:=zz.1;have h2:=zz.2;clear zz)
  refine rwl (F9 h1) (rwl (F9 h2) ?_);exact hi _ _
 ·cases a with
  | tup l=>cases l with
   | nil=>exact xF h
   | cons x l=>cases b with
    | tup m=>cases m with
     | nil=>exact xF h
     | cons y m=>exact ht _ _ h
    | _=>exact xF h
  | _=>exact xF h
theorem Iq{a b:V}(h:Gp a b=true):(∃i j,a= .int i∧b= .int j)∨∃l m,a= .tup l∧b= .tup m∧DN l m=true:=
 RN (P:=λa b=>(∃i j,a= .int i∧b= .int j)∨∃l m,a= .tup l∧b= .tup m∧DN l m=true) h (λi j=>.inl ⟨i,j,rfl,rfl⟩) λl m q=>.inr ⟨l,m,rfl,rfl,q⟩
theorem bT{a:V}(h:Gp a a=true):ltV a a=false:=by
 rcases Iq h with ⟨i,j,rfl,e⟩ | ⟨l,m,rfl,e,h2⟩
 ·exact B5 (Int.lt_irrefl i)
 ·exact j3 l
theorem RM{a b:V}(h:Gp a b=true):ltV a b=true∨a=b∨ltV b a=true:=
 RN (P:=λa b=>ltV a b=true∨a=b∨ltV b a=true) h X0 λl m q=>(iu l q).imp id (.imp (AW V.tup) id)
theorem MU{a b:V}(h:Gp a b=true):ltV a b=true→ltV b a=false:=
 RN (P:=λa b=>ltV a b=true→ltV b a=false) h (λ_ _=>XQ) λl m q=>kP l q
theorem gD{a b c:V}(h:Gp a b=true)(h':Gp b c=true)(h1:ltV a b=true)(h2:ltV b c=true):ltV a c=true:=by
 rcases Iq h with ⟨i,j,rfl,rfl⟩ | ⟨l,m,rfl,rfl,h3⟩
 ·rcases Iq h' with ⟨i,j,e,rfl⟩ | ⟨l,m,e,_⟩
  ·cases e
   exact An (Int.lt_trans (BC h1) (BC h2))
  ·exact nomatch e
 ·rcases Iq h' with ⟨i,j,e,rfl⟩ | ⟨l2,m2,e,rfl,h4⟩
  ·exact nomatch e
  ·cases e
   exact eT l h3 h4 h1 h2
noncomputable def Cmb(xs:List V):Prop:=∀a∈xs,∀b∈xs,Gp a b=true
theorem bad{b:AL}{G:Prop}(h:b=false)(q:b=true):G:=absurd (h.symm.trans q) DD
theorem Wg{xs:List V}(C:Cmb xs){a b c:V}(ha:a∈xs)(hb:b∈xs)(hc:c∈xs)(h1:ltV b a=false)(h2:ltV c b=false):ltV c a=false:=by
 rcases RM (C a ha b hb) with q | q | q
 ·rcases RM (C b hb c hc) with r | r | r
  ·exact MU (C a ha c hc) (gD (C a ha b hb) (C b hb c hc) q r)
  ·exact r▸MU (C a ha b hb) q
  ·exact bad h2 r
 ·exact q▸h2
 ·exact bad h1 q
theorem anti{xs:List V}(C:Cmb xs){a b:V}(ha:a∈xs)(hb:b∈xs)(h1:ltV b a=false)(h2:ltV a b=false):a=b:=
 (RM (C a ha b hb)).elim (bad h2) λq=>q.elim id (bad h1)
noncomputable def Srt(l:List V):Prop:=l.Pairwise λa b=>ltV b a=false
theorem XG{x y:V}{ys:List V}(h:ltV y x=true):Gd x (y::ys)=y::Gd x ys:=AM h
theorem Ur{x y:V}{ys:List V}(h:ltV y x=false):Gd x (y::ys)=x::y::ys:=AO λq=>bad h q
theorem U8(x:V)(l:List V):(Gd x l).Perm (x::l):=by
 induction l with
 | nil=>exact Fj _
 | cons y ys ih=>
  cases h:ltV y x with
  | true=>refine rwl (XG h) ?_;exact(ih.cons y).trans (OL x y ys)
  | false=>(refine rwl (Ur h) ?_;rfl)
theorem FN(l:List V):(Dj l).Perm l:=by
 induction l with
 | nil=>exact Fj _
 | cons x xs ih=>exact(U8 x _).trans (ih.cons x)
theorem c7{zs:List V}(C:Cmb zs)(x:V)(hx:x∈zs)(l:List V):(∀y∈l,y∈zs)→Srt l→Srt (Gd x l):=by
 induction l with
 | nil=>exact λ_ _=>Yj _ _
 | cons y ys ih=>
  intro hm h
  have hy:=hm y Ah
  have hys:∀z∈ys,z∈zs:=λz hz=>hm z (Am _ hz)
  (have zz:=Fl.mp h;have h1:=zz.1;have h2:=zz.2;clear zz)
  cases hl:ltV y x with
  | true=>
   refine rwl (XG hl) ?_
   exact Fl.mpr ⟨λz hz=>(Ak.mp ((U8 x ys).mem_iff.mp hz)).elim (λq=>q▸MU (C y hy x hx) hl) (h1 z),ih hys h2⟩
  | false=>
   refine rwl (Ur hl) ?_
   exact Fl.mpr ⟨λz hz=>(Ak.mp hz).elim (λq=>q▸hl) λhz=>Wg C hx hy (hys z hz) hl (h1 z hz),h⟩
theorem LO{zs:List V}(C:Cmb zs)(l:List V):(∀y∈l,y∈zs)→Srt (Dj l):=by
 induction l with
 | nil=>exact λ_=>KC
 | cons x xs ih=>
  intro h
  have hs:=λy hy=>h y (Am _ hy)
  exact c7 C x (h x Ah) _ (λy hy=>hs y ((FN xs).mem_iff.mp hy)) (ih hs)
theorem Q0{zs:List V}(C:Cmb zs)(l:List V):∀{m:List V},(∀y∈l,y∈zs)→l.Perm m→Srt l→Srt m→l=m:=by
 induction l with
 | nil=>exact λ_ hp _ _=>(List.nil_perm.mp hp).symm
 | cons a l ih=>
  intro m hz hp h1 h2
  cases m with
  | nil=>exact nomatch hp.length_eq
  | cons b m=>
   (have zz:=Fl.mp h1;have q1:=zz.1;have q2:=zz.2;clear zz)
   (have zz:=Fl.mp h2;have r1:=zz.1;have r2:=zz.2;clear zz)
   have hb':b∈a::l:=hp.mem_iff.mpr Ah
   have ha':a∈b::m:=hp.mem_iff.mp Ah
   have e:a=b:=(Ak.mp hb').elim Cq λhb1=>(Ak.mp ha').elim id λha1=>anti C (hz a Ah) (hz b hb') (q1 b hb1) (r1 a ha1)
   subst e
   (refine rwl (ih (λy hy=>hz y (Am _ hy)) (ZR.cons_inv hp) q2 r2) ?_;rfl)
theorem Pe{xs ys:List V}(e:Ei xs=some ys):xs.length<64∧Cmb xs∧ys.Perm xs∧Srt ys:=gdE e λh e=>by
 (have zz:=Ac.mp h;have h1:=zz.1;have h2:=zz.2;clear zz)
 have C:Cmb xs:=λa ha=>BE.mp (BE.mp h2 a ha)
 (replace e:=AV e;subst e)
 exact⟨BC h1,C,FN xs,LO C xs λy hy=>hy⟩
end Mine
namespace Mine
open PySem PySem.Calls PyProof.Rows PySem.SeqAt PySem.MeetsSeq PySem.W
section
variable{prog:Ar}{w:Ae}{A:Aq}{E:AB→AF→Prop}{s:AF}
noncomputable def LV(prog:Ar)(w:Ae)(A:Aq)(vs:List AB)(lt:AA→AA→AL)(s:AF):Prop:=
 ∃κ,(∀Q:SortKind→AF→Prop,Q κ s→AP (AU prog w) A (keyKind' vs.toArray) Q (λ_ _=>As) s)∧∀i j (C:AL→AF→Prop),i<vs.length→j<vs.length→C (lt i j) s→kas_ask prog w A κ vs i j C s
theorem gv(vs:List AB)(h:vs.length<2):(vs.toArray.zip vs.toArray).map (·.2)=((Ab vs.length).map λi=>vs.getD i I2).toArray:=by
 cases vs with
 | nil=>simp
 | cons v vs=>cases vs with
  | nil=>simp
  | cons _ _=>exact absurd h (SO.mpr (AA.le_add_left 2 _))
theorem ja{a:AD}{vs:List AB}{n:AA}{lt:AA→AA→AL}{P:PySem.Fin→AF→Prop}(O:Ord lt)(ho:s.heap.get? a=some (D9 "list" vs.toArray n))(h64:vs.length<64)
  (hk:2≤vs.length→∀h',(∀b o,b≠a→s.heap.get? b=some o→h'.get? b=some o)→LV prog w A vs lt {s with heap:=h'})
  (h:∀p,Pm vs.length p→Up lt p vs.length→P (.done (.ret .none)) {s with heap:=SX s.heap a vs (p.toList.map λi=>vs.getD i I2).toArray}):
  AP (AU prog w) A (BW.«list.sort» ⟨[.ref a],[]⟩) P E s:=by
 refine rwl (list_sort_plain ..) ?_
 have ha:a<s.heap.objs.size:=BQ ho
 refine AG (listItems_at ho rfl ?_)
 refine AG (listUpdate_at ho rfl ?_ (by refine rwl Rq (rwl Ep ?_);omega) (BL _))
 obtain⟨e1,ho1⟩:∃e1,(s.heap.update a (DG λ_=>(#[]:AS AB))).get? a=some (D9 "list" #[] e1):=⟨_,Lv ho λ_=>#[]⟩
 refine AG (seqEpoch_at ho1 rfl ?_)
 refine AG (SY ?_ (by show vs.length≤_;refine rwl Ep ?_;omega))
 refine AG (wpAny_newList ?_ (BL _))
 refine Bj ?_
 generalize hH:((s.heap.update a (DG λ_=>(#[]:AS AB))).push (D9 "tuple" vs.toArray 0)).push (D9 "list" #[] 0)=H
 have ho6:H.get? a=some (D9 "list" #[] e1):=by
  refine rwr hH (rwl (ZT _ _ _ (by refine rwl (size_push' ..) (rwl (ZU ..) ?_);exact BP (Cv ha))) (rwl (ZT _ _ _ (by refine rwl (ZU ..) ?_;exact BP ha)) ?_))
  exact ho1
 have keep:∀b o,b≠a→s.heap.get? b=some o→H.get? b=some o:=λb o hb e=>by
  refine rwr hH ?_
  exact Az _ (Az _ ((OM _ _ _ _ hb).trans e))
 have eH:SX s.heap a vs= λout=>H.update a (DG λ_=>out):=by refine rwr hH ?_;rfl
 show AP (AU prog w) A _ P E {s with heap:=H}
 dsimp only
 have fin:∀{st':SortSt} {p:AS AA},Pm vs.length p→Up lt p vs.length→(arrOf st').map (·.2)=(p.toList.map λi=>vs.getD i I2).toArray→failedOf st'=none→
   AP (AU prog w) A (do
    let touched:=(←seqEpoch a) != e1
    ZV (.ref a) λ_=>(arrOf st').map (·.2)
    if let some e:=failedOf st' then rule "list.sort.comparison-raised";throw e
    if touched then rule "list.sort.modified";raiseError "ValueError" "list modified during sort"
    ret .none) P E {s with heap:=H}:=λ{st' p} hp hu ha2 hf=>by
  refine AG (seqEpoch_at ho6 rfl ?_)
  refine rwl ha2 ?_
  refine AG (listUpdate_at ho6 rfl ?_ (BL _) (by have:=hp.length_eq;simp at this;simp [Ep];omega))
  refine rwl hf ?_
  simp only [ZW,Fc,Fe]
  have:=h p hp hu
  replace this:=eH▸this
  exact AN this
 have hsz:vs.toArray.size=vs.length:=by simp
 by_cases h2:vs.length<2
 ·refine rwl (AM (by refine rwl hsz ?_;exact h2)) (rwl (AM (by refine rwl hsz ?_;exact h2)) ?_)
  refine AG (AN ?_)
  refine rwl (StateT.run_pure ..) ?_
  refine AG (AN ?_)
  refine fin (p:=(Ab vs.length).toArray) (by unfold Pm;simp) (λi j hij hj=>?_) ?_ rfl
  ·have e1:i=j:=by omega
   subst e1;exact O.irr _
  ·exact gv vs h2
 ·refine rwl (AO (by refine rwl hsz ?_;exact h2)) (rwl (AO (by refine rwl hsz ?_;exact h2)) ?_)
  refine AJ (hk (by omega) H keep) λκ hk1 hk2=>?_
  refine AG (Cb (hk1 (λκ' s'=>κ'=κ∧s'= {s with heap:=H}) ⟨rfl,rfl⟩) ?_ λ_ _ x=>x.elim)
  (intro κ' s' zr10;(refine Bs zr10 ?_;clear zr10;intro z1;subst z1;intro z2;subst z2))
  refine AG (Cb (kat_run (ks:=vs) (vs:=vs) (G:=λp s'=>s'= {s with heap:=H}∧Pm vs.length p∧Up lt p vs.length)
   (Q:=λst' s'=>∃p:AS AA,s'= {s with heap:=H}∧Pm vs.length p∧Up lt p vs.length∧arrOf st'=p.map (kas_item (vs.toArray.zip vs.toArray))∧failedOf st'=none)
   rfl (by omega) h64 (λp' st' s' a1 a2 a3 a4=>⟨p',a4.1,a4.2.1,a4.2.2,a2,a3⟩) (bS hk2 O (by omega) λp hp hu=>⟨rfl,hp,hu⟩)) ?_ λ_ _ e=>e)
  rintro⟨⟨⟩,st'⟩ s' ⟨p,rfl,hp,hu,har,hf⟩
  exact fin hp hu (kat_snds rfl har) hf
theorem ic{l:AB}{Q:AB→AF→Prop}(hc:AP (AU prog w) A.in1 (Lw l) (λvs s1=>∃lt,Ord lt∧vs.length<64∧
   (2≤vs.length→∀h',(∀b o,b≠s1.heap.objs.size→s1.heap.get? b=some o→h'.get? b=some o)→LV prog w A.in1.in1 vs lt {s1 with heap:=h'})∧
   (∀p h' n,Pm vs.length p→Up lt p vs.length→(∀b o,s1.heap.get? b=some o→h'.get? b=some o)→h'.get? s1.heap.objs.size=some (D9 "list" (p.toList.map λi=>vs.getD i I2).toArray n)→Q (.ref s1.heap.objs.size) {s1 with heap:=h'})) (λ_ _=>As) s):
  AP (AU prog w) A (call (.builtin "sorted") [l]) Q E s:=by
 refine Calls.call_function_entry kind_sorted plain_sorted entry_sorted (args_sorted1 _) ?_
 unfold BW.«sorted»
 refine AG (m:=checkCount "sorted" 1 1 _) (AN ?_)
 show AP _ _ (Lw l>>= _) _ _ s
 refine AG (Cb hc ?_ λ_ _ x=>x.elim)
 (intro us s' zr11;(refine DC zr11 ?_;clear zr11;intro lt O h64 hk h))
 refine AG (wpAny_newList ?_ (by refine rwl Ep ?_;omega))
 have hoL:(s'.heap.push (D9 "list" us.toArray 0)).get? s'.heap.objs.size=some (D9 "list" us.toArray 0):=Bb _ rfl
 have kp:∀b o,s'.heap.get? b=some o→(s'.heap.push (D9 "list" us.toArray 0)).get? b=some o:=λb o e=>Az _ e
 refine AG (Bj (Dq slot_list_sort ⟨_,hoL,rfl⟩ entry_list_sort ?body (args_list_sort _)))
 case body=>
  refine ja (s:={s' with heap:=s'.heap.push (D9 "list" us.toArray 0)}) O hoL h64 (λh2 h' k=>hk h2 h' λb o hb e=>k b o hb (kp b o e)) λp hp hu=>⟨_,rfl,?_⟩
  have hL:∀b,b<s'.heap.objs.size→b≠s'.heap.objs.size:=λb hb=>BP hb
  obtain⟨e1,ho1⟩:∃e1,((s'.heap.push (D9 "list" us.toArray 0)).update s'.heap.objs.size (DG λ_=>(#[]:AS AB))).get? s'.heap.objs.size=some (D9 "list" #[] e1):=⟨_,Lv hoL λ_=>#[]⟩
  have ho6:=Az (D9 "list" #[] 0) (Az (D9 "tuple" us.toArray 0) ho1)
  refine AN ⟨_,rfl,h p _ _ hp hu (λb o e=>?_) (Lv ho6 _)⟩
  have hb:b≠s'.heap.objs.size:=BP (BQ e)
  unfold SX
  refine rwl (OM _ _ _ _ hb) ?_
  exact Az _ (Az _ ((OM _ _ _ _ hb).trans (kp b o e)))
end
section
variable{w:Ae}{ca:AE→AD}{h₀ h h':AQ}{μ μ':List AD}{st st':St}{s:AF}{prog:Ar}{A:Aq}{E:AB→AF→Prop}
theorem VRs.mem(l:List V):∀{vs:List AB},VRs h μ l vs→∀u∈vs,∃a∈l,VR h μ a u:=by
 induction l with
 | nil=>intro vs x u hu;(have zz:=(show vs=[] from x);subst zz);exact xM hu
 | cons b l ih=>
  intro vs ⟨v,r,e,x1,x2⟩ u hu
  subst e
  rcases Ak.mp hu with q | hu
  ·exact⟨b,Ah,q▸x1⟩
  ·refine AJ (ih x2 u hu) λa ha xa=>?_
   exact⟨a,Am _ ha,xa⟩
theorem RS{α:Type}{l:List α}{i:AA}{d a:α}(e:l[i]? =some a):l.getD i d=a:=by refine rwl (EO) (rwl e ?_);rfl
theorem VRs.atD{l:List V}{vs:List AB}(x:VRs h μ l vs){i:AA}(hi:i<l.length)(x0:V):VR h μ (l.getD i x0) (vs.getD i .none)∧l.getD i x0∈l:=by
 refine AJ (x.get (Ba hi)) λv e r=>?_
 refine rwl (RS e) (rwl (RS (Ba hi)) ?_)
 exact⟨r,Ff hi⟩
theorem Wl(x:AE):(AK x).cps.toList=x.toList.map GC:=by(refine rwl (FY ..) ?_;rfl)
theorem TY{b:AL}{x y:V}{u v:AB}{C:AL→AF→Prop}(hf:DA x y=true)(rx:VR h μ x u)(ry:VR h μ y v)(hC:C (ltV x y) s):AP (AU prog w) A (oneLt' b u v) C (λ_ _=>As) s:=by
 refine Km (P:=λx y=>VR h μ x u→VR h μ y v→C (ltV x y) s→AP (AU prog w) A (oneLt' b u v) C (λ_ _=>As) s) hf (λi j zq1 zq2 hC=>zq1.elim λt e=>zq2.elim λt' e'=>?_) (λx y zq1 zq2 hC=>zq1.elim λt e=>zq2.elim λt' e'=>?_) rx ry hC
 ·subst e;subst e'
  cases b with
  | true=>exact oneLt_int hC
  | false=>exact kat_one _ _ (wpAny_lt_int (show ZX C (.bool _) s from hC))
 ·subst e;subst e'
  have e:decide ((AK x).cps.toList<(AK y).cps.toList)=ltV (.str x) (.str y):=by refine rwl (Wl ..) (rwl (Wl ..) ?_);rfl
  cases b with
  | true=>exact oneLt_str (e.symm▸hC)
  | false=>exact kat_one _ _ (P.lt_str (show ZX C (.bool _) s from by show C _ s;refine rwl e ?_;exact hC))
theorem mZ{x y:V}{u v:AB}{C:AL→AF→Prop}(hf:DA x y=true)(rx:VR h μ x u)(ry:VR h μ y v)(hC:C (V.beq x y) s):AP (AU prog w) A (eqBool u v) C (λ_ _=>As) s:=by
 refine Km (P:=λx y=>VR h μ x u→VR h μ y v→C (V.beq x y) s→AP (AU prog w) A (eqBool u v) C (λ_ _=>As) s) hf (λi j zq1 zq2 hC=>zq1.elim λt e=>zq2.elim λt' e'=>?_) (λx y zq1 zq2 hC=>zq1.elim λt e=>zq2.elim λt' e'=>?_) rx ry hC
 ·subst e;subst e'
  exact Yq (show C (i==j) s from(AL.beq_eq_decide_eq i j).symm▸hC)
 ·subst e;subst e'
  refine Yr ?_
  have e:decide (AK x=AK y)=decide (x=y):=ZY.mpr ⟨ED,AW _⟩
  refine rwl e ?_;exact hC
theorem mQ{b:AL}(l:List V):∀{m:List V} {us ws:List AB} {i:AA} {fin:AL} {C:AL→AF→Prop},DN l m=true→VRs h μ l us→VRs h μ m ws→fin=decide (l.length<m.length)→C (ltL l m) s→KatLex prog w A b fin C (us.zip ws) i s:=by
 induction l with
 | nil=>
  intro m us ws i fin C hf ru rw e hC
  (have zz:=(show us=[] from ru);subst zz)
  refine rwl e ?_
  refine kat_nil ?_
  cases m with
  | nil=>exact hC
  | cons _ _=>exact hC
 | cons a l ih=>
  intro m us ws i fin C hf ru rw e hC
  cases m with
  | nil=>
   (have zz:=(show ws=[] from rw);subst zz)
   refine rwl ZZ (rwl e ?_)
   exact kat_nil hC
  | cons c m=>
   (refine BO ru ?_;clear ru;intro u us' z3;subst z3;intro r1 r2)
   (refine BO rw ?_;clear rw;intro v ws' z4;subst z4;intro q1 q2)
   (have zz:=Ac.mp hf;have f1:=zz.1;have f2:=zz.2;clear zz)
   refine rwl List.zip_cons_cons ?_
   refine kat_cons (mZ f1 r1 q1 ?_)
   by_cases hq:a=c
   ·subst hq
    refine rwl (V.beq_self ..) ?_
    exact kat_yes (ih f2 r2 q2 (by refine rwl e ?_;simp) (Gh▸hC))
   ·refine rwl (V.beq_false hq) ?_
    exact kat_no (TY f1 r1 q1 (FK hq▸hC))
theorem lE(xs:List V):∀{vs:List AB},VRs h μ xs vs→(∀x∈xs,∃a l,x= .tup (a::l))→∃fs:List AB,KatTups h vs fs∧fs.length=vs.length∧∀f∈fs,∃a l,V.tup (a::l)∈xs∧VR h μ a f:=by
 induction xs with
 | nil=>intro vs x _;(have zz:=(show vs=[] from x);subst zz);exact⟨[],KatTups.nil,rfl,λ_ h=>xM h⟩
 | cons b xs ih=>
  intro vs ⟨v,r,e,x1,x2⟩ hh
  refine CU (hh b Ah) λa l e2=>?_
  refine Al (ih x2 λy hy=>hh y (Am _ hy)) λfs k1 k2 k3=>?_
  subst e;subst e2
  obtain⟨t,us,rfl,⟨o,ho,hc,hd,n,hdat⟩,nt,f,us',rfl,xf,_⟩:=x1
  refine⟨f::fs,⟨⟨t,o,_,n,rfl,ho,hc,hdat,rfl⟩,k1⟩,AW (· +1) k2,λg hg=>?_⟩
  rcases Ak.mp hg with q | hg
  ·exact⟨a,l,Ah,q▸xf⟩
  ·refine A6 (k3 g hg) λa' l' hm hx=>?_
   exact⟨a',l',Am _ hm,hx⟩
theorem eG{xs:List V}{vs:List AB}{x0:V}(hi:∀y∈xs,∃k,y= .int k)(h2:2≤xs.length)(r:VRs s.heap μ xs vs):LV prog w A vs (λi j=>ltV (xs.getD i x0) (xs.getD j x0)) s:=by
 have hlen:=r.length
 refine⟨oneType',λQ hQ=>kas_kind (T:=.type "int") (hlen.symm▸h2) (λv hv=>?_) (by decide) (by decide) hQ,λa b D ha hb hD=>?_⟩
 ·refine AJ (VRs.mem xs r v hv) λy hy ry=>?_
  (refine exE (hi y hy) ?_;intro k z5;subst z5)
  (refine exE ry ?_;clear ry;intro t z6;subst z6)
  exact .now
 ·(have zz:=r.atD (hlen▸ha) x0;have q1:=zz.1;have m1:=zz.2;clear zz)
  (have zz:=r.atD (hlen▸hb) x0;have q2:=zz.1;have m2:=zz.2;clear zz)
  refine exE (hi _ m1) λk1 e3=>?_
  refine exE (hi _ m2) λk2 e4=>?_
  unfold kas_ask
  refine rwl (keyLt'_oneType ..) ?_
  exact TY (by refine rwl e3 (rwl e4 ?_);rfl) q1 q2 hD
theorem mR{a b:V}{u v:AB}(hf:DA a b=true)(r1:VR s.heap μ a u):∃T:AB,(T==T)=true∧(T != Gy "tuple")=true∧∀{b:V} {v:AB},DA a b=true→VR s.heap μ b v→Looks (AU prog w) s.heap (Lr v) T:=by
 rcases DH.mp hf with h | h
 ·have ha:=F9 (Ac.mp h).1
  refine⟨.type "int",by decide,by decide,λ{b v} hb rb=>?_⟩
  replace hb:=ha▸hb
  rcases DH.mp hb with h | h
  ·replace rb:=F9 (Ac.mp h).2▸rb
   (refine exE rb ?_;clear rb;intro t z7;subst z7)
   exact .now
  ·exact xF ((Ac.mp h).1)
 ·refine exE (La (Ac.mp h).1) λx ha=>?_
  refine⟨.type "str",by decide,by decide,λ{b v} hb rb=>?_⟩
  replace hb:=ha▸hb
  rcases DH.mp hb with h | h
  ·exact xF ((Ac.mp h).1)
  ·(refine exE (La (Ac.mp h).2) ?_;intro y z8;subst z8)
   (refine exE rb ?_;clear rb;intro t z9;subst z9)
   exact .now
theorem iz{xs:List V}{vs:List AB}{x0:V}(hi:∀y∈xs,∃a l,y= .tup (a::l))(C:∀l∈xs,∀m∈xs,∀l' m',l= .tup l'→m= .tup m'→DN l' m'=true)(h2:2≤xs.length)(r:VRs s.heap μ xs vs):
  LV prog w A vs (λi j=>ltV (xs.getD i x0) (xs.getD j x0)) s:=by
 have hlen:=r.length
 refine Al (lE xs r hi) λfs k1 k2 k3=>?_
 obtain⟨T,hT1,hT2,hT3⟩:∃T:AB,(T==T)=true∧(T != Gy "tuple")=true∧∀f∈fs,Looks (AU prog w) s.heap (Lr f) T:=by
  have hl0:0<fs.length:=by refine rwl k2 (rwl hlen ?_);exact Bg ON h2
  refine A6 (k3 fs[0] (Ff hl0)) λa l hm ra=>?_
  have hf:∀{b m},V.tup (b::m)∈xs→DA a b=true:=λhm'=>(Ac.mp (C _ hm _ hm' _ _ rfl rfl)).1
  refine Al (mR (prog:=prog) (w:=w) (v:=.none) (hf hm) ra) λT t1 t2 t3=>?_
  exact⟨T,t1,t2,λf hq=>(k3 f hq).elim λb zz=>zz.elim λm zz=>zz.elim λhm' rb=>t3 (hf hm') rb⟩
 refine⟨tuples' (T != Gy "tuple"),λQ hQ=>kat_kind k1 (by refine rwl k2 (rwl hlen ?_);exact Bg ON h2) hT3 hT1 hQ,λa b D ha hb hD=>?_⟩
 (have zz:=r.atD (hlen▸ha) x0;have q1:=zz.1;have m1:=zz.2;clear zz)
 (have zz:=r.atD (hlen▸hb) x0;have q2:=zz.1;have m2:=zz.2;clear zz)
 refine CU (hi _ m1) λa1 l1 e3=>?_
 refine CU (hi _ m2) λa2 l2 e4=>?_
 have hfl:=C _ m1 _ m2 _ _ e3 e4
 dsimp only at hD
 rw [e3] at q1 hD
 rw [e4] at q2 hD
 unfold kas_ask
 (refine BV q1 ?_;clear q1;intro t1 us eu z0;rcases z0 with ⟨o1,ho1,_,_,c1,hd1⟩;intro _ ru)
 (refine BV q2 ?_;clear q2;intro t2 ws ew z1;rcases z1 with ⟨o2,ho2,_,_,c2,hd2⟩;intro _ rw2)
 refine rwl eu (rwl ew ?_)
 exact kat_lt ho1 hd1 ho2 hd2 (mQ _ hfl ru rw2 (by show decide (us.length<ws.length)=_;(refine rwl ru.length (rwl rw2.length ?_);rfl)) hD)
theorem j7{xs:List V}{vs:List AB}{x0:V}(C:Cmb xs)(h2:2≤xs.length)(r:VRs s.heap μ xs vs):LV prog w A vs (λi j=>ltV (xs.getD i x0) (xs.getD j x0)) s:=by
 have hx:xs[0]'(Bg ON h2)∈xs:=Ff _
 have C0:=λy hy=>C _ hx y hy
 generalize xs[0]'(Bg ON h2)=x at hx C0
 rcases Iq (C0 x hx) with ⟨i,j,e,_⟩ | ⟨l,m,e,_,_⟩
 ·refine eG (λy hy=>?_) h2 r
  rcases Iq (C0 y hy) with ⟨_,k,_,e'⟩ | ⟨_,_,e',_⟩
  ·exact⟨k,e'⟩
  ·exact nomatch e.symm.trans e'
 ·refine iz (λy hy=>?_) (λy hy z hz l' m' e1 e2=>?_) h2 r
  ·have c:=C0 y hy
   replace c:=e▸c
   rcases DH.mp c with c | c
   ·exact xF ((Ac.mp c).1)
   ·cases y with
    | tup m=>cases m with
     | nil=>cases l<;>exact xF c
     | cons a m=>exact⟨a,m,rfl⟩
    | _=>cases l<;>exact xF c
  ·rcases Iq (C y hy z hz) with ⟨_,_,e',_⟩ | ⟨l2,m2,e',e'',hf⟩
   ·exact nomatch e1.symm.trans e'
   ·cases e1.symm.trans e'
    cases e2.symm.trans e''
    exact hf
theorem gS{xs:List V}{x0:V}(C:Cmb xs)(hx:xs=[]∧x0= .none∨x0∈xs):Ord (λi j=>ltV (xs.getD i x0) (xs.getD j x0)):=by
 rcases hx with ⟨rfl,rfl⟩ | hx
 ·exact⟨λ_=>rfl,λ_ _ _ _ _=>rfl,λ_ _ _=>rfl⟩
 ·have hin:∀i,xs.getD i x0∈xs:=λi=>by
   refine rwl (EO) ?_
   cases e:xs[i]? with
   | none=>exact hx
   | some a=>exact Bx e
  exact⟨λi=>bT (C _ (hin i) _ (hin i)),λa b c=>Wg C (hin a) (hin b) (hin c),λa b=>MU (C _ (hin a) _ (hin b))⟩
theorem VZ{xs:List V}{x0:V}{p:AS AA}(hp:Pm xs.length p):(p.toList.map λi=>xs.getD i x0).Perm xs:=by
 refine(hp.map _).trans (OO ?_)
 refine Za (by simp) λi h1 h2=>?_
 (refine rwl (OP ..) (rwl (Sa ..) (rwl (RS (Ba h2)) ?_));rfl)
theorem jB{xs:List V}{x0:V}{p:AS AA}(hp:Pm xs.length p)(hu:Up (λi j=>ltV (xs.getD i x0) (xs.getD j x0)) p xs.length):Srt (p.toList.map λi=>xs.getD i x0):=by
 unfold Srt
 refine rwi Zb ?_
 intro i j hi hj hij
 rw [AY,EP] at hi hj
 have:=hu i j (B7 hij) (hp.size▸hj)
 have e:∀k (hk:k<p.size),at' p k=p[k]:=λk hk=>by show p.getD k 0=_;simp [GN,hk]
 replace this:=e j hj▸e i hi▸this
 refine rwl (OP ..) (rwl (OP ..) ?_)
 exact this
theorem l9{xs:List V}{vs:List AB}{x0:V}(r:VRs h μ xs vs)(l:List AA):(∀i∈l,i<xs.length)→VRs h μ (l.map λi=>xs.getD i x0) (l.map λi=>vs.getD i .none):=by
 induction l with
 | nil=>exact λ_=>VRs.nil
 | cons i l ih=>exact λhl=>VRs.cons (r.atD (hl i Ah) x0).1 (ih λj hj=>hl j (Am _ hj))
theorem UB{xs ys:List V}{l:AB}{v:V}{Q:AB→AF→Prop}(e1:Ei xs=some ys)(e:Ci (.list ys) st=some (v,st'))
  (hc:AP (AU prog w) A.in1 (Lw l) (λvs s1=>Nx w ca h₀ s.heap s μ s1 μ st∧∃zs:List V,VRs s1.heap μ zs vs∧zs.Perm xs) (λ_ _=>As) s) (h:BU w ca h₀ s μ st' v Q):AP (AU prog w) A (call (.builtin "sorted") [l]) Q E s:=by
 refine Jk (Pe e1) λh64 C hp hs=>?_
 refine ic (Cb hc (λvs s1 hq=>?_) λ_ _ x=>x.elim)
 obtain⟨N1,zs,r,hz⟩:=hq
 have Cz:Cmb zs:=λa ha b hb=>C a (hz.mem_iff.mp ha) b (hz.mem_iff.mp hb)
 have hlen:=r.length
 have hzl:=hz.length_eq
 have hx0:zs=[]∧zs.headD .none= .none∨zs.headD .none∈zs:=by cases zs<;>simp
 generalize hX:zs.headD .none=x0 at hx0
 refine⟨λi j=>ltV (zs.getD i x0) (zs.getD j x0),gS Cz hx0,by omega,λh2 h' k=>?_,λp h' n hpm hup k hD=>?_⟩
 ·have k2:∀b o,s1.heap.get? b=some o→h'.get? b=some o:=λb o e=>k b o (BP (BQ e)) e
  have P:Pass s1.heap h' μ μ:=Jt k2
  exact j7 (s:={s1 with heap:=h'}) Cz (by omega) (r.pass P)
 ·rw [hlen] at hpm hup
  (refine A7 (JT e) ?_;intro hfit z2;subst z2;intro z3;subst z3)
  have e2:(p.toList.map λi=>zs.getD i x0)=ys:=Q0 Cz _ (λy hy=>(VZ hpm).mem_iff.mp hy) ((VZ hpm).trans (hz.trans hp.symm)) (jB hpm hup) hs
  have r2:=l9 (x0:=x0) r p.toList λi hi=>Ca.mp (hpm.mem_iff.mp hi)
  replace r2:=e2▸r2
  have N2:=Nx.new (t:=s1.toks) N1.sr k (C2 _) (o:=.list ys) ⟨_,n,hD,r2.pass (PE k (C2 _))⟩
  exact h _ _ _ (N1.then N2) (Kq N1.sr _ _)
theorem bR{r:AA}{xs ys:List V}{v:V}{x:AB}{Q:AB→AF→Prop}(S:SR w ca h₀ s.heap st μ)(hx:st[r]? =some (.list xs))(ra:VR s.heap μ (.ref r) x)(e1:Ei xs=some ys)
  (e:Ci (.list ys) st=some (v,st')) (h:BU w ca h₀ s μ st' v Q):AP (AU prog w) A (call (.builtin "sorted") [x]) Q E s:=by
 (refine AJ ra ?_;clear ra;intro a z4;subst z4;intro ha)
 refine A6 (S.list hx ha) λvs n e0 rx=>?_
 have kp:∀b o,s.heap.get? b=some o→((s.heap.push (D9 "list" #[] 0)).update s.heap.objs.size (DG (· ++vs.toArray))).get? b=some o:=λb o e=>by
  refine rwl (OM _ _ _ _ (BP (BQ e))) ?_
  exact Az _ e
 have N1:=Nx.grow (t:=s.toks) S kp
 refine UB e1 e (collect_list (B0 e0) ⟨N1,xs,rx.pass N1.pass,Fj _⟩ ?_) h
 have:=(Pe e1).1
 refine rwl rx.length (rwl Ep ?_);omega
end
end Mine
namespace Mine
open PySem PySem.SetTable
noncomputable def Ris(xs:AS AA):Prop:=∀a b,a<b→b<xs.size→xs.getD a 0<xs.getD b 0
noncomputable def Cut(xs:AS AA)(j b:AA):Prop:=b≤xs.size∧(∀i,i<b→xs.getD i 0<j)∧∀i,b≤i→i<xs.size→j≤xs.getD i 0
theorem cg{l r:AA}(h:l<r):(l+r)/2<r∧l≤(l+r)/2:=by omega
theorem d6{xs:AS AA}{j:AA}(R:Ris xs)(fuel:AA):∀lo hi,hi≤lo+fuel→lo≤hi→hi≤xs.size→(∀i,i<lo→xs.getD i 0<j)→(∀i,hi≤i→i<xs.size→j≤xs.getD i 0)→Cut xs j (BX.go xs j fuel lo hi):=by
 induction fuel with
 | zero=>exact λlo hi hf hl hh h1 h2=>⟨AR hl hh,h1,λi hi=>h2 i (AR hf hi)⟩
 | succ fuel ih=>
  intro lo hi hf hl hh h1 h2
  show Cut xs j (if lo<hi then(if xs.getD ((lo+hi)/2) j<j then BX.go xs j fuel ((lo+hi)/2+1) hi else BX.go xs j fuel lo ((lo+hi)/2)) else lo)
  by_cases h:lo<hi
  ·refine rwl (AM h) ?_
   (have zz:=cg h;have m1:=zz.1;have m2:=zz.2;clear zz)
   revert m1 m2
   refine gen ((lo+hi)/2) λm m1 m2=>?_
   have hm:=Bg m1 hh
   have e:xs.getD m j=xs.getD m 0:=(I1 hm).trans (I1 hm).symm
   refine rwl e ?_
   by_cases hq:xs.getD m 0<j
   ·refine rwl (AM hq) ?_
    exact ih (m+1) hi (AR hf (I6 m fuel▸FD m2 _)) m1 hh (λi hi=>(Iz (Bf hi)).elim (λh=>Eo (R i m h hm) hq) λe=>e▸hq) h2
   ·refine rwl (AO hq) ?_
    exact ih lo m (Bf (Bg m1 hf)) m2 (B7 hm) h1 λi h hi=>AR (Ds hq) ((Iz h).elim (λh=>B7 (R m i h hi)) λe=>e▸Aj _)
  ·refine rwl (AO h) ?_
   exact⟨AR hl hh,h1,λi hi=>h2 i (AR (Ds h) hi)⟩
theorem Je{xs:AS AA}(R:Ris xs)(j:AA):Cut xs j (BX xs j):=
 d6 R _ _ _ (Bk (CI _).symm) (BL _) (Aj _) (λ_ h=>absurd h (CR _)) λ_ h h'=>absurd h' (Fh h)
theorem QU{xs:AS AA}{j b i:AA}(C:Cut xs j b)(hi:i≤xs.size)(h1:∀k,k+1=i→xs.getD k 0<j)(h2:i<xs.size→j≤xs.getD i 0):b=i:=by
 rcases OQ b i with h | h | h
 ·cases i with
  | zero=>exact absurd h (CR _)
  | succ i=>exact absurd (h1 i rfl) (Fh (C.2.2 i (Bf h) hi))
 ·exact h
 ·exact absurd (C.2.1 i h) (Fh (h2 (Bg h C.1)))
theorem PF{xs:AS AA}{i:AA}(h:i<xs.size):xs[i]? =some (xs.getD i 0):=(I0 h).trans (AW some (I1 h).symm)
theorem fL{xs:AS AA}(R:Ris xs){i:AA}(hi:i<xs.size):BX xs (xs.getD i 0)=i:=
 QU (Je R _) (B7 hi) (λk e=>R k i (e▸DZ k) hi) λ_=>Aj _
theorem fc{xs:AS AA}(R:Ris xs){i:AA}(hi:i<xs.size):BX xs (xs.getD i 0+1)=i+1:=
 QU (Je R _) hi (λk e=>CC e▸DZ _) λh=>R i (i+1) (DZ i) h
theorem jP{xs:AS AA}(R:Ris xs):BX xs 0=0:=
 QU (Je R _) (BL _) (λk e=>nomatch e) λ_=>BL _
structure TOk(t:SetTable)(n:AA):Prop where
 size:t.place.size=n
 dum:t.dummies= #[]
 ris:Ris t.place
 mask:t.mask=7∧n≤4∨t.mask=31∧n≤18
noncomputable def Occ(t:SetTable)(j:AA):Prop:=∃i,i<t.place.size∧t.place.getD i 0=j
section
variable{t:SetTable}{n:AA}
theorem TOk.lt(T:TOk t n):n<t.mask:=T.mask.elim (λh=>h.1▸Bi h.2 (by decide)) λh=>h.1▸Bi h.2 (by decide)
theorem TOk.fits(T:TOk t n):t.fits n=true:=
 Ac.mpr ⟨CZ.mpr T.size,An (show t.place.size+t.dummies.size≤t.mask from T.dum▸T.size.symm▸B7 T.lt)⟩
theorem VL(T:TOk t n){i:AA}(hi:i<n):t.slot (t.place.getD i 0)= .live i:=by
 have hi':i<t.place.size:=T.size.symm▸hi
 unfold SetTable.slot
 refine rwl (fL T.ris hi') ?_
 exact AM (CZ.mpr (PF hi'))
theorem gZ(T:TOk t n)(j:AA):(∃i,i<n∧t.place.getD i 0=j∧t.slot j= .live i)∨(t.slot j= .empty∧¬Occ t j):=by
 by_cases h:Occ t j
 ·(refine AJ h ?_;clear h;intro i hi e)
  exact .inl ⟨i,T.size▸hi,e,e▸VL T (T.size▸hi)⟩
 ·refine .inr ⟨(AO λq=>?_).trans (AO ?_),h⟩
  ·have q:=CZ.mp q
   have hs:=(OS.mp q).1
   exact h ⟨_,hs,AV ((PF hs).symm.trans q)⟩
  ·refine rwl T.dum ?_;exact λh=>xF h
theorem Uo{α:Type}{xs:AS α}{p:AA}{x:α}:(B8 xs p x).toList=xs.toList.take p++x::xs.toList.drop p:=Zc ..
theorem QY{α:Type}{xs:AS α}{i:AA}{d:α}:xs.getD i d=(xs.toList[i]?).getD d:=(KA ..).trans (AW (AH.getD · d) Hw.symm)
theorem LC{α:Type}{xs:AS α}{p:AA}{x d:α}(hp:p≤xs.size)(i:AA):(B8 xs p x).getD i d=if i<p then xs.getD i d else if i=p then x else xs.getD (i-1) d:=by
 have hl:(xs.toList.take p).length=p:=Sd hp
 refine rwl QY (rwl QY (rwl QY (rwl Uo ?_)))
 by_cases h1:i<p
 ·(refine rwl (AM h1) (rwl (C6 (hl.symm▸h1)) (rwl (List.getElem?_take_of_lt h1) ?_));rfl)
 ·refine rwl (AO h1) (rwl (Hx (hl.symm▸Ds h1)) (rwl hl ?_))
  by_cases h2:i=p
  ·refine rwl (AM h2) (rwl h2 (rwl (KD ..) ?_));rfl
  ·have h3:p<i:=G9 (Ds h1) (Bq h2)
   (refine exE (AA.exists_eq_add_of_lt h3) ?_;intro k z5;subst z5)
   refine rwl (AO h2) (rwl (show p+k+1-p=k+1 from(AW (· -p) (G4 p k 1)).trans (OT ..)) (rwl (Zd) (rwl (Ze) ?_)));rfl
theorem MV{α:Type}{xs:AS α}{p:AA}{x:α}(hp:p≤xs.size):(B8 xs p x).size=xs.size+1:=by
 refine rwr EP (rwl Uo (rwl Au (rwl Co (rwl (Sd hp) (rwl Se (rwl EP ?_))))))
 exact AW (· +1) (Fb hp)
theorem U4(T:TOk t n){j:AA}(he:¬Occ t j):Ris (B8 t.place (BX t.place j) j)∧(∀k,(∃i,i<(B8 t.place (BX t.place j) j).size∧(B8 t.place (BX t.place j) j).getD i 0=k)↔Occ t k∨k=j):=by
 refine A7 (Je T.ris j) λh1 h2 h3=>?_
 revert h1 h2 h3
 refine gen (BX t.place j) λb h1 h2 h3=>?_
 have h4:∀i,b≤i→i<t.place.size→j<t.place.getD i 0:=λi hb hi=>G9 (h3 i hb hi) λe=>he ⟨i,hi,e.symm⟩
 refine rwl (MV h1) ?_
 have lo:∀{i},i<b→(B8 t.place b j).getD i 0=t.place.getD i 0:=λh=>(LC h1 _).trans (AM h)
 have at_:(B8 t.place b j).getD b 0=j:=(LC h1 _).trans ((AO (CY _)).trans (AM rfl))
 have hi:∀{i},b≤i→(B8 t.place b j).getD (i+1) 0=t.place.getD i 0:=λ{i} h=>(LC h1 _).trans ((AO (Fh (I7 h))).trans (AO (Fm (FE h))))
 have part:∀i,i<b∨i=b∨∃k,i=k+1∧b≤k:=λi=>(OQ i b).imp id (Or.imp id λh=>by
  cases i with
  | zero=>exact absurd h (CR _)
  | succ k=>exact⟨k,rfl,Bf h⟩)
 refine⟨λx y hxy hy=>?_,λk=>⟨λzq1=>zq1.elim λi zz=>zz.elim λhl e=>?_,λh=>?_⟩⟩
 ·replace hy:=MV h1▸hy
  rcases part x with hx | rfl | ⟨x,rfl,hx⟩
  ·refine rwl (lo hx) ?_
   rcases part y with hy' | rfl | ⟨y,rfl,hy'⟩
   ·refine rwl (lo hy') ?_;exact T.ris x y hxy (Bg hy' h1)
   ·refine rwl at_ ?_;exact h2 x hx
   ·refine rwl (hi hy') ?_;exact T.ris x y (Bg hx hy') (GO hy)
  ·cases y with
   | zero=>exact absurd hxy (CR _)
   | succ y=>refine rwl at_ (rwl (hi (Bf hxy)) ?_);exact h4 y (Bf hxy) (GO hy)
  ·cases y with
   | zero=>exact absurd hxy (CR _)
   | succ y=>refine rwl (hi hx) (rwl (hi (AR hx (B7 (GO hxy)))) ?_);exact T.ris x y (GO hxy) (GO hy)
 ·rcases part i with h | rfl | ⟨i,rfl,h⟩
  ·exact .inl ⟨i,Bg h h1,(lo h).symm.trans e⟩
  ·exact .inr (e.symm.trans at_)
  ·exact .inl ⟨i,GO hl,(hi h).symm.trans e⟩
 ·rcases h with ⟨i,hl,e⟩ | rfl
  ·by_cases hq:i<b
   ·exact⟨i,Cv hl,(lo hq).trans e⟩
   ·exact⟨i+1,OJ hl,(hi (Ds hq)).trans e⟩
  ·exact⟨b,FE h1,at_⟩
noncomputable def DX(mask:AA):AA→AA×AA→AA×AA
 | 0,x=>x
 | k+1,x=>DX mask k (Hy mask x.1 x.2)
theorem dQ(mask a b:AA):∀(x:AA×AA),DX mask (a+b) x=DX mask b (DX mask a x):=by
 induction a with
 | zero=>exact λx=>by refine rwl (CI ..) ?_;rfl
 | succ a ih=>exact λx=>by refine rwl (AA.succ_add ..) ?_;exact ih _
theorem d3(mask k:AA):∀(x:AA×AA),(DX mask k x).2=x.2/32 ^ k:=by
 induction k with
 | zero=>exact λx=>(AA.div_one _).symm
 | succ k ih=>exact λx=>(ih _).trans ((AA.div_div_eq_div_mul ..).trans (AW (x.2/ ·) (AA.mul_comm ..)))
theorem kN(mask k:AA):∀(x:AA×AA),x.1≤mask→(DX mask k x).1≤mask:=by
 induction k with
 | zero=>exact λx h=>h
 | succ k ih=>exact λx h=>ih _ (Bf (H4 _ (DV _)))
theorem lD:∀i∈Ab 8,∀j∈Ab 8,∃k∈Ab 8,(DX 7 k (i,0)).1=j:=by decide+kernel
theorem me:∀i∈Ab 32,∀j∈Ab 32,∃k∈Ab 32,(DX 31 k (i,0)).1=j:=by decide+kernel
theorem XN{mask:AA}(hm:mask=7∨mask=31){x:AA×AA}(h1:x.1≤mask)(h2:x.2<2 ^ 64){j:AA}(hj:j≤mask):∃k,k≤13+mask∧(DX mask k x).1=j:=by
 have hp:(DX mask 13 x).2=0:=by
  refine rwl (d3 ..) ?_
  exact AA.div_eq_of_lt (Bg h2 (by decide))
 have hi:=kN mask 13 x h1
 have key:∃k,k≤mask∧(DX mask k ((DX mask 13 x).1,0)).1=j:=by
  rcases hm with rfl | rfl
  ·refine AJ (lD _ (Ca.mpr (FE hi)) j (Ca.mpr (FE hj))) λk hk e=>?_
   exact⟨k,Bf (Ca.mp hk),e⟩
  ·refine AJ (me _ (Ca.mpr (FE hi)) j (Ca.mpr (FE hj))) λk hk e=>?_
   exact⟨k,Bf (Ca.mp hk),e⟩
 (refine AJ key ?_;clear key;intro k hk e)
 refine⟨13+k,ES hk _,?_⟩
 refine rwl (dQ ..) ?_
 refine rwl (show DX mask 13 x=((DX mask 13 x).1,0) from I8 rfl hp) ?_
 exact e
noncomputable def AX(t:SetTable):AA→DI→DI
 | 0,p=>p
 | k+1,p=>AX t k (t.advance p)
theorem HX(a b:AA):∀(p:DI),AX t (a+b) p=AX t b (AX t a p):=by
 induction a with
 | zero=>exact λp=>by refine rwl (CI ..) ?_;rfl
 | succ a ih=>exact λp=>by refine rwl (AA.succ_add ..) ?_;exact ih _
theorem nY(k:AA)(p:DI):AX t (k+1) p=t.advance (AX t k p):=HX k 1 p
theorem UH(p:DI):(t.advance p).dummy=p.dummy:=by
 unfold advance
 by_cases h:p.more>0
 ·(refine rwl (AM h) ?_;rfl)
 ·(refine rwl (AO h) ?_;rfl)
theorem gu(k:AA):∀(p:DI),(AX t k p).dummy=p.dummy:=by
 induction k with
 | zero=>exact λp=>rfl
 | succ k ih=>exact λp=>(ih _).trans (UH p)
noncomputable def CA(mask:AA)(x:AA×AA):DI:={j:=x.1,more:=DJ mask x.1-x.1,i:=x.1,perturb:=x.2,dummy:=none}
theorem lW(mask i:AA):DJ mask i-i≤9:=by
 by_cases h:i+9≤mask
 ·(rewrite [DJ];refine rwl (AM h) (rwl (OT ..) ?_));exact Aj _
 ·(rewrite [DJ];refine rwl (AO h) (rwl (KD ..) ?_));exact BL _
theorem Tt(m:AA):∀(p:DI),p.more=m→AX t (m+1) {p with dummy:=none}=CA t.mask (Hy t.mask p.i p.perturb)∧∀k,k≤m→(AX t k {p with dummy:=none}).j=p.j+k:=by
 induction m with
 | zero=>
  intro p hm
  exact⟨AO (c:=p.more>0) λh=>absurd h (hm▸CY 0),λk hk=>by(have zz:=SW.mp hk;subst zz);rfl⟩
 | succ m ih=>
  intro p hm
  have ea:t.advance {p with dummy:=none}= {({p with j:=p.j+1,more:=p.more-1}:DI) with dummy:=none}:=AM (hm▸DV m)
  have H:=ih {p with j:=p.j+1,more:=p.more-1} (show p.more-1=m from hm▸rfl)
  refine⟨(AW (AX t (m+1)) ea).trans H.1,λk hk=>?_⟩
  cases k with
  | zero=>rfl
  | succ k=>exact(AW (λq=>(AX t k q).j) ea).trans ((H.2 k (OU hk)).trans (I6 _ _))
theorem cB(n:AA):∀(x:AA×AA),∃k,k≤10*n∧AX t k (CA t.mask x)=CA t.mask (DX t.mask n x):=by
 induction n with
 | zero=>exact λx=>⟨0,Aj _,rfl⟩
 | succ n ih=>
  intro x
  refine AJ (ih (Hy t.mask x.1 x.2)) λk hk e=>?_
  refine⟨DJ t.mask x.1-x.1+1+k,AR (Bk (GF _ _)) (ET hk (CJ (lW t.mask x.1))),?_⟩
  refine rwl (HX ..) ?_
  exact(AW (AX t k) (Tt (t:=t) (DJ t.mask x.1-x.1) (CA t.mask x) rfl).1).trans e
theorem k9(h:Int):t.probeStart h=CA t.mask (BM h%(t.mask+1),BM h):=rfl
theorem Xe(h:Int):BM h<2 ^ 64:=
 (Int.toNat_lt (Zf h (by decide))).mpr (Zg h (by decide))
theorem hW(m:AA):∀(l:List AA),(∀j,j<m→j∈l)→m≤l.length:=by
 induction m with
 | zero=>exact λl _=>BL _
 | succ m ih=>
  intro l h
  have hm:=h m (DZ m)
  have H:=ih (l.erase m) λj hj=>(List.mem_erase_of_ne (BP hj)).mpr (h j (Cv hj))
  replace H:=List.length_erase_of_mem hm▸H
  exact AR (CJ H) (Bk (G8 (Zh hm)))
theorem Wi{l:List AA}{m:AA}(h:l.length<m):∃j,j<m∧j∉l:=
 Zi λhn=>absurd (hW m l λj hj=>Zi λq=>hn ⟨j,hj,q⟩) (AA.not_le_of_lt h)
theorem TZ(T:TOk t n)(h:Int):∃k,k<10*HC t.mask∧¬Occ t (AX t k (t.probeStart h)).j:=by
 have hm:t.mask=7∨t.mask=31:=T.mask.imp And.left And.left
 have hl:t.place.toList.length<t.mask+1:=Bi (Bk (EP.trans T.size)) (Cv T.lt)
 refine AJ (Wi hl) λj hj hn=>?_
 refine AJ (XN hm (x:=(BM h%(t.mask+1),BM h)) (Bf (H4 _ (DV _))) (Xe h) (Bf hj)) λk hk e=>?_
 refine AJ (cB (t:=t) k (BM h%(t.mask+1),BM h)) λk2 hk2 e2=>?_
 refine⟨k2,Bi hk2 (AA.mul_lt_mul_of_pos_left (Bi hk (GF 13 _▸Sf (by decide) _)) (by decide)),?_⟩
 refine rwl (k9 ..) (rwl e2 ?_)
 show ¬Occ t (DX t.mask k _).1
 refine rwl e ?_
 exact λ⟨i,hi,hq⟩=>hn (hq▸(show t.place[i]=t.place.getD i 0 from(I1 hi).symm)▸AS.getElem_mem_toList hi)
end
end Mine
namespace Mine
open PySem PySem.SetTable
section
variable{t t':SetTable}{n:AA}
theorem bh(e:t'.mask=t.mask)(p:DI):t'.advance p=t.advance p:=by
 unfold advance
 (refine rwl e ?_;rfl)
theorem Pn(e:t'.mask=t.mask)(k:AA):∀(p:DI),AX t' k p=AX t k p:=by
 induction k with
 | zero=>exact λp=>rfl
 | succ k ih=>exact λp=>(AW (AX t' k) (bh e p)).trans (ih _)
theorem cT(e:t'.mask=t.mask)(h:Int):t'.probeStart h=t.probeStart h:=by
 unfold probeStart
 (refine rwl e ?_;rfl)
noncomputable def Way(t:SetTable)(n:AA)(hs:AA→Int):Prop:=∀i,i<n→∃k,(AX t k (t.probeStart (hs i))).j=t.place.getD i 0∧∀k',k'<k→Occ t (AX t k' (t.probeStart (hs i))).j
noncomputable abbrev XZ(t:SetTable)(n:AA)(hashAt:AA→Int)(h:Int)(p:DI)(k:AA):Prop:=∀k',k'<k→∃i,i<n∧t.place.getD i 0=(AX t k' p).j∧hashAt i≠h
theorem VD(T:TOk t n){hashAt:AA→Int}{h:Int}(fuel:AA):∀(k0:AA) (p:DI),p.dummy=none→k0<fuel→¬Occ t (AX t k0 p).j→
  (∃k,k≤k0∧I9 t hashAt h fuel p=some (.empty (AX t k p).j none)∧¬Occ t (AX t k p).j∧∀k',k'<k→∃i,i<n∧t.place.getD i 0=(AX t k' p).j∧hashAt i≠h)∨
  (∃k i,k<k0∧I9 t hashAt h fuel p=some (.candidate (AX t k p).j i (AX t (k+1) p))∧i<n∧t.place.getD i 0=(AX t k p).j∧hashAt i=h∧∀k',k'<k→∃i,i<n∧t.place.getD i 0=(AX t k' p).j∧hashAt i≠h):=by
 induction fuel with
 | zero=>exact λk0 p hd hk=>absurd hk (CR _)
 | succ fuel ih=>
  intro k0 p hd hk he
  have go:I9 t hashAt h (fuel+1) p=match t.slot p.j with
   | .empty=>some (.empty p.j p.dummy)
   | .dummy=>I9 t hashAt h fuel (t.advance {p with dummy:=some p.j})
   | .live i=>if hashAt i==h then some (.candidate p.j i (t.advance p)) else I9 t hashAt h fuel (t.advance p):=rfl
  refine rwl go ?_
  clear go
  rcases gZ T p.j with ⟨i,hi,e1,e2⟩ | ⟨e1,e2⟩
  ·refine rwl e2 ?_
   cases k0 with
   | zero=>exact absurd ⟨i,T.size.symm▸hi,e1⟩ he
   | succ k1=>
    show(∃k,k≤k1+1∧(if hashAt i==h then some (.candidate p.j i (t.advance p)) else I9 t hashAt h fuel (t.advance p))=_∧_)∨∃k j,k<k1+1∧(if hashAt i==h then some (.candidate p.j i (t.advance p)) else I9 t hashAt h fuel (t.advance p))=_∧_
    by_cases hq:hashAt i=h
    ·refine rwl (AM (CZ.mpr hq)) ?_
     exact .inr ⟨0,i,DV _,rfl,hi,e1,hq,λ_ h=>absurd h (CR _)⟩
    ·refine rwl (AO λz=>hq (CZ.mp z)) ?_
     have step:∀k,XZ t n hashAt h (t.advance p) k→XZ t n hashAt h p (k+1):=λk hk k' hk'=>by
      cases k' with
      | zero=>exact⟨i,hi,e1,hq⟩
      | succ k'=>exact hk k' (GO hk')
     exact(ih k1 (t.advance p) ((UH p).trans hd) (GO hk) he).imp (λzq1=>zq1.elim λk zz=>zz.elim λa1 zz=>zz.elim λa2 zz=>zz.elim λa3 a4=>⟨k+1,CJ a1,a2,a3,step k a4⟩) λzq1=>zq1.elim λk zz=>zz.elim λj zz=>zz.elim λa1 zz=>zz.elim λa2 zz=>zz.elim λa3 zz=>zz.elim λa4 zz=>zz.elim λa5 a6=>⟨k+1,j,OJ a1,a2,a3,a4,a5,step k a6⟩
  ·refine rwl e1 (rwl hd ?_)
   exact .inl ⟨0,BL _,rfl,e2,λ_ h=>absurd h (CR _)⟩
theorem hU(T:TOk t n){hs:AA→Int}(W:Way t n hs){h:Int}{k:AA}(he:¬Occ t (AX t k (t.probeStart h)).j)(hb:∀k',k'<k→Occ t (AX t k' (t.probeStart h)).j){t2:SetTable}
  (ep:t2.place=B8 t.place (BX t.place (AX t k (t.probeStart h)).j) (AX t k (t.probeStart h)).j) (em:t2.mask=t.mask) {hs':AA→Int}
  (eh:∀i,hs' i=if i<BX t.place (AX t k (t.probeStart h)).j then hs i else if i=BX t.place (AX t k (t.probeStart h)).j then h else hs (i-1)):Way t2 (n+1) hs':=by
 refine Bs (Je T.ris (AX t k (t.probeStart h)).j) λh1 _=>?_
 have occ:∀j,Occ t j→Occ t2 j:=λj hj=>by
  unfold Occ
  refine rwl ep ?_
  exact((U4 T he).2 j).mpr (.inl hj)
 have eq:∀k h,AX t2 k (t2.probeStart h)=AX t k (t.probeStart h):=λk h=>(AW (AX t2 k) (cT em h)).trans (Pn em k _)
 have old:∀i,i<n→∃k,(AX t2 k (t2.probeStart (hs i))).j=t.place.getD i 0∧∀k',k'<k→Occ t2 (AX t2 k' (t2.probeStart (hs i))).j:=λi hi=>(W i hi).elim λk a=>⟨k,(AW DI.j (eq k _)).trans a.1,λk' hk'=>eq k' _▸occ _ (a.2 k' hk')⟩
 have new:∃m,(AX t2 m (t2.probeStart h)).j=(AX t k (t.probeStart h)).j∧∀k',k'<m→Occ t2 (AX t2 k' (t2.probeStart h)).j:=⟨k,AW DI.j (eq k h),λk' hk'=>eq k' h▸occ _ (hb k' hk')⟩
 clear he hb occ eq
 revert h1 ep eh new
 refine gen (AX t k (t.probeStart h)).j λj=>gen (BX t.place j) λb ep eh h1 new=>?_
 intro i hi
 (refine rwl (eh i) (rwl ep ?_);rewrite [LC h1])
 by_cases c1:i<b
 ·refine rwl (AM c1) (rwl (AM c1) ?_);exact old i (Bg c1 (T.size▸h1))
 ·refine rwl (AO c1) (rwl (AO c1) ?_)
  by_cases c2:i=b
  ·refine rwl (AM c2) (rwl (AM c2) ?_);exact new
  ·refine rwl (AO c2) (rwl (AO c2) ?_);exact old (i-1) (Bg (Hv (Bi (BL _) (G9 (Ds c1) (Bq c2))) I5) (Bf hi))
end
section
variable{mask:AA}
noncomputable def CO(mask:AA):SetTable:={mask,place:=#[],dummies:=#[],finger:=0,led:=true,moves:=0,plain:=true}
theorem Vi(mask i:AA):i≤DJ mask i:=by
 by_cases h:i+9≤mask
 ·(rewrite [DJ];refine rwl (AM h) ?_);exact Bh _ _
 ·(rewrite [DJ];refine rwl (AO h) ?_);exact Aj _
theorem bW{owner:AS (AH AA)}(fuel:AA):∀(m:AA) (x:AA×AA),m<fuel→owner.getD (DX mask m x).1 (some 0)=none→
  ∃k,KG mask owner fuel x.1 x.2=some (AX (CO mask) k (CA mask x)).j∧owner.getD (AX (CO mask) k (CA mask x)).j (some 0)=none∧∀k',k'<k→owner.getD (AX (CO mask) k' (CA mask x)).j (some 0)≠none:=by
 induction fuel with
 | zero=>exact λm x hm=>absurd hm (CR _)
 | succ fuel ih=>
  intro m x hm he
  (have zz:=Tt (t:=CO mask) (DJ mask x.1-x.1) (CA mask x) rfl;have run:=zz.1;have hpos:=zz.2;clear zz)
  have hpos:∀k,k≤DJ mask x.1-x.1→(AX (CO mask) k (CA mask x)).j=x.1+k:=hpos
  have run:AX (CO mask) (DJ mask x.1-x.1+1) (CA mask x)=CA mask (Hy mask x.1 x.2):=run
  have hge:DJ mask x.1+1-x.1=DJ mask x.1-x.1+1:=AA.succ_sub (Vi mask x.1)
  have ef:KG mask owner (fuel+1) x.1 x.2=match (Ab (DJ mask x.1+1-x.1)).find? λk=>(owner.getD (x.1+k) (some 0)).isNone with
   | some k=>some (x.1+k)
   | none=>KG mask owner fuel (Hy mask x.1 x.2).1 (Hy mask x.1 x.2).2:=rfl
  refine rwl ef (rwl hge ?_)
  clear ef hge
  revert hpos run
  refine gen (DJ mask x.1-x.1) λr hpos run=>?_
  cases hf:(Ab (r+1)).find? λk=>(owner.getD (x.1+k) (some 0)).isNone with
  | some k=>
   refine A7 (List.find?_range_eq_some.mp hf) λh1 h2 h3=>?_
   have hk:=Bf (Ca.mp h2)
   exact⟨k,AW some (hpos k hk).symm,(AW (owner.getD · (some 0)) (hpos k hk)).trans (Dz.mp h1),λk' hk' z=>absurd (Dz.mpr ((AW (owner.getD · (some 0)) (hpos k' (AR (B7 hk') hk))).symm.trans z)) (λz=>DD ((LB (h3 k' hk')).symm.trans z))⟩
  | none=>
   have hocc:∀k,k≤r→owner.getD (x.1+k) (some 0)≠none:=λk hk z=>List.find?_eq_none.mp hf k (Ca.mpr (FE hk)) (Dz.mpr z)
   cases m with
   | zero=>exact absurd he (hocc 0 (BL _))
   | succ m=>
    refine Al (ih m (Hy mask x.1 x.2) (GO hm) he) λk a1 a2 a3=>?_
    have e1:∀k,AX (CO mask) (r+1+k) (CA mask x)=AX (CO mask) k (CA mask (Hy mask x.1 x.2)):=λk=>(HX ..).trans (AW (AX (CO mask) k) run)
    refine⟨r+1+k,a1.trans (AW (λp=>some (DI.j p)) (e1 k).symm),e1 k▸a2,λk' hk'=>?_⟩
    by_cases hq:k'≤r
    ·refine rwl (hpos k' hq) ?_;exact hocc k' hq
    ·(refine exE (Zj (AA.lt_of_not_le hq)) ?_;intro k2 z6;subst z6)
     exact(e1 k2).symm▸a3 k2 (Zk hk')
theorem Um{i:AA}(h:i≤mask):i+(DJ mask i-i)≤mask:=by
 refine rwl (Fb (Vi mask i)) ?_
 by_cases q:i+9≤mask
 ·(rewrite [DJ];refine rwl (AM q) ?_);exact q
 ·(rewrite [DJ];refine rwl (AO q) ?_);exact h
theorem dF(p:DI)(h:p.j+p.more≤mask):((CO mask).advance p).j+((CO mask).advance p).more≤mask:=by
 unfold advance
 by_cases q:p.more>0
 ·refine rwl (AM q) ?_
  exact AR (Bk ((AA.add_right_comm p.j 1 (p.more-1)).trans ((G4 ..).trans (AW (p.j+ ·) (G8 q))))) h
 ·refine rwl (AO q) ?_
  exact Um (Bf (H4 _ (DV _)))
theorem lL(k:AA):∀(p:DI),p.j+p.more≤mask→(AX (CO mask) k p).j+(AX (CO mask) k p).more≤mask:=by
 induction k with
 | zero=>exact λp h=>h
 | succ k ih=>exact λp h=>ih _ (dF p h)
theorem UP(k:AA)(x:AA×AA)(h:x.1≤mask):(AX (CO mask) k (CA mask x)).j≤mask:=by
 exact AR (Bh _ _) (lL (mask:=mask) k (CA mask x) (Um h))
noncomputable def CF(mask:AA)(owner:AS (AH AA)):List (AA×AA):=(Ab (mask+1)).filterMap λj=>(owner.getD j none).map (j,·)
structure HW(mask:AA)(hs:AA→Int)(owner:AS (AH AA))(k:AA):Prop where
 size:owner.size=mask+1
 perm:((CF mask owner).map (·.2)).Perm (Ab k)
 way:∀j i,owner.getD j none=some i→∃m,(AX (CO mask) m (CA mask (BM (hs i)%(mask+1),BM (hs i)))).j=j∧∀m',m'<m→owner.getD (AX (CO mask) m' (CA mask (BM (hs i)%(mask+1),BM (hs i)))).j none≠none
theorem getD_some{owner:AS (AH AA)}{j:AA}(hj:j<owner.size):owner.getD j (some 0)=owner.getD j none:=(I1 hj).trans (I1 hj).symm
theorem mD(f g:AA→AH (AA×AA))(j:AA)(x:AA×AA)(hf:f j=none)(hg:g j=some x)(l:List AA):l.Nodup→(∀i∈l,i≠j→g i=f i)→(j∈l→(l.filterMap g).Perm (x::l.filterMap f))∧(j∉l→l.filterMap g=l.filterMap f):=by
 induction l with
 | nil=>exact λ_ _=>⟨λh=>(xM h),λ_=>rfl⟩
 | cons i l ih=>
  intro hn he
  (have zz:=DS.mp hn;have h1:=zz.1;have h2:=zz.2;clear zz)
  (have zz:=(ih h2 λi hi=>he i (Am _ hi));have a1:=zz.1;have a2:=zz.2;clear zz)
  by_cases hij:i=j
  ·subst hij
   exact⟨λ_=>by(refine rwl (H6 hg) (rwl (OV hf) (rwl (a2 h1) ?_));rfl),λh=>absurd Ah h⟩
  ·have e:=he i Ah hij
   cases hfi:f i with
   | none=>refine rwl (OV hfi) (rwl (OV (e.trans hfi)) ?_);exact⟨λh=>a1 ((Ak.mp h).resolve_left (Bq hij)),λh=>a2 λq=>h (Am _ q)⟩
   | some y=>
    refine rwl (H6 hfi) (rwl (H6 (e.trans hfi)) ?_)
    exact⟨λh=>((a1 ((Ak.mp h).resolve_left (Bq hij))).cons y).trans (OL x y _),λh=>AW (y:: ·) (a2 λq=>h (Am _ q))⟩
theorem Wc{hs:AA→Int}{owner:AS (AH AA)}{k:AA}(L:HW mask hs owner k):(CF mask owner).length=k:=(AY _).symm.trans (L.perm.length_eq.trans DK)
theorem gQ{hs:AA→Int}{owner:AS (AH AA)}{k:AA}(L:HW mask hs owner k)(hk:k<mask+1):∃j,j≤mask∧owner.getD j none=none:=by
 have hl:((CF mask owner).map (·.1)).length<mask+1:=by refine rwl (AY ..) (rwl (Wc L) ?_);exact hk
 refine AJ (Wi hl) λj hj hn=>?_
 refine⟨j,Bf hj,?_⟩
 cases q:owner.getD j none with
 | none=>rfl
 | some i=>
  exfalso
  refine hn (Ay.mpr ⟨(j,i),?_,rfl⟩)
  exact Fg.mpr ⟨j,Ca.mpr hj,by refine rwl q ?_;rfl⟩
theorem j1(hm:mask=7∨mask=31){hs:AA→Int}{owner:AS (AH AA)}{k:AA}(L:HW mask hs owner k)(hk:k<mask+1):
  ∃j,KG mask owner (HC mask) (BM (hs k)%(mask+1)) (BM (hs k))=some j∧HW mask hs (owner.setIfInBounds j (some k)) (k+1):=by
 refine AJ (gQ L hk) λj0 hj0 he0=>?_
 refine AJ (XN hm (x:=(BM (hs k)%(mask+1),BM (hs k))) (Bf (H4 _ (DV _))) (Xe _) hj0) λm hm1 hm2=>?_
 have hm3:∀m',(AX (CO mask) m' (CA mask (BM (hs k)%(mask+1),BM (hs k)))).j<owner.size:=λm'=>L.size.symm▸FE (UP (mask:=mask) m' (BM (hs k)%(mask+1),BM (hs k)) (Bf (H4 _ (DV _))))
 refine Al (bW (mask:=mask) (owner:=owner) (HC mask) m (BM (hs k)%(mask+1),BM (hs k)) (Bi hm1 (GF 13 mask▸Sf (by decide) _)) (by refine rwl hm2 (rwl (getD_some (L.size.symm▸FE hj0)) ?_);exact he0)) λq e1 e2 e3=>?_
 have hjs:=hm3 q
 have hjn:=(getD_some hjs).symm.trans e2
 refine⟨_,e1,?_⟩
 clear e1 e2 hm1 hm2 hj0 he0 hm
 have way:∃m',(AX (CO mask) m' (CA mask (BM (hs k)%(mask+1),BM (hs k)))).j=(AX (CO mask) q (CA mask (BM (hs k)%(mask+1),BM (hs k)))).j∧∀m'',m''<m'→owner.getD (AX (CO mask) m'' (CA mask (BM (hs k)%(mask+1),BM (hs k)))).j none≠none:=
  ⟨q,rfl,λm' hm' z=>e3 m' hm' ((getD_some (hm3 m')).trans z)⟩
 clear e3 hm3
 revert hjs hjn way
 refine gen (AX (CO mask) q (CA mask (BM (hs k)%(mask+1),BM (hs k)))).j λj hjs hjn way=>?_
 have get:∀i,(owner.setIfInBounds j (some k)).getD i none=if i=j then some k else owner.getD i none:=λi=>by
  refine rwl (KA) (rwl (AS.getElem?_setIfInBounds) (rwl (KA) ?_))
  by_cases hij:i=j
  ·subst hij;refine rwl (AM rfl) (rwl (AM rfl) (rwl (AM hjs) ?_));rfl
  ·(refine rwl (AO (Bq hij)) (rwl (AO hij) ?_);rfl)
 have gj:=(get j).trans (AM rfl)
 have gi:∀{i},i≠j→(owner.setIfInBounds j (some k)).getD i none=owner.getD i none:=λh=>(get _).trans (AO h)
 have keep:∀{y:AA},owner.getD y none≠none→(owner.setIfInBounds j (some k)).getD y none≠none:=λ{y} hy=>by
  by_cases h:y=j
  ·refine rwl h (rwl gj ?_);exact nofun
  ·refine rwl (gi h) ?_;exact hy
 refine⟨AS.size_setIfInBounds.trans L.size,?_,λi x hx=>?_⟩
 ·have h1:=(mD (λi=>(owner.getD i none).map (i,·)) (λi=>((owner.setIfInBounds j (some k)).getD i none).map (i,·)) j (j,k) (AW (IA (j,·)) hjn) (AW (IA (j,·)) gj) (Ab (mask+1)) List.nodup_range
   (λi _ hi=>AW (IA (i,·)) (gi hi))).1 (Ca.mpr (L.size▸hjs))
  refine(h1.map (·.2)).trans ?_
  refine rwl BF ?_
  exact((L.perm.cons k).trans ((Zl k _).symm.trans (OO Sg.symm)))
 ·by_cases hij:i=j
  ·subst hij
   (have zz:=AV (gj.symm.trans hx);subst zz)
   exact way.elim λq a=>⟨q,a.1,λm' hm'=>keep (a.2 m' hm')⟩
  ·exact(L.way i x ((gi hij).symm.trans hx)).elim λm a=>⟨m,a.1,λm' hm'=>keep (a.2 m' hm')⟩
end
end Mine
namespace Mine
open PySem PySem.Calls PyProof.Rows PySem.SeqAt PySem.MeetsSeq PySem.SetTable
structure SRs(w:Ae)(h:AQ)(μ:List AD)(ys:List V)(es:List (Int×AB)):Prop where
 hash:es.map (·.1)=ys.map (AZ w)
 vals:VRs h μ ys (es.map (·.2))
section
variable{w:Ae}{ca:AE→AD}{h₀ h h':AQ}{μ μ':List AD}{st st':St}{s:AF}{prog:Ar}{A:Aq}{E:AB→AF→Prop}
section
variable{xs ys:List V}{es bs:List (Int×AB)}
theorem SRs.nil:SRs w h μ [] []:=⟨rfl,VRs.nil⟩
theorem SRs.cons{y:V}{u:AB}(x:VR h μ y u)(R:SRs w h μ ys es):SRs w h μ (y::ys) ((AZ w y,u)::es):=⟨AW (_:: ·) R.hash,VRs.cons x R.vals⟩
theorem SRs.nil_inv(R:SRs w h μ [] es):es=[]:=Rw.mp R.hash
theorem SRs.cons_inv{y:V}(R:SRs w h μ (y::ys) es):∃u r,es=(AZ w y,u)::r∧VR h μ y u∧SRs w h μ ys r:=by
 cases es with
 | nil=>exact xD R.hash
 | cons e es=>
  obtain⟨a,b⟩:=e
  injection R.hash with h1 h2
  refine BO R.vals λu r e x z=>?_
  injection e with e1 e2
  exact⟨b,es,AW (λa=>(a,b)::es) h1,(show b=u from e1).symm▸x,h2,e2▸z⟩
theorem SRs.pass(P:Pass h h' μ μ')(R:SRs w h μ ys es):SRs w h' μ' ys es:=⟨R.hash,R.vals.pass P⟩
theorem SRs.length(R:SRs w h μ ys es):es.length=ys.length:=AY (f:=λx:Int×AB=>x.2) (as:=es)▸R.vals.length
theorem SRs.at(R:SRs w h μ ys es){i:AA}{y:V}(q:ys[i]? =some y):∃u,es[i]? =some (AZ w y,u)∧VR h μ y u:=by
 refine AJ (R.vals.get q) λu e r=>?_
 replace e:=DU▸e
 (refine AJ (Dn.mp e) ?_;intro z7;rcases z7 with ⟨a,b⟩;intro e1 e2)
 have hh:(es.map (·.1))[i]? =(ys.map (AZ w))[i]? :=AW (·[i]?) R.hash
 replace hh:=q▸e1▸DU▸DU▸hh
 have hh:a=AZ w y:=AV hh
 exact⟨b,hh▸e1,(show b=u from e2).symm▸r⟩
theorem SRs.append(R:SRs w h μ xs es)(R':SRs w h μ ys bs):SRs w h μ (xs++ys) (es++bs):=⟨by(refine rwl BS (rwl BS (rwl R.hash (rwl R'.hash ?_)));rfl),by refine rwl BS ?_;exact R.vals.append R'.vals⟩
theorem SRs.take(k:AA)(R:SRs w h μ ys es):SRs w h μ (ys.take k) (es.take k):=⟨by(refine rwl Lp (rwl Lp (rwl R.hash ?_));rfl),by refine rwl Lp ?_;exact R.vals.take k⟩
theorem SRs.drop(k:AA)(R:SRs w h μ ys es):SRs w h μ (ys.drop k) (es.drop k):=⟨by(refine rwl Sh (rwl Sh (rwl R.hash ?_));rfl),by refine rwl Sh ?_;exact R.vals.drop k⟩
theorem SRs.pick(x:SRs w h μ ys es)(l:List AA):(∀i∈l,i<ys.length)→SRs w h μ (l.filterMap (ys[·]?)) (l.filterMap (es[·]?))∧(l.filterMap (ys[·]?)).length=l.length:=by
 induction l with
 | nil=>exact λ_=>⟨SRs.nil,rfl⟩
 | cons i l ih=>
  intro hl
  (have zz:=(ih λj hj=>hl j (Am _ hj));have h1:=zz.1;have h2:=zz.2;clear zz)
  have hi:=hl i Ah
  have e1:ys[i]? =some ys[i]:=Ba hi
  refine AJ (x.at e1) λu e2 r=>?_
  refine rwl (H6 e1) (rwl (H6 e2) ?_)
  exact⟨SRs.cons r h1,AW (· +1) h2⟩
end
noncomputable def eN:V→AL
 | .int _=>true
 | .tup l=>l.all V.atom
 | _=>false
theorem nX{v:V}(h:eN v=true):v.simple=true:=by
 cases v with
 | int i=>rfl
 | tup l=>exact h
 | _=>exact xF h
theorem Uz{ys:List V}{es:List (Int×AB)}(R:SRs w h μ ys es){e:Int×AB}(he:e∈es):∃y∈ys,e.1=AZ w y∧VR h μ y e.2:=by
 refine exE (Lg he) λi hi=>?_
 have hl:i<ys.length:=by refine rwr R.length ?_;exact(BA.mp hi).1
 refine AJ (R.at (Ba hl)) λu e2 r=>?_
 (have zz:=AV (hi.symm.trans e2);subst zz)
 exact⟨_,Ff hl,rfl,r⟩
theorem Qn{b:V}{u:AB}{k:AA}(hb:b.atom=true)(x:VR h μ b u):KH (k+1) u=pure false:=by
 cases b with
 | int i=>(refine exE x ?_;clear x;intro t z8;subst z8);rfl
 | str i=>(refine exE x ?_;clear x;intro t z9;subst z9);rfl
 | _=>exact xF hb
theorem cb{k:AA}{a:AD}:KH (k+1) (.ref a)=do
  match ←Lr (.ref a) with
  | .type t=>
   let underTuple ←if t=="tuple" then pure true else isSubtype (.type t) (.type "tuple")
   if !underTuple then return false
   let some items ←Lx (.ref a) | return true
   for y in items do
    if ←KH k y then return true
   return false
  | _=>return true:=by kernel_rfl
theorem Uj{v:V}{u:AB}{Q:AL→AF→Prop}(hv:v.simple=true)(x:VR s.heap μ v u)(h:Q false s):AP (AU prog w) A (KH 8 u) Q E s:=by
 cases v with
 | int i=>refine rwl (Qn rfl x) ?_;exact AN h
 | str i=>refine rwl (Qn rfl x) ?_;exact AN h
 | tup l=>
  (refine BV x ?_;clear x;intro a vs z0;subst z0;intro z1;rcases z1 with ⟨o,ho,hc,hdn,n,hd⟩;intro _ r)
  have hat:=λy hy=>(VRs.mem l r y hy).elim λb zz=>zz.elim λhb rb=>Qn (k:=6) (BE.mp hv b hb) rb
  clear r
  refine rwl (show KH 8 (.ref a)=_ from cb) ?_
  refine AG (m:=Lr (.ref a)) ?_
  refine I3 (T:="tuple") ⟨o,ho,hc⟩ ?_
  refine A5 (λ_=>?_) λz=>absurd (by decide) z
  refine AG (AN (A5 (λz=>absurd z (by decide)) λ_=>?_))
  refine AG (m:=Lx (.ref a)) (AG (Ly ho ?_))
  refine rwl hd ?_
  refine AN ?_
  dsimp only
  refine rwl (Zm ..) ?_
  refine AG (J2 _ (λrest b s'=>s=s'∧b=(none,())∧∀y∈rest,KH 7 y=pure false) _ ?_ ?_ _ _ ⟨rfl,rfl,hat⟩)
  ·(intro y rest b s' zr12;(refine A7 zr12 ?_;clear zr12;intro z2;subst z2;intro z3;subst z3;intro hr))
   refine rwl (hr y Ah) ?_
   exact AG (AN (A5 (λz=>absurd z (by decide)) λ_=>AN ⟨rfl,rfl,λz hz=>hr z (Am _ hz)⟩))
  ·(intro b s' zr13;(refine A7 zr13 ?_;clear zr13;intro z4;subst z4;intro z5;subst z5;intro _))
   exact AN h
 | _=>exact xF hv
theorem gc{β:Type}{M:Ej}{l:List AB}{b:β}{f:AB→β→CH (OW β)}{Q:β→AF→Prop}(hf:∀y∈l,∀Q':OW β→AF→Prop,Q' (.yield b) s→AP M A (f y b) Q' E s)(h:Q b s):AP M A (forIn l b f) Q E s:=by
 induction l with
 | nil=>exact AN h
 | cons y l ih=>
  refine rwl (KL ..) ?_
  exact AG (hf y Ah _ (ih λz hz=>hf z (Am _ hz)))
theorem fF{v:V}{u:AB}(hv:v.simple=true)(x:VR s.heap μ v u):∀{GH:List AB} {Q:AL→AF→Prop},(∀y∈GH,∃b,b.simple=true∧VR s.heap μ b y)→Q false s→AP (AU prog w) A (Zn u GH) Q E s:=by
 intro GH Q hst h
 unfold Zn
 refine AG (gc (λy hy Q' hq=>?_) (AN h))
 refine AJ (hst y hy) λb hb rb=>?_
 dsimp only
 refine A5 (λ_=>AN hq) (λ_=>?_)
 refine AG (Mv hv x (A5 (λz=>absurd z (by decide)) λ_=>?_))
 refine AG (Mv hb rb (A5 (λz=>absurd z (by decide)) λ_=>?_))
 refine AG (Uj hv x (A5 (λz=>absurd z (by decide)) λ_=>?_))
 exact AG (Uj hb rb (A5 (λz=>absurd z (by decide)) λ_=>AN hq))
theorem iB{b:AD}:isSame (.ref b) (.ref b)=pure true:=AM (G3 b)
theorem a8{a:AD}{o:Obj}{es:AS (Int×AB)}{ep n:AA}{t:SetTable}{ys:List V}{v:V}{u:AB}{k0:AA}{Q:SetFound→AF→Prop}(hu:A.units<Av)(ho:s.heap.get? a=some o)(hd:o.data= .set es ep t)(hn:es.size=n)(T:TOk t n)
  (R:SRs w s.heap μ ys es.toList) (hys:∀y∈ys,y.simple=true∧∃l,y= .tup l) (hv:v.simple=true) (x:VR s.heap μ v u) (hk0:k0<10*HC t.mask) (he0:¬Occ t (AX t k0 (t.probeStart (AZ w v))).j)
  (hyes:v∈ys→Q (.there none) s) (hno:∀k,¬Occ t (AX t k (t.probeStart (AZ w v))).j→(∀k',k'<k→∃i,i<n∧t.place.getD i 0=(AX t k' (t.probeStart (AZ w v))).j∧ys[i]? ≠some v)→Q (.free (AX t k (t.probeStart (AZ w v))).j false) s) (f:AA):
  ∀(k:AA) (stand:AH DI),k≤k0→k0-k<f→stand.getD (t.probeStart (AZ w v))=AX t k (t.probeStart (AZ w v))→(∀k',k'<k→∃i,i<n∧t.place.getD i 0=(AX t k' (t.probeStart (AZ w v))).j∧ys[i]? ≠some v)→
   AP (AU prog w) A (setSearchFrom a u (AZ w v) true f stand) Q E s:=by
 have hfit:t.fits es.size=true:=hn▸T.fits
 have hgw:¬t.gaveWay=true:=by
  unfold SetTable.gaveWay
  rcases T.mask with ⟨h,_⟩ | ⟨h,_⟩<;>refine rwl h ?_<;>decide
 have hat:∀{i:AA} {y:V},ys[i]? =some y→∃u,es[i]? =some (AZ w y,u)∧VR s.heap μ y u:=λq=>(R.at q).elim λu zz=>zz.elim λe r=>⟨u,Hw.symm.trans e,r⟩
 have hhash:∀{i:AA} {y:V},ys[i]? =some y→(es[i]?.map (·.1)).getD 0=AZ w y:=λhy=>by
  refine AJ (hat hy) λu' e2 _=>?_
  refine rwl e2 ?_;rfl
 have hyl:ys.length=n:=by(refine rwr R.length (rwl EP (rwl hn ?_));rfl)
 induction f with
 | zero=>exact λk stand _ hf=>absurd hf (CR _)
 | succ f ih=>
  intro k stand hk hf hs hp
  refine AG (m:=setState a) (Er ho hd hfit (A5 (λz=>absurd z hgw) λ_=>?_))
  refine rwl hs ?_
  have conv:∀{m:AA},(∀k',k'<m→∃i,i<n∧t.place.getD i 0=(AX t k' (AX t k (t.probeStart (AZ w v)))).j∧(es[i]?.map (·.1)).getD 0≠AZ w v)→
    ∀k',k'<k+m→∃i,i<n∧t.place.getD i 0=(AX t k' (t.probeStart (AZ w v))).j∧ys[i]? ≠some v:=λ{m} hm k' hk'=>by
   by_cases hq:k'<k
   ·exact hp k' hq
   ·(refine exE (Zj (Ds hq)) ?_;intro k2 z6;subst z6)
    refine Al (hm k2 (Zk hk')) λi b1 b2 b3=>?_
    exact⟨i,b1,by refine rwl (HX ..) ?_;exact b2,λe=>b3 (hhash e)⟩
  rcases VD T (hashAt:=λi=>(es[i]?.map (·.1)).getD 0) (h:=AZ w v) (10*HC t.mask) (k0-k) (AX t k (t.probeStart (AZ w v))) (gu k _) (Bi (OH _ _) hk0) (by refine rwr (HX ..) (rwl (Fb hk) ?_);exact he0) with ⟨m,a1,a2,a3,a4⟩ | ⟨m,i,a1,a2,a3,a4,a5,a6⟩
  ·have e:t.probe (λi=>(es[i]?.map (·.1)).getD 0) (AZ w v) (AX t k (t.probeStart (AZ w v)))=some (.empty (AX t m (AX t k (t.probeStart (AZ w v)))).j none):=a2
   show AP _ _ (match t.probe (λi=>(es[i]?.map (·.1)).getD 0) (AZ w v) (AX t k (t.probeStart (AZ w v))) with | some met=>_ | x=>_) Q E s
   refine rwl e ?_
   dsimp only
   rw [←HX] at a3 ⊢
   exact AN (hno (k+m) a3 (conv a4))
  ·have e:t.probe (λi=>(es[i]?.map (·.1)).getD 0) (AZ w v) (AX t k (t.probeStart (AZ w v)))=some (.candidate (AX t m (AX t k (t.probeStart (AZ w v)))).j i (AX t (m+1) (AX t k (t.probeStart (AZ w v))))):=a2
   show AP _ _ (match t.probe (λi=>(es[i]?.map (·.1)).getD 0) (AZ w v) (AX t k (t.probeStart (AZ w v))) with | some met=>_ | x=>_) Q E s
   refine rwl e ?_
   dsimp-zeta only
   have hy:ys[i]? =some (ys[i]'(hyl▸a3)):=Ba (hyl▸a3)
   generalize ys[i]'(hyl▸a3)=y at hy
   refine AJ (hat hy) λyu ey ry=>?_
   obtain⟨hysimp,yl,hyt⟩:=hys y (Bx hy)
   refine rwl ey ?_
   extract_lets jp
   have body:AP (AU prog w) A (jp ()) Q E s:=by
    refine AG (Bj (Qd hu hysimp hv ry x _ _ _ _ (AG (Er ho hd hfit ?_))))
    by_cases hq:y=v
    ·refine rwl hq (rwl (V.beq_self ..) ?_)
     exact AN (hyes (hq▸Bx hy))
    ·refine rwl (V.beq_false hq) ?_
     simp only [Nt,Fc,Fe]
     have hsm:t.sameMemory t.moves t.mask=some true:=by unfold SetTable.sameMemory;simp
     refine rwl hsm ?_
     dsimp only
     refine rwl (AM rfl) (rwl (show t.slot (AX t m (AX t k (t.probeStart (AZ w v)))).j= .live i from a4▸VL T a3) ?_)
     dsimp only
     refine rwl ey ?_
     dsimp only
     replace ry:=hyt▸ry
     (refine A6 ry ?_;clear ry;intro b _ z7;subst z7;intro _)
     refine rwl iB ?_
     refine AG (AG (AN (AN ?_)))
     refine ih (k+m+1) _ (Zo.mp a1) (Bg (Zp (Bi (Bh _ _) (Zo.mp a1)) (FE (Bh _ _))) (Bf hf)) ?_ (λk' hk'=>?_)
     ·show AX t (m+1) (AX t k (t.probeStart (AZ w v)))=_
      refine rwr (HX ..) ?_;rfl
     ·rcases Iz (Bf hk') with hq2 | hq2
      ·exact conv a6 k' hq2
      ·exact⟨i,a3,by refine rwl hq2 (rwl (HX ..) ?_);exact a4,λe=>hq (AV (hy.symm.trans e))⟩
   clear_value jp
   refine A5 (λ_=>AG (fF hv x (λz hz=>?_) ?_)) λ_=>body
   ·(refine AJ (Ay.mp hz) ?_;intro e he z8;subst z8)
    refine Al (Uz R (Zq.mpr (AS.mem_filter.mp (Zq.mp he)).1)) λy' hy' _ ry'=>?_
    exact⟨y',(hys y' hy').1,ry'⟩
   ·refine rwl (AO (by decide)) ?_
    exact body
end
end Mine
namespace Mine
open PySem PySem.Calls PyProof.Rows PySem.SeqAt PySem.MeetsSeq PySem.SetTable
section
variable{mask:AA}
theorem Xd(hm:mask=7∨mask=31){hs:AA→Int}{f:AH (AS (AH AA)×AA)→Int→AH (AS (AH AA)×AA)}
  (hf:∀owner k h,f (some (owner,k)) h=(KG mask owner (HC mask) (BM h%(mask+1)) (BM h)).bind λj=>some (owner.setIfInBounds j (some k),k+1)):
  ∀(l:List Int) (owner:AS (AH AA)) (k:AA),HW mask hs owner k→k+l.length≤mask→(∀i (hi:i<l.length),hs (k+i)=l[i])→∃owner',l.foldl f (some (owner,k))=some (owner',k+l.length)∧HW mask hs owner' (k+l.length)
 | [],owner,k,L,hk,he=>⟨owner,rfl,L⟩
 | h::l,owner,k,L,hk,he=>by
  simp only [Co] at hk
  have h0:hs k=h:=he 0 (by simp)
  refine AJ (j1 hm L (by omega)) λj e1 L2=>?_
  replace e1:=h0▸e1
  refine AJ (Xd hm hf l _ (k+1) L2 (by omega) λi hi=>by
   have:=he (i+1) (by simp;omega)
   simp only [List.getElem_cons_succ] at this
   refine rwr this ?_;congr 1;omega) λowner' e2 L3=>?_
  refine⟨owner',?_,by refine rwl Co (rwl (show k+(l.length+1)=k+1+l.length by omega) ?_);exact L3⟩
  refine rwl Zr (rwl (hf ..) (rwl e1 ?_))
  show l.foldl f (some (owner.setIfInBounds j (some k),k+1))=_
  refine rwl e2 (rwl Co ?_)
  congr 2;omega
theorem gP(hm:mask=7∨mask=31){hashes:AS Int}(hn:hashes.size≤mask):∃owner,layClean mask hashes=some owner∧HW mask (λi=>hashes.getD i 0) owner hashes.size:=by
 have L0:HW mask (λi=>hashes.getD i 0) (Si (mask+1) none) 0:=by
  have g:∀j,(Si (mask+1) (none:AH AA)).getD j none=none:=λj=>by
   simp [KA,AS.getElem?_replicate]
   split<;>rfl
  refine⟨by simp,?_,λj i h=>by rw [g] at h;cases h⟩
  have:CF mask (Si (mask+1) none)=[]:=by
   unfold CF
   refine rwi List.filterMap_eq_nil_iff ?_
   intro j _
   refine rwl (g ..) ?_;rfl
  refine rwl this ?_;exact Fj _
 have hlen:hashes.toList.length=hashes.size:=by simp
 refine AJ (Xd hm (f:=λacc h=>do
  let(owner,k) ←acc
  let j ←KG mask owner (HC mask) (BM h%(mask+1)) (BM h)
  pure (owner.setIfInBounds j (some k),k+1)) (λowner k h=>rfl) hashes.toList _ 0 L0 (by refine rwl hlen ?_;omega) λi hi=>by
   replace hi:=hlen▸hi
   simp [GN,hi]) λowner e L=>?_
 refine⟨owner,?_,by(replace L:=hlen▸L;rewrite [CI] at L);exact L⟩
 unfold layClean
 refine rwr (AS.foldl_toList ..) (rwl e ?_)
 rfl
theorem hZ(hm:mask=31){hashes:AS Int}(hn:hashes.size≤18)(finger moves:AA)(led plain:AL):∃t order,laid mask finger moves led plain hashes=some (t,order)∧TOk t hashes.size∧t.led=led∧order.toList.Perm (Ab hashes.size)∧
  Way t hashes.size (λi=>hashes.getD (order.getD i 0) 0):=by
 subst hm
 refine AJ (gP (mask:=31) (.inr rfl) (hashes:=hashes) (by omega)) λowner e L=>?_
 have hl:=Wc L
 refine⟨_,_,by unfold laid;refine rwl e ?_;rfl,⟨?_,rfl,?_,.inr ⟨rfl,hn⟩⟩,rfl,L.perm,?_⟩
 ·show((CF 31 owner).map (·.1)).toArray.size=_
  simp [hl]
 ·show Ris ((CF 31 owner).map (·.1)).toArray
  have hpw:(CF 31 owner).Pairwise λa b=>a.1<b.1:=by
   unfold CF
   refine ZS.filterMap _ (λa b hab x hx y hy=>?_) Zs
   (refine AJ (Dn.mp hx) ?_;intro _ _ z9;subst z9)
   (refine AJ (Dn.mp hy) ?_;intro _ _ z0;subst z0)
   exact hab
  intro a b hab hb
  simp only [Rq,AY] at hb
  have:=Zb.mp hpw a b (by omega) hb hab
  simp [GN,show a<(CF 31 owner).length by omega,hb]
  exact this
 ·intro i hi
  have hi2:i<(CF 31 owner).length:=by refine rwl hl ?_;exact hi
  have e1:((CF 31 owner).map (·.1)).toArray.getD i 0=(CF 31 owner)[i].1:=by simp [GN,hi2]
  have e2:((CF 31 owner).map (·.2)).toArray.getD i 0=(CF 31 owner)[i].2:=by simp [GN,hi2]
  refine AJ (Fg.mp (Ff hi2)) λj hj ho=>?_
  refine AJ (Dn.mp ho) λx hx hq=>?_
  refine AJ (L.way j x hx) λm a1 a2=>?_
  have hlive:∀j',j'<32→owner.getD j' none≠none→∃i',i'<((CF 31 owner).map (·.1)).toArray.size∧((CF 31 owner).map (·.1)).toArray.getD i' 0=j':=λj' hj' hne=>by
   refine exE (AH.ne_none_iff_exists'.mp hne) λx' hx'=>?_
   have hm:(j',x')∈CF 31 owner:=Fg.mpr ⟨j',Ca.mpr hj',by refine rwl hx' ?_;rfl⟩
   obtain⟨i',hi',he'⟩:=ZO hm
   refine⟨i',by simpa using hi',?_⟩
   simp [GN,hi',he']
  refine⟨m,?_,λm' hm'=>?_⟩
  ·show(AX _ m (CA 31 (BM _%(31+1),BM _))).j=_
   rw [Pn (t:=CO 31) (by exact rfl)]
   show(AX (CO 31) m (CA 31 (BM (hashes.getD (((CF 31 owner).map (·.2)).toArray.getD i 0) 0)%(31+1),BM (hashes.getD (((CF 31 owner).map (·.2)).toArray.getD i 0) 0)))).j=((CF 31 owner).map (·.1)).toArray.getD i 0
   refine rwl e1 (rwl e2 (rwr hq ?_))
   exact a1
  ·unfold Occ
   show ∃i',i'<((CF 31 owner).map (·.1)).toArray.size∧((CF 31 owner).map (·.1)).toArray.getD i' 0=(AX _ m' (CA 31 (BM (hashes.getD (((CF 31 owner).map (·.2)).toArray.getD i 0) 0)%(31+1),BM (hashes.getD (((CF 31 owner).map (·.2)).toArray.getD i 0) 0)))).j
   (rewrite [Pn (t:=CO 31) (by exact rfl)];refine rwl e2 (rwr hq ?_))
   refine hlive _ ?_ (a2 m' hm')
   exact FE (UP (mask:=31) m' _ (Bf (H4 _ (DV _))))
end
end Mine
namespace Mine
open PySem PySem.Calls PyProof.Rows PySem.SeqAt PySem.MeetsSeq PySem.SetTable
noncomputable def FU(es:AS (Int×AB))(i:AA):Int:=(es[i]?.map (·.1)).getD 0
section
variable(w:Ae)
noncomputable def Ex:Prop:=w.params.followText "set-order"=true
noncomputable def Tab(h:AQ)(μ:List AD)(a:AD)(ys:List V):Prop:=
 ∃es ep t,h.get? a=some (Ey es ep t)∧TOk t es.size∧(t.led=true∨Ex w)∧SRs w h μ ys es.toList∧Way t es.size (FU es)
end
section
variable{w:Ae}{ca:AE→AD}{h₀ h h':AQ}{μ μ':List AD}{st st':St}{s:AF}{prog:Ar}{A:Aq}{E:AB→AF→Prop}
theorem nG{ys:List V}{es:AS (Int×AB)}(R:SRs w h μ ys es.toList){i:AA}{y:V}(e:ys[i]? =some y):FU es i=AZ w y:=by
 refine AJ (R.at e) λu e2 _=>?_
 replace e2:=Hw▸e2
 unfold FU
 refine rwl e2 ?_;rfl
theorem filterMap_map{α:Type}{es:List α}{d:α}:∀{l:List AA},(∀i∈l,i<es.length)→l.filterMap (es[·]?)=l.map λi=>es.getD i d
 | [],_=>rfl
 | i::l,h=>by
  have hi:=h i Ah
  refine rwl (H6 (Ba hi)) (rwl (filterMap_map (d:=d) λj hj=>h j (Am _ hj)) (rwl BF ?_))
  simp [EO,hi]
theorem iF{es:AS (Int×AB)}{n k:AA}{t t1:SetTable}{ys:List V}{v:V}{u:AB}(T:TOk t n)(hn:es.size=n)(R:SRs w h μ ys es.toList)(W:Way t n (FU es))(x:VR h μ v u)
  (he:¬Occ t (AX t k (t.probeStart (AZ w v))).j) (hb:∀k',k'<k→Occ t (AX t k' (t.probeStart (AZ w v))).j)
  (ep:t1.place=B8 t.place (BX t.place (AX t k (t.probeStart (AZ w v))).j) (AX t k (t.probeStart (AZ w v))).j) (em:t1.mask=t.mask) (ed:t1.dummies= #[]):
  ∃ys1,ys1.Perm (ys++[v])∧SRs w h μ ys1 (B8 es (BX t.place (AX t k (t.probeStart (AZ w v))).j) (AZ w v,u)).toList∧
   Way t1 (n+1) (FU (B8 es (BX t.place (AX t k (t.probeStart (AZ w v))).j) (AZ w v,u)))∧Ris t1.place∧t1.place.size=n+1∧(B8 es (BX t.place (AX t k (t.probeStart (AZ w v))).j) (AZ w v,u)).size=n+1:=by
 refine A7 (Je T.ris (AX t k (t.probeStart (AZ w v))).j) λh1 _ _=>?_
 have hsz:=T.size
 have h1':BX t.place (AX t k (t.probeStart (AZ w v))).j≤es.size:=by omega
 refine⟨ys.take (BX t.place (AX t k (t.probeStart (AZ w v))).j)++v::ys.drop (BX t.place (AX t k (t.probeStart (AZ w v))).j),?_,?_,?_,by refine rwl ep ?_;exact(U4 T he).1,by(refine rwl ep (rwl (MV h1) (rwl hsz ?_));rfl),by(refine rwl (MV h1') (rwl hn ?_);rfl)⟩
 ·have:=Lz (a:=v) (l₁:=ys.take (BX t.place (AX t k (t.probeStart (AZ w v))).j)) (l₂:=ys.drop (BX t.place (AX t k (t.probeStart (AZ w v))).j))
  rw [JA] at this
  exact this.trans (Zl v ys).symm
 ·refine rwl (Zc ..) ?_
  exact(R.take _).append (SRs.cons x (R.drop _))
 ·refine hU T W he hb ep em λi=>?_
  unfold FU
  have:=LC (xs:=es) (x:=(AZ w v,u)) (d:=(0,.none)) h1' i
  have g:∀(xs:AS (Int×AB)) (i:AA),(xs[i]?.map (·.1)).getD 0=(xs.getD i (0,.none)).1:=λxs i=>by
   refine rwl (KA) ?_
   cases xs[i]? <;>rfl
  refine rwl (g ..) (rwl this (rwl (g ..) (rwl (g ..) ?_)))
  split
  ·rfl
  ·split<;>rfl
theorem gA{es:AS (Int×AB)}{t:SetTable}{ys:List V}(hn:es.size≤18)(R:SRs w h μ ys es.toList)(hw:sizeAbove (JB es.size)=32):
  ∃t2 order ys2,t.relaid (es.map (·.1)) (JB es.size)=some (t2,order)∧order.toList.Perm (Ab es.size)∧ys2.Perm ys∧SRs w h μ ys2 (order.filterMap (es[·]?)).toList∧(order.filterMap (es[·]?)).size=es.size∧TOk t2 es.size∧t2.led=t.led∧Way t2 es.size (FU (order.filterMap (es[·]?))):=by
 have hsz:(es.map (·.1)).size=es.size:=by simp
 refine Ld (hZ (mask:=31) rfl (hashes:=es.map (·.1)) (by refine rwl hsz ?_;exact hn) t.finger (t.movedTo 31) t.led t.plain) λt2 order e T2 hl hp W2=>?_
 rw [hsz] at T2 hp W2
 have hin:∀i∈order.toList,i<es.size:=λi hi=>Ca.mp (hp.mem_iff.mp hi)
 have hlen:=R.length
 replace hlen:=EP▸hlen
 (have zz:=(R.pick order.toList λi hi=>by refine rwr hlen ?_;exact hin i hi);have q1:=zz.1;have q2:=zz.2;clear zz)
 have e3:(order.filterMap (es[·]?)).toList=order.toList.filterMap (es.toList[·]?):=by
  refine rwl AS.toList_filterMap ?_
  congr 1
  funext i
  (refine rwl (Hw) ?_;rfl)
 have hol:order.toList.length=es.size:=by have:=hp.length_eq;simpa using this
 refine⟨t2,order,_,?_,hp,?_,by refine rwl e3 ?_;exact q1,?_,T2,hl,?_⟩
 ·unfold relaid
  refine rwl hw ?_
  exact e
 ·have:=hp.filterMap (ys[·]?)
  (replace this:=hlen▸this;rewrite [List.filterMap_getElem?_range_length] at this)
  exact this
 ·(refine rwr EP (rwl e3 (rwl (filterMap_map (d:=(0,.none)) (λi hi=>by refine rwl EP ?_;exact hin i hi)) (rwl (AY ..) (rwl hol ?_))));rfl)
 ·have:FU (order.filterMap (es[·]?))= λi=>if i<es.size then(es.map (·.1)).getD (order.getD i 0) 0 else 0:=by
   funext i
   unfold FU
   refine rwr (Hw) (rwl e3 (rwl (filterMap_map (d:=(0,.none)) (λi hi=>by refine rwl EP ?_;exact hin i hi)) (rwl (DU) ?_)))
   by_cases hi:i<es.size
   ·refine rwl (AM hi) ?_
    have hi2:i<order.toList.length:=by omega
    have hi3:i<order.size:=by simpa using hi2
    have hoi:=hin order.toList[i] (Ff hi2)
    refine rwl (Ba hi2) ?_
    simp only [AS.getElem_toList] at hoi ⊢
    simp [GN,hi3,hoi,EO]
   ·refine rwl (AO hi) ?_
    refine rwl (L4 (by omega)) ?_
    rfl
  refine rwl this ?_
  intro i hi
  have:=W2 i hi
  dsimp only at this ⊢
  refine rwl (AM hi) ?_
  exact this
end
end Mine
namespace Mine
open PySem PySem.Calls PyProof.Rows PySem.SeqAt PySem.MeetsSeq PySem.SetTable
section
variable{w:Ae}{ca:AE→AD}{h₀ h h':AQ}{μ μ':List AD}{st st':St}{s:AF}{prog:Ar}{A:Aq}{E:AB→AF→Prop}
theorem i4{b:V}{u:AB}{k:AA}(hb:b.atom=true)(x:VR h μ b u):∃r,OX (k+1) u=pure r:=by
 cases b with
 | int i=>(refine exE x ?_;clear x;intro t z1;subst z1);exact⟨_,rfl⟩
 | str i=>(refine exE x ?_;clear x;intro t z2;subst z2);exact⟨_,rfl⟩
 | _=>exact xF hb
theorem cw{v:V}{u:AB}{Q:AL→AF→Prop}(hv:v.simple=true)(x:VR s.heap μ v u)(h:∀b,Q b s):AP (AU prog w) A (OX 8 u) Q E s:=by
 cases v with
 | int i=>(refine exE x ?_;clear x;intro t z3;subst z3);exact AN (h _)
 | str i=>(refine exE x ?_;clear x;intro t z4;subst z4);exact AN (h _)
 | tup l=>
  (refine BV x ?_;clear x;intro a vs z5;subst z5;intro z6;rcases z6 with ⟨o,ho,hc,hdn,n,hd⟩;intro _ r)
  have hat:=λy hy=>(VRs.mem l r y hy).elim λb zz=>zz.elim λhb rb=>i4 (k:=6) (BE.mp hv b hb) rb
  clear r
  refine AG (Nz (T:="tuple") ⟨o,ho,hc⟩ PySem.F.slot_tuple_hash.lookup ?_)
  refine AG (m:=Lx (.ref a)) (AG (Ly ho ?_))
  refine rwl hd ?_
  refine AN ?_
  refine rwl (show((some vs.toArray:AH (AS AB)).getD #[.ellipsis])=vs.toArray from rfl) (rwl (Zm ..) ?_)
  refine AG (J2 _ (λrest b s'=>s=s'∧b=(none,())∧∀y∈rest,∃r,OX 7 y=pure r) _ ?_ ?_ _ _ ⟨rfl,rfl,hat⟩)
  ·(intro y rest b s' zr14;(refine A7 zr14 ?_;clear zr14;intro z7;subst z7;intro _ hr))
   refine exE (hr y (.head _)) λr er=>?_
   refine rwl er ?_
   exact AG (AN (A5 (λ_=>AN (AN (h _))) λ_=>AN ⟨rfl,rfl,λz hz=>hr z (.tail _ hz)⟩))
  ·(intro b s' zr15;(refine A7 zr15 ?_;clear zr15;intro z8;subst z8;intro z9;subst z9;intro _))
   exact AN (h _)
 | _=>exact xF hv
theorem Mp{a:AD}{es es':AS (Int×AB)}{ep:AA}{t t':SetTable}(ho:h.get? a=some (Ey es ep t)):(h.update a (IB es' t')).get? a=some (Ey es' (ep+1) t'):=by
 have:=GI (IB es' t') ho (by refine rwl (putSet_of es' t' rfl) ?_;rfl)
 rw [putSet_of es' t' rfl] at this
 exact this
noncomputable def Lc(w:Ae)(s:AF)(μ:List AD)(a:AD)(ys:List V)(v:V)(h':AQ):Prop:=C7 a s.heap h'∧∃ys',(v∈ys∧ys'=ys∨v∉ys∧ys'.Perm (ys++[v]))∧Tab w h' μ a ys'
theorem MW{a:AD}(hs:C7 a h h')(nt:∀vs,IsTp h a vs→As):Pass h h' μ μ:=⟨⟨[],by simp,by simp⟩,λb vs n t=>IsTp.to t λo e=>(hs.2 b λz=>nt vs (z▸t)).trans e⟩
theorem Qj{a:AD}{es:AS (Int×AB)}{ep:AA}{t:SetTable}(ho:h.get? a=some (Ey es ep t)){vs:AS AB}(x:IsTp h a vs):As:=FX ho rfl (by decide) x
theorem fJ{es:AS (Int×AB)}{n k:AA}{t:SetTable}{ys:List V}{v:V}(T:TOk t n)(hn:es.size=n)(R:SRs w h μ ys es.toList)(W:Way t n (FU es))(he:¬Occ t (AX t k (t.probeStart (AZ w v))).j)
  (hp:∀k',k'<k→∃i,i<n∧t.place.getD i 0=(AX t k' (t.probeStart (AZ w v))).j∧ys[i]? ≠some v):v∉ys∧∀k',k'<k→Occ t (AX t k' (t.probeStart (AZ w v))).j:=by
 refine⟨λhv=>?_,λk' hk'=>?_⟩
 ·refine exE (Lg hv) λi hi=>?_
  have hin:i<n:=by
   have:=(BA.mp hi).1
   replace this:=EP▸Cq R.length▸this
   omega
  refine AJ (W i hin) λm a1 a2=>?_
  rw [nG R hi] at a1 a2
  have hsz:=T.size
  rcases OQ m k with hq | hq | hq
  ·refine Al (hp m hq) λj b1 b2 b3=>?_
   have e:t.place.getD i 0=t.place.getD j 0:=by(refine rwr a1 (rwl b2 ?_);rfl)
   have:i=j:=by
    rcases OQ i j with q | q | q
    ·have:=T.ris i j q (by omega);omega
    ·exact q
    ·have:=T.ris j i q (by omega);omega
   subst this
   exact b3 hi
  ·subst hq
   exact he ⟨i,by omega,a1.symm⟩
  ·exact he (a2 k hq)
 ·refine Al (hp k' hk') λi b1 b2 _=>?_
  exact⟨i,by have:=T.size;omega,b2⟩
theorem VA:sizeAbove (JB 5)=32:=by decide
noncomputable def Ef(t:SetTable)(j:AA)(pl:AL):SetTable:={t with place:=B8 t.place (BX t.place j) j,dummies:=#[],plain:=pl}
theorem XT{t:SetTable}{n:AA}(T:TOk t n)(j:AA):t.put j=(Ef t j t.plain,BX t.place j):=by
 unfold SetTable.put Ef
 refine rwl T.dum ?_
 rfl
theorem gY{t1 t2:SetTable}{es1:AS (Int×AB)}{m:AA}{order:AS AA}(e2:t1.relaid (es1.map (·.1)) m=some (t2,order))(hp:order.toList.Perm (Ab es1.size))(z3:(order.filterMap (es1[·]?)).size=es1.size)(F:t2.fits es1.size=true):
  relayAll t1 es1 m=(order.filterMap (es1[·]?),t2,false):=by
 unfold relayAll
 refine rwl e2 ?_
 exact AM (Ac.mpr ⟨List.isPerm_iff.mpr hp,z3.symm▸F⟩)
structure VY(w:Ae)(s:AF)(μ:List AD)(a:AD)(ys:List V)(v:V)(es1:AS (Int×AB))(t1:SetTable)(n:AA):Prop where
 size:es1.size=n+1
 fits:t1.fits es1.size=true
 plain:t1.tooFull=false→Lc w s μ a ys v (s.heap.update a (IB es1 t1))
 anew:t1.tooFull=true→n=4∧∃t2 order,t1.relaid (es1.map (·.1)) (JB es1.size)=some (t2,order)∧order.toList.Perm (Ab es1.size)∧(order.filterMap (es1[·]?)).size=es1.size∧t2.fits es1.size=true∧
  Lc w s μ a ys v ((s.heap.update a (IB es1 t1)).update a (IB (order.filterMap (es1[·]?)) t2))
theorem bI{f n m:AA}(h:m=7∧n≤4∨m=31∧n≤18)(hn:n<15)(q:(n+1)*5≥m*3):n=4∧m=7:=by
 rcases h with ⟨rfl,h⟩ | ⟨rfl,h⟩
 ·exact⟨by omega,rfl⟩
 ·omega
theorem jO{n m:AA}(h:m=7∧n≤4∨m=31∧n≤18)(hn:n<15):n+1≤m:=by
 rcases h with ⟨rfl,h⟩ | ⟨rfl,h⟩
 ·exact AR (CJ h) (by decide)
 ·exact AR (CJ h) (by decide)
theorem bu{n m:AA}(h:m=7∧n≤4∨m=31∧n≤18)(hn:n<15)(q:¬(n+1)*5≥m*3):m=7∧n+1≤4∨m=31∧n+1≤18:=by
 rcases h with ⟨rfl,h⟩ | ⟨rfl,h⟩
 ·exact .inl ⟨rfl,by omega⟩
 ·exact .inr ⟨rfl,AR (AA.succ_le_of_lt hn) (by decide)⟩
theorem VU{a:AD}{es:AS (Int×AB)}{ep:AA}{t:SetTable}{ys:List V}{v:V}{u:AB}{k:AA}(ho:s.heap.get? a=some (Ey es ep t))(T:TOk t es.size)(L:t.led=true∨Ex w)(R:SRs w s.heap μ ys es.toList)(W:Way t es.size (FU es))(x:VR s.heap μ v u)
  (hl:es.size<15) (hnm:v∉ys) (hek:¬Occ t (AX t k (t.probeStart (AZ w v))).j) (hocc:∀k',k'<k→Occ t (AX t k' (t.probeStart (AZ w v))).j) (pl:AL):
  VY w s μ a ys v (B8 es (BX t.place (AX t k (t.probeStart (AZ w v))).j) (AZ w v,u)) (Ef t (AX t k (t.probeStart (AZ w v))).j pl) es.size:=by
 refine e1_6 (iF (t1:=Ef t (AX t k (t.probeStart (AZ w v))).j pl) T rfl R W x hek hocc rfl rfl rfl) λys1 p1 R1 W1 r1 z1 z2=>?_
 have m1:(Ef t (AX t k (t.probeStart (AZ w v))).j pl).mask=t.mask:=rfl
 have d1:(Ef t (AX t k (t.probeStart (AZ w v))).j pl).dummies= #[]:=rfl
 have l1:(Ef t (AX t k (t.probeStart (AZ w v))).j pl).led=t.led:=rfl
 generalize Ef t (AX t k (t.probeStart (AZ w v))).j pl=t1 at*
 generalize B8 es (BX t.place (AX t k (t.probeStart (AZ w v))).j) (AZ w v,u)=es1 at*
 have hfill:t1.fill=es.size+1:=by unfold SetTable.fill;refine rwl d1 (rwl z1 ?_);rfl
 have ho1:=Mp (es':=es1) (t':=t1) ho
 have sb1:=DF s.heap a (IB es1 t1)
 have L1:t1.led=true∨Ex w:=l1.symm▸L
 refine⟨z2,Ac.mpr ⟨CZ.mpr (z1.trans z2.symm),An (hfill.symm▸m1.symm▸jO T.mask hl)⟩,λhf=>?_,λhf=>?_⟩
 ·have q:¬t1.fill*5≥t1.mask*3:=of_decide_eq_false hf
  exact⟨sb1,ys1,.inr ⟨hnm,p1⟩,_,_,t1,ho1,z2.symm▸⟨z1,d1,r1,m1.symm▸bu T.mask hl (hfill▸m1▸q)⟩,L1,R1.pass (MW sb1 λvs=>Qj ho),z2.symm▸W1⟩
 ·have q:t1.fill*5≥t1.mask*3:=BC hf
  (have zz:=bI (f:=0) T.mask hl (hfill▸m1▸q);have h4:=zz.1;have h7:=zz.2;clear zz)
  refine e3_8 (gA (t:=t1) (Bf (z2.symm▸h4.symm▸by decide)) R1 (by refine rwl z2 (rwl h4 ?_);exact VA)) λt2 order ys2 e2 hp2 p2 R2 z3 T2 l2 W2=>?_
  have sb2:=sb1.trans (DF (s.heap.update a (IB es1 t1)) a (IB (order.filterMap (es1[·]?)) t2))
  exact⟨h4,t2,order,e2,hp2,z3,T2.fits,sb2,ys2,.inr ⟨hnm,p2.trans p1⟩,_,_,t2,Mp ho1,z3.symm▸T2,l2.symm▸L1,R2.pass (MW sb2 λvs=>Qj ho),z3.symm▸W2⟩
theorem Ml{n:AA}(h:n≤15):n≤Dd:=Ep▸AR h (by decide)
theorem jN{a:AD}{ys:List V}{v:V}{u:AB}{Q:AL→AF→Prop}(hu:A.units<Av)(Tb:Tab w s.heap μ a ys)(hys:∀y∈ys,y.simple=true∧∃l,y= .tup l)(hl:ys.length<15)(hv:v.simple=true)(hvt:∃l,v= .tup l)(x:VR s.heap μ v u)
  (h:∀h' b,Lc w s μ a ys v h'→Q b {s with heap:=h'}):AP (AU prog w) A (OY a u (AZ w v)) Q E s:=by
 (refine Ik Tb ?_;clear Tb;intro es ep t ho T L R W)
 have hn:es.size<15:=R.length.symm.trans EP▸hl
 have hscan:¬byScan u es=true:=by
  (refine exE hvt ?_;clear hvt;intro l z0;subst z0)
  (refine A6 x ?_;clear x;intro b _ e _)
  exact e▸DD
 refine AJ (TZ T (AZ w v)) λk0 hk0 he0=>?_
 unfold OY Sj
 refine Bj (AG (Er ho rfl T.fits ?_))
 refine A5 (λz=>absurd z hscan) λ_=>?_
 unfold setSearch
 refine AG (a8 (Q:=λr s'=>AP (AU prog w) A _ Q E s') hu ho rfl rfl T R hys hv x hk0 he0 (λhmem=>by exact AN (h s.heap false ⟨Sk ..,ys,.inl ⟨hmem,rfl⟩,es,ep,t,ho,T,L,R,W⟩)) (λk hek hp=>?_) 100000 0 none (by omega) ?_ rfl (by omega))
 ·(have zz:=fJ T rfl R W hek hp;have hnm:=zz.1;have hocc:=zz.2;clear zz)
  have Y:=VU ho T L R W x hn hnm hek hocc
  refine AG (Er ho rfl T.fits ?_)
  dsimp only
  rw [XT T]
  clear hp hek hocc hnm R W
  generalize B8 es (BX t.place (AX t k (t.probeStart (AZ w v))).j) (AZ w v,u)=es1 at Y ⊢
  have tail:∀t1,VY w s μ a ys v es1 t1 es.size→AP (AU prog w) A (do
    storeSet a es1 t1
    if(!false&&t1.tooFull)=true then setRelay a (JB (es.size+1))
    return true) Q E s:=λt1 Y=>by
   have hz:=Y.size
   refine AG (OZ ho rfl ?_ (Ml (hz.symm▸hn)))
   refine A5 (λhf=>?_) λhf=>AN (h _ true (Y.plain (Zt hf)))
   obtain⟨h4,t2,order,e2,hp2,z3,F2,Ad⟩:=Y.anew hf
   have ho1:=Mp (es':=es1) (t':=t1) ho
   have hf1:=Y.fits
   clear Y
   refine AG (m:=setRelay a (JB (es.size+1))) ?_
   refine rwr hz ?_
   refine AG (Er ho1 rfl hf1 ?_)
   refine A5 (λz=>absurd z (by refine rwl hz (rwl h4 (rwl VA (rwl Ep ?_)));decide)) λ_=>?_
   refine rwl e2 ?_
   refine AG (m:=(do
    let some (t,order):=some (t2,order) | Sl "internal:set-table-without-room"
    let es':=order.filterMap (es1[·]?)
    if es'.size != es1.size then Sl "internal:set-table-lost-an-element"
    pure (es',t):CH (AS (Int×AB)×SetTable))) (A5 (λz=>absurd z3 (Ho.mp z)) λ_=>AN ?_)
   exact OZ ho1 rfl (AN (h _ true Ad)) (Ml (z3.trans hz▸hn))
  refine A5 (λ_=>AG (cw hv x λb=>?_)) λ_=>AG (AN (tail _ (Y _)))
  cases b with
  | true=>exact tail _ (Y _)
  | false=>exact tail _ (Y _)
 ·have:10*HC t.mask≤460:=by
   rcases T.mask with ⟨e,_⟩ | ⟨e,_⟩<;>refine rwl e ?_<;>decide
  omega
end
end Mine
namespace Mine
open PySem PySem.Calls PyProof.Rows PySem.SeqAt PySem.MeetsSeq PySem.SetTable
section
variable{w:Ae}{ca:AE→AD}{h₀ h h':AQ}{μ μ':List AD}{st st':St}{s:AF}{prog:Ar}{A:Aq}{E:AB→AF→Prop}
theorem iO{a:AD}{es:AS (Int×AB)}{ep:AA}{t:SetTable}{v:V}{u:AB}{Q:ScanMet→AF→Prop}(hu:A.units<Av)(ho:s.heap.get? a=some (Ey es ep t))(hf:t.fits es.size=true)(hv:v.simple=true)(x:VR s.heap μ v u)(zs:List V):
  ∀{l:List (Int×AB)} {i:AA},SRs w s.heap μ zs l→(∀y∈zs,y.simple=true)→(v∈zs→∀j,Q (.found j) s)→(v∉zs→Q .absent s)→AP (AU prog w) A (Oa a u (AZ w v) true l i) Q E s:=by
 induction zs with
 | nil=>
  intro l i R hz hy hn
  cases R.nil_inv
  exact AN (hn Dm)
 | cons y zs ih=>
  intro l i R hz hy hn
  refine BO R.cons_inv λyu r e ry R'=>?_
  subst e
  have rest:v≠y→AP (AU prog w) A (Oa a u (AZ w v) true r (i+1)) Q E s:=λhne=>ih R' (λz hzz=>hz z (Am _ hzz)) (λhm=>hy (Am _ hm)) λhm=>hn λq=>(Ak.mp q).elim hne hm
  unfold Oa
  refine A5 (λhh=>AG (Ob ho rfl hf (AG (Qd hu (hz y Ah) hv ry x _ _ _ _ ?_)))) λhh=>rest λe=>hh (e▸G3 _)
  by_cases hq:y=v
  ·refine rwl hq (rwl (V.beq_self ..) ?_)
   exact AN (hy (hq▸Ah) i)
  ·refine rwl (V.beq_false hq) ?_
   simp only [Nt,Fc,Fe]
   refine AG (Ob ho rfl hf ?_)
   simp only [ZW,Fc,Fe]
   exact rest (Bq hq)
theorem bQ{es:AS (Int×AB)}{t:SetTable}{h:Int}{x:AB}{j:AA}(T:TOk t es.size)(hfree:t.freeSlot h=some (j,false))(hfit:(Ef t j t.plain).fits (B8 es (BX t.place j) (h,x)).size=true):
  layNew t es h x=(B8 es (BX t.place j) (h,x),Ef t j t.plain,false,false):=by
 unfold layNew
 refine rwl hfree ?_
 show(match t.put j with | (t',p)=>(B8 es p (h,x),t'.orStandIn (B8 es p (h,x)).size,false,!t'.fits (B8 es p (h,x)).size))=_
 rw [XT T]
 show(B8 es (BX t.place j) (h,x),(Ef t j t.plain).orStandIn (B8 es (BX t.place j) (h,x)).size,false,!(Ef t j t.plain).fits (B8 es (BX t.place j) (h,x)).size)=_
 (refine rwl hfit ?_;rewrite [SetTable.orStandIn];refine rwl (AM hfit) ?_)
 rfl
theorem iW{es:AS (Int×AB)}{ys:List V}{x:AB}(hx:x.scannable=true)(R:SRs w h μ ys es.toList)(hys:∀y∈ys,∃k,y= .int k)(hl:es.size<15):byScan x es=true:=
 Ac.mpr ⟨Ac.mpr ⟨hx,An (Eo hl (by decide))⟩,AS.all_toList.symm.trans (BE.mpr λe he=>by
  refine Al (Uz R he) λy hy _ ry=>?_
  (refine exE (hys y hy) ?_;intro k z1;subst z1)
  exact ry.elim λ_ e=>e▸rfl)⟩
theorem dO{t:SetTable}{n:AA}(T:TOk t n)(h:Int):∃k,t.freeSlot h=some ((AX t k (t.probeStart h)).j,false)∧¬Occ t (AX t k (t.probeStart h)).j∧∀k',k'<k→Occ t (AX t k' (t.probeStart h)).j:=by
 refine AJ (TZ T h) λk0 hk0 he0=>?_
 rcases VD T (hashAt:=λ_=>h+1) (h:=h) (10*HC t.mask) k0 (t.probeStart h) rfl hk0 he0 with ⟨k,a1,a2,hek,a4⟩ | ⟨k,j,_,_,_,_,a5,_⟩
 ·refine⟨k,?_,hek,λk' hk'=>?_⟩
  ·unfold SetTable.freeSlot
   refine rwl (show t.probe (λ_=>h+1) h (t.probeStart h)=some (.empty (AX t k (t.probeStart h)).j none) from a2) ?_
   rfl
  ·refine Al (a4 k' hk') λj b1 b2 _=>?_
   exact⟨j,T.size.symm▸b1,b2⟩
 ·omega
theorem add_int{a:AD}{ys:List V}{i:Int}{tk:Tok}{Q:AL→AF→Prop}(hu:A.units<Av)(Tb:Tab w s.heap μ a ys)(hys:∀y∈ys,∃k,y= .int k)(hl:ys.length<15)
  (h:∀h' b,Lc w s μ a ys (.int i) h'→Q b {s with heap:=h'}):AP (AU prog w) A (OY a (.int i tk) (AZ w (.int i))) Q E s:=by
 (refine Ik Tb ?_;clear Tb;intro es ep t ho T L R W)
 have hn:es.size<15:=R.length.symm.trans EP▸hl
 have x:VR s.heap μ (.int i) (.int i tk):=VR.int_ i tk
 unfold OY Sj
 refine Bj (AG (Er ho rfl T.fits (A5 (λ_=>?_) λz=>absurd (iW rfl R hys hn) z)))
 unfold setAddByScan
 refine AG (AG (Dc (AG (m:=Oa a (.int i tk) (AZ w (.int i)) true es.toList 0) ?_)))
 refine iO (v:=.int i) hu ho T.fits rfl x _ R (λy hy=>(hys y hy).elim λk e=>e▸rfl) (λhm j=>AN (AN (h s.heap false ⟨Sk ..,ys,.inl ⟨hm,rfl⟩,es,ep,t,ho,T,L,R,W⟩))) λhnm=>?_
 refine Al (dO T (AZ w (.int i))) λk hfree hek hocc=>?_
 have Y:=VU ho T L R W x hn hnm hek hocc
 have hlay:=bQ (x:=.int i tk) T hfree (Y _).fits
 clear hfree hek hocc R W hys
 dsimp only
 refine rwl hlay ?_
 clear hlay
 have Y1:=Y t.plain
 have Y2:=Y false
 clear Y
 revert Y1 Y2
 refine gen (B8 es (BX t.place (AX t k (t.probeStart (AZ w (.int i)))).j) (AZ w (.int i),.int i tk)) λes1=>gen (Ef t (AX t k (t.probeStart (AZ w (.int i)))).j t.plain) λt1 Y _=>?_
 have hz:=Y.size
 refine AG (m:=(pure ():CH Ek)) (AN ?_)
 have tail:AP (AU prog w) A (do
   storeSet a es1 t1
   if(!false&&t1.tooFull)=true then do
    let(es,t,gave):=relayAll t1 es1 (JB es1.size)
    (match gave with | true=>rule "set.scan.the-table-gave-way" | false=>pure ():CH Ek)
    storeSet a es t
   return some true) (λr s'=>AP (AU prog w) A (match r with
    | some added=>pure added
    | none=>Sj a (.int i tk) (AZ w (.int i)) 99999) Q E s') E s:=by
  refine AG (OZ ho rfl (A5 (λhf=>?_) λhf=>AN (AN (h _ true (Y.plain (Zt hf))))) (Ml (hz.symm▸hn)))
  obtain⟨h4,t2,order,e2,hp2,z3,F2,Ad⟩:=Y.anew hf
  have ho1:=Mp (es':=es1) (t':=t1) ho
  clear Y
  refine rwl (gY e2 hp2 z3 F2) ?_
  exact AG (AN (AG (OZ ho1 rfl (AN (AN (h _ true Ad))) (Ml (z3.trans hz▸hn)))))
 exact A5 (λ_=>AG (m:=OX 8 (.int i tk)) (AN tail)) λ_=>AG (AN tail)
end
end Mine
namespace Mine
open PySem PySem.Calls PyProof.Rows PySem.SeqAt PySem.MeetsSeq PySem.SetTable
section
variable{w:Ae}{ca:AE→AD}{h₀ h h':AQ}{μ μ':List AD}{st st':St}{s:AF}{prog:Ar}{A:Aq}{E:AB→AF→Prop}
noncomputable def Even(xs:List V):Prop:=(∀y∈xs,∃k,y= .int k)∨∀y∈xs,y.simple=true∧∃l,y= .tup l
theorem HZ{x:V}{l:List V}:BG x l=true↔x∈l:=by
 unfold BG
 refine rwi L5 ?_
 constructor
 ·(intro zr16;(refine AJ zr16 ?_;clear zr16;intro y hy e))
  refine rwr ((V.beq_iff y x).mp e) ?_;exact hy
 ·exact λh=>⟨x,h,V.beq_self x⟩
theorem cu{a:AD}{ys:List V}{v:V}{u:AB}{Q:AL→AF→Prop}(hu:A.units<Av)(Tb:Tab w s.heap μ a ys)(ev:Even (v::ys))(hl:ys.length<15)(x:VR s.heap μ v u)
  (h:∀h' b tk,Lc w s μ a ys v h'→Q b {s with heap:=h',toks:=tk}):AP (AU prog w) A (setAdd a u) Q E s:=by
 unfold setAdd
 have hsimp:v.simple=true:=by
  rcases ev with q | q
  ·(refine exE (q v Ah) ?_;intro k z2;subst z2);rfl
  ·exact(q v Ah).1
 refine Bj (AG (Ki hu hsimp x λtk=>?_))
 rcases ev with q | q
 ·(refine exE (q v Ah) ?_;intro k z3;subst z3)
  (refine exE x ?_;clear x;intro t z4;subst z4)
  exact add_int (s:={s with toks:=tk}) hu Tb (λy hy=>q y (Am _ hy)) hl λh' b hA=>h h' b tk hA
 ·exact jN (s:={s with toks:=tk}) hu Tb (λy hy=>q y (Am _ hy)) hl hsimp (q v Ah).2 x λh' b hA=>h h' b tk hA
theorem Ju{I ax:AD}{i:AA}(x:h.IsListIter I ax i){vs:AS AB}(t:IsTp h I vs):As:=by
 (refine Al x ?_;clear x;intro o e c _)
 (refine Al t ?_;clear t;intro o' e' c' _)
 (have zz:=AV (e.symm.trans e');subst zz)
 exact nomatch c.symm.trans c'
theorem Even.sub{xs ys:List V}(ev:Even xs)(h:∀y∈ys,y∈xs):Even ys:=ev.imp (λq y hy=>q y (h y hy)) λq y hy=>q y (h y hy)
theorem Tab.pass{a:AD}{ys:List V}(Tb:Tab w h μ a ys)(e:∀o,h.get? a=some o→h'.get? a=some o)(P:Pass h h' μ μ):Tab w h' μ a ys:=Tb.elim λes zz=>zz.elim λep zz=>zz.elim λt zz=>zz.elim λho zz=>zz.elim λT zz=>zz.elim λL zz=>zz.elim λR W=>⟨es,ep,t,e _ ho,T,L,R.pass P,W⟩
theorem jk{S I l:AD}{items:AS AB}{R:HD→AF→Prop}(hh:A.handled=none)(hu:A.units+10<Av)(hSI:S≠I)(hSl:S≠l)(hIl:l≠I)(hSm:S∉μ)(hIm:I∉μ)(h15:items.size<15)(rest:List V):
  ∀(i:AA) (acc ys:List V) (s:AF),i+rest.length=items.size→acc.length≤i→ys.Perm acc→Even (rest++acc)→Tab w s.heap μ S ys→s.heap.IsListIter I l i→s.heap.IsList l items→VRs s.heap μ rest (items.toList.drop i)→
   (∀h' tk ys',ys'.Perm (A8 acc rest)→Tab w h' μ S ys'→(∀b o,b≠S→b≠I→s.heap.get? b=some o→h'.get? b=some o)→R (.ok (.ret .none)) {s with heap:=h',toks:=tk})→
   Es (AU prog w) A (.builtin "set.update.loop" ⟨[.ref S,.ref I],[]⟩) R s:=by
 induction rest with
 | nil=>
  intro i acc ys s hi ha hp ev Tb hI hl rx h
  refine HE Zu ?_
  refine rwl (IC Sm _) ?_
  refine AG (m:=EU (.ref I)) (Oe (A:=A.in1) hh hI hl (Zv.mpr (Bk hi.symm)) λh' he=>AN ?_)
  exact h h' s.toks ys hp (Tb.pass (λo e=>he S o hSI e) ⟨⟨[],(Bo μ).symm,nofun⟩,λb vs n t=>IsTp.to t λo e=>he b o (λz=>Ju hI (z▸t)) e⟩) λb o _ hb e=>he b o hb e
 | cons x rest ih=>
  intro i acc ys s hi ha hp ev Tb hI hl rx h
  have hi2:i<items.size:=hi▸OI (DV _)
  refine HE Zu ?_
  refine rwl (IC Sm _) ?_
  refine rx.uncons λu us e1 xu xr=>?_
  have e1:=(KN (l:=items.toList) (i:=i) hi2).symm.trans e1
  have hu1:items[i]? =some u:=(I0 hi2).trans (AW some (List.cons.inj e1).1)
  have xr:VRs s.heap μ rest (items.toList.drop (i+1)):=(List.cons.inj e1).2▸xr
  clear e1 rx
  refine AG (m:=EU (.ref I)) (Of hI hl hu1 λh1 hI1 hs1=>?_)
  have P1:Pass s.heap h1 μ μ:=MW hs1 λvs t=>Ju hI t
  have Tb1:=Tb.pass (λo e=>(hs1.2 S hSI).trans e) P1
  have hl1:h1.IsList l items:=hl.elim λo zz=>zz.elim λe r=>⟨o,(hs1.2 l hIl).trans e,r⟩
  have ntS:∀vs,IsTp h1 S vs→As:=λvs t=>Tb1.elim λ_ zz=>zz.elim λ_ zz=>zz.elim λ_ zz=>zz.elim λho _=>Qj ho t
  have xr:=xr.pass P1
  have xu:=xu.pass P1
  have kp1:∀b o,b≠I→s.heap.get? b=some o→h1.get? b=some o:=λb o hb e=>(hs1.2 b hb).trans e
  clear hs1 Tb hl hI P1
  have hyl:ys.length<15:=Bi (hp.length_eq▸ha) (Eo hi2 h15)
  refine AG (Bj (cu (s:={s with heap:=h1}) (A:=A.in1) (Bi (ES (by decide) _) hu) Tb1 (ev.sub λy hy=>(Ak.mp hy).elim (λe=>e▸ .head _) λhy=>.tail _ (D8 _ (hp.mem_iff.mp hy))) hyl xu λh2 b tk hA=>?_))
  obtain⟨sb2,ys2,hor,Tb2⟩:=hA
  have P2:Pass h1 h2 μ μ:=MW sb2 ntS
  have hI2:h2.IsListIter I l (i+1):=hI1.elim λo zz=>zz.elim λe r=>⟨o,(sb2.2 I (Bq hSI)).trans e,r⟩
  have hl2:h2.IsList l items:=hl1.elim λo zz=>zz.elim λe r=>⟨o,(sb2.2 l (Bq hSl)).trans e,r⟩
  refine AN ⟨JC Sm _,?_⟩
  have fin:∀acc',A8 acc (x::rest)=A8 acc' rest→ys2.Perm acc'→acc'.length≤i+1→(∀y∈acc',y∈x::rest++acc)→Es (AU prog w) A (.builtin "set.update.loop" ⟨[.ref S,.ref I],[]⟩) R {s with heap:=h2,toks:=tk}:=λacc' he hp' hl' ev'=>ih (i+1) acc' ys2 {s with heap:=h2,toks:=tk} ((I6 _ _).trans hi) hl' hp' (ev.sub λy hy=>(BD.mp hy).elim (λhy=>.tail _ (D7 _ hy)) (ev' y)) Tb2 hI2 hl2 (xr.pass P2) λh' tk' ys' q1 q2 q3=>h h' tk' ys' (he▸q1) q2 λb o b1 b2 e=>q3 b o b1 b2 ((sb2.2 b b1).trans (kp1 b o b2 e))
  rcases hor with ⟨hm,rfl⟩ | ⟨hm,hp2⟩
  ·exact fin acc (AM (HZ.mpr (hp.mem_iff.mp hm))) hp (I7 ha) λy hy=>D8 _ hy
  ·exact fin (acc++[x]) (AO λq=>hm (hp.mem_iff.mpr (HZ.mp q))) (hp2.trans (hp.append_right _)) (by refine rwl Au ?_;exact CJ ha) λy hy=>(BD.mp hy).elim (D8 _) λhy=>Aw.mp hy▸ .head _
end
end Mine
namespace Mine
open PySem PySem.Calls PyProof.Rows PySem.SeqAt PySem.MeetsSeq PySem.SetTable
section
variable{w:Ae}{ca:AE→AD}{h₀ h h':AQ}{μ μ':List AD}{st st':St}{s:AF}{prog:Ar}{A:Aq}{E:AB→AF→Prop}
theorem lY{S:AD}{led:AL}(hl:led=true∨Ex w)(e:h.get? S=some {cls:=.type "set",dict:=none,data:=.set #[] 0 (.fresh 0 0 led)}):Tab w h μ S []:=
 ⟨#[],0,_,e,⟨rfl,rfl,λa b hab hb=>by simp [SetTable.fresh] at hb,.inl ⟨rfl,by simp⟩⟩,hl,SRs.nil,λi hi=>by simp at hi⟩
theorem IM(S:SR w ca h₀ s.heap st μ):s.heap.objs.size∉μ:=λhm=>by
 refine exE (S.here hm) λo e=>?_
 rw [C2] at e;cases e
theorem d8(a:AB){Q₁:AB→AF→Prop}
  (h:∀led:AL,(led=true∨Ex w)→Q₁ (.ref s.heap.objs.size) {s with heap:=s.heap.push {cls:=.type "set",dict:=none,data:=.set #[] 0 (.fresh 0 0 led)}}):
  Es (AU prog w) A (.call (.builtin "set.__new__") ⟨[.type "set",a],[]⟩) (wants Q₁ E) s:=by
 refine Sn ?_
 show AP _ A.in1 (do checkBuiltinCall "set.__new__" ⟨[.type "set",a],[]⟩;again (.builtin "set.__new__" ⟨[.type "set",a],[]⟩)) _ _ s
 refine AG (Og (PySem.F.newCall_set_1 a) (AN ⟨JC Zw _,HE PySem.F.entry_set_new ?_⟩))
 refine rwl (IC Zw _) ?_
 unfold BW.«set.__new__» BW.Frozenset.newClass
 have hsub:=sub_set_self
 obtain⟨hp,g,d,tk,os⟩:=s
 dsimp only
 wp_walk
 refine Oh (AN ?_)
 dsimp only
 simp only [newObj]
 refine AG (wpAny_alloc (AN ?_))
 refine AN (h _ ?_)
 show(!(AU prog w).w.params.followText "set-order")=true∨w.params.followText "set-order"=true
 cases hq:w.params.followText "set-order" with
 | true=>exact .inr rfl
 | false=>exact .inl (by show(!w.params.followText "set-order")=true;refine rwl hq ?_;rfl)
set_option maxHeartbeats 3200000 in
theorem jv{S l:AD}{led:AL}{xs:List V}{items:AS AB}{Q:Fin→AF→Prop}(hh:A.handled=none)(hu:A.units+10<Av)(hled:led=true∨Ex w)(hS:s.heap.get? S=some {cls:=.type "set",dict:=none,data:=.set #[] 0 (.fresh 0 0 led)})(hl:s.heap.IsList l items)
  (rx:VRs s.heap μ xs items.toList) (ev:Even xs) (h15:items.size<15) (hSl:S≠l) (hnS:S∉μ) (hnI:s.heap.objs.size∉μ)
  (h:∀h' tk ys,ys.Perm (A8 [] xs)→Tab w h' μ S ys→(∀b o,b≠S→s.heap.get? b=some o→h'.get? b=some o)→Q (.done (.ret .none)) {s with heap:=h',toks:=tk}):
  AP (AU prog w) A (BW.«set.__init__» ⟨[.ref S,.ref l],[]⟩) Q E s:=by
 have hT:s.TypeIs (.ref S) "set":=⟨_,hS,rfl⟩
 have hl1:=hl
 obtain⟨⟨ocls,odict,odata,oslots⟩,hol',rfl,nl,rfl⟩:=hl
 have hsls:=PySem.F.sub_list_set
 have hslf:=PySem.F.sub_list_frozenset
 have hne:(Gy "list"==Gy "dict")=false:=by decide
 unfold BW.«set.__init__» noKeywords BW.Frozenset.updateFrom
 generalize hPI:GP=PI
 wp_walk
 subst hPI
 refine J9 hl1 (AG (wpAny_runValue ?_))
 have nw:s.heap.get? s.heap.objs.size=none:=C2 _
 have ne:∀{b o},s.heap.get? b=some o→b≠s.heap.objs.size:=λe z=>by replace e:=nw▸z▸e;cases e
 have kp:∀b o,s.heap.get? b=some o→(s.heap.push {cls:=.type "list_iterator",data:=.fields #[.ref l,.int 0 0]}).get? b=some o:=λb o e=>Az _ e
 refine jk (S:=S) (I:=s.heap.objs.size) (l:=l) (items:=items) hh hu (ne hS) hSl (ne hol') hnS hnI h15 xs 0 [] [] {s with heap:=s.heap.push {cls:=.type "list_iterator",data:=.fields #[.ref l,.int 0 0]}} (by(refine rwl (CI ..) (rwr rx.length (rwl EP ?_));rfl)) (BL _) (Fj _) (by refine rwl (Bo ..) ?_;exact ev)
  (lY hled (kp _ _ hS)) ⟨_,Bb _ rfl,rfl,rfl⟩ (hl1.elim λo zz=>zz.elim λe r=>⟨o,kp _ _ e,r⟩) (by refine rwl List.drop_zero ?_;exact rx.pass (Jt kp)) λh' tk ys q1 q2 q3=>?_
 exact AN (AN (h h' tk ys q1 q2 λb o hb e=>q3 b o hb (ne e) (kp b o e)))
theorem XM{M:Ej}{c:Code}{R:HD→AF→Prop}(h:Es M A c (wants (λv s=>R (.ok (.ret v)) s) (λe s=>R (.error e) s)) s):Es M A c R s:=codeAny_mono h λr s hr=>by
 cases r with
 | error e=>exact hr
 | ok fl=>cases fl with
  | ret v=>exact hr
  | _=>exact hr.elim
set_option maxHeartbeats 3200000 in
theorem k7{l:AD}{xs:List V}{items:AS AB}{Q:AB→AF→Prop}(hh:A.handled=none)(hu:A.units+20<Av)(S:SR w ca h₀ s.heap st μ)(hl:s.heap.IsList l items)(rx:VRs s.heap μ xs items.toList)(ev:Even xs)(h15:items.size<15)
  (h:∀(h':AQ) (tk:AA) (ys:List V),ys.Perm (A8 [] xs)→Tab w h' μ s.heap.objs.size ys→(∀b o,s.heap.get? b=some o→h'.get? b=some o)→Q (.ref s.heap.objs.size) {s with heap:=h',toks:=tk}):
  AP (AU prog w) A (call (.type "set") [.ref l]) Q E s:=by
 refine CU ID.mro λc tl hmro=>?_
 have hmade:=ID.made
 have hsub:=ID.sub
 refine wpAny_call (Sn ?_)
 refine AN ⟨Code.quiet_builtin _ (by decide+kernel),HE PySem.F.entry_type_call ?_⟩
 refine rwl (Aq.under_plain (weight_type_call_type "set" [.ref l] []) rfl) ?_
 have h1:=ID.notType
 have h2:=ID.canCreate
 have hct:=PySem.F.typeCall_set_1 (.ref l)
 repeat (any_goals (first | assumption | wp_step))
 refine XM (d8 (.ref l) λled hled=>?_)
 have hS:(s.heap.push {cls:=.type "set",dict:=none,data:=.set #[] 0 (.fresh 0 0 led)}).get? s.heap.objs.size=some {cls:=.type "set",dict:=none,data:=.set #[] 0 (.fresh 0 0 led)}:=Bb _ rfl
 have kp:∀b o,s.heap.get? b=some o→(s.heap.push {cls:=.type "set",dict:=none,data:=.set #[] 0 (.fresh 0 0 led)}).get? b=some o:=λb o e=>Az _ e
 have hz:(s.heap.push {cls:=.type "set",dict:=none,data:=.set #[] 0 (.fresh 0 0 led)}).objs.size=s.heap.objs.size+1:=Dr ..
 have hb:∀{b:AD} {o:Obj},s.heap.get? b=some o→b≠s.heap.objs.size:=λe=>BP (BQ e)
 revert hS kp hz
 refine gen (s.heap.push {cls:=.type "set",dict:=none,data:=.set #[] 0 (.fresh 0 0 led)}) λH hS kp hz=>?_
 have hT:So {s with heap:=H} (.ref s.heap.objs.size) "set":=⟨_,hS,rfl⟩
 have hli:=ID.init.lookup
 have hbi:=ID.init.bind (.ref s.heap.objs.size)
 dsimp only
 repeat (any_goals (first | assumption | wp_step))
 refine XM (codeAny_call_builtin ID.init.plain PySem.F.entry_set_init (PySem.check_set_init_1 hT (jv (s:={s with heap:=H}) (A:=A.in1.in1) hh (by show A.units+1+1+10<Av;omega) hled hS (hl.elim λo zz=>zz.elim λe r=>⟨o,kp _ _ e,r⟩) (rx.pass (Jt kp)) ev h15 (hl.elim λ_ zz=>zz.elim λe _=>(hb e).symm) (IM S) (λhm=>?_) λh' tk ys q1 q2 q3=>?_)))
 ·refine exE (S.here hm) λo e=>?_
  exact absurd (BQ e) (Fh (hz▸Et _))
 ·have kq:∀b o,s.heap.get? b=some o→h'.get? b=some o:=λb o e=>q3 b o (hb e) (kp b o e)
  clear q3 kp hz
  dsimp only
  repeat (any_goals (first | assumption | wp_step))
  exact h _ _ _ q1 q2 kq
end
end Mine
namespace Mine
open PySem PySem.Calls PyProof.Rows PySem.SeqAt PySem.MeetsSeq PySem.SetTable
theorem VC:Slot "set" "__iter__" "set.__iter__":=
 .of (owner:="set") (n:="__iter__") (by refine rwl (Lq ..) (rwl OC ?_);kernel_rfl) (by decide+kernel) (by decide+kernel) (by decide+kernel)
  (by first | exact .inl (by decide+kernel) | exact .inr (by decide+kernel)) (by refine rwl (Sp ..) ?_;kernel_rfl)
theorem M6:Slot "set_iterator" "__next__" "set_iterator.__next__":=
 .of (owner:="set_iterator") (n:="__next__") (by refine rwl (Lq ..) (rwl OC ?_);kernel_rfl) (by decide+kernel) (by decide+kernel) (by decide+kernel)
  (by first | exact .inl (by decide+kernel) | exact .inr (by decide+kernel)) (by refine rwl (Sp ..) ?_;kernel_rfl)
theorem jo:entryFor table "set.__iter__"=some BW.«frozenset.__iter__»:=
 entryFor_alias (id':="frozenset.__iter__") (by kernel_rfl) rfl (by decide+kernel) (by kernel_rfl)
theorem dR:entryFor table "set_iterator.__next__"=some BW.«set_iterator.__next__»:=entryFor_of_fast (by kernel_rfl)
theorem ff(a:AB):argsOk "set.__iter__" ⟨[a],[]⟩:=by unfold argsOk;kernel_rfl
theorem iH(a:AB):argsOk "set_iterator.__next__" ⟨[a],[]⟩:=by unfold argsOk;kernel_rfl
theorem iC:OB (.type "set") "__len__"=pure (some (.builtin "set.__len__")):=by refine rwl (Lq ..) (rwl OC ?_);kernel_rfl
noncomputable def He(h:AQ)(I S:AD)(first:AB)(i n ep:AA):Prop:=h.get? I=some {cls:=.type "set_iterator",data:=.fields #[first,.int i 0,.ref S,.int n 0,.int ep 0]}
noncomputable def SetRoad(w:Ae)(h:AQ)(es:AS (Int×AB))(ep S:AA)(t:SetTable)(zs:List AB)(first:AA→AB)(bad:List AD):Prop:=
 (Ex w∧(∀i,first i= .int (0:AA) 0)∧zs=(IE (w.params.setOrder S ep) es).toList.map (·.2))∨
 (¬Ex w∧(t.led=true∨es.size=0)∧((!t.plain&&decide (es.size>1))=false)∧(∀i,i≤es.size→∃sl:AA,first i= .int sl 0∧BX t.place sl=i∧(i<t.place.size→first (i+1)= .int ((t.place.getD i 0+1:AA)) 0))∧zs=es.toList.map (·.2))∨
 (¬Ex w∧∃(T:AD) (places:List AA),(∀i,first i= .ref T)∧(∃o n,h.get? T=some o∧o.data= .seq (J5 (places.map λ(k:AA)=>(.int k 0:AB))) n)∧(∀k∈places,k<es.size)∧(zs=places.map λk=>(es.getD k (0,.none)).2)∧T∉bad)
section
variable{w:Ae}{ca:AE→AD}{h₀ h h':AQ}{μ μ':List AD}{st st':St}{s:AF}{prog:Ar}{A:Aq}{E:AB→AF→Prop}
theorem MS{Q:AL→AF→Prop}(h:Q (w.params.followText "set-order") s):AP (AU prog w) A setsByText Q E s:=by
 unfold setsByText
 exact AG (Oh (AN h))
theorem Qo{α:Type}{M:Ej}{Q:α→AF→Prop}(hh:A.handled=none)(h:∀h' e,(∀b o,s.heap.get? b=some o→h'.get? b=some o)→(∃o,h'.get? e=some o∧o.cls= .type "StopIteration")→E (.ref e) {s with heap:=h'}):AP M A (do raiseNew (←newExc (.type "StopIteration") []):CH α) Q E s:=by
 refine AG ?_
 unfold newExc newTuple
 refine AG (Hr ?_ (by size_fits))
 refine AG (m:=firstArgMember _ _) (Og (a:=I2) (by first | rfl | (simp only [firstArgMember];rfl)) ?_)
 refine Hr (wpAny_raiseNew_none hh (h _ _ (λb o e=>Az _ (Az _ e)) ⟨_,Bb _ rfl,rfl⟩)) (by size_fits)
theorem lZ{I S:AD}{i ep:AA}{es:AS (Int×AB)}{t:SetTable}{zs:List AB}{first:AA→AB}{bad:List AD}{Q:AH AB→AF→Prop}(hh:A.handled=none)(hI:He s.heap I S (first i) i es.size ep)(ho:s.heap.get? S=some (Ey es ep t))(hf:t.fits es.size=true)
  (R:SetRoad w s.heap es ep S t zs first bad) (hi:i≤zs.length) (hQ:∀x h',zs[i]? =some x→He h' I S (first (i+1)) (i+1) es.size ep→C7 I s.heap h'→Q (some x) {s with heap:=h'}) (hE:∀h',zs[i]? =none→FF I s.heap h'→Q none {s with heap:=h'}):
  AP (AU prog w) A (EU (.ref I)) Q E s:=by
 have hT:s.TypeIs (.ref I) "set_iterator":=⟨_,hI,rfl⟩
 refine AG (Oi (G5 (name:=AK "__next__") hT M6
  (Dq M6 hT dR ?_ (iH _))))
 refine AG (AN (AG (wpAny_fieldsOf hI rfl ?_)))
 refine AG (AG (Er ho rfl hf (AN (A5 (λz=>absurd z (by simp)) λ_=>?_))))
 have upd1:∀{h:AQ} {f f':AB} {k:AA},He h I S f k es.size ep→He (h.update I (L6 λvs=>vs.setIfInBounds 0 f')) I S f' k es.size ep:=λhq=>GI _ hq rfl
 have upd2:∀{h:AQ} {f:AB} {k k':AA},He h I S f k es.size ep→He (h.update I (L6 λvs=>vs.setIfInBounds 1 (.int k' 0))) I S f k' es.size ep:=λhq=>GI _ hq rfl
 have fin1:∀{x:AB} {next:AA} {E':AB→AF→Prop},zs[i]? =some x→first (i+1)= .int next 0→AP (AU prog w) A.in1 (do
   Oj (.ref I) 0 (CK next)
   Oj (.ref I) 1 (CK ((i:Int)+1))
   ret x) (λfin s'=>∃v,fin=Sq (Flow.ret v)∧AP (AU prog w) A (pure (some v)) Q E s') E' s:=λ{x next E'} hx hn=>AG (Fn hI rfl (by simp) (AG (Fn (upd1 (f':=CK next) hI) rfl (by simp)
   (AN ⟨x,rfl,AN (hQ x _ hx (hn▸upd2 (k':=i+1) (upd1 (f':=CK next) hI)) ((DF ..).trans (DF ..)))⟩))))
 have stop:∀{h':AQ},zs[i]? =none→FF I s.heap h'→AP (AU prog w) A.in1 (do raiseNew (←newExc (.type "StopIteration") [])) (λfin s'=>∃v,fin=Sq (Flow.ret v)∧AP (AU prog w) A (pure (some v)) Q E s')
   (λe s'=>AP (AU prog w) A (do
     let __do_lift ←isInstance e (Gy "StopIteration")
     if __do_lift=true then pure none else throw e) Q E s') {s with heap:=h'}:=λ{h'} hx hk=>Qo hh λh2 e k he=>AG (Ol (T:="StopIteration") (b:=true) he Sr (AN (hE _ hx λb o hb q=>k b o (hk b o hb q))))
 have upd:∀{h:AQ} {g:AS AB→AS AB},FF I s.heap h→FF I s.heap (h.update I (L6 g)):=λhk=>hk.trans (DF ..).extBut
 have id0:FF I s.heap s.heap:=λ_ _ _ e=>e
 rcases R with ⟨hb,hfi,hz⟩ | ⟨hb,hled,hdr,hfi,hz⟩ | ⟨hb,T,places,hfi,⟨oT,nT,hoT,hdT⟩,hpl,hz,hbd⟩
 ·have hz':zs[i]? =((IE (w.params.setOrder S ep) es)[i]?).map (·.2):=by(refine rwl hz (rwl (DU) (rwl (Hw) ?_));rfl)
  refine rwl (hfi i) ?_
  refine AG (m:=setNext S _ _ _) (AG (Er ho rfl hf (AG (MS (A5 (λ_=>?_) λz=>absurd hb z)))))
  refine A5 (λz=>absurd z (by simp)) λ_=>?_
  refine AG (AG (Er ho rfl hf (AG (MS (A5 (λ_=>?_) λz=>absurd hb z)))))
  refine AG (Oh (AN (AN ?_)))
  show AP _ _ (match IA (λe=>(e.2,(0:AA))) (IE (w.params.setOrder S ep) es)[i]? with | some (x,next)=>_ | none=>_) _ _ s
  cases hp:(IE (w.params.setOrder S ep) es)[i]? with
  | none=>exact AG (Fn hI rfl (by simp) (stop (hz'.trans (AW _ hp)) (upd id0)))
  | some e=>exact fin1 (hz'.trans (AW _ hp)) (hfi (i+1))
 ·have hz':zs[i]? =(es[i]?).map (·.2):=by(refine rwl hz (rwl (DU) (rwl (Hw) ?_));rfl)
  have hsz:t.place.size=es.size:=CZ.mp (Ac.mp hf).1
  refine Al (hfi i (by(replace hi:=hz▸hi;rewrite [AY] at hi;replace hi:=EP▸hi);exact hi)) λsl hsl hbl hnext=>?_
  refine rwl hsl ?_
  refine AG (m:=setNext S _ _ _) (AG (Er ho rfl hf (AG (MS (A5 (λz=>absurd z hb) λ_=>?_)))))
  refine A5 (λhq=>absurd (show(!t.plain&&decide (es.size>1))=true from hq) (hdr▸DD)) (λ_=>?_)
  refine AG (m:=(if(!t.led&& !es.isEmpty)=true then Sl "set:maker-not-led" else pure ():CH Ek)) (A5 (λz=>?_) λ_=>AN (AN ?_))
  ·exact absurd z (by rcases hled with q | q<;>simp [q,AS.isEmpty])
  refine rwl (show((sl:AA):Int).toNat=sl from rfl) (rwl hbl ?_)
  cases he:es[i]? with
  | none=>exact AG (Fn hI rfl (by simp) (stop (hz'.trans (AW _ he)) (upd id0)))
  | some e=>
   have hl:i<t.place.size:=hsz.symm▸(OS.mp he).1
   dsimp only
   refine rwl (PF hl) ?_
   exact fin1 (hz'.trans (AW _ he)) (hnext hl)
 ·have hz':zs[i]? =(places[i]?).map λk=>(es.getD k (0,.none)).2:=by(refine rwl hz (rwl (DU) ?_);rfl)
  refine rwl (hfi i) ?_
  refine AG (m:=Lx (.ref T)) (AG (Ly hoT ?_))
  refine rwl hdT ?_
  refine AN ?_
  have hpk:(J5 (places.map λ(k:AA)=>(.int k 0:AB)))[((i:AA):Int).toNat]? =(places[i]?).map λ(k:AA)=>(.int k 0:AB):=En.trans DU
  dsimp only
  refine rwl hpk ?_
  cases hk:places[i]? with
  | none=>exact AG (Fn hI rfl (by simp) (AG (Fn (upd1 hI) rfl (by simp) (stop (hz'.trans (AW _ hk)) (upd (upd id0))))))
  | some k=>
   have eK:es[((k:AA):Int).toNat]? =some (es.getD k (0,.none)):=by
    show es[k]? =_
    simp [GN,hpl k (Bx hk)]
   refine AG (m:=setNextDrawn S _ _) (AG (Er ho rfl hf (A5 (λz=>absurd z (by simp)) λ_=>?_)))
   dsimp only
   refine rwl eK ?_
   refine AN (AG (Fn hI rfl (by simp) (AN ⟨_,rfl,AN (hQ _ _ (hz'.trans (AW _ hk)) ?_ (DF ..))⟩)))
   exact hfi (i+1)▸upd2 (k':=i+1) (hfi i▸hI)
end
end Mine
namespace Mine
open PySem PySem.Calls PyProof.Rows PySem.SeqAt PySem.MeetsSeq PySem.SetTable
theorem Tx{α:Type}{l:List α}:∀{i:AA} (h:i<l.length),(l[i]::l.eraseIdx i).Perm l:=by
 induction l with
 | nil=>exact λh=>nomatch h
 | cons x l ih=>
  intro i h
  cases i with
  | zero=>exact Fj _
  | succ i=>exact(OL x _ _).trans ((ih (GO h)).cons x)
theorem k8{α:Type}(next:AA→AA)(fuel:AA):∀(k:AA) (left:List α) (out:AS α),left.length=fuel→(IE.go next fuel k left out).toList.Perm (out.toList++left):=by
 induction fuel with
 | zero=>exact λk left out h=>by refine rwl (Ss h) (rwl (Bo ..) ?_);exact Fj _
 | succ fuel ih=>
  intro k left out h
  have hl:next k%left.length<left.length:=H4 _ (h▸DV _)
  show(match left[next k%left.length]? with | some x=>IE.go next fuel (k+1) (left.eraseIdx (next k%left.length)) (out.push x) | none=>out).toList.Perm _
  refine rwl (Ba hl) ?_
  refine(ih (k+1) _ _ (by refine rwl (Zx hl) (rwl h ?_);rfl)).trans ?_
  refine rwl AS.toList_push (rwl (Dt ..) ?_)
  exact ZR.append_left _ (Tx hl)
theorem bJ{α:Type}(next:AA→AA)(xs:AS α):(IE next xs).toList.Perm xs.toList:=by
 have:=k8 next xs.size 0 xs.toList #[] (by simp)
 unfold IE
 simpa using this
section
variable{w:Ae}{ca:AE→AD}{h₀ h h':AQ}{μ μ':List AD}{st st':St}{s:AF}{prog:Ar}{A:Aq}{E:AB→AF→Prop}
theorem i3{M:Ej}{src:Source}{n:AA}{Q:AA→AF→Prop}(hn:n≠0)(h:∀i d,i<n→Q i {s with drawn:=d}):AP M A (choose src n) Q E s:=λΓ p _=>by
 show CH.wp M Γ (.choose src n .pure) _ _ _ _
 refine rwl (CH.wp_choose ..) ?_
 exact⟨hn,h _ _ (H4 _ (AA.pos_of_ne_zero hn))⟩
theorem mJ{α:Type}{M:Ej}(n:AA):∀(xs:List α) (s:AF) (Q:List α→AF→Prop),xs.length=n→(∀ys d,ys.Perm xs→Q ys {s with drawn:=d})→AP M A (drawOrder n xs) Q E s:=by
 induction n with
 | zero=>exact λxs s Q hl h=>AN (h [] s.drawn (Ss hl▸Fj _))
 | succ n ih=>
  intro xs s Q hl h
  cases xs with
  | nil=>exact nomatch hl
  | cons x xs=>
   show AP M A (choose .order (x::xs).length>>= _) Q E s
   refine AG (i3 (Zy _) λi d hi=>?_)
   refine rwl (Ba hi) ?_
   refine AG (ih _ _ _ (by refine rwl (Zx hi) (rwl hl ?_);rfl) λys d2 hp=>AN ?_)
   exact h _ d2 ((hp.cons _).trans (Tx hi))
theorem Dw{h:AQ}{a:AD}(q:∀o,h.get? a=some o→As):h.get? a=none:=by
 cases e:h.get? a with
 | none=>rfl
 | some o=>exact(q o e).elim
theorem mM{S:AD}{es:AS (Int×AB)}{ep:AA}{t:SetTable}{D:AD}{Q:AB→AF→Prop}(ho:s.heap.get? S=some (Ey es ep t))(hf:t.fits es.size=true)(hl:t.led=true∨Ex w)(hr:Ris t.place)(hD:∃o,s.heap.get? D=some o)(hn:es.size≤100)
  (h:∀h' d I first zs,(∀b o,s.heap.get? b=some o→h'.get? b=some o)→s.heap.get? I=none→He h' I S (first 0) 0 es.size ep→zs.Perm (es.toList.map (·.2))→SetRoad w h' es ep S t zs first [I,D]→Q (.ref I) {s with heap:=h',drawn:=d}):
  AP (AU prog w) A (GP (.ref S)) Q E s:=by
 have hT:s.TypeIs (.ref S) "set":=⟨_,ho,rfl⟩
 refine Zz hT VC (Dq VC hT jo ?_ (ff _))
 unfold BW.«frozenset.__iter__»
 refine AG (m:=BW.Frozenset.slot0 "__iter__" ⟨[.ref S],[]⟩) (AN ?_)
 refine AG (m:=Z0 S) ?_
 unfold Z0 setEntries
 refine AG (AG (Er ho rfl hf (AN (AN ?_))))
 dsimp only
 refine AG (m:=setDrawn S) ?_
 unfold setDrawn
 refine AG (Er ho rfl hf ?_)
 dsimp only
 refine AG (MS ?_)
 refine AN ?_
 have hlt:=BQ ho
 (refine exE hD ?_;clear hD;intro oD eD)
 have hDlt:=BQ eD
 have plain:∀{first:AA→AB} {zs:List AB},first 0= .int (0:AA) 0→zs.Perm (es.toList.map (·.2))→(∀h',SetRoad w h' es ep S t zs first [s.heap.objs.size,D])→AP (AU prog w) A.in1 (do ret (←newFields "set_iterator" [CK 0,CK 0,.ref S,CK es.size,CK (←setEpoch S)]))
   (λfin s'=>∃v,fin=Sq (Flow.ret v)∧∃T' r,s'.TypeIs v T'∧OB (.type T') "__next__"=pure (some r)∧Q v s') E s:=λ{first zs} hf0 hp hR=>by
  refine AG (Ob ho rfl hf ?_)
  refine AG (Hr (AN ⟨_,rfl,"set_iterator",_,⟨_,Bb _ rfl,rfl⟩,M6.lookup,?_⟩))
  refine h _ s.drawn s.heap.objs.size first zs (λb o e=>Az _ e) (C2 _) ?_ hp (hR _)
  refine rwl hf0 ?_
  exact Bb _ rfl
 by_cases hb:Ex w
 ·refine rwl (show w.params.followText "set-order"=true from hb) ?_
  simp only [Ry,AL.false_and,Fc,Fe]
  refine AG (AN ?_)
  exact plain (first:=λ_=>.int (0:AA) 0) rfl ((bJ (w.params.setOrder S ep) es).map (·.2)) λh'=>.inl ⟨hb,λ_=>rfl,rfl⟩
 ·have hbf:w.params.followText "set-order"=false:=by
   cases q:w.params.followText "set-order" with
   | true=>exact absurd q hb
   | false=>rfl
  refine rwl hbf ?_
  have hled:=hl.resolve_right hb
  have hsz:t.place.size=es.size:=by
   simp only [SetTable.fits,De,CZ] at hf
   exact hf.1
  by_cases hd:(!t.plain&&decide (es.size>1))=true
  ·refine A5 (λ_=>?_) (λhq=>absurd (show(!false&&(!t.plain&&decide (es.size>1)))=true from AW (!false&& ·) hd) hq)
   refine AG (mJ es.size (Ab es.size) s _ (by simp) λys d hp=>?_)
   refine AG (SY ?_ (by have:=hp.length_eq;simp at this;refine rwl (AY ..) (rwl this (rwl Ep ?_));omega))
   have ho2:(s.heap.push {cls:=.type "tuple",data:=.seq (ys.map λ(i:AA)=>CK i).toArray}).get? S=some (Ey es ep t):=Az _ ho
   refine AG (Ob ho2 rfl hf ?_)
   refine AG (Hr (AN ⟨_,rfl,"set_iterator",_,⟨_,Bb _ rfl,rfl⟩,M6.lookup,?_⟩))
   refine h _ d (s.heap.push {cls:=.type "tuple",data:=.seq (ys.map λ(i:AA)=>CK i).toArray}).objs.size (λ_=>.ref s.heap.objs.size) (ys.map λk=>(es.getD k (0,.none)).2) (λb o e=>Az _ (Az _ e)) ?_ (Bb _ rfl) ?_ ?_
   ·refine rwl (Dr ..) ?_
    exact Dw λo e=>by
     have h3:@LT.lt AA _ (s.heap.objs.size+1) s.heap.objs.size:=BQ e
     omega
   ·refine(hp.map _).trans (OO ?_)
    refine Za (by simp) λi h1 h2=>?_
    simp at h1 h2
    simp [GN,h1]
   ·refine .inr (.inr ⟨hb,s.heap.objs.size,ys,λ_=>rfl,⟨_,0,Az _ (Bb _ rfl),rfl⟩,λk hk=>Ca.mp (hp.mem_iff.mp hk),rfl,?_⟩)
    refine rwl (Dr ..) ?_
    simp only [Ak,Dm,or_false,not_or]
    exact⟨BP (DZ _),Fm hDlt⟩
  ·have hd':(!t.plain&&decide (es.size>1))=false:=by simpa using hd
   refine A5 (λhq=>absurd (show(!t.plain&&decide (es.size>1))=true from hq) hd) (λ_=>?_)
   refine AG (AN ?_)
   refine plain (first:=λi=>.int ((if i=0 then 0 else t.place.getD (i-1) 0+1:AA)) 0) (by simp) (Fj _) λh'=>.inr (.inl ⟨hb,.inl hled,hd',λi hile=>?_,rfl⟩)
   by_cases hi:i=0
   ·subst hi
    exact⟨0,by simp,jP hr,λ_=>by simp⟩
   ·have hi2:i-1<t.place.size:=by omega
    refine⟨t.place.getD (i-1) 0+1,by dsimp only;(refine rwl (AO hi) ?_;rfl),?_,λ_=>by simp⟩
    refine rwl (fc hr hi2) ?_;omega
end
end Mine
namespace Mine
open PySem PySem.Calls PyProof.Rows PySem.SeqAt PySem.MeetsSeq PySem.SetTable
theorem bX:splitId "set.__len__"=some ("set","__len__"):=by decide+kernel
theorem lC:isSubtype (.type "set") (.type "set")=pure true:=by refine rwl (Sp ..) ?_;kernel_rfl
section
variable{w:Ae}{ca:AE→AD}{h₀ h h':AQ}{μ μ':List AD}{st st':St}{s:AF}{prog:Ar}{A:Aq}{E:AB→AF→Prop}
theorem Ge{a b:AD}{o:Obj}(e:h.get? a=some o)(n:h.get? b=none):b≠a:=by rintro rfl;replace n:=e▸n;cases n
theorem SetRoad.keep{es:AS (Int×AB)}{ep S:AA}{t:SetTable}{zs:List AB}{first:AA→AB}{bad:List AD}(x:SetRoad w h es ep S t zs first bad)(k:∀b o,b∉bad→h.get? b=some o→h'.get? b=some o):SetRoad w h' es ep S t zs first bad:=by
 rcases x with x | x | ⟨hb,T,places,hfi,⟨oT,nT,hoT,hdT⟩,hpl,hz,hbd⟩
 ·exact .inl x
 ·exact .inr (.inl x)
 ·exact .inr (.inr ⟨hb,T,places,hfi,⟨oT,nT,k T oT hbd hoT,hdT⟩,hpl,hz,hbd⟩)
theorem SetRoad.len{es:AS (Int×AB)}{ep S:AA}{t:SetTable}{zs:List AB}{first:AA→AB}{bad:List AD}(x:SetRoad w h es ep S t zs first bad)(hp:zs.Perm (es.toList.map (·.2))):zs.length=es.size:=by
 have:=hp.length_eq
 simpa using this
theorem az{S I D:AD}{es:AS (Int×AB)}{ep:AA}{t:SetTable}{zs:List AB}{first:AA→AB}{res:AB}{R:HD→AF→Prop}(hh:A.handled=none)(hf:t.fits es.size=true)(hz100:zs.length≤100)(hDI:D≠I)(hDS:D≠S)(hSI:S≠I):
  ∀(k i:AA) (s:AF) (acc:List AB) (c:AA),i≤zs.length→zs.length<i+k→acc.length=i→He s.heap I S (first i) i es.size ep→s.heap.get? S=some (Ey es ep t)→SetRoad w s.heap es ep S t zs first [I,D]→s.heap.get? D=some (EK acc c)→
   (∀h' c',(∀b o,b≠D→b≠I→s.heap.get? b=some o→h'.get? b=some o)→h'.get? D=some (EK (acc++zs.drop i) c')→R (.ok (.ret res)) {s with heap:=h'})→
   Es (AU prog w) A (.builtin "list.extend.loop" ⟨[.ref D,.ref I,res],[]⟩) R s:=by
 intro k
 induction k with
 | zero=>exact λi s acc c hi hk=>absurd hk (Fh hi)
 | succ k ih=>
  intro i s acc c hi hk ha hI ho Rd hD h
  refine HE PySem.F.entry_extend_loop ?_
  refine rwl (IC Su _) ?_
  refine AG (m:=EU (.ref I)) (lZ (A:=A.in1) hh hI ho hf Rd hi (λx h1 hx hI1 hs1=>?_) λh' hx he=>AN (h h' c (λb o _ hb e=>he b o hb e) ?_))
  ·have hl:i<zs.length:=(BA.mp hx).1
   have hD1:h1.get? D=some (EK acc c):=(hs1.2 D hDI).trans hD
   refine AG (m:=ZV (.ref D) (·.push x)) (Sv hD1 rfl ?_ (by simp [Ep];omega) (by simp [Ep];omega))
   have sb:=DF h1 D (DG (·.push x))
   obtain⟨c2,hc2⟩:∃c2,(h1.update D (DG (·.push x))).get? D=some (EK (acc++[x]) c2):=by
    have hc:=Lv hD1 (·.push x)
    rw [ZJ] at hc
    exact⟨_,hc⟩
   refine AN ⟨JC Su _,ih (i+1) {s with heap:=h1.update D (DG (·.push x))} (acc++[x]) c2 hl (by omega) (by refine rwl Au (rwl ha ?_);rfl) ((sb.2 I (Bq hDI)).trans hI1) ((sb.2 S (Bq hDS)).trans ((hs1.2 S hSI).trans ho))
    (Rd.keep λb o hb e=>?_) hc2 λh' c' q1 q2=>h h' c' (λb o b1 b2 e=>q1 b o b1 b2 ((sb.2 b b1).trans ((hs1.2 b b2).trans e))) ?_⟩
   ·exact(sb.2 b λz=>hb (z▸ .tail _ (.head _))).trans ((hs1.2 b λz=>hb (z▸ .head _)).trans e)
   ·refine rwl (List.drop_eq_getElem?_toList_append) (rwl hx ?_)
    refine rwl q2 (rwl (Dt ..) ?_);rfl
  ·refine rwl (J7 (L7.mp hx)) (rwl (Bo ..) ?_)
   exact he D _ hDI hD
theorem fN{S:AD}{es:AS (Int×AB)}{ep:AA}{t:SetTable}{Q:List AB→AF→Prop}(hh:A.handled=none)(ho:s.heap.get? S=some (Ey es ep t))(hf:t.fits es.size=true)(hl:t.led=true∨Ex w)(hr:Ris t.place)(hn:es.size≤100)
  (h:∀h' d zs,zs.Perm (es.toList.map (·.2))→(∀b o,s.heap.get? b=some o→h'.get? b=some o)→Q zs {s with heap:=h',drawn:=d}):AP (AU prog w) A (Lw (.ref S)) Q E s:=by
 unfold Lw
 refine AG (wpAny_runValue (HE PySem.F.entry_proto_collect ?_))
 refine rwl (IC PySem.F.plain_proto_collect _) ?_
 show AP _ A.in1 (newList []>>= λl=>again (.builtin "list.__iadd__" ⟨[l,.ref S],[]⟩)) _ _ s
 refine AG (Hr ?_)
 refine AN ⟨JC Z1 _,HE PySem.F.entry_list_iadd ?_⟩
 refine rwl (IC Z1 _) ?_
 generalize hD:s.heap.objs.size=D
 obtain⟨s1,hs1⟩:∃s1,({s with heap:=s.heap.push {cls:=.type "list",data:=.seq ([]:List AB).toArray}}:AF)=s1:=⟨_,rfl⟩
 refine rwl hs1 ?_
 have kp:∀b o,s.heap.get? b=some o→s1.heap.get? b=some o:=λb o e=>by refine rwr hs1 ?_;exact Az _ e
 have eD:s1.heap.get? D=some (EK [] 0):=by refine rwr hs1 (rwr hD ?_);exact Bb _ rfl
 have ho1:=kp _ _ ho
 have hDS:D≠S:=by refine rwr hD ?_;exact Fm (BQ ho)
 have hT:s1.TypeIs (.ref S) "set":=⟨_,ho1,rfl⟩
 show AP _ A.in1 (Z2 (.ref D) (.ref S) (.ref D)) _ _ _
 unfold Z2
 refine AG (I3 hT ?_)
 have hsr:Z3 (.ref D) (.ref S)=false:=by simp [Z3,hDS]
 refine rwl hsr (rwl (AO (by decide)) ?_)
 refine AG (mM (D:=D) ho1 hf hl hr ⟨_,eD⟩ hn λh2 d I first zs k2 nI hI hp Rd=>?_)
 have ho2:=k2 _ _ ho1
 have eD2:=k2 _ _ eD
 have hT2:So {s1 with heap:=h2,drawn:=d} (.ref S) "set":=⟨_,ho2,rfl⟩
 refine AG (Bj ?_)
 unfold BW.List.listLengthHint
 refine AG (Nz hT2 iC ?_)
 dsimp only
 refine rwl bX ?_
 dsimp only
 refine AG (Ol (b:=true) hT2 lC ?_)
 refine rwl (AO (by decide)) ?_
 refine A5 (λ_=>?_) (λhq=>absurd rfl hq)
 refine AG (I3 hT2 ?_)
 refine AN ?_
 refine A5 (λ_=>?_) (λhq=>absurd rfl hq)
 refine AG (Dc ?_)
 refine AG (m:=Z4 (.ref D)) ?_
 unfold Z4
 have hv:∀{g:AS AB→AS AB} {h:AQ} {xs:List AB} {c:AA} {ys:List AB},h.get? D=some (EK xs c)→g xs.toArray=ys.toArray→∃c',(h.update D (DG g)).get? D=some (EK ys c'):=λ{g h xs c ys} e eg=>by
  have hc:=Lv e g
  replace hc:=eg▸hc
  exact⟨_,hc⟩
 refine AG (Sv eD2 rfl ?_ (by simp) (by simp [Ep]))
 refine exE (hv (g:=(·.push .none)) (ys:=[.none]) eD2 rfl) λc3 eD3=>?_
 refine Sv eD3 rfl ?_ (by simp [Ep]) (by simp [Ep])
 refine exE (hv (g:=(·.pop)) (ys:=[]) eD3 rfl) λc4 eD4=>?_
 have sb:=(DF h2 D (DG (·.push .none))).trans (DF (h2.update D (DG (·.push .none))) D (DG (·.pop)))
 have hDI:D≠I:=Ge eD nI |>.symm
 have hSI:S≠I:=Ge ho1 nI |>.symm
 have hlen:zs.length=es.size:=Rd.len hp
 refine AN ⟨JC Su _,az (A:=A) hh hf (by omega) hDI hDS hSI (zs.length+1) 0 {s1 with heap:=(h2.update D (DG (·.push .none))).update D (DG (·.pop)),drawn:=d} [] c4 (BL _) (by omega) rfl
  ((sb.2 I (Bq hDI)).trans hI) ((sb.2 S (Bq hDS)).trans ho2) (Rd.keep λb o hb e=>?_) eD4 λh' c' q1 q2=>?_⟩
 ·simp only [Ak,Dm,or_false,not_or] at hb
  exact(sb.2 b hb.2).trans e
 ·show AP _ A (load D>>= _) _ _ _
  refine AG (Ly q2 ?_)
  refine AN ?_
  have:=h h' d zs hp λb o e=>q1 b o (by refine rwr hD ?_;exact BP (BQ e)) (Ge (kp b o e) nI).symm ((sb.2 b (by refine rwr hD ?_;exact BP (BQ e))).trans (k2 b o (kp b o e)))
  refine rwr hs1 ?_
  simpa using this
end
end Mine
namespace Mine
open PySem PySem.Calls PyProof.Rows PySem.SeqAt PySem.MeetsSeq PySem.SetTable
section
variable{w:Ae}{ca:AE→AD}{h₀ hb h h':AQ}{μ μ':List AD}{st st':St}{s:AF}{prog:Ar}{A:Aq}{E:AB→AF→Prop}
theorem YE{D a:AD}{n:AA}(e:μ[n]? =some a):(μ++[D])[n]? =some a:=(C6 (BA.mp e).1).trans e
mutual
theorem VR.adopt{D:AD}(nt:∀vs,IsTp h D vs→As):∀{a:V} {v:AB},VR h μ a v→VR h (μ++[D]) a v
 | .none,_,x=>x
 | .bool _,_,x=>x
 | .int _,_,x=>x
 | .str _,_,x=>x
 | .ref n,_,x=>x.elim λa x=>⟨a,x.1,YE x.2⟩
 | .tup l,_,x=>x.elim λa x=>x.elim λvs x=>⟨a,vs,x.1,x.2.1,λhm=>(BD.mp hm).elim x.2.2.1 λhm=>nt _ (Aw.mp hm▸x.2.1),VRs.adopt nt x.2.2.2⟩
theorem VRs.adopt{D:AD}(nt:∀vs,IsTp h D vs→As):∀{l:List V} {vs:List AB},VRs h μ l vs→VRs h (μ++[D]) l vs
 | [],_,x=>x
 | a::l,_,x=>x.elim λv x=>x.elim λr x=>⟨v,r,x.1,VR.adopt nt x.2.1,VRs.adopt nt x.2.2⟩
end
theorem DRs.adopt{D:AD}(nt:∀vs,IsTp h D vs→As){es:List (V×V)}:∀{ds:List Be},DRs w h μ es ds→DRs w h (μ++[D]) es ds:=by
 induction es with
 | nil=>exact λx=>x
 | cons e es ih=>exact λx=>x.uncons λk v r e' x y z=>⟨k,v,r,e',x.adopt nt,y.adopt nt,ih z⟩
theorem OR.adopt{D:AD}(nt:∀vs,IsTp h D vs→As){i:AA}{a:AD}{o:O}(x:OR w ca h μ i a o):OR w ca h (μ++[D]) i a o:=by
 cases o with
 | list xs=>(refine A6 x ?_;clear x;intro vs n e r);exact⟨vs,n,e,r.adopt nt⟩
 | dict es n=>(refine Al x ?_;clear x;intro ds e r q);exact⟨ds,e,r.adopt nt,q⟩
 | set xs=>(refine RA x ?_;clear x;intro es ep t ys e f1 f2 p r);exact⟨es,ep,t,ys,e,f1,f2,p,r.adopt nt⟩
 | inst c=>(refine BV x ?_;clear x;intro d o e ne g r);exact⟨d,o,YE e,ne,g,r⟩
 | ns fs=>
  (refine Al x ?_;clear x;intro mA n wi f)
  refine⟨mA,n,wi,λx=>?_⟩
  have q:=f x
  revert q
  cases Ce x fs with
  | none=>exact id
  | some v=>(intro zr17;(refine AJ zr17 ?_;clear zr17;intro u e r));exact⟨u,e,r.adopt nt⟩
 | priv=>exact x
 | fro o xs=>(refine BO x ?_;clear x;intro vs n e0 e r);exact⟨vs,n,e0,e,r.adopt nt⟩
theorem SR.adopt(S:SR w ca h₀ h st μ){D:AD}{o:O}(nm:D∉μ)(n0:h₀.get? D=none)(nt:∀vs,IsTp h D vs→As)(x:OR w ca h (μ++[D]) st.length D o):SR w ca h₀ h (st++[o]) (μ++[D]):=
 S.push S.base nm n0 (λ_ _ _ _ y=>y.adopt nt) x
theorem Nx.adopt{s1:AF}{μ1:List AD}{st1:St}(N:Nx w ca h₀ hb s μ s1 μ1 st1){D:AD}{o:O}(nd:s.heap.get? D=none)(nm:D∉μ1)(n0:h₀.get? D=none)(nt:∀vs,IsTp s1.heap D vs→As)
  (x:OR w ca s1.heap (μ1++[D]) st1.length D o):Nx w ca h₀ hb s μ s1 (μ1++[D]) (st1++[o]):=by
 (refine AJ N.ext ?_;intro ν z5;subst z5;intro f)
 refine⟨N.rest,⟨ν++[D],by simp,λa ha=>?_⟩,N.alive,N.keep,N.tup,N.sr.adopt nm n0 nt x⟩
 rcases BD.mp ha with ha | ha
 ·exact f a ha
 ·simp only [Aw] at ha
  subst ha;exact nd
theorem VRs.perm{us us':List AB}(p:us'.Perm us):∀{ys:List V},VRs h μ ys us→∃ys',ys'.Perm ys∧VRs h μ ys' us':=by
 induction p with
 | nil=>exact λx=>⟨_,Fj _,x⟩
 | cons u p ih=>
  intro ys x
  cases ys with
  | nil=>exact nomatch (x:_=[])
  | cons y ys=>
   refine x.uncons λv r e x1 x2=>?_
   cases e
   refine AJ (ih x2) λys' q x3=>?_
   exact⟨y::ys',q.cons y,VRs.cons x1 x3⟩
 | swap u v l=>
  intro ys x
  cases ys with
  | nil=>exact nomatch (x:_=[])
  | cons y ys=>
   refine x.uncons λv r e x1 x2=>?_
   cases e
   cases ys with
   | nil=>exact nomatch (x2:_=[])
   | cons z ys=>
    refine x2.uncons λv r e x2 x3=>?_
    cases e
    exact⟨z::y::ys,OL _ _ _,VRs.cons x2 (VRs.cons x1 x3)⟩
 | trans p q ih1 ih2=>
  intro ys x
  refine AJ (ih2 x) λy1 p1 x1=>?_
  refine AJ (ih1 x1) λy2 p2 x2=>?_
  exact⟨y2,p2.trans p1,x2⟩
theorem dC{xs:List V}(h:(xs.all V.isInt||xs.all V.flatTup)=true):Even xs:=by
 rw [JD,BE,BE] at h
 rcases h with h | h
 ·exact .inl λy hy=>by
   have:=h y hy
   cases y<;>first | exact⟨_,rfl⟩ | cases this
 ·refine .inr λy hy=>?_
  have:=h y hy
  cases y with
  | tup l=>exact⟨by unfold V.simple;exact this,l,rfl⟩
  | _=>cases this
theorem dh{a:AD}{ys xs:List V}{i:AA}(T:Tab w h μ a ys)(p:ys.Perm xs):OR w ca h (μ++[a]) i a (.set xs):=by
 (refine Ik T ?_;clear T;intro es ep t e tk led R _)
 refine⟨es,ep,t,ys,e,tk.fits,⟨led,tk.ris⟩,p,VRs.adopt (λvs x=>FX e rfl (by decide) x) R.vals⟩
theorem HQ:∀(xs acc:List V),(A8 acc xs).length≤acc.length+xs.length
 | [],acc=>by simp [A8]
 | x::xs,acc=>by
  unfold A8
  split
  ·have:=HQ xs acc;simp;omega
  ·have:=HQ xs (acc++[x]);simp at this ⊢;omega
theorem bF{r:AA}{xs:List V}{v:V}{x:AB}{Q:AB→AF→Prop}(hh:A.handled=none)(S:SR w ca h₀ s.heap st μ)(hu:A.units+20<Av)(hx:st[r]? =some (.list xs))(ra:VR s.heap μ (.ref r) x)(hs:(xs.all V.isInt||xs.all V.flatTup)=true)(hl:xs.length<15)
  (e:Ci (.set (A8 [] xs)) st=some (v,st')) (h:BU w ca h₀ s μ st' v Q):AP (AU prog w) A (call (.type "set") [x]) Q E s:=by
 simp only [VR] at ra
 (refine AJ ra ?_;clear ra;intro a z6;subst z6;intro ha)
 refine A6 (S.list hx ha) λvs n e0 rx=>?_
 (refine A7 (JT e) ?_;intro hfit z7;subst z7;intro z8;subst z8)
 refine k7 hh hu S (B0 e0) rx (dC hs) (by have:=rx.length;simp;omega) λh' tk ys hp T k=>?_
 have N:=Nx.new (t:=tk) S k (C2 _) (o:=.set (A8 [] xs)) (dh T hp)
 exact h _ _ _ N (Kq S _ _)
theorem cy{r:AA}{xs ys:List V}{v:V}{x:AB}{Q:AB→AF→Prop}(hh:A.handled=none)(S:SR w ca h₀ s.heap st μ)(hx:st[r]? =some (.set xs))(ra:VR s.heap μ (.ref r) x)(e1:Ei xs=some ys)
  (e:Ci (.list ys) st=some (v,st')) (h:BU w ca h₀ s μ st' v Q):AP (AU prog w) A (call (.builtin "sorted") [x]) Q E s:=by
 simp only [VR] at ra
 (refine AJ ra ?_;clear ra;intro a z9;subst z9;intro ha)
 (refine RA (S.at hx ha) ?_;intro es ep t zs eo hf z0;rcases z0 with ⟨led,hr⟩;intro hp rz)
 have hlen:=rz.length
 have h64:=(Pe e1).1
 have hzl:=hp.length_eq
 have hsz:es.size=zs.length:=by simpa using hlen
 refine UB e1 e (fN (by simp [hh]) eo hf led hr (by omega) λh' d us p k=>?_) h
 have N1:=Nx.grow (t:=s.toks) S k
 refine AJ (VRs.perm p (rz.pass N1.pass)) λzs' pz rz'=>?_
 obtain⟨⟨h2,d2,t2,e2⟩,x1,x2,x3,x4,x5⟩:=N1
 exact⟨⟨⟨_,_,_,rfl⟩,x1,x2,x3,x4,x5⟩,zs',rz',pz.trans hp⟩
end
end Mine
namespace Mine
open PySem PySem.Calls PyProof.Rows PySem.SeqAt PySem.MeetsSeq PySem.W
section
variable{w:Ae}{ca:AE→AD}{h₀ h h':AQ}{μ μ':List AD}{st st':St}{s:AF}{prog:Ar}{A:Aq}{E:AB→AF→Prop}
theorem dX{d:AD}{ds:List Be}{ep:AA}{Q:AB→AF→Prop}(hd:(d==B6)=false)(ho:s.heap.get? d=some (Di ds ep))
  (hQ:Q (.ref s.heap.objs.size) {s with heap:=s.heap.push {cls:=.type "dict_keyiterator",data:=.fields #[.ref d,.int 0 0,.int ds.length 0,.int ep 0]}}):
  AP (AU prog w) A (GP (.ref d)) Q E s:=by
 have hT:s.TypeIs (.ref d) "dict":=⟨_,ho,rfl⟩
 refine Zz hT Z5 (Dq Z5 hT PySem.F.entry_dict_iter ?_ (PySem.F.args_dict_iter_1 _))
 unfold BW.«dict.__iter__»
 refine AG ?_
 unfold BW.Dict.dictSlotNone
 refine AG (Ls hT ?_)
 show AP _ _ (pure (Hs d)) _ _ s
 refine AN ?_
 show AP _ _ (Z6 d>>= _) _ _ s
 unfold Z6
 refine rwl (AO (by refine rwl hd ?_;exact DD)) ?_
 refine AG (AN ?_)
 refine AG (J3 ho rfl ?_)
 refine AG (Nv ho rfl ?_)
 refine AG (Hr (AN ⟨_,rfl,"dict_keyiterator",_,⟨_,Bb _ rfl,rfl⟩,Sw.lookup,?_⟩))
 simpa [CK] using hQ
theorem nU{β:Type}{M:Ej}{f:Ek→CH β}{Q:β→AF→Prop}(h:AP M A (f ()) Q E s):AP M A (pure ()>>= f) Q E s:=AG (AN h)
theorem Tj{it d:AD}{i ep:AA}{ds:List Be}{Q:AH AB→AF→Prop}(hh:A.handled=none)(hit:s.heap.IsKeyIter it d i ds.length ep)
  (hod:s.heap.get? d=some (Di ds ep)) (hQ:∀e h',ds[i]? =some e→h'.IsKeyIter it d (i+1) ds.length ep→C7 it s.heap h'→Q (some e.key) {s with heap:=h'})
  (hE:∀h',ds[i]? =none→FF it s.heap h'→Q none {s with heap:=h'}):AP (AU prog w) A (EU (.ref it)) Q E s:=by
 refine Al (id hit) λo ho hc hd=>?_
 refine AG (Oi (G5 (name:=AK "__next__") hit.typeIs Sw
  (Dq Sw hit.typeIs PySem.F.entry_dict_keyiterator_next ?_ (PySem.F.args_dict_keyiterator_next_1 _))))
 refine AG (AN (AG (AG ?_)))
 first | refine AG (Sx hit.typeIs (AN ?_)) | refine AG (Sy hit.typeIs (AN ?_))
 refine AG (wpAny_fieldsOf ho hd ?_)
 refine rwl (show BW.Dict_items.ownsTuple "dict_keyiterator"=false from by decide) ?_
 refine A5 (λz=>absurd z DD) λ_=>AG (AN (AG (J3 hod rfl ?_)))
 refine A5 (λz=>absurd z (by simp)) λ_=>AG (AN (AG (Nv hod rfl ?_)))
 refine A5 (λz=>absurd z (by simp)) λ_=>AN ?_
 have hn:(if(i:Int)<0 then none else ds.toArray[(i:Int).toNat]?)=ds[i]? :=(AO (OA.mpr (Hq i))).trans En
 dsimp only
 refine rwl hn ?_
 cases he:ds[i]? with
 | some e=>
  refine AG ?_
  first | refine AG (Sx hit.typeIs (AN ?_)) | refine AG (Sy hit.typeIs (AN ?_))
  refine AG (Z7 hit.typeIs ?_)
  refine AG (m:=Oj (.ref it) 1 (CK ((i:Int)+1))) (Fn ho hd (by simp) ?_)
  have hit':(s.heap.update it (L6 (·.setIfInBounds 1 (CK ((i:Int)+1))))).IsKeyIter it d (i+1) ds.length ep:=
   ⟨_,GI _ ho (Z8 (Om hd _)),(Z9 ..).trans hc,by rw [Om hd];simp [CK]⟩
  refine AG (Bj ?_)
  refine AG (Z7 (s:={s with heap:=s.heap.update it (L6 (·.setIfInBounds 1 (CK ((i:Int)+1))))}) hit'.typeIs ?_)
  exact AN (AN ⟨_,rfl,AN (hQ e _ he hit' (DF ..))⟩)
 | none=>
  refine AG ?_
  first | refine AG (Sx hit.typeIs (AN ?_)) | refine AG (Sy hit.typeIs (AN ?_))
  refine AG (m:=Oj (.ref it) 0 .none) (Fn ho hd (by simp) ?_)
  exact Qo hh λh2 e k he2=>AG (Ol (T:="StopIteration") (b:=true) he2 Sr (AN (hE _ he λb o hb q=>k b o ((DF ..).extBut b o hb q))))
theorem gz(hh:A.handled=none)(I d:AD)(hne:d≠I)(ds:List Be)(ep:AA):
  Walks prog w A I [I,d] [I] ds.length (λi v=>(ds.map (·.key))[i]? =some v) (λi h=>h.IsKeyIter I d i ds.length ep∧h.get? d=some (Di ds ep)) where
 sub:=λb hb=>by simp at hb;simp [hb]
 frame:=λ_ _ _ st hk=>⟨st.1.at λo e=>hk I (by simp) o e,hk d (by simp) _ st.2⟩
 item:=λi s Q E hi st hQ=>Tj hh st.1 st.2 (λe h' he hit' hs'=>hQ _ h' s.toks (by refine rwl (DU) (rwl he ?_);rfl) ⟨hit',(hs'.2 d hne).trans st.2⟩ λb o hb e=>(hs'.2 b λh=>hb (h▸ .head _)).trans e) λh' he=>absurd hi (Fh (L7.mp he))
 done:=λs Q E st hQ=>Tj hh st.1 st.2 (λe h' he=>absurd (BA.mp he).1 (CY _)) λh' _ he'=>hQ h' s.toks λb o hb e=>he' b o (λh=>hb (h▸ .head _)) e
 self:=λ_ _ _ _ st hQ=>aA st.1 hQ
theorem iG{d:AD}{ds:List Be}{ep:AA}(lo:(d==B6)=false):KdlSrc prog w "dict" d d ds.length (λi v=>(ds.map (·.key))[i]? =some v) (λh=>h.get? d=some (Di ds ep)) where
 type:=λ_ hm=>⟨_,hm,rfl⟩
 there:=λ_ hm=>⟨BQ hm,BQ hm⟩
 keep:=λ_ _ hm hk=>hk d (.inl rfl) _ hm
 notList:=by decide
 notTuple:=by decide
 hint:=λ_ _ _ _ hm hq=>kdl_hint_dict ⟨_,hm,rfl⟩ hq
 iter:=λ_ _ hh hm=>⟨_,_,(λ_ _ hq=>dX lo hm hq),gz hh _ d (BP (BQ hm)) ds ep,⟨⟨_,Bb _ rfl,rfl,rfl⟩,Az _ hm⟩⟩
theorem DRs.keys:∀{es:List (V×V)} {ds:List Be},DRs w h μ es ds→VRs h μ (es.map (·.1)) (ds.map (·.key))
 | [],_,x=>by simp only [DRs] at x;subst x;exact VRs.nil
 | e::es,_,⟨k,v,r,e',x,y,z⟩=>by subst e';exact VRs.cons x (DRs.keys z)
theorem ll{r n:AA}{es:List (V×V)}{v:V}{x:AB}{Q:AB→AF→Prop}(hh:A.handled=none)(SM:∃o,h₀.get? B6=some o)(S:SR w ca h₀ s.heap st μ)(hx:st[r]? =some (.dict es n))(ra:VR s.heap μ (.ref r) x)(e:Ci (.list (es.map (·.1))) st=some (v,st'))
  (h:BU w ca h₀ s μ st' v Q):AP (AU prog w) A (call (.type "list") [x]) Q E s:=by
 simp only [VR] at ra
 (refine AJ ra ?_;clear ra;intro a z1;subst z1;intro ha)
 refine Al (S.dict hx ha) λds e0 rx _=>?_
 (refine A7 (JT e) ?_;intro hfit z2;subst z2;intro z3;subst z3)
 have lo:(a==B6)=false:=by
  (refine exE SM ?_;clear SM;intro o eo)
  have:=S.above a (SR.mem ha)
  cases hq:(a==B6) with
  | false=>rfl
  | true=>replace this:=eo▸eq_of_beq hq▸this;cases this
 have hdl:=rx.length
 have hfl:=Dx hfit
 simp only [Kh,AY] at hfl
 refine kdl_call (iG (ds:=ds) lo) hh e0 (by omega) λh' tk acc c k hD it=>?_
 have ea:acc=(ds.map (·.key)).toArray:=by
  apply AS.ext'
  refine Oo λi=>?_
  refine rwl List.toList_toArray ?_
  by_cases hi:i<acc.size
  ·have:=it.2 i acc[i] (by simp [hi])
   refine rwl this (rwl (Hw) ?_);simp [hi]
  ·have h1:=it.1
   (refine rwl (L4 (by simp;omega)) (rwl (L4 (by simp;omega)) ?_);rfl)
 subst ea
 have N:=Nx.new (t:=tk) S k (C2 _) (o:=.list (es.map (·.1))) ⟨_,c,hD,rx.keys.pass (PE k (C2 _))⟩
 exact h _ _ _ N (Kq S _ _)
end
end Mine
namespace Mine
open PySem PySem.Calls PyProof.Rows PySem.SeqAt PySem.MeetsSeq
structure Wk(prog:Ar)(w:Ae)(ca:AE→AD)(h₀:AQ)(A:Aq)(target:Expr)(it:AB)(wr wd wx:List AD)(l:List V)(src:AH AA)(st0:St)(P:AA→AQ→List AD→Prop):Prop where
 new0:∀a∈wr,h₀.get? a=none
 sub:∀a∈wd,a∈wr
 off:∀{i:AA} {h:AQ} {μ:List AD},P i h μ→∀a∈wd,a∉μ
 apart:∀{i:AA} {h:AQ} {μ:List AD},P i h μ→∀a∈wr,a∈μ∨∀vs,IsTp h a vs→As
 sub':∀a∈wr,a∈wx
 here:∀{i:AA} {h:AQ} {μ:List AD},P i h μ→∀a∈wx,∃o,h.get? a=some o
 nx:∀{i:AA} {hb:AQ} {s s':AF} {μ μ':List AD} {st':St},P i s.heap μ→(∀a∈wx,∃o,hb.get? a=some o)→Nx w ca h₀ hb s μ s' μ' st'→P i s'.heap μ'
 item:∀{i:AA} {s:AF} {μ:List AD} {st:St} {a:V} {Q:AB→AF→Prop} {E:AB→AF→Prop},l[i]? =some a→P i s.heap μ→SR w ca h₀ s.heap st μ→Bd src st0 st=true→
  (∀h' tk u,(∀hb:AQ,(∀a∈wr,hb.get? a=none)→Nx w ca h₀ hb s μ {s with heap:=h',toks:=tk} μ st)→(∀b o,b∉wr→s.heap.get? b=some o→h'.get? b=some o)→VR h' μ a u→P (i+1) h' μ→Q u {s with heap:=h',toks:=tk})→
  AP (AU prog w) A (EU it) (λr s₁=>∃v,r=some v∧AP (AU prog w) A (KP target it v) (λ_ s₂=>Q v s₂) E s₁) E s
 done:∀{i:AA} {s:AF} {μ:List AD} {st:St} {Q:AH AB→AF→Prop} {E:AB→AF→Prop},l.length=i→P i s.heap μ→SR w ca h₀ s.heap st μ→Bd src st0 st=true→
  (∀h' tk,(∀b o,b∉wd→s.heap.get? b=some o→h'.get? b=some o)→Q none {s with heap:=h',toks:=tk})→
  AP (AU prog w) A (EU it) Q E s
 self:∀{i:AA} {s:AF} {μ:List AD} {Q:AB→AF→Prop} {E:AB→AF→Prop},P i s.heap μ→Q it s→AP (AU prog w) A (GP it) Q E s
section
variable{w:Ae}{ca:AE→AD}{h₀ h h':AQ}{μ μ':List AD}{st st':St}{s:AF}{prog:Ar}{A:Aq}{E:AB→AF→Prop}
noncomputable def Q1:List AE:=["enumerate","zip","dict_itemiterator","dict_reverseitemiterator","odict_iterator","itertools.zip_longest","itertools.pairwise"]
theorem kH{M:Ej}{target:Expr}{I:AD}{v:AB}{o:Obj}{n:AE}{Q:Ek→AF→Prop}(ho:s.heap.get? I=some o)(hc:o.cls= .type n)
  (hn:Q1.contains n=false) (h:Q () s):AP M A (KP target (.ref I) v) Q E s:=by
 have key:∀es k p a,AP M A (KP (.Tuple es k p) (.ref I) (.ref a)) Q E s:=λes k p a=>by
  unfold KP
  refine AG (Ly ho ?_)
  refine rwl hc ?_
  cases o.data with
  | fields vs=>
   dsimp only
   refine A5 (λq=>?_) λ_=>AN h
   exact absurd ((show Q1.contains n=false from hn).symm.trans (Ac.mp q).1) DD
  | _=>exact AN h
 cases target with
 | Tuple es k p=>
  cases v with
  | ref a=>exact key es k p a
  | _=>exact AN h
 | List es p=>
  cases v with
  | ref a=>exact key es 0 p a
  | _=>exact AN h
 | _=>exact AN h
theorem Nx.iter(S:SR w ca h₀ s.heap st μ){wr:List AD}{h':AQ}{tk:AA}(k:∀b o,b∉wr→s.heap.get? b=some o→h'.get? b=some o)(nm:∀a∈wr,a∉μ)(n0:∀a∈wr,h₀.get? a=none)(al:∀a∈wr,∃o,h'.get? a=some o)
  (nt:∀a∈wr,∀vs,IsTp s.heap a vs→As) (hb:AQ) (hw:∀a∈wr,hb.get? a=none):Nx w ca h₀ hb s μ {s with heap:=h',toks:=tk} μ st:=by
 have kt:∀a vs,IsTp s.heap a vs→IsTp h' a vs:=λa vs x=>IsTp.to x λo e=>k a o (λz=>nt a z vs x) e
 have P:Pass s.heap h' μ μ:=⟨⟨[],(Bo μ).symm,λ_ h=>xM h⟩,λb vs n t=>kt b vs t⟩
 refine⟨⟨_,_,_,rfl⟩,P.ext,λa o e=>?_,λa o zq1 n e=>zq1.elim λob eb=>k a o (λz=>by replace eb:=hw a z▸eb;cases eb) e,λa vs n x=>kt a vs x,?_⟩
 ·by_cases z:a∈wr
  ·exact al a z
  ·exact⟨o,k a o z e⟩
 ·refine⟨S.len,S.nodup,λa o e=>k a o (λz=>by replace e:=n0 a z▸e;cases e) (S.base a o e),S.above,λj o e=>?_⟩
  refine AJ (S.obj j o e) λb hb' y=>?_
  refine exE y.here λob eb=>?_
  exact⟨b,hb',y.pass P (by refine rwl eb ?_;exact k b ob (λz=>nm b z (SR.mem hb')) eb)⟩
theorem Nx.here{hb:AQ}{s':AF}(N:Nx w ca h₀ hb s μ s' μ' st'){I:AD}{o:Obj}(hw:∃ob,hb.get? I=some ob)(n:I∉μ)(e:s.heap.get? I=some o):s'.heap.get? I=some o:=N.keep I o hw n e
theorem Vw{l m:List V}(h:V.beqL l m=true):l=m:=V.beqL_eq l h
theorem QT{st0 st:St}{r:AA}{a:O}(hs:Bd (some r) st0 st=true)(hr:st0[r]? =some a):∃b,st[r]? =some b∧JZ a b=true:=by
 revert hs
 show(match st0[r]? with
  | none=>false
  | some a=>match st[r]? with
   | none=>false
   | some b=>JZ a b)=true→_
 refine rwl hr ?_
 dsimp only
 cases st[r]? with
 | none=>exact λh=>xF h
 | some b=>exact λh=>⟨b,rfl,h⟩
theorem VW{st0 st:St}{r:AA}{xs:List V}(hs:Bd (some r) st0 st=true)(hr:st0[r]? =some (.list xs)):st[r]? =some (.list xs):=by
 refine AJ (QT hs hr) λb e q=>?_
 cases b with
 | list ys=>(refine rwl e (rwl (Vw q) ?_);rfl)
 | _=>exact xF q
theorem iJ{st0 st:St}{r n:AA}{es:List (V×V)}(hs:Bd (some r) st0 st=true)(hr:st0[r]? =some (.dict es n)):∃fs,st[r]? =some (.dict fs n)∧fs.map (·.1)=es.map (·.1):=by
 refine AJ (QT hs hr) λb e q=>?_
 cases b with
 | dict fs m=>
  (have zz:=Ac.mp q;have q1:=zz.1;have q2:=zz.2;clear zz)
  exact⟨fs,by(refine rwl e (rwl (BC q2) ?_);rfl),(Vw q1).symm⟩
 | _=>exact xF q
theorem Gf{I:AD}{p:AD→Prop}(h:p I):∀a∈[I],p a:=λa ha=>Aw.mp ha▸h
theorem iI{I:AD}(e:∀a∈[I],∃o,h.get? a=some o):∃o,h.get? I=some o:=e I Ah
theorem PQ{I b:AD}(h:b∉[I]):b≠I:=λq=>h (q▸Ah)
theorem Pb{I:AD}(h:I∉μ):∀a∈[I],a∉μ:=Gf h
theorem XU{I:AD}{h h':AQ}(he:FF I h h'):∀b o,b∉[I]→h.get? b=some o→h'.get? b=some o:=λb o hb e=>he b o (PQ hb) e
theorem Wk.one{target:Expr}{I:AD}{l:List V}{src:AH AA}{st0:St}{J:AA→AQ→Prop}{X:AQ→List AD→Prop}(hI:h₀.get? I=none)
  (hJ:∀{i h},J i h→∃o n,h.get? I=some o∧o.cls= .type n∧("tuple"::Q1).contains n=false∧∀{h':AQ},h'.get? I=some o→J i h') (hX:∀{h h':AQ} {μ μ':List AD},X h μ→Pass h h' μ μ'→X h' μ')
  (step:∀{i:AA} {s:AF} {μ:List AD} {st:St} {a:V} {Q:AH AB→AF→Prop} {E:AB→AF→Prop},l[i]? =some a→J i s.heap→X s.heap μ→SR w ca h₀ s.heap st μ→Bd src st0 st=true→
   (∀h' tk u,J (i+1) h'→C7 I s.heap h'→(Pass s.heap h' μ μ→VR h' μ a u)→Q (some u) {s with heap:=h',toks:=tk})→AP (AU prog w) A (EU (.ref I)) Q E s)
  (end_:∀{i:AA} {s:AF} {μ:List AD} {st:St} {Q:AH AB→AF→Prop} {E:AB→AF→Prop},l.length=i→J i s.heap→X s.heap μ→SR w ca h₀ s.heap st μ→Bd src st0 st=true→
   (∀h' tk,FF I s.heap h'→Q none {s with heap:=h',toks:=tk})→AP (AU prog w) A (EU (.ref I)) Q E s)
  (self:∀{i:AA} {s:AF} {Q:AB→AF→Prop} {E:AB→AF→Prop},J i s.heap→Q (.ref I) s→AP (AU prog w) A (GP (.ref I)) Q E s):
  Wk prog w ca h₀ A target (.ref I) [I] [I] [I] l src st0 (λi h μ=>J i h∧I∉μ∧X h μ):=by
 have nt:∀{i h},J i h→∀vs,IsTp h I vs→As:=λhj vs t=>(hJ hj).elim λo zz=>zz.elim λn zz=>zz.elim λe zz=>zz.elim λc zz=>zz.elim λhn _=>FX e c (λq=>by replace hn:=q▸hn;exact xT hn) t
 refine⟨Gf hI,λa h=>h,λzq1=>zq1.elim λ_ zz=>zz.elim λh2 _=>Gf h2,λzq1=>zq1.elim λh1 _=>Gf (.inr (nt h1)),λa h=>h,λzq1=>zq1.elim λh1 _=>Gf ((hJ h1).elim λo zz=>zz.elim λ_ zz=>zz.elim λe _=>⟨o,e⟩),?_,?_,λe zq1 S hs hQ=>zq1.elim λh1 zz=>zz.elim λ_ h3=>end_ e h1 h3 S hs λh' tk he=>hQ h' tk λb o hb e=>he b o (PQ hb) e,λzq1=>zq1.elim λh1 _=>self h1⟩
 ·intro i hb s s' μ μ' st' ⟨h1,h2,h3⟩ hw N
  refine BV (hJ h1) λo n e _ _ f=>?_
  exact⟨f (N.here (iI hw) h2 e),N.pass.notin h2 e,hX h3 N.pass⟩
 ·intro i s μ st a Q E ha ⟨h1,h2,h3⟩ S hs hQ
  refine step ha h1 h3 S hs λh' tk u hj sb hv=>⟨u,rfl,?_⟩
  refine BV (hJ hj) λo n eo c hn _=>?_
  refine kH (s:={s with heap:=h',toks:=tk}) eo c (by
   rw [List.contains_cons] at hn
   exact(AL.or_eq_false_iff.mp hn).2) ?_
  have k:∀b o,b∉[I]→s.heap.get? b=some o→h'.get? b=some o:=λb o hb e=>sb.extBut b o (PQ hb) e
  have N:=Nx.iter (tk:=tk) S k (Gf h2) (Gf hI) (Gf ⟨o,eo⟩) (Gf (nt h1))
  have P:=(N {} (λa _=>rfl)).pass
  exact hQ h' tk u N k (hv P) ⟨hj,h2,hX h3 P⟩
theorem Wk.list{target:Expr}(hh:A.handled=none){I ax:AD}{r:AA}{xs:List V}{st0:St}(hI:h₀.get? I=none)(hr:st0[r]? =some (.list xs)):
  Wk prog w ca h₀ A target (.ref I) [I] [I] [I] xs (some r) st0 (λi h μ=>h.IsListIter I ax i∧I∉μ∧μ[r]? =some ax):=
 Wk.one (X:=λ_ μ=>μ[r]? =some ax) hI (λzq1=>zq1.elim λo zz=>zz.elim λe zz=>zz.elim λc d=>⟨o,_,e,c,by decide,λe'=>⟨o,e',c,d⟩⟩) (λh P=>P.idx h)
  (λ{i s μ st a Q E} ha h1 h3 S hs hQ=>by
   refine A6 (S.list (VW hs hr) h3) λvs n e0 rx=>?_
   refine AJ (rx.get ha) λu hu ru=>?_
   exact Of h1 (B0 e0) (x:=u) (En.trans hu) λh' hit hsb=>hQ h' s.toks u hit hsb λP=>ru.pass P)
  (λ{i s μ st Q E} ha h1 h3 S hs hQ=>by
   refine A6 (S.list (VW hs hr) h3) λvs n e0 rx=>?_
   exact Oe hh h1 (B0 e0) (by simp [rx.length,ha]) λh' he'=>hQ h' s.toks he')
  wpAny_pyIter_listiter
theorem Wk.tup{target:Expr}(hh:A.handled=none){I t:AD}{xs:List V}{st0:St}(hI:h₀.get? I=none):
  Wk prog w ca h₀ A target (.ref I) [I] [I] [I] xs none st0 (λi h μ=>IsTupIter h I t i∧I∉μ∧t∉μ∧∃vs:List AB,IsTp h t vs.toArray∧VRs h μ xs vs):=
 Wk.one (X:=λh μ=>t∉μ∧∃vs:List AB,IsTp h t vs.toArray∧VRs h μ xs vs) hI (λzq1=>zq1.elim λo zz=>zz.elim λe zz=>zz.elim λc d=>⟨o,_,e,c,by decide,λe'=>⟨o,e',c,d⟩⟩)
  (λzq1 P=>zq1.elim λh3 zz=>zz.elim λvs zz=>zz.elim λht hr=>(IsTp.get ht).elim λo e=>⟨P.notin h3 e,vs,P.tup _ _ h3 ht,hr.pass P⟩)
  (λ{i s μ st a Q E} ha h1 zq1 S hs hQ=>zq1.elim λh3 zz=>zz.elim λvs zz=>zz.elim λht rx=>by
   refine AJ (rx.get ha) λu hu ru=>?_
   exact next_tuple_item h1 ht.tup (x:=u) (En.trans hu) λh' hit hsb=>hQ h' s.toks u hit hsb λP=>ru.pass P)
  (λ{i s μ st Q E} ha h1 zq1 S hs hQ=>zq1.elim λh3 zz=>zz.elim λvs zz=>zz.elim λht rx=>next_tuple_end hh h1 ht.tup (by simp [rx.length,ha]) λh' he'=>hQ h' s.toks he')
  (λh1 h=>wpAny_pyIter_tupleiter h1 h)
theorem JY{I ax:AD}{i:AA}(x:IsTupIter h I ax i){vs:AS AB}(t:IsTp h I vs):As:=x.elim λo zz=>zz.elim λe zz=>zz.elim λc _=>FX e c (by decide) t
theorem Wk.str{target:Expr}(hh:A.handled=none){I:AD}{x:AE}{t:Tok}{st0:St}(hI:h₀.get? I=none):
  Wk prog w ca h₀ A target (.ref I) [I] [I] [I] (x.toList.map λc=>.str (Gx [c])) none st0 (λi h μ=>h.IsStrIter I "str_ascii_iterator" (AK x) t i∧I∉μ∧FG):=
 Wk.one (X:=λ_ _=>FG) hI (λzq1=>zq1.elim λo zz=>zz.elim λe zz=>zz.elim λc d=>⟨o,_,e,c,by decide,λe'=>⟨o,e',c,d⟩⟩) (λ_ _=>trivial)
  (λ{i s μ st a Q E} ha h1 _ S hs hQ=>by
   replace ha:=DU▸ha
   (refine AJ (Dn.mp ha) ?_;intro c hc' z4;subst z4)
   have hc2:(AK x).cps[i]? =some c.toNat:=by refine rwl (FY ..) ?_;simp [hc']
   exact wpAny_pyNext_ascii_item h1 hc2 λh' hit hsb=>hQ h' (s.toks+1) _ hit hsb λ_=>XY c▸VR.str_ _ _)
  (λ{i s μ st Q E} ha h1 _ S hs hQ=>wpAny_pyNext_ascii_end hh h1 (by refine rwl (FY ..) ?_;simp at ha;simp [ha]) λh' he'=>hQ h' s.toks he')
  (λh1 h=>wpAny_pyIter_striter_ascii h1 h)
theorem Wk.range{target:Expr}(hh:A.handled=none){I:AD}{n:AA}{st0:St}(hI:h₀.get? I=none):
  Wk prog w ca h₀ A target (.ref I) [I] [I] [I] ((Ab n).map λi=>.int (i:AA)) none st0 (λi h μ=>IsRangeIter h I (i:Int) ((n:Int)-i) 1∧I∉μ∧FG):=
 Wk.one (X:=λ_ _=>FG) hI (λe=>⟨_,_,e,rfl,by decide,λe'=>e'⟩) (λ_ _=>trivial)
  (λ{i s μ st a Q E} ha h1 _ S hs hQ=>by
   refine exE (BA.mp ha) λhl e=>?_
   (rewrite [AY] at hl;replace hl:=DK▸hl)
   rw [OP,Sa] at e
   refine wpAny_pyNext_range_item h1 (by omega) λh' hit hsb=>hQ h' (s.toks+1) _ ?_ hsb λ_=>e▸VR.int_ _ _
   refine rwl (show((i+1:AA):Int)=(i:Int)+1 from rfl) (rwl (show(n:Int)-((i:Int)+1)=(n:Int)-i-1 by omega) ?_)
   exact hit)
  (λ{i s μ st Q E} ha h1 _ S hs hQ=>wpAny_pyNext_range_end hh h1 (by simp at ha;omega) λh' he'=>hQ h' s.toks he')
  (λh1 h=>wpAny_pyIter_rangeiter h1 h)
theorem SR.dictAt(S:SR w ca h₀ h st μ){r n:AA}{es:List (V×V)}{d:AD}(e:st[r]? =some (.dict es n))(hd:μ[r]? =some d)(hk:es.all (λe=>e.1.isInt)=true):
  ∃kvs,h.DictAt (G2 prog w) d kvs n∧kvs.length=es.length∧∀(i:AA) (k:Int) (v:AB),kvs[i]? =some (k,v)→(es.map (·.1))[i]? =some (V.int k):=by
 refine Al (S.dict e hd) λds ho xs ok=>?_
 (have zz:=DRs.intsOf (prog:=prog) (w':=w) es xs hk;have q1:=zz.1;have q2:=zz.2;clear zz)
 have hz:=xs.length
 refine⟨(Cj es).zip (ds.map (·.val)),⟨_,ds.toArray,ho,⟨rfl,rfl,rfl⟩,rfl,λe he=>q1 e (Rp.mp he),q2,?_⟩,by(refine rwl Yn (rwl (Nj ..) (rwl (AY ..) (rwl hz (rwl (Lh ..) ?_))));rfl),λi k v hkv=>?_⟩
 ·refine rwl (Ym (by refine rwl (Nj ..) (rwl (AY ..) (rwl hz ?_));exact Aj _)) ?_
  exact WO es ok hk
 ·rw [List.getElem?_zip_eq_some] at hkv
  refine AJ (Dn.mp ((DU ..).symm.trans hkv.1)) λe he q=>?_
  refine rwl (DU) (rwl he ?_)
  exact AW some ((F9 (BE.mp hk e (Bx he))).trans (AW V.int q))
theorem bO{es fs:List (V×V)}(ef:fs.map (·.1)=es.map (·.1))(hk:es.all (λe=>e.1.isInt)=true):fs.all (λe=>e.1.isInt)=true:=by
 have:∀l:List (V×V),l.all (λe=>e.1.isInt)=(l.map (·.1)).all V.isInt:=λl=>by refine rwl G1 ?_;rfl
 refine rwl (this ..) (rwl ef (rwr (this ..) ?_));exact hk
theorem Wk.dict{target:Expr}(hh:A.handled=none){I d:AD}{r n:AA}{es:List (V×V)}{st0:St}(hI:h₀.get? I=none)(hr:st0[r]? =some (.dict es n))(hk:es.all (λe=>e.1.isInt)=true):
  Wk prog w ca h₀ A target (.ref I) [I] [I] [I] (es.map (·.1)) (some r) st0 (λi h μ=>h.IsKeyIter I d i es.length n∧I∉μ∧μ[r]? =some d):=by
 have at_:∀{s:AF} {μ:List AD} {st:St},μ[r]? =some d→SR w ca h₀ s.heap st μ→Bd (some r) st0 st=true→∃kvs,s.heap.DictAt (G2 prog w) d kvs n∧kvs.length=es.length∧∀(i:AA) (k:Int) (v:AB),kvs[i]? =some (k,v)→(es.map (·.1))[i]? =some (V.int k):=λh3 S hs=>by
  refine AJ (iJ hs hr) λfs hf ef=>?_
  refine Al (S.dictAt (prog:=prog) hf h3 (bO ef hk)) λkvs hD hl hkv=>?_
  exact⟨kvs,hD,by(refine rwl hl (rwr (AY (f:=λx:V×V=>x.1)) (rwl ef (rwl (AY ..) ?_)));rfl),ef▸hkv⟩
 refine Wk.one (X:=λ_ μ=>μ[r]? =some d) hI (λzq1=>zq1.elim λo zz=>zz.elim λe zz=>zz.elim λc q=>⟨o,_,e,c,by decide,λe'=>⟨o,e',c,q⟩⟩) (λh P=>P.idx h) (λ{i s μ st a Q E} ha h1 h3 S hs hQ=>?_) (λ{i s μ st Q E} ha h1 h3 S hs hQ=>?_) (λh1 h=>aA h1 h)
 ·refine Al (at_ h3 S hs) λkvs hD hl hkv=>?_
  have hi:i<kvs.length:=by refine rwl hl (rwr (AY (f:=λx:V×V=>x.1)) ?_);exact(BA.mp ha).1
  have hkv':kvs[i]? =some (kvs[i].1,kvs[i].2):=Ba hi
  (have zz:=AV (ha.symm.trans (hkv i _ _ hkv'));subst zz)
  replace h1:=Cq hl▸h1
  refine wpAny_pyNext_dict_item h1 hD hkv' λkey h' hkey hit hsb=>hQ h' s.toks key (hl▸hit) hsb λ_=>?_
  (refine exE (AB.isInt_shape hkey) ?_;intro t z5;subst z5)
  exact VR.int_ _ _
 ·refine Al (at_ h3 S hs) λkvs hD hl hkv=>?_
  replace h1:=Cq hl▸h1
  (rewrite [AY] at ha;replace ha:=Cq hl▸ha)
  exact wpAny_pyNext_dict_end hh h1 hD (L4 (Bk ha)) λh' he'=>hQ h' s.toks he'
end
end Mine
namespace Mine
open PySem PySem.Calls PyProof.Rows PySem.SeqAt PySem.MeetsSeq PySem.W
section
variable{w:Ae}{ca:AE→AD}{h₀ hb h h':AQ}{μ μ' μ1:List AD}{st st' st1:St}{s s1:AF}{prog:Ar}{A:Aq}{E:AB→AF→Prop}
theorem PV{n m:AA}(h:fits n=true)(l:m≤n):fits m=true:=by
 simp only [fits,decide_eq_true_eq] at h ⊢;omega
theorem EH(S:SR w ca h₀ h st μ){a:AD}(e:h.get? a=none):h₀.get? a=none:=Dw λo e'=>by replace e:=S.base a o e'▸e;cases e
theorem jA:OB (.type "list") "keys"=pure none:=am_miss_of_fast (by decide+kernel)
theorem gG{a:AD}{xs:AS AB}{k:AA}{Q:AH AB→AF→Prop}(hx:s.heap.get? a=some {cls:=.type "list",dict:=none,data:=.seq xs k,slots:=#[]})(hA:A.handled=none)
  (h:∀h' tk,(∀b o,s.heap.get? b=some o→h'.get? b=some o)→Q none {s with heap:=h',toks:=tk}):AP (AU prog w) A (getAttr? (.ref a) "keys") Q E s:=by
 obtain⟨hp,g,d,tk,os⟩:=s
 have hT:∀tk',(⟨hp,g,d,tk',os⟩:AF).TypeIs (.ref a) "list":=λ_=>⟨_,hx,rfl⟩
 have f1:=sub_AttributeError
 have f3:=Sz.lookup
 have f4:=Sz.bind (.ref a)
 have f5:=am_list_getattr_none
 unfold getAttr? getAttrBy? getAttrBy
 repeat (any_goals (first | assumption | exact hT _ | ((with_reducible show AP _ _ (call (AB.builtin "list.__getattribute__") _ _) _ _ _);refine J8 Sz (hT _) am_entry_list_getattribute (PySem.F.args_list_getattribute_2 _ _) (meets_getattribute_miss_list a xs k #[] "keys" _ jA (by decide) (by size_fits)) ⟨hx,hA,λh' tk' e hx'=>?_⟩) | wp_step))
 refine CU hx'.there λt' u' he=>?_
 show AP _ _ (aB _ _ _ _ _ _ _) _ _ _
 unfold aB
 repeat (any_goals (first | assumption | wp_step))
 all_goals exact h _ _ hx'.keeps
theorem U5:entryFor table "dict.update.loop"=some BW.«dict.update.loop»:=entryFor_of_tree (by kernel_rfl)
theorem NR:plainId "dict.update.loop"=true:=by decide+kernel
theorem Pg{k v:V}{es:List (V×V)}:(CD k v es).length=if(Aa k es).isSome then es.length else es.length+1:=by
 induction es with
 | nil=>rfl
 | cons e es ih=>
  obtain⟨a,x⟩:=e
  by_cases q:a=k
  ·refine rwl q (rwl Mh (rwl Hj ?_));rfl
  ·refine rwl (Kj q) (rwl (Fv q) (rwl Co (rwl ih ?_)))
   cases(Aa k es).isSome<;>rfl
theorem Xw{x:V}{xs:List V}{es es':List (V×V)}(e:Fy (x::xs) es=some es'):∃k v,x= .tup [k,v]∧k.simple=true∧Fy xs (CD k v es)=some es':=
 MZ e λl q e=>Kn e λk v q2 e=>gdE e λhk e=>⟨k,v,q2▸q,hk,e⟩
theorem bK(xs:List V):∀{es es':List (V×V)},Fy xs es=some es'→es.length≤es'.length:=by
 induction xs with
 | nil=>exact λe=>Bk (AW Jw (AV e))
 | cons x xs ih=>
  intro es es' e
  refine BO (Xw e) λk v _ _ e=>?_
  refine AR ?_ (ih e)
  refine rwl Pg ?_
  cases(Aa k es).isSome
  ·exact Et _
  ·exact Aj _
theorem Nx.lose(N:Nx w ca h₀ hb s μ s1 μ1 st1){wd:List AD}{tk:AA}(k:∀b o,b∉wd→s1.heap.get? b=some o→h'.get? b=some o)(n0:∀a∈wd,h₀.get? a=none)(nn:∀a∈wd,s.heap.get? a=none)
  (nm:∀a∈wd,a∉μ1) (nt:∀a∈wd,∀vs,IsTp s1.heap a vs→As):Nx w ca h₀ hb s μ {s1 with heap:=h',toks:=tk} μ1 st1:=by
 have kt:∀a vs,IsTp s1.heap a vs→IsTp h' a vs:=λa vs t=>IsTp.to t λo e=>k a o (λhm=>nt a hm vs t) e
 have P:Pass s1.heap h' μ1 μ1:=⟨⟨[],by simp,by simp⟩,λb vs n t=>kt b vs t⟩
 (refine GW N.rest ?_;intro h1 d1 t1 z6;subst z6)
 have old:∀a o,s.heap.get? a=some o→a∉wd:=λa o e hm=>by replace e:=nn a hm▸e;cases e
 refine⟨⟨_,_,_,rfl⟩,N.ext,λa o e=>?_,λa o b n e=>k a o (old a o e) (N.keep a o b n e),λa vs n x=>?_,?_⟩
 ·refine exE (N.alive a o e) λo' e'=>?_
  exact⟨o',k a o' (old a o e) e'⟩
 ·exact kt a vs (N.tup a vs n x)
 ·have S:=N.sr
  refine⟨S.len,S.nodup,λa o e=>k a o (λhm=>by replace e:=n0 a hm▸e;cases e) (S.base a o e),S.above,λj o e=>?_⟩
  refine AJ (S.obj j o e) λb hb' y=>?_
  refine exE y.here λob eb=>?_
  exact⟨b,hb',y.pass P (by refine rwl eb ?_;exact k b ob (λhm=>nm b hm (SR.mem hb')) eb)⟩
theorem YZ{D I a:AD}{i r:AA}{xs:List V}{es':List (V×V)}{s0:AF}{μ0:List AD}{R:HD→AF→Prop}(hh:A.handled=none)(hu:A.units+3<Av)(hI:s0.heap.get? I=none)(hI0:h₀.get? I=none)(hIm:I∉μ)(hD:μ[i]? =some D)(ha:μ[r]? =some a)(hri:r≠i)(hf:fits es'.length=true):
  ∀(k j:AA) (s:AF) (st:St) (es:List (V×V)) (t:Tok),j+k=xs.length→Nx w ca h₀ hb s0 μ0 s μ st→st[i]? =some (.dict es es.length)→st[r]? =some (.list xs)→s.heap.IsListIter I a j→Fy (xs.drop j) es=some es'→
   (∀s',Nx w ca h₀ hb s0 μ0 s' μ (st.set i (.dict es' es'.length))→R (.ok (.ret .none)) s')→Es (AU prog w) A (.builtin "dict.update.loop" ⟨[.ref D,.ref I,.int (j:AA) t,.none],[]⟩) R s
 | 0,j,s,st,es,t,hk,N,hi,hr,it,e,h=>by
  refine A6 (N.sr.list hr ha) λws n e0 rx=>?_
  refine HE U5 ?_
  refine rwl (IC NR _) ?_
  show AP _ A.in1 (EU (.ref I)>>= _) _ _ s
  refine AG (Oe (A:=A.in1) (by simpa using hh) it (B0 e0) (by simp [rx.length];omega) λh' he=>?_)
  rw [J7 (by omega)] at e
  simp only [Fy,Jy] at e
  subst e
  show AP _ A.in1 (BW.Dict.addKeywords D []>>= _) _ _ _
  refine AG (AN (AN (h {s with heap:=h'} ?_)))
  have est:st.set i (.dict es es.length)=st:=by
   apply Oo;intro q
   refine rwl (Ro) ?_
   split
   ·rename_i hq;subst hq
    split
    ·exact hi.symm
    ·rename_i hq;rw [L4 (by omega)] at hi;cases hi
   ·rfl
  refine rwl est ?_
  exact N.lose (tk:=s.toks) (XU he) (by simpa using hI0) (by simpa using hI) (Pb hIm) λb hb vs t=>by simp at hb;subst hb;exact Ju it t
 | k+1,j,s,st,es,t,hk,N,hi,hr,it,e,h=>by
  refine A6 (N.sr.list hr ha) λws n e0 rx=>?_
  have hj:j<xs.length:=by omega
  have hd:xs.drop j=xs[j]::xs.drop (j+1):=KN hj
  replace e:=hd▸e
  refine AJ (rx.get (Ba hj)) λu hu' ru=>?_
  refine BO (Xw e) λkk vv hx hsimp e=>?_
  replace ru:=hx▸ru
  have hlen:=bK _ e
  replace hlen:=Pg▸hlen
  (refine BV ru ?_;clear ru;intro b us z7;subst z7;intro tp nb rus)
  refine HE U5 ?_
  refine rwl (IC NR _) ?_
  show AP _ A.in1 (EU (.ref I)>>= _) _ _ s
  refine AG (Of it (B0 e0) (x:=.ref b) (by simpa using hu') λh1 it1 hs1=>?_)
  have N1:Nx w ca h₀ hb s0 μ0 {s with heap:=h1} μ st:=N.lose (tk:=s.toks) (λc o hc e=>(hs1.2 c (by simpa using hc)).trans e) (by simpa using hI0) (by simpa using hI) (Pb hIm) λb hb vs t=>by simp at hb;subst hb;exact Ju it t
  have hbI:b≠I:=by rintro rfl;exact Ju it tp
  have P1:Pass s.heap h1 μ μ:=⟨⟨[],by simp,by simp⟩,λc vs n t=>IsTp.to t λo e=>(hs1.2 c (by rintro rfl;exact Ju it t)).trans e⟩
  have tp1:=P1.tup b _ nb tp
  have rus1:=rus.pass P1
  (refine BO (VRs.two rus1) ?_;intro ku vu z8;subst z8;intro rk rv)
  dsimp only
  refine AG (Bj (AG (wpAny_tryCatch ?_)))
  unfold BW.Dict.pairItems
  refine AG (I3 (T:="tuple") tp1.tup.typeIs ?_)
  refine rwl (AM (by decide)) ?_
  obtain⟨ob,eob,_,_,nn,dob⟩:=tp1
  refine AG (KQ eob dob (AN ?_))
  show AP _ A.in1 (Oq [ku,vu] (Nw D ku vu)) _ _ _
  refine(Bj (Q3 (A:=A.in1) N1.sr (by show A.units+1<Av;omega) hD hi hsimp rk rv (PV hf (by split at hlen<;>omega)) λs2 N2=>?_))
  have N3:=N1.then N2
  have hil:i<st.length:=(BA.mp hi).1
  have est:(if(Aa kk es).isSome then es.length else es.length+1)=(CD kk vv es).length:=Pg.symm
  replace N3:=est▸N3
  (refine AJ it1 ?_;clear it1;intro oI eI cI)
  have it2:s2.heap.IsListIter I a (j+1):=⟨oI,N2.keep I _ ⟨_,eI⟩ hIm eI,cI⟩
  refine AN ⟨JC NR _,?_⟩
  refine YZ hh hu hI hI0 hIm hD ha hri hf k (j+1) s2 _ (CD kk vv es) 0 (by omega) N3 (by simp [hil]) (by refine rwl (Jz (Bq hri)) ?_;exact hr) it2 e λs' N'=>h s' ?_
  rw [List.set_set] at N'
  exact N'
theorem dq{r:AA}{xs:List V}{es:List (V×V)}{v:V}{x:AB}{Q:AB→AF→Prop}(hh:A.handled=none)(S:SR w ca h₀ s.heap st μ)(hu:A.units+20<Av)(hx:st[r]? =some (.list xs))(ra:VR s.heap μ (.ref r) x)
  (e1:Fy xs []=some es) (e:Ci (.dict es es.length) st=some (v,st')) (h:BU w ca h₀ s μ st' v Q):AP (AU prog w) A (call (.type "dict") [x]) Q E s:=by
 simp only [VR] at ra
 (refine AJ ra ?_;clear ra;intro a z9;subst z9;intro ha)
 (refine A7 (JT e) ?_;intro hf z0;subst z0;intro z1;subst z1)
 refine A6 (S.list hx ha) λvs n e0 rx=>?_
 generalize hDD:s.heap.objs.size=D
 have nD:s.heap.get? D=none:=by refine rwr hDD ?_;exact C2 _
 refine callType_codes (Q₁:=λobj s₁=>obj= .ref D∧s₁= {s with heap:=s.heap.push {cls:=.type "dict",data:=.dict #[]}}) PySem.F.kt_called_dict (PySem.F.kt_typeCall_dict_1 _) PySem.F.entry_dict_init (kt_code_dict_new _ ⟨by(refine rwl hDD ?_;rfl),rfl⟩) ?_
 (intro obj s₁ zr18;(refine Bs zr18 ?_;clear zr18;intro z2;subst z2;intro z3;subst z3))
 have kD:∀b o,s.heap.get? b=some o→(s.heap.push {cls:=.type "dict",data:=.dict #[]}).get? b=some o:=λb o e=>Az _ e
 have eD:(s.heap.push {cls:=.type "dict",data:=.dict #[]}).get? D=some (Di [] 0):=by refine rwr hDD ?_;exact Bb _ rfl
 have hDT:So {s with heap:=s.heap.push {cls:=.type "dict",data:=.dict #[]}} (.ref D) "dict":=⟨_,eD,rfl⟩
 refine⟨hDT,PySem.F.args_dict_init_2 _ _,?_⟩
 unfold BW.«dict.__init__»
 refine AG ?_
 unfold BW.Dict.selfAndRest
 refine AG (Ls hDT ?_)
 show AP _ _ (pure (D,[Hs a])) _ _ _
 refine AN ?_
 show AP _ _ (aC "dict.__init__" D (.ref a) [] .none) _ _ _
 unfold aC
 refine AG (I3 (T:="list") ⟨_,kD _ _ e0,rfl⟩ ?_)
 refine rwl (AM (by decide)) ?_
 refine AG (gG (A:=A.in1.in1) (kD _ _ e0) (by simpa using hh) λh2 tk k2=>?_)
 refine rwl (AM (by rfl)) ?_
 refine AG (Dc (AG ?_))
 have e2:=k2 _ _ (kD _ _ e0)
 have eD2:=k2 _ _ eD
 refine J9 (B0 e2) ?_
 generalize hII:h2.objs.size=I
 have nI:h2.get? I=none:=by refine rwr hII ?_;exact C2 _
 have eI:(h2.push {cls:=.type "list_iterator",data:=.fields #[.ref a,.int 0 0]}).get? I=some {cls:=.type "list_iterator",data:=.fields #[.ref a,.int 0 0]}:=by refine rwr hII ?_;exact Bb _ rfl
 have k3:∀b o,s.heap.get? b=some o→(h2.push {cls:=.type "list_iterator",data:=.fields #[.ref a,.int 0 0]}).get? b=some o:=λb o e=>Az _ (k2 b o (kD b o e))
 generalize hs3:({s with heap:=h2.push {cls:=.type "list_iterator",data:=.fields #[.ref a,.int 0 0]},toks:=tk}:AF)=s3
 have N0:Nx w ca h₀ s.heap s μ s3 μ st:=by refine rwr hs3 ?_;exact Nx.grow (t:=tk) S k3
 have eD3:s3.heap.get? D=some (Di [] 0):=by refine rwr hs3 ?_;exact Az _ eD2
 have eI3:s3.heap.get? I=some {cls:=.type "list_iterator",data:=.fields #[.ref a,.int 0 0]}:=by refine rwr hs3 ?_;exact eI
 have nI0:s.heap.get? I=none:=Dw λo e=>by replace nI:=k2 _ _ (kD _ _ e)▸nI;cases nI
 have nm:D∉μ:=by refine rwr hDD ?_;exact IM S
 have nmI:I∉μ:=λhm=>by refine exE (S.here hm) λo e=>?_;replace e:=nI0▸e;cases e
 have hDI:I≠D:=by rintro rfl;replace eD2:=nI▸eD2;cases eD2
 have Na:Nx w ca h₀ s.heap s μ s3 (μ++[D]) (st++[.dict [] 0]):=N0.adopt nD nm (EH S nD) (λvs t=>FX eD3 rfl (by decide) t) ⟨[],eD3,rfl,rfl⟩
 have hrl:r<st.length:=(BA.mp hx).1
 refine AN ⟨JC NR _,?_⟩
 subst hs3
 refine YZ (I:=I) (D:=D) (a:=a) (i:=st.length) (r:=r) (xs:=xs) (es':=es) (μ:=μ++[D]) (s0:=s) (μ0:=μ) (A:=A.in1) (j:=0) (es:=[]) hh (by show A.units+1+3<Av;omega) nI0 (EH S nI0) (by simp [nmI,hDI]) (by refine rwr S.len ?_;simp) (by refine rwl (C6 (BA.mp ha).1) ?_;exact ha)
  (BP hrl) hf xs.length _ _ 0 (by simp) Na (by simp) (by refine rwl (C6 hrl) ?_;exact hx) ⟨_,eI3,rfl,rfl⟩ (by simpa using e1) λs' N'=>?_
 refine⟨rfl,h s' _ _ (by simpa using N') ?_⟩
 simp only [VR]
 exact⟨D,rfl,by refine rwr S.len ?_;simp⟩
end
end Mine
namespace Mine
open PySem PySem.Calls PyProof.Rows PySem.SeqAt PySem.MeetsSeq
section
variable{w:Ae}{ca:AE→AD}{h₀ h h':AQ}{μ μ':List AD}{st st':St}{s:AF}{prog:Ar}{A:Aq}{E:AB→AF→Prop}
theorem fS{a v:V}{u:AB}{Q:AB→AF→Prop}(S:SR w ca h₀ s.heap st μ)(e:Yb a st=some (v,st'))(ru:VR s.heap μ a u)(h:BU w ca h₀ s μ st' v Q):AP (AU prog w) A (call (.builtin "len") [u]) Q E s:=by
 cases a with
 | tup l=>
  refine gdE e λhf e=>?_
  (refine BV (VRs.toTup (a:=0) ru) ?_;intro a ws z4;subst z4;intro t na r)
  have hl:ws.toArray.size=l.length:=r.length
  exact len_tuple t (Xq hf hl) (FH S h e (by refine rwl hl ?_;exact VR.int_ _ _) _)
 | ref r=>
  (refine AJ ru ?_;clear ru;intro aa z5;subst z5;intro ha)
  refine FL e λxs hx e=>gdE e λhf e=>?_
  refine A6 (S.list hx ha) λws n e0 rx=>?_
  have hl:ws.toArray.size=xs.length:=rx.length
  exact call_len_list (B0 e0) (Xq hf hl) (FH S h e (by refine rwl hl ?_;exact VR.int_ _ _) _)
 | _=>exact no e
theorem j2{a v:V}{u:AB}{Q:AB→AF→Prop}(S:SR w ca h₀ s.heap st μ)(e:T5 a st=some (v,st'))(ru:VR s.heap μ a u)(h:BU w ca h₀ s μ st' v Q):AP (AU prog w) A (call (.type "tuple") [u]) Q E s:=by
 cases a with
 | tup l=>
  (refine BV (VRs.toTup (a:=0) ru) ?_;intro a ws z6;subst z6;intro t na r)
  exact call_tuple_tup t (Jv S h e ru)
 | ref r=>
  (refine AJ ru ?_;clear ru;intro aa z7;subst z7;intro ha)
  refine FL e λxs hx e=>?_
  refine A6 (S.list hx ha) λws n e0 rx=>?_
  refine call_tuple_list (B0 e0) (λh' k=>?_) (show ws.length≤Dd from rx.length▸DT (Dx (Ng e).1))
  have N:Nx w ca h₀ s.heap s μ {s with heap:=h'} μ st:=Nx.grow (t:=s.toks) S k
  exact MQ (s:={s with heap:=h'}) N.sr e (λs' μ' u N' r=>h s' μ' u (N.then N') r) (rx.pass N.pass) s.toks 0
 | _=>exact no e
theorem jH{f:AE}{v:V}{vs:List V}{us:List AB}{Q:AB→AF→Prop}(hh:A.handled=none)(SM:∃o,h₀.get? B6=some o)(S:SR w ca h₀ s.heap st μ)(hu:A.units+20<Av)(e:Ck f vs st=some (v,st'))(rs:VRs s.heap μ vs us)(h:BU w ca h₀ s μ st' v Q):
  AP (AU prog w) A (call (HO f) us) Q E s:=by
 refine Jl e λy q e=>?_
 (refine AJ (VRs.one (q▸rs)) ?_;intro u z8;subst z8;intro ru)
 have go:∀{g:AE} {b:AB},f=g→HO g=b→AP (AU prog w) A (call b [u]) Q E s→AP (AU prog w) A (call (HO f) [u]) Q E s:=λh1 h2 h3=>h1▸h2▸h3
 refine Dh e (λhf e=>go hf rfl (fS S e ru h)) λ_ e=>?_
 refine Dh e (λhf e=>go hf rfl (j2 S e ru h)) λ_ e=>?_
 refine Dh e (λhf e=>FT e λr q e=>WQ e λes n hx e=>go hf rfl (ll hh SM S hx (q▸ru) e h)) λ_ e=>?_
 refine Dh e (λhf e=>FT e λr q e=>FL e λxs hx e=>Bn e λes e1 e2=>go hf rfl (dq hh S hu hx (q▸ru) e1 e2 h)) λ_ e=>?_
 refine Dh e (λhf e=>FT e λr q e=>FL e λxs hx e=>gdE e λhc e=>(Ac.mp hc).elim λc1 c2=>go hf rfl (bF hh S hu hx (q▸ru) c1 (BC c2) e h)) λ_ e=>?_
 refine Dh e (λhf e=>FT e λr q e=>Bn e λo hx e=>go hf rfl ?_) λ_ e=>?_
 ·cases o with
  | list xs=>exact Bn e λys e1 e2=>bR S hx (q▸ru) e1 e2 h
  | set xs=>exact Bn e λys e1 e2=>cy hh S hx (q▸ru) e1 e2 h
  | _=>exact no e
 refine Dh e (λhf e=>FT e λr q e=>FL e λxs hx e=>Bn e λis hi e=>go hf rfl ?_) λ_ e=>?_
 ·cases is with
  | nil=>exact no e
  | cons i is=>cases e;exact iy hh S hx (q▸ru) hi h
 refine Dh e (λhf e=>FT e λr q e=>FL e λxs hx e=>Bn e λis hi e=>gdE e λhl e=>go hf rfl ?_) λ_ e=>?_
 ·cases e;exact kz hh S hx (q▸ru) hi hl h
 refine gdE e λhf e=>E9 e λi q e=>go hf rfl ?_
 (refine exE (q▸ru:VR s.heap μ (.int i) u) ?_;intro t z9;subst z9)
 exact call_int_int (Jv S h e (VR.int_ _ _))
end
end Mine
namespace Mine
open PySem PySem.Calls PyProof.Rows PySem.SeqAt PySem.MeetsSeq
open AutoSeq1 (wpAny_loadPart')
section
variable{prog:Ar}{w:Ae}{A:Aq}{E:AB→AF→Prop}{s:AF}
theorem Ms{it l:AD}{i:AA}{items:AS AB}{Q:AB→AF→Prop}(hh:A.handled=none)(hit:IsTupIter s.heap it l i)(hl:IsTup s.heap l items)
  (hQ:∀x h',items[i]? =some x→IsTupIter h' it l (i+1)→C7 it s.heap h'→Q x {s with heap:=h'})
  (hE:∀h' e,items[i]? =none→FF it s.heap h'→(∃o,h'.get? e=some o∧o.cls= .type "StopIteration")→E (.ref e) {s with heap:=h'}):
  AP (AU prog w) A (S1 (.ref it)) Q E s:=by
 refine Al (id hit) λo ho hc hd=>?_
 obtain⟨ol,hol,_,nl,hdl⟩:=hl
 refine AG (G5 (name:=AK "__next__") hit.typeIs aE
  (Dq aE hit.typeIs entry_tupleiter_next ?_ (args_tupleiter_next _)))
 refine AG (m:=field (.ref it) 0) (G6 ho hd (x:=.ref l) rfl ?_)
 refine A5 (λz=>absurd z DD) λ_=>?_
 refine AG (m:=field (.ref it) 1) (G6 ho hd (x:=.int i 0) rfl ?_)
 refine AG (m:=Lx (.ref l)) (KQ hol hdl ?_)
 show AP _ _ (match items[i]? with | some x=>_ | none=>_) _ _ s
 cases hx:items[i]? with
 | some x=>
  refine AG (Fn ho hd (by simp) (AN ⟨x,rfl,AN (hQ x _ hx ?_ (DF ..))⟩))
  exact⟨_,GI _ ho (Z8 (Om hd _)),(Z9 ..).trans hc,by
   rw [Om hd];simp [CK]⟩
 | none=>
  refine AG (Dc (AG (Fn ho hd (by simp) ?_)))
  exact Qo hh λh2 e k he=>hE _ _ hx (λb o hb q=>k b o ((DF ..).extBut b o hb q)) he
theorem IsTupIter.but{h h':AQ}{it t b:AD}{i:AA}(x:IsTupIter h it t i)(hs:FF b h h')(hb:it≠b):IsTupIter h' it t i:=x.elim λo zz=>zz.elim λe r=>⟨o,hs it o hb e,r⟩
theorem IsTupIter.at'{h h':AQ}{it t:AD}{i:AA}(x:IsTupIter h it t i)(k:∀o,h.get? it=some o→h'.get? it=some o):IsTupIter h' it t i:=x.elim λo zz=>zz.elim λe r=>⟨o,k o e,r⟩
theorem IsTup.at'{h h':AQ}{t:AD}{vs:AS AB}(x:IsTup h t vs)(k:∀o,h.get? t=some o→h'.get? t=some o):IsTup h' t vs:=x.elim λo zz=>zz.elim λe r=>⟨o,k o e,r⟩
theorem Draws.tup{prog:Ar}{w:Ae}{A:Aq}(hh:A.handled=none)(it t:AD)(hne:t≠it)(items:AS AB):
  Draws prog w A it [it,t] items.size (λi v=>items[i]? =some v) (λi h=>IsTupIter h it t i∧IsTup h t items) where
 live:=λ_ _ st=>(st.1).elim λo zz=>zz.elim λho _=>⟨o,ho⟩
 frame:=λ_ _ _ st hk=>⟨IsTupIter.at' st.1 λo e=>hk it (by simp) o e,IsTup.at' st.2 λo e=>hk t (by simp) o e⟩
 item:=λi s Q E hi st hQ=>Ms hh st.1 st.2 (λx h' hx hit' hs'=>hQ x h' s.toks hx ⟨hit',st.2.extBut hs'.extBut hne⟩ hs') λh' e hx=>absurd hi (Fh (Zv.mp hx))
 done:=λs Q E st hE=>Ms hh st.1 st.2 (λx h' hx=>absurd (OS.mp hx).1 (CY _)) λh' e _=>hE h' e
theorem mU{α:Type}{M:Ej}{x:α}{Q:α→AF→Prop}(h:∀b,Q b s):AP M A (pure x) Q E s:=AN (h x)
theorem md(l:AD)(items:AS AB):
  Meets (BW.«enumerate.__new__» ⟨[.type "enumerate",.ref l],[]⟩) (λ_ R s=>IsTup s.heap l items∧
   R (.ok (.ret (.ref (s.heap.push {cls:=.type "tuple_iterator",data:=.fields #[.ref l,.int 0 0]}).objs.size)))
    {s with heap:=(s.heap.push {cls:=.type "tuple_iterator",data:=.fields #[.ref l,.int 0 0]}).push {cls:=.type "enumerate",data:=.fields #[.none,.bool false,.ref s.heap.objs.size,CK 0,.none,.none]}}):=
 .of_wp λprog w A R s h=>by
  obtain⟨hp,g,d,tk,os⟩:=s;(have zz:=h;clear h;have hl:=zz.1;have h:=zz.2;clear zz)
  have hsub:=sub_enumerate
  have hL:IsTup (S4 ⟨hp,g,d,tk,os⟩) l items:=hl
  wp_walk
  refine wpAny_stack_any λst=>mU λb=>?_
  cases b with
  | false=>
   wp_walk using L8 hL
   exact⟨_,rfl,h⟩
  | true=>
   wp_walk using L8 hL
   exact⟨_,rfl,h⟩
theorem nJ{l:AD}{items:AS AB}{Q:AB→AF→Prop}(hL:IsTup s.heap l items)
  (h:∀h',IsEnum h' (s.heap.objs.size+1) s.heap.objs.size 0 .none→IsTupIter h' s.heap.objs.size l 0→h'.objs.size=s.heap.objs.size+2→
   (∀b o,s.heap.get? b=some o→h'.get? b=some o)→Q (.ref (s.heap.objs.size+1)) {s with heap:=h'}):
  AP (AU prog w) A (call (.type "enumerate") [.ref l]) Q E s:=by
 refine callType_new PySem.F.called_enumerate (by decide) (PySem.F.typeCall_enumerate_1 _) (PySem.F.newCall_enumerate_1 _) (λobj=>PySem.F.args_object_init_2 obj _) PySem.F.entry_enumerate_new
  (md l items) ⟨hL,?_⟩
 have hz:(s.heap.push {cls:=.type "tuple_iterator",data:=.fields #[.ref l,.int 0 0]}).objs.size=s.heap.objs.size+1:=Dr ..
 show _∧_
 refine rwl hz ?_
 have he:IsEnum ((s.heap.push {cls:=.type "tuple_iterator",data:=.fields #[.ref l,.int 0 0]}).push
   {cls:=.type "enumerate",data:=.fields #[.none,.bool false,.ref s.heap.objs.size,CK 0,.none,.none]}) (s.heap.objs.size+1) s.heap.objs.size 0 .none:=by
  have:=Bb (s.heap.push {cls:=.type "tuple_iterator",data:=.fields #[.ref l,.int 0 0]})
   (o:={cls:=.type "enumerate",data:=.fields #[.none,.bool false,.ref s.heap.objs.size,CK 0,.none,.none]}) rfl
  replace this:=hz▸this;exact this
 refine⟨⟨_,he,rfl⟩,h _ he ⟨_,Az _ (Bb _ rfl),rfl,rfl⟩ (by(refine rwl (Dr ..) (rwl hz ?_);rfl)) λb o x=>Az _ (Az _ x)⟩
end
section
variable{w:Ae}{ca:AE→AD}{h₀ h h':AQ}{μ μ':List AD}{st st':St}{s:AF}{prog:Ar}{A:Aq}{E:AB→AF→Prop}
theorem WY:∀(k:AA) (l:List V) (i:AA) (a:V),(EZ k l)[i]? =some a→∃x,l[i]? =some x∧a= .tup [.int ((k+i:AA):Int),x]
 | k,[],i,a,h=>by simp [EZ] at h
 | k,x::l,0,a,h=>by simp [EZ] at h;exact⟨x,rfl,by simpa using h.symm⟩
 | k,x::l,i+1,a,h=>by
  refine AJ (WY (k+1) l i a (by simpa [EZ] using h)) λy h1 h2=>?_
  exact⟨y,by simpa using h1,by refine rwl h2 ?_;congr 3;omega⟩
theorem Vv:∀(k:AA) (l:List V),(EZ k l).length=l.length
 | k,[]=>rfl
 | k,x::l=>by simp [EZ,Vv (k+1) l]
structure i7(xs:List V)(e it t:AD)(i:AA)(h:AQ)(μ:List AD):Prop where
 ee:∃old,IsEnum h e it i old
 tt:IsTupIter h it t i
 off:e∉μ∧it∉μ∧t∉μ
 w:∃vs:List AB,IsTp h t vs.toArray∧VRs h μ xs vs
theorem Wk.enum{elts:List Expr}{k:AA}{pos:Ax}(hh:A.handled=none){e it t:AD}{xs:List V}{st0:St}(he0:h₀.get? e=none)(hi0:h₀.get? it=none)(hei:e≠it):
  Wk prog w ca h₀ A (.Tuple elts k pos) (.ref e) [e,it] [it] [e,it] (EZ 0 xs) none st0
   (i7 xs e it t) where
 new0:=by simp [he0,hi0]
 sub:=by simp
 off:=λZ=>Pb Z.off.2.1
 apart:=λZ a ha=>.inr λvs t=>by
  rcases Ak.mp ha with rfl | ha
  ·exact Z.ee.elim λ_ h1=>FX h1 rfl (by decide) t
  ·(have zz:=Aw.mp ha;subst zz);exact JY Z.tt t
 sub':=λa h=>h
 here:=λZ a ha=>by
  rcases Ak.mp ha with rfl | ha
  ·exact Z.ee.elim λ_ h1=>⟨_,h1⟩
  ·(have zz:=Aw.mp ha;subst zz);exact Z.tt.elim λo e=>⟨o,e.1⟩
 nx:=λ{i hb s s' μ μ' st'} Z hw N=>by
  obtain⟨⟨old,h1⟩,⟨o,e2,r2⟩,⟨ne,ni,nt⟩,vs,ht,hr⟩:=Z
  refine exE (IsTp.get ht) λo3 e3=>?_
  exact⟨⟨old,N.here (hw e (by simp)) ne h1⟩,⟨o,N.here (hw it (by simp)) ni e2,r2⟩,⟨N.pass.notin ne h1,N.pass.notin ni e2,N.pass.notin nt e3⟩,vs,N.tup _ _ nt ht,hr.pass N.pass⟩
 item:=λ{i s μ st a Q E} ha Z S hs hQ=>by
  obtain⟨⟨old,h1⟩,h2,⟨ne,ni,nt⟩,vs,ht,hr⟩:=Z
  (refine AJ (WY 0 xs i a ha) ?_;intro x hx z0;subst z0)
  refine AJ (hr.get hx) λu hu ru=>?_
  have hti:t≠it:=by rintro rfl;exact JY h2 ht
  have hte:t≠e:=by rintro rfl;exact FX h1 rfl (by decide) ht
  have hil:i<vs.toArray.size:=(BA.mp hu).1
  refine wpAny_pyNext_enum_itemD (Draws.tup (by exact hh) it t hti vs.toArray) h1 ⟨h2,ht.tup⟩ hil hei (by simp [hei,Bq hte]) λy h' tk hy hout zq1 hT hsz hk=>zq1.elim λhit _=>⟨_,rfl,?_⟩
  (have zz:=AV (hu.symm.trans (En.symm.trans (show vs.toArray[i]? =some y from hy)));subst zz)
  refine wpAny_letOwnedTupleGo_enum (s:={s with heap:=h',toks:=tk+1}) hout λh'' he'' hs''=>?_
  have hTe:s.heap.objs.size≠e:=Fm (BQ h1)
  refine AJ (id h2) λoi ei ri=>?_
  have k:∀b o,b∉[e,it]→s.heap.get? b=some o→h''.get? b=some o:=λb o hb eb=>by
   simp only [Ak,Dm,or_false,not_or] at hb
   exact hs''.extBut b o hb.1 (hk b o hb.1 hb.2 eb)
  have hit2:IsTupIter h'' it t (i+1):=IsTupIter.but hit hs''.extBut (Bq hei)
  refine AJ (id hit2) λoi2 ei2 _=>?_
  have N:=Nx.iter (tk:=tk+1) S k (by simp [ne,ni]) (by simp [he0,hi0]) (λa ha=>by
    rcases Ak.mp ha with rfl | ha
    ·exact⟨_,he''⟩
    ·simp at ha;subst ha;exact⟨_,ei2⟩) (λa ha vs t=>by
    rcases Ak.mp ha with rfl | ha
    ·exact FX h1 rfl (by decide) t
    ·simp at ha;subst ha;exact JY h2 t)
  have P:Pass s.heap h'' μ μ:=(N {} (λa _=>rfl)).pass
  have hT2:h''.get? s.heap.objs.size=some {cls:=.type "tuple",data:=.seq #[.int i tk,u]}:=hs''.extBut _ _ hTe hT
  refine hQ h'' (tk+1) _ N k ?_ ⟨⟨u,by simpa using he''⟩,hit2,⟨ne,ni,nt⟩,vs,P.tup _ _ nt ht,hr.pass P⟩
  refine⟨_,[.int i tk,u],rfl,⟨_,hT2,rfl,rfl,_,rfl⟩,IM S,VRs.cons ?_ (VRs.cons (ru.pass P) VRs.nil)⟩
  refine rwl (CI ..) ?_;exact VR.int_ _ _
 done:=λ{i s μ st Q E} ha Z S hs hQ=>by
  obtain⟨⟨old,h1⟩,h2,⟨ne,ni,nt⟩,vs,ht,hr⟩:=Z
  rw [Vv] at ha
  have hti:t≠it:=by rintro rfl;exact JY h2 ht
  have hn:vs.toArray.size=i:=by simp [hr.length,ha]
  subst hn
  exact wpAny_pyNext_enum_endD (Draws.tup (by exact hh) it t hti vs.toArray) h1 ⟨h2,ht.tup⟩ λh' he'=>hQ h' s.toks (XU he')
 self:=λ{i s μ Q E} Z h=>Z.ee.elim λold h1=>aF h1 h
end
end Mine
namespace Mine
open PySem PySem.Calls PyProof.Rows PySem.SeqAt PySem.MeetsSeq
section
variable{prog:Ar}{w:Ae}{A:Aq}{E:AB→AF→Prop}{s:AF}
theorem UK{α β:Type}{M:Ej}{x:α}{l:List α}{b:β}{f:α→β→CH (OW β)}{Q:β→AF→Prop}(h:AP M A (f x b>>= λr=>match r with | .done b=>pure b | .yield b=>forIn l b f) Q E s):AP M A (forIn (x::l) b f) Q E s:=(AW (AP M A · Q E s) (KL ..)).mpr h
theorem XW{z TI TO i1 i2 l1 l2:AD}{k1 k2:AA}{xs ys:AS AB}{a b:AB}{Q:AB→AF→Prop}(hh:A.handled=none)(D:ZipApart z TI TO i1 i2 l1 l2)
  (hz:HF s.heap z TI TO .none) (hTI:Df s.heap TI (.ref i1) (.ref i2)) (hTO:Df s.heap TO a b)
  (h1:IsTupIter s.heap i1 l1 k1) (h2:IsTupIter s.heap i2 l2 k2) (hl1:IsTup s.heap l1 xs) (hl2:IsTup s.heap l2 ys) (both:∀x,xs[k1]? =some x→ys[k2]? =none→As)
  (hQ:∀x y h',xs[k1]? =some x→ys[k2]? =some y→HF h' z TI TO (CK s.heap.objs.size)→Df h' TO x y→IsTupIter h' i1 l1 (k1+1)→IsTupIter h' i2 l2 (k2+1)→Df h' s.heap.objs.size x y→
   (∀c o,c≠z→c≠TO→c≠i1→c≠i2→s.heap.get? c=some o→h'.get? c=some o)→Q (.ref s.heap.objs.size) {s with heap:=h'})
  (hE:∀h' e,xs[k1]? =none→(∀c o,c≠z→c≠i1→s.heap.get? c=some o→h'.get? c=some o)→(∃o,h'.get? e=some o∧o.cls= .type "StopIteration")→E (.ref e) {s with heap:=h'}):
  AP (AU prog w) A (BW.«zip.__next__» ⟨[.ref z],[]⟩) (λfin s'=>∃v,fin= .done (.ret v)∧Q v s') E s:=by
 refine AG (m:=field (.ref z) 2) (G6 hz rfl (x:=.bool false) rfl ?_)
 refine AG (m:=field (.ref z) 3) (G6 hz rfl (x:=.ref TI) rfl (AG (KQ hTI rfl ?_)))
 refine AG (m:=BW.SmallTypes.ownedTupleIsFree (.ref z)) (AG (G6 hz rfl (x:=.none) rfl (AN ?_)))
 refine A5 (λ_=>?_) λz=>absurd rfl z
 refine AG (Dc (AG (G6 hz rfl (x:=.ref TO) rfl ?_)))
 refine AG (Ot hz (by simp) λh₁ (hz₁:HF h₁ z TI TO .ellipsis) hs₁=>?_)
 refine AG ?_
 refine UK (x:=(Hs i1,0)) (l:=[(Hs i2,1)]) (AG (AG (wpAny_onRaise ?_)))
 refine AG (m:=S1 (.ref i1)) (Ms hh (IsTupIter.but h1 hs₁.extBut D.i1z) (hl1.extBut hs₁.extBut D.l1z) (λx h₂ hx h1₂ hs₂=>AN ?_) λh₂ e hx hs₂ he=>?_)
 ·have hTO₂:Df h₂ TO a b:=hs₂.extBut _ _ D.TOi1 (hs₁.extBut _ _ D.TOz hTO)
  refine AG (KQ hTO₂ rfl (AG (aG hTO₂ λh₃ (hTO₃:Df h₃ TO x b) hs₃=>?_)))
  refine AG (SP (AN ?_))
  refine UK (x:=(Hs i2,1)) (l:=[]) (AG (AG (wpAny_onRaise ?_)))
  refine AG (m:=S1 (.ref i2)) (Ms hh (IsTupIter.but (IsTupIter.but (IsTupIter.but h2 hs₁.extBut D.i2z) hs₂.extBut D.i12.symm) hs₃.extBut D.TOi2.symm)
   (((hl2.extBut hs₁.extBut D.l2z).extBut hs₂.extBut D.l2i1).extBut hs₃.extBut D.l2TO) (λy h₄ hy h2₄ hs₄=>AN ?_) λh₄ e hy _ _=>(both x hx hy).elim)
  have hTO₄:Df h₄ TO x b:=hs₄.extBut _ _ D.TOi2 hTO₃
  refine AG (KQ hTO₄ rfl (AG (aG hTO₄ λh₅ (hTO₅:Df h₅ TO x y) hs₅=>?_)))
  refine AG (SP (AN (AN ?_)))
  refine AG (KQ hTO₅ rfl (AG (SY ?_)))
  have hsz:h₅.objs.size=s.heap.objs.size:=hs₅.1.trans (hs₄.1.trans (hs₃.1.trans (hs₂.1.trans hs₁.1)))
  have hz₅:HF h₅ z TI TO .ellipsis:=hs₅.extBut _ _ D.TOz.symm (hs₄.extBut _ _ D.i2z.symm (hs₃.extBut _ _ D.TOz.symm (hs₂.extBut _ _ D.i1z.symm hz₁)))
  have hk₅:∀c o,c≠z→c≠TO→c≠i1→c≠i2→s.heap.get? c=some o→h₅.get? c=some o:=λc o c1 c2 c3 c4 e=>hs₅.extBut _ _ c2 (hs₄.extBut _ _ c4 (hs₃.extBut _ _ c2 (hs₂.extBut _ _ c3 (hs₁.extBut _ _ c1 e))))
  have h1₅:IsTupIter h₅ i1 l1 (k1+1):=IsTupIter.but (IsTupIter.but (IsTupIter.but h1₂ hs₃.extBut D.TOi1.symm) hs₄.extBut D.i12) hs₅.extBut D.TOi1.symm
  have h2₅:IsTupIter h₅ i2 l2 (k2+1):=IsTupIter.but h2₄ hs₅.extBut D.TOi2.symm
  clear hs₁ hs₂ hs₃ hs₄ hs₅ hTO₂ hTO₃ hTO₄ hz₁ h1₂ h2₄
  have hzlt:s.heap.objs.size≠z:=hsz▸Fm (BQ hz₅)
  have hp:(h₅.push {cls:=.type "tuple",data:=.seq #[x,y]}).get? s.heap.objs.size=some {cls:=.type "tuple",data:=.seq #[x,y]}:=hsz▸Bb _ rfl
  have hu:∀c o,h₅.get? c=some o→(h₅.push {cls:=.type "tuple",data:=.seq #[x,y]}).get? c=some o:=λc o=>Az _
  refine rwl hsz ?_
  refine AG (m:=aH (.ref z) (.ref s.heap.objs.size)) ?_
  unfold aH
  refine AG (Ot (hu _ _ hz₅) (by simp) λh₇ (hz₇:HF h₇ z TI TO (CK s.heap.objs.size)) hs₇=>?_)
  refine Ot hz₇ (by simp) λh₈ (hz₈:HF h₈ z TI TO (CK s.heap.objs.size)) hs₈=>AN ⟨_,rfl,?_⟩
  have up:∀c o,c≠z→h₅.get? c=some o→h₈.get? c=some o:=λc o c1 e=>hs₈.extBut _ _ c1 (hs₇.extBut _ _ c1 (hu _ _ e))
  exact hQ x y h₈ hx hy hz₈ (up _ _ D.TOz hTO₅) (IsTupIter.at' h1₅ λo e=>up _ o D.i1z e) (IsTupIter.at' h2₅ λo e=>up _ o D.i2z e) (hs₈.extBut _ _ hzlt (hs₇.extBut _ _ hzlt hp)) λc o c1 c2 c3 c4 e=>up c o c1 (hk₅ c o c1 c2 c3 c4 e)
 ·(refine AJ he ?_;clear he;intro oe hoe hce)
  have hz₂:HF h₂ z TI TO .ellipsis:=hs₂ _ _ D.i1z.symm hz₁
  have hez:e≠z:=λx=>by
   subst x
   have:=AV (hoe.symm.trans hz₂)
   subst this
   exact absurd (show Gy "zip"= .type "StopIteration" from hce) (by decide)
  exact Ot hz₂ (by simp) λh₃ _ hs₃=>hE h₃ e hx (λc o c1 c3 x=>hs₃.extBut _ _ c1 (hs₂ _ _ c3 (hs₁.extBut _ _ c1 x))) ⟨oe,hs₃.extBut _ _ hez hoe,hce⟩
noncomputable abbrev zH1(h:AQ)(l1:AD):AQ:=h.push {cls:=.type "tuple_iterator",data:=.fields #[.ref l1,.int 0 0]}
noncomputable abbrev zH2(h:AQ)(l1 l2:AD):AQ:=(zH1 h l1).push {cls:=.type "tuple_iterator",data:=.fields #[.ref l2,.int 0 0]}
noncomputable abbrev zH3(h:AQ)(l1 l2:AD):AQ:=(zH2 h l1 l2).push {cls:=.type "tuple",data:=.seq #[.ref h.objs.size,.ref (zH1 h l1).objs.size]}
noncomputable abbrev zH4(h:AQ)(l1 l2:AD):AQ:=(zH3 h l1 l2).push {cls:=.type "tuple",data:=.seq #[.none,.none]}
noncomputable abbrev zH5(h:AQ)(l1 l2:AD):AQ:=(zH4 h l1 l2).push {cls:=.type "zip",data:=.fields #[.none,.bool false,.bool false,.ref (zH2 h l1 l2).objs.size,.ref (zH3 h l1 l2).objs.size]}
theorem cf(l1 l2:AD)(xs ys:AS AB):
  Meets (BW.«zip.__new__» ⟨[.type "zip",.ref l1,.ref l2],[]⟩) (λ_ R s=>IsTup s.heap l1 xs∧IsTup s.heap l2 ys∧
   R (.ok (.ret (.ref (zH4 s.heap l1 l2).objs.size))) {s with heap:=zH5 s.heap l1 l2}):=
 .of_wp λprog w A R s h=>by
  obtain⟨hp,g,d,tk,os⟩:=s;(refine A7 h ?_;clear h;intro hl1 hl2 h)
  have hsub:=sub_zip
  have hL1:IsTup (S4 ⟨hp,g,d,tk,os⟩) l1 xs:=hl1
  have hL2:IsTup (S4 ⟨hp.push {cls:=.type "tuple_iterator",data:=.fields #[.ref l1,.int 0 0]},g,d,tk,os⟩) l2 ys:=IsTup.push hl2 _
  wp_walk using L8 hL1,L8 hL2
  exact⟨_,rfl,h⟩
theorem bM{l1 l2:AD}{xs ys:AS AB}{Q:AB→AF→Prop}(hl1:IsTup s.heap l1 xs)(hl2:IsTup s.heap l2 ys)
  (h:∀h',HF h' (s.heap.objs.size+4) (s.heap.objs.size+2) (s.heap.objs.size+3) .none→Df h' (s.heap.objs.size+2) (.ref s.heap.objs.size) (.ref (s.heap.objs.size+1))→
   Df h' (s.heap.objs.size+3) .none .none→IsTupIter h' s.heap.objs.size l1 0→IsTupIter h' (s.heap.objs.size+1) l2 0→h'.objs.size=s.heap.objs.size+5→
   (∀c o,s.heap.get? c=some o→h'.get? c=some o)→Q (.ref (s.heap.objs.size+4)) {s with heap:=h'}):
  AP (AU prog w) A (call (.type "zip") [.ref l1,.ref l2]) Q E s:=by
 refine callType_new PySem.F.called_zip (by decide) (PySem.F.typeCall_zip_2 _ _) (PySem.F.newCall_zip_2 _ _) (λobj=>PySem.F.args_object_init_3 obj _ _) PySem.F.entry_zip_new
  (cf l1 l2 xs ys) ⟨hl1,hl2,?_⟩
 have z1:(zH1 s.heap l1).objs.size=s.heap.objs.size+1:=Dr ..
 have z2:(zH2 s.heap l1 l2).objs.size=s.heap.objs.size+2:=by(refine rwl (Dr ..) (rwl z1 ?_);rfl)
 have z3:(zH3 s.heap l1 l2).objs.size=s.heap.objs.size+3:=by(refine rwl (Dr ..) (rwl z2 ?_);rfl)
 have z4:(zH4 s.heap l1 l2).objs.size=s.heap.objs.size+4:=by(refine rwl (Dr ..) (rwl z3 ?_);rfl)
 have z5:(zH5 s.heap l1 l2).objs.size=s.heap.objs.size+5:=by(refine rwl (Dr ..) (rwl z4 ?_);rfl)
 have g5:(zH5 s.heap l1 l2).get? (zH4 s.heap l1 l2).objs.size=some _:=Bb _ rfl
 have g4:(zH5 s.heap l1 l2).get? (zH3 s.heap l1 l2).objs.size=some _:=Az _ (Bb _ rfl)
 have g3:(zH5 s.heap l1 l2).get? (zH2 s.heap l1 l2).objs.size=some _:=Az _ (Az _ (Bb _ rfl))
 have g2:(zH5 s.heap l1 l2).get? (zH1 s.heap l1).objs.size=some _:=Az _ (Az _ (Az _ (Bb _ rfl)))
 have g1:(zH5 s.heap l1 l2).get? s.heap.objs.size=some _:=Az _ (Az _ (Az _ (Az _ (Bb _ rfl))))
 show _∧_
 replace g5:=z4▸z3▸z2▸g5
 replace g3:=z2▸z1▸g3
 replace g4:=z3▸g4
 replace g2:=z1▸g2
 refine rwl z4 ?_
 exact⟨⟨_,g5,rfl⟩,h _ g5 g3 g4 ⟨_,g1,rfl,rfl⟩ ⟨_,g2,rfl,rfl⟩ z5 λc o x=>Az _ (Az _ (Az _ (Az _ (Az _ x))))⟩
end
section
variable{w:Ae}{ca:AE→AD}{h₀ h h':AQ}{μ μ':List AD}{st st':St}{s:AF}{prog:Ar}{A:Aq}{E:AB→AF→Prop}
theorem gg(l:List V):∀(m:List V) (i:AA) (a:V),(FV l m)[i]? =some a→∃x y,l[i]? =some x∧m[i]? =some y∧a= .tup [x,y]:=by
 induction l with
 | nil=>exact λ_ _ _ h=>xN h
 | cons x l ih=>
  intro m i a h
  cases m with
  | nil=>exact xN h
  | cons y m=>cases i with
   | zero=>exact⟨x,y,rfl,rfl,(AV h).symm⟩
   | succ i=>exact ih m i a h
theorem fT(l:List V):∀(m:List V),l.length=m.length→(FV l m).length=l.length:=by
 induction l with
 | nil=>exact λ_ _=>rfl
 | cons x l ih=>
  intro m h
  cases m with
  | nil=>exact nomatch h
  | cons y m=>exact AW (· +1) (ih m (CC h))
theorem UG{st0 st:St}{r:AA}(hs:Bd (some r) st0 st=true)(hr:st0[r]? =some .priv):st[r]? =some .priv:=by
 refine AJ (QT hs hr) λb e q=>?_
 cases b with
 | priv=>exact e
 | _=>exact xF q
structure ZipAt(xs ys:List V)(z TI TO i1 i2 l1 l2 p i:AA)(h:AQ)(μ:List AD):Prop where
 zz:HF h z TI TO .none
 ti:Df h TI (.ref i1) (.ref i2)
 t1:IsTupIter h i1 l1 i
 t2:IsTupIter h i2 l2 i
 off:z∉μ∧TI∉μ∧i1∉μ∧i2∉μ∧l1∉μ∧l2∉μ
 at':μ[p]? =some TO
 to:∃o,h.get? TO=some o
 w1:∃vs:List AB,IsTp h l1 vs.toArray∧VRs h μ xs vs
 w2:∃vs:List AB,IsTp h l2 vs.toArray∧VRs h μ ys vs
theorem LR{P:AD→Prop}{a b c d:AD}(ha:P a)(hb:P b)(hc:P c)(hd:P d):∀x∈[a,b,c,d],P x:=by
 intro x h
 cases h with
 | head=>exact ha
 | tail _ h=>cases h with
  | head=>exact hb
  | tail _ h=>cases h with
   | head=>exact hc
   | tail _ h=>exact Aw.mp h▸hd
theorem nin4{x a b c d:AD}(h:x∉[a,b,c,d]):x≠a∧x≠b∧x≠c∧x≠d:=
 ⟨λe=>h (e▸ .head _),λe=>h (e▸ .tail _ (.head _)),λe=>h (e▸ .tail _ (.tail _ (.head _))),λe=>h (e▸ .tail _ (.tail _ (.tail _ (.head _))))⟩
theorem Mw{h:AQ}{a l:AD}{i:AA}(x:IsTupIter h a l i):∃o,h.get? a=some o:=x.elim λo zz=>zz.elim λe _=>⟨o,e⟩
theorem ZipAt.apart{xs ys:List V}{z TI TO i1 i2 l1 l2 p i:AA}(Z:ZipAt xs ys z TI TO i1 i2 l1 l2 p i h μ):∀a∈[z,TO,i1,i2],a∈μ∨∀vs,IsTp h a vs→As:=
 LR (.inr λvs t=>FX Z.zz rfl (by decide) t) (.inl (SR.mem Z.at')) (.inr λvs t=>JY Z.t1 t) (.inr λvs t=>JY Z.t2 t)
theorem kr(S:SR w ca h₀ h st μ){z TI TO i1 i2 l1 l2 p i:AA}{xs ys:List V}(Z:ZipAt xs ys z TI TO i1 i2 l1 l2 p i h μ)(hpr:st[p]? =some .priv)(n0:∀a∈[z,TO,i1,i2],h₀.get? a=none){u v:AB}(e:s.heap=h)
  (k:∀b o,b∉[z,TO,i1,i2]→h.get? b=some o→h'.get? b=some o) (hz:∃o,h'.get? z=some o) (hTO:Df h' TO u v) (h1:∃o,h'.get? i1=some o) (h2:∃o,h'.get? i2=some o):
  Pass h h' μ μ∧∀hb:AQ,(∀a∈[z,TO,i1,i2],hb.get? a=none)→Nx w ca h₀ hb s μ {s with heap:=h'} μ st:=by
 subst e
 have kt:∀a vs,a∉μ→IsTp s.heap a vs→IsTp h' a vs:=λa vs na t=>IsTp.to t λo e=>k a o (λhm=>(Z.apart a hm).elim na λn=>n vs t) e
 have P:Pass s.heap h' μ μ:=⟨⟨[],(Bo μ).symm,nofun⟩,kt⟩
 refine⟨P,λhb hw=>⟨⟨_,_,_,rfl⟩,P.ext,λa o e=>?_,λa o zq1 n e=>zq1.elim λob eb=>k a o (λz=>by replace eb:=hw a z▸eb;cases eb) e,kt,S.len,S.nodup,λa o e=>k a o (λhm=>by replace e:=n0 a hm▸e;cases e) (S.base a o e),S.above,λj oj ej=>?_⟩⟩
 ·by_cases hm:a∈[z,TO,i1,i2]
  ·exact LR (P:=λa=>∃o,h'.get? a=some o) hz ⟨_,hTO⟩ h1 h2 a hm
  ·exact⟨o,k a o hm e⟩
 ·refine AJ (S.obj j oj ej) λb hb yb=>?_
  by_cases hj:j=p
  ·subst hj
   (have zz:=AV (hpr.symm.trans ej);subst zz)
   exact⟨TO,Z.at',u,v,hTO⟩
  ·refine exE yb.here λob eb=>?_
   have hbm:=SR.mem hb
   refine⟨b,hb,yb.pass P (eb.trans (k b ob (λhm=>?_) eb).symm).symm⟩
   exact LR (P:=λa=>a∈μ→μ[j]? =some a→As) (λm _=>Z.off.1 m) (λ_ m=>hj (S.inj m Z.at')) (λm _=>Z.off.2.2.1 m) (λm _=>Z.off.2.2.2.1 m) b hm hbm hb
theorem Wk.zip{elts:List Expr}{k:AA}{pos:Ax}(hh:A.handled=none){z TI TO i1 i2 l1 l2:AD}{p:AA}{xs ys:List V}{st0:St}(D:ZipApart z TI TO i1 i2 l1 l2)
  (n0:∀a∈[z,TO,i1,i2],h₀.get? a=none) (hp:st0[p]? =some .priv) (hlen:xs.length=ys.length):
  Wk prog w ca h₀ A (.Tuple elts k pos) (.ref z) [z,TO,i1,i2] [z,i1] [z,TO,i1,i2,TI] (FV xs ys) (some p) st0 (ZipAt xs ys z TI TO i1 i2 l1 l2 p) where
 new0:=n0
 sub:=λa h=>by
  rcases Ak.mp h with rfl | h
  ·exact .head _
  ·(have zz:=Aw.mp h;subst zz)
   exact .tail _ (.tail _ (.head _))
 off:=λZ a h=>by
  rcases Ak.mp h with rfl | h
  ·exact Z.off.1
  ·(have zz:=Aw.mp h;subst zz)
   exact Z.off.2.2.1
 apart:=λZ=>Z.apart
 sub':=λa h=>D7 [TI] h
 here:=λ{i h μ} Z a ha=>by
  rcases BD.mp (show a∈[z,TO,i1,i2]++[TI] from ha) with ha | ha
  ·exact LR (P:=λa=>∃o,h.get? a=some o) ⟨_,Z.zz⟩ Z.to (Mw Z.t1) (Mw Z.t2) a ha
  ·(have zz:=Aw.mp ha;subst zz)
   exact⟨_,Z.ti⟩
 nx:=λ{i hb s s' μ μ' st'} Z hw N=>by
  obtain⟨hz,hTI,⟨o1,e1,r1⟩,⟨o2,e2,r2⟩,⟨nz,nTI,n1,n2,m1,m2⟩,hpi,⟨oO,eO⟩,⟨vs,t1,q1⟩,us,t2,q2⟩:=Z
  refine exE (IsTp.get t1) λo3 e3=>?_
  refine exE (IsTp.get t2) λo4 e4=>?_
  exact⟨N.here (hw z (.head _)) nz hz,N.here (hw TI (.tail _ (.tail _ (.tail _ (.tail _ (.head _)))))) nTI hTI,⟨o1,N.here (hw i1 (.tail _ (.tail _ (.head _)))) n1 e1,r1⟩,⟨o2,N.here (hw i2 (.tail _ (.tail _ (.tail _ (.head _))))) n2 e2,r2⟩,⟨N.pass.notin nz hz,N.pass.notin nTI hTI,N.pass.notin n1 e1,N.pass.notin n2 e2,N.pass.notin m1 e3,N.pass.notin m2 e4⟩,N.pass.idx hpi,N.alive _ _ eO,⟨vs,N.tup _ _ m1 t1,q1.pass N.pass⟩,us,N.tup _ _ m2 t2,q2.pass N.pass⟩
 item:=λ{i s μ st a Q E} ha Z S hs hQ=>by
  (refine BO (gg xs ys i a ha) ?_;intro x y hx hy z1;subst z1)
  have hpr:=UG hs hp
  obtain⟨a0,b0,hTO⟩:∃a b,Df s.heap TO a b:=S.at hpr Z.at'
  have hT:s.TypeIs (.ref z) "zip":=⟨_,Z.zz,rfl⟩
  refine AJ Z.w1 λvs t1 q1=>?_
  refine AJ Z.w2 λus t2 q2=>?_
  refine AJ (q1.get hx) λu hu ru=>?_
  refine AJ (q2.get hy) λv hv rv=>?_
  have hu':vs.toArray[i]? =some u:=En.trans hu
  have hv':us.toArray[i]? =some v:=En.trans hv
  refine AG (Oi (G5 (name:=AK "__next__") hT Ou
   (Dq Ou hT aI
    (XW hh D Z.zz Z.ti hTO Z.t1 Z.t2 t1.tup t2.tup (λ_ _ e=>xS (hv'.symm.trans e)) (λx' y' h' hx' hy' b1 b2 b3 b4 b5 b6=>AN ⟨_,rfl,?_⟩) λ_ _ e=>xS (hu'.symm.trans e)) (aJ _))))
  (have zz:=AV (hu'.symm.trans hx');subst zz)
  (have zz:=AV (hv'.symm.trans hy');subst zz)
  refine wpAny_letOwnedTupleGo_zip (s:={s with heap:=h'}) b1 λh'' hz'' hs''=>?_
  have k:∀b o,b∉[z,TO,i1,i2]→s.heap.get? b=some o→h''.get? b=some o:=λb o hb eb=>have q:=nin4 hb
   hs''.extBut b o q.1 (b6 b o q.1 q.2.1 q.2.2.1 q.2.2.2 eb)
  have hTO'':Df h'' TO u v:=hs''.extBut _ _ D.TOz b2
  have h1'':IsTupIter h'' i1 l1 (i+1):=IsTupIter.but b3 hs''.extBut D.i1z
  have h2'':IsTupIter h'' i2 l2 (i+1):=IsTupIter.but b4 hs''.extBut D.i2z
  have hT'':Df h'' s.heap.objs.size u v:=hs''.extBut _ _ (Fm (BQ Z.zz)) b5
  clear b1 b2 b3 b4 b5 b6 hs''
  (have zz:=kr S Z hpr n0 rfl k ⟨_,hz''⟩ hTO'' (Mw h1'') (Mw h2'');have P:=zz.1;have N:=zz.2;clear zz)
  have hTI:Df s.heap TI (.ref i1) (.ref i2):=Z.ti
  exact hQ h'' s.toks _ N k ⟨_,[u,v],rfl,⟨_,hT'',rfl,rfl,_,rfl⟩,IM S,VRs.cons (ru.pass P) (VRs.cons (rv.pass P) VRs.nil)⟩
   ⟨hz'',k TI _ (λm=>LR (P:=λa=>TI≠a) D.TIz D.TITO D.TIi1 D.TIi2 TI m rfl) hTI,h1'',h2'',Z.off,Z.at',⟨_,hTO''⟩,⟨vs,P.tup _ _ Z.off.2.2.2.2.1 t1,q1.pass P⟩,us,P.tup _ _ Z.off.2.2.2.2.2 t2,q2.pass P⟩
 done:=λ{i s μ st Q E} ha Z S hs hQ=>by
  replace ha:=fT xs ys hlen▸ha
  have hT:s.TypeIs (.ref z) "zip":=⟨_,Z.zz,rfl⟩
  refine AJ Z.w1 λvs t1 q1=>?_
  refine AJ Z.w2 λus t2 q2=>?_
  refine exE Z.to λo eo=>?_
  have hpr:=UG hs hp
  obtain⟨a0,b0,hTO⟩:∃a b,Df s.heap TO a b:=S.at hpr Z.at'
  have hn:∀x,vs.toArray[i]? =some x→As:=λx e=>CY i (Yk (OS.mp e).1 (q1.length.trans ha))
  refine AG (Oi (G5 (name:=AK "__next__") hT Ou
   (Dq Ou hT aI (Cb (XW (Q:=λ_ _=>As) hh D Z.zz Z.ti hTO Z.t1 Z.t2 t1.tup t2.tup (λx e _=>hn x e) (λx _ _ e=>(hn x e).elim) λh' e _ hk he=>?_) (λ_ _ h=>h.elim λ_ zz=>zz.elim λ_ h=>h.elim) λ_ _ h=>h) (aJ _))))
  refine AG (Ol (T:="StopIteration") (b:=true) he Sr (AN (hQ h' s.toks λb o hb eb=>hk b o (λq=>hb (q▸ .head _)) (λq=>hb (q▸ .tail _ (.head _))) eb)))
 self:=λ{i s μ Q E} Z h=>aK Z.zz h
end
end Mine
namespace Mine
open PySem PySem.Calls PyProof.Rows PySem.SeqAt PySem.MeetsSeq
noncomputable abbrev Ks:=List (Str×Fo)
noncomputable def isVar(k:AH Fo):AL:=k==some .local||k==some .cell||k==some .free
noncomputable def E8(k:AH Fo):AL:=k==some .local||k==some .cell
noncomputable def E7(y:Str):AL:=(y != ("__debug__":Str))&&(y != ("__classdict__":Str))
noncomputable def EJ(K:Ks)(names:Ks):Ks:=names.map λ(n,k)=>if k== .free&&K.lookup n==some .cell then(n,.cell) else(n,k)
noncomputable def F7:Ks→AL
 | []=>true
 | (n,_)::r=>(r.lookup n).isNone&&F7 r
noncomputable def GU(K:Ks)(scope:DL)(own:List AE):AL:=
 scope.kind== .function&&F7 scope.names&&
 (scope.names.all λ(n,k)=>match k with
  | .local=>n==(".0":Str)||own.any λx=>AK x==n
  | .cell=>own.any λx=>AK x==n
  | .free=>K.lookup n==some .cell||K.lookup n==some .free
  | .globalImplicit=>true
  | .globalExplicit=>false)&&
 own.all λx=>E8 (scope.names.lookup (AK x))
set_option genInjectivity false in
structure U where
 t:AA
 a:Expr
 b:Expr
 c:Expr
 l:List Expr
 ks:List (AH Expr)
 oa:AH Expr
 ob:AH Expr
 n:Str
 bl:AL
 i:Int
 op:Operator
 ops:List CmpOp
 gs:List Eu
 sc:DL
 k:AA
 p:Ax
noncomputable def u0(x:Expr):U:=⟨99,x,x,x,[],[],none,none,default,false,0,.Add,[],[],default,0,default⟩
noncomputable def cstU(x:Expr)(c:Const)(k:AA)(p:Ax):U:=match c with
 | .none=>⟨4,x,x,x,[],[],none,none,default,false,0,.Add,[],[],default,k,p⟩
 | .bool bl=>⟨5,x,x,x,[],[],none,none,default,bl,0,.Add,[],[],default,k,p⟩
 | .int i=>⟨6,x,x,x,[],[],none,none,default,false,i,.Add,[],[],default,k,p⟩
 | .str n=>⟨7,x,x,x,[],[],none,none,n,false,0,.Add,[],[],default,k,p⟩
 | _=>u0 x
noncomputable def toU(x:Expr):U:=Expr.casesOn (motive_1:=λ_=>U) x
 (λo l p=>BoolOp.casesOn o ⟨1,x,x,x,l,[],none,none,default,false,0,.Add,[],[],default,0,p⟩ ⟨19,x,x,x,l,[],none,none,default,false,0,.Add,[],[],default,0,p⟩)
 (λ_ _ _=>u0 x)
 (λa op b p=>⟨3,a,b,x,[],[],none,none,default,false,0,op,[],[],default,0,p⟩)
 (λo a p=>UnaryOp.casesOn o (u0 x) ⟨2,a,x,x,[],[],none,none,default,false,0,.Add,[],[],default,0,p⟩ (u0 x) (u0 x))
 (λ_ _ _ _=>u0 x)
 (λa b c p=>⟨14,a,b,c,[],[],none,none,default,false,0,.Add,[],[],default,0,p⟩)
 (λks l p=>⟨17,x,x,x,l,ks,none,none,default,false,0,.Add,[],[],default,0,p⟩)
 (λ_ _ _=>⟨97,x,x,x,[],[],none,none,default,false,0,.Add,[],[],default,0,default⟩)
 (λa gs sc p=>⟨18,a,x,x,[],[],none,none,default,false,0,.Add,[],gs,sc,0,p⟩)
 (λ_ _ _ _=>u0 x)
 (λ_ _ _ _ _=>u0 x)
 (λ_ _ _ _=>u0 x)
 (λ_ _=>u0 x)
 (λ_ _=>u0 x)
 (λ_ _=>u0 x)
 (λa ops l p=>⟨9,a,x,x,l,[],none,none,default,false,0,.Add,ops,[],default,0,p⟩)
 (λa l kw p=>L9 kw ⟨8,a,x,x,l,[],none,none,default,false,0,.Add,[],[],default,0,p⟩ λ_ _=>u0 x)
 (λ_ _ _ _=>u0 x)
 (λ_ _=>u0 x)
 (λc k p=>cstU x c k p)
 (λa n p=>⟨10,a,x,x,[],[],none,none,n,false,0,.Add,[],[],default,0,p⟩)
 (λa b p=>⟨11,a,b,x,[],[],none,none,default,false,0,.Add,[],[],default,0,p⟩)
 (λ_ _=>⟨98,x,x,x,[],[],none,none,default,false,0,.Add,[],[],default,0,default⟩)
 (λn p=>⟨12,x,x,x,[],[],none,none,n,false,0,.Add,[],[],default,0,p⟩)
 (λl p=>⟨16,x,x,x,l,[],none,none,default,false,0,.Add,[],[],default,0,p⟩)
 (λl k p=>⟨13,x,x,x,l,[],none,none,default,false,0,.Add,[],[],default,k,p⟩)
 (λoa ob oc p=>AH.casesOn oc ⟨15,x,x,x,[],[],oa,ob,default,false,0,.Add,[],[],default,0,p⟩ λ_=>u0 x)
noncomputable def nth{α:Type}:AA→List α→α→α
 | 0,l,d=>l.headD d
 | n+1,l,d=>nth n l.tail d
noncomputable def ofU(t:AA)(x:Expr)(u:U):Expr:=nth t [x,.BoolOp .And u.l u.p,.UnaryOp .Not u.a u.p,.BinOp u.a u.op u.b u.p,.Constant .none u.k u.p,.Constant (.bool u.bl) u.k u.p,.Constant (.int u.i) u.k u.p,.Constant (.str u.n) u.k u.p,.Call u.a u.l [] u.p,.Compare u.a u.ops u.l u.p,.Attribute u.a u.n u.p,.Subscript u.a u.b u.p,.Name u.n u.p,.Tuple u.l u.k u.p,.IfExp u.a u.b u.c u.p,.Slice u.oa u.ob none u.p,.List u.l u.p,.Dict u.ks u.l u.p,.ListComp u.a u.gs u.sc u.p,.BoolOp .Or u.l u.p] x
theorem back(x:Expr):ofU (toU x).t x (toU x)=x:=by
 cases x with
 | BoolOp o l p=>cases o<;>rfl
 | UnaryOp o a p=>cases o<;>rfl
 | Call a l kw p=>cases kw<;>rfl
 | Constant c k p=>cases c<;>rfl
 | Slice oa ob oc p=>cases oc<;>rfl
 | _=>rfl
@[irreducible] noncomputable def frm (x:Expr) (t:AA) (k:U→AL):AL:=Gw (toU x).t t&&k (toU x)
theorem iP{x:Expr}{t:AA}{k:U→AL}:frm x t k=(Gw (toU x).t t&&k (toU x)):=by unfold frm;rfl
section
variable{α:Type}
noncomputable def b1(l:List α)(k:α→AL):AL:=match l with
 | [a]=>k a
 | _=>false
noncomputable def b2(l:List α)(k:α→α→AL):AL:=match l with
 | []=>false
 | a::l=>b1 l (k a)
noncomputable def b3(l:List α)(k:α→α→α→AL):AL:=match l with
 | []=>false
 | a::l=>b2 l (k a)
theorem b1E{l:List α}{k:α→AL}(h:b1 l k=true){G:List α→Prop}(q:∀a,k a=true→G [a]):G l:=by
 cases l with
 | nil=>cases h
 | cons a l=>cases l with
  | nil=>exact q a h
  | cons _ _=>cases h
theorem b2E{l:List α}{k:α→α→AL}(h:b2 l k=true){G:List α→Prop}(q:∀a b,k a b=true→G [a,b]):G l:=by
 cases l with
 | nil=>cases h
 | cons a l=>exact b1E (G:=λl=>G (a::l)) h (q a)
theorem b3E{l:List α}{k:α→α→α→AL}(h:b3 l k=true){G:List α→Prop}(q:∀a b c,k a b c=true→G [a,b,c]):G l:=by
 cases l with
 | nil=>cases h
 | cons a l=>exact b2E (G:=λl=>G (a::l)) h (q a)
theorem a2{a b:AL}(h:(a&&b)=true){G:Prop}(k:a=true→b=true→G):G:=k (Ac.mp h).1 (Ac.mp h).2
theorem Bc{x:Expr}{t:AA}{k:U→AL}(h:frm x t k=true){G:Expr→Prop}(q:∀u,k u=true→G (ofU t x u)):G x:=by
 unfold frm at h
 exact a2 h λh1 h2=>(J1 h1▸back x:ofU t x (toU x)=x)▸q (toU x) h2
theorem qb{β:Type} [BEq β] [LawfulBEq β]{a b:β}{c:AL}(h:(a==b&&c)=true){G:β→Prop}(k:c=true→G a):G b:=a2 h λh1 h2=>eq_of_beq h1▸k h2
theorem qe{β:Type} [BEq β] [LawfulBEq β]{a b:β}(h:(a==b)=true){G:β→Prop}(k:G a):G b:=eq_of_beq h▸k
end
noncomputable def Br(l:List Expr):AL:=l.all λx=>!Gw (toU x).t 98
noncomputable def IP(x:Expr):AL:=!frm x 8 λu=>u.l.isEmpty&&frm u.a 12 λv=>v.n==("super":Str)
noncomputable def Im:List AE→List (AH Expr)→AL
 | [],l=>l.isEmpty
 | x::xs,l=>match l with
  | []=>false
  | o::r=>o.any (λe=>frm e 7 λu=>AK x==u.n)&&Im xs r
inductive C9:List AE→Expr→Prop
 | one (x:AE) (p:Ax):C9 [x] (.Name (AK x) p)
 | two (x y:AE) (pa pb:Ax) (k:AA) (p:Ax):C9 [x,y] (.Tuple [.Name (AK x) pa,.Name (AK y) pb] k p)
noncomputable def LL(K:Ks)(y:Str):AL:=E8 (K.lookup y)&&E7 y
noncomputable def Hb(x:Expr):AH DL:=JE.match_1 (λ_=>AH DL) x (λ_ _ s _=>some s) (λ_ _ s _=>some s) (λ_ _ _ s _=>some s) λ_=>none
noncomputable def Kb(x:Expr):AL:=(Hb x).isNone
noncomputable def NH(x:Expr):AL:=frm x 13 λu=>u.l.all (constantsAlone 8)
noncomputable def X7(x:Expr):AL:=!Gw (toU x).t 97
noncomputable def Jb(x:AE)(e:Expr):AL:=frm e 12 λu=>AK x==u.n
noncomputable def Nb(t:List AE)(e:Expr):AL:=match t with
 | [x]=>Jb x e
 | [x,y]=>frm e 13 λu=>b2 u.l λa b=>Jb x a&&Jb y b
 | _=>false
theorem PO{x:AE}{e:Expr}(h:Jb x e=true){G:Expr→Prop}(q:∀p,G (.Name (AK x) p)):G e:=
 Bc (x:=e) (t:=12) h λu h=>qe (a:=AK x) (G:=λn=>G (.Name n u.p)) h (q u.p)
theorem Kt{t:List AE}{e:Expr}(h:Nb t e=true):C9 t e:=by
 cases t with
 | nil=>cases h
 | cons x t=>cases t with
  | nil=>exact PO h (.one x)
  | cons y t=>cases t with
   | nil=>exact Bc (x:=e) (t:=13) (k:=λu=>b2 u.l λa b=>Jb x a&&Jb y b) (G:=C9 [x,y]) h λu h=>b2E (l:=u.l) (G:=λl=>C9 [x,y] (.Tuple l u.k u.p)) h λa b h=>a2 h λh1 h2=>PO (G:=λa=>C9 [x,y] (.Tuple [a,b] u.k u.p)) h1 λp=>PO (G:=λb=>C9 [x,y] (.Tuple [_,b] u.k u.p)) h2 λq=>.two x y p q u.k u.p
   | cons _ _=>cases h
noncomputable def Jr(n:AE)(K:Ks)(x:Expr):AL:=frm x 12 λu=>AK n==u.n&&(K.lookup (AK n)==some .globalImplicit&&E7 (AK n))
mutual
noncomputable def chk:CE→AL→Ks→Expr→AL
 | .cnone,b,_,x=>!b&&frm x 4 λ_=>true
 | .cbool c,b,_,x=>!b&&frm x 5 λu=>c==u.bl
 | .cint c,b,_,x=>!b&&frm x 6 λu=>c==u.i
 | .cstr v,b,_,x=>!b&&frm x 7 λu=>AK v==u.n
 | .name v,_,K,x=>frm x 12 λu=>AK v==u.n&&(isVar (K.lookup (AK v))&&E7 (AK v))
 | .gname v,b,K,x=>!b&&Jr v K x
 | .bin op l r,b,K,x=>!b&&frm x 3 λu=>opB op==u.op&&(chk l false K u.a&&chk r false K u.b)
 | .cmp l op r,_,K,x=>frm x 9 λu=>b1 u.ops λo=>b1 u.l λy=>opC op==o&&(!MD (opC op) y&&(chk l false K u.a&&chk r false K y))
 | .cmp2 l op m op2 r,b,K,x=>b&&frm x 9 λu=>b2 u.ops λo o2=>b2 u.l λy z=>opC op==o&&(opC op2==o2&&(!MD (opC op2) z&&(chk l false K u.a&&(chk m false K y&&chk r false K z))))
 | .andB l r,b,K,x=>frm x 1 λu=>b2 u.l (λy z=>chk l b K y&&chk r b K z)||b&&b3 u.l λy z w=>chk l true K y&&chk r true K (.BoolOp .And [z,w] u.p)
 | .orB l r,b,K,x=>b&&frm x 19 λu=>b2 u.l λy z=>chk l true K y&&chk r true K z
 | .notB e,b,K,x=>b&&frm x 2 λu=>chk e true K u.a
 | .ite t f o,b,K,x=>!b&&frm x 14 λu=>chk t true K u.a&&(chk f false K u.b&&chk o false K u.c)
 | .callf f args,_,K,x=>frm x 8 λu=>Br u.l&&(Nd f&&(chkEs args K u.l&&Jr f K u.a))
 | .callm o m args,_,K,x=>frm x 8 λu=>Br u.l&&(decide (u.l.length<29)&&(chkEs args K u.l&&frm u.a 10 λv=>AK m==v.n&&(IP v.a&&(v.p.endLine==u.p.line&&chk o false K v.a))))
 | .attr o a,b,K,x=>!b&&frm x 10 λu=>AK a==u.n&&(IP u.a&&chk o false K u.a)
 | .sub o i,b,K,x=>!b&&frm x 11 λu=>chk o false K u.a&&chk i false K u.b
 | .slice o lo hi,b,K,x=>!b&&frm x 11 λu=>chk o false K u.a&&frm u.b 15 λv=>chkO lo K v.oa&&chkO hi K v.ob
 | .tuple es,b,K,x=>!b&&frm x 13 λu=>Br u.l&&chkEs es K u.l
 | .list es,b,K,x=>!b&&frm x 16 λu=>Br u.l&&chkEs es K u.l
 | .dict ks es,b,K,x=>!b&&frm x 17 λu=>Im ks u.ks&&(decide (ks.length≤10)&&(decide (ks.length=es.length)&&chkEs es K u.l))
 | .comp e gs,b,K,x=>!b&&frm x 18 λu=>!gs.isEmpty&&(GU K u.sc (Bp gs)&&(chkGs gs (Bp gs) K (EJ K u.sc.names) u.gs&&chk e false (EJ K u.sc.names) u.a))
noncomputable def chkEs:List CE→Ks→List Expr→AL
 | [],_,x=>x.isEmpty
 | e::es,K,x=>match x with
  | []=>false
  | y::ys=>chk e false K y&&chkEs es K ys
noncomputable def QJ:List CE→Ks→List Expr→AL
 | [],_,x=>x.isEmpty
 | e::es,K,x=>match x with
  | []=>false
  | y::ys=>chk e true K y&&QJ es K ys
noncomputable def chkO:AH CE→Ks→AH Expr→AL
 | none,_,x=>x.isNone
 | some e,K,x=>x.any λy=>chk e false K y
noncomputable def Qv:It→Ks→List AE→Expr→AL
 | .plain e,K,_,x=>X7 x&&chk e false K x
 | .range e,K,_,x=>frm x 8 λu=>Br u.l&&(b1 u.l (λy=>chk e false K y)&&Jr "range" K u.a)
 | .enum e,K,t,x=>t.length==2&&frm x 8 λu=>Br u.l&&(b1 u.l (λy=>chk e false K y)&&Jr "enumerate" K u.a)
 | .zip l r,K,t,x=>t.length==2&&frm x 8 λu=>Br u.l&&(b2 u.l (λy z=>chk l false K y&&chk r false K z)&&Jr "zip" K u.a)
noncomputable def chkGs:List Gen→List AE→Ks→Ks→List Eu→AL
 | [],_,_,_,x=>x.isEmpty
 | .mk t it ifs::gs,own,K,K',x=>match x with
  | []=>false
  | c::cs=>(0==c.is_async&&t.all own.contains)&&(Nb t c.target&&(Qv it K t c.iter&&(QJ ifs K' c.ifs&&chkGs gs own K' K' cs)))
end
set_option genInjectivity false in
structure W1 where
 t:AA
 a:Expr
 b:Expr
 l:List CL
 m:List CL
 p:Ax
noncomputable def w0:W1:=⟨99,.Name default default,.Name default default,[],[],default⟩
noncomputable def toW(x:CL):W1:=CL.casesOn (motive_2:=λ_=>W1) x
 (λ_ _ _ _ _ _ _ _ _ _=>w0)
 (λ_ _ _ _ _ _ _ _ _ _=>w0)
 (λ_ _ _ _ _ _ _ _ _ _ _=>w0)
 (λv p=>AH.casesOn v w0 λa=>⟨6,a,a,[],[],p⟩)
 (λ_ _=>w0)
 (λts a p=>L9 ts w0 λb r=>L9 r ⟨2,a,b,[],[],p⟩ λ_ _=>w0)
 (λ_ _ _ _ _ _ _=>w0)
 (λ_ _ _ _=>w0)
 (λ_ _ _ _ _=>w0)
 (λb a l e p=>L9 e ⟨5,a,b,l,[],p⟩ λ_ _=>w0)
 (λ_ _ _ _ _=>w0)
 (λa l e p=>L9 e ⟨4,a,a,l,[],p⟩ λ_ _=>w0)
 (λa l m p=>⟨3,a,a,l,m,p⟩)
 (λ_ _ _=>w0)
 (λ_ _ _=>w0)
 (λ_ _ _=>w0)
 (λ_ _ _=>w0)
 (λ_ _ _ _ _=>w0)
 (λ_ _ _ _ _=>w0)
 (λ_ _ _=>w0)
 (λ_ _=>w0)
 (λ_ _ _ _=>w0)
 (λ_ _=>w0)
 (λ_ _=>w0)
 (λa p=>⟨1,a,a,[],[],p⟩)
 (λ_=>w0)
 (λ_=>w0)
 (λ_=>w0)
noncomputable def ofW(t:AA)(x:CL)(u:W1):CL:=nth t [x,.Expr u.a u.p,.Assign [u.b] u.a u.p,.If u.a u.l u.m u.p,.While u.a u.l [] u.p,.For u.b u.a u.l [] u.p,.Return (some u.a) u.p] x
theorem fh(x:CL):ofW (toW x).t x (toW x)=x:=by
 cases x with
 | Return v p=>cases v<;>rfl
 | Assign ts a p=>cases ts with
  | nil=>rfl
  | cons b r=>cases r<;>rfl
 | For b a l e p=>cases e<;>rfl
 | While a l e p=>cases e<;>rfl
 | _=>rfl
@[irreducible] noncomputable def frs (x:CL) (t:AA) (k:W1→AL):AL:=Gw (toW x).t t&&k (toW x)
theorem Jm{x:CL}{t:AA}{k:W1→AL}(h:frs x t k=true){G:CL→Prop}(q:∀u,k u=true→G (ofW t x u)):G x:=by
 unfold frs at h
 exact a2 h λh1 h2=>(J1 h1▸fh x:ofW t x (toW x)=x)▸q (toW x) h2
noncomputable def YY(t:Tgt)(e:CE)(K:Ks)(b a:Expr):AL:=match t with
 | .name v=>frm b 12 λu=>AK v==u.n&&(LL K (AK v)&&chk e false K a)
 | .tup l=>b2 l λv v2=>Nb [v,v2] b&&(LL K (AK v)&&(LL K (AK v2)&&(v != v2&&(!NH a&&chk e false K a))))
 | .attr o n=>frm b 10 λu=>AK n==u.n&&(chk o false K u.a&&chk e false K a)
 | .sub o i=>frm b 11 λu=>chk o false K u.a&&(chk i false K u.b&&chk e false K a)
mutual
noncomputable def UN:CS→Ks→CL→AL
 | .expr e,K,x=>frs x 1 λu=>Kb u.a&&chk e false K u.a
 | .assign t e,K,x=>frs x 2 λu=>YY t e K u.b u.a
 | .ifs c t f,K,x=>frs x 3 λu=>chk c true K u.a&&(chkSs t K u.l&&chkSs f K u.m)
 | .whiles c b,K,x=>frs x 4 λu=>chk c true K u.a&&chkSs b K u.l
 | .fors t it b,K,x=>frs x 5 λu=>Nb t u.b&&(t.all (λv=>LL K (AK v))&&(Qv it K t u.a&&chkSs b K u.l))
 | .ret e,K,x=>frs x 6 λu=>chk e false K u.a
 | .bad,_,_=>true
noncomputable def chkSs:List CS→Ks→List CL→AL
 | [],_,x=>x.isEmpty
 | c::cs,K,x=>match x with
  | []=>false
  | s::ss=>UN c K s&&chkSs cs K ss
end
end Mine
namespace Mine
open PySem PySem.Calls PyProof.Rows PySem.SeqAt PySem.MeetsSeq
section
variable{w:Ae}{ca:AE→AD}{h₀ hb h h':AQ}{μ μ':List AD}{st st':St}{s:AF}{prog:Ar}{A:Aq}{E:AB→AF→Prop}{env:A0}{ρ ρ':Env}
theorem ER.less(X:ER h μ env ρ)(q:∀x v,ρ' x=some v→ρ x=some v):ER h μ env ρ':=by
 refine AJ X.loc λm hn hm=>?_
 exact⟨X.kind,X.glob,X.blt,⟨m,hn,λx v e=>hm x v (q x v e)⟩,λx v e=>X.cel x v (q x v e),X.lout,X.cout,X.cnames,X.apart⟩
theorem T7{t:List AE}{target:Expr}{v:V}{u:AB}{Q:Ek→AF→Prop}(hh:A.handled=none)(ht:C9 t target)(e:EW ρ t v=some ρ')(X:ER s.heap μ env ρ)(S:SR w ca h₀ s.heap st μ)
  (HB:∀a o,h₀.get? a=some o→hb.get? a=some o) (O:∀x∈t,Own hb env x) (hv:VR s.heap μ v u) (h:∀s',Nx w ca h₀ hb s μ s' μ st→ER s'.heap μ env ρ'→Q () s'):
  AP (AU prog w) A (assign target env u) Q E s:=by
 cases ht with
 | one x p=>
  (have zz:=AV ((show some (upd ρ x v)=some ρ' from e));subst zz)
  show AP _ A (JF p>>= λ_=>Nq env (AK x) u) Q E s
  exact AG (Du (Ib X S HB (O x Ah) hv λs' N Y _=>h s' N Y))
 | two x y pa pb k p=>
  refine MZ e λl q e=>Kn e λv1 v2 q2 e=>?_
  (replace e:=AV e;subst e)
  (refine BV (q▸hv:VR s.heap μ (.tup l) u) ?_;intro ta vs z2;subst z2;intro tp nm r)
  (refine BO (VRs.two (q2▸r:VRs s.heap μ [v1,v2] vs)) ?_;intro u1 u2 z3;subst z3;intro x1 x2)
  refine assign_Tuple_tuple hh tp.tup rfl rfl λh' he'=>?_
  have N:=Nx.grow (t:=s.toks) S λb o e=>he' b o (BP (BQ e)) e
  refine KR ?_
  show AP _ A (JF pa>>= λ_=>Nq env (AK x) u1) _ E _
  refine AG (Du (Ib (X.nx N) N.sr HB (O x Ah) (x1.pass N.pass) λs1 N1 Y1 _=>?_))
  refine KR ?_
  show AP _ A (JF pb>>= λ_=>Nq env (AK y) u2) _ E _
  refine AG (Du (Ib Y1 N1.sr HB (O y (Am _ Ah)) ((x2.pass N.pass).pass N1.pass) λs2 N2 Y2 _=>?_))
  exact S6 (h s2 ((N.weak.trans N1).trans N2) Y2)
end
end Mine
namespace Mine
open PySem PySem.Calls PyProof.Rows PySem.SeqAt PySem.MeetsSeq
section
variable{w:Ae}{ca:AE→AD}{h₀ hb h h':AQ}{μ μ':List AD}{st st':St}{s:AF}{prog:Ar}{A:Aq}{E:AB→AF→Prop}{env:A0}{ρ ρ':Env}
theorem W9:∀{names:Ks},F7 names=true→names.Pairwise λa b=>a.1≠b.1
 | [],_=>KC
 | (n,k)::r,h=>by
  simp only [F7,De] at h
  refine Fl.mpr ⟨λy hy e=>?_,W9 h.2⟩
  have:r.lookup n=none:=by simpa using h.1
  have h2:=aL.mp this y hy
  simp at e h2
  exact h2 e
theorem Mx:∀{names:Ks} {n:Str} {k:Fo},F7 names=true→(n,k)∈names→names.lookup n=some k
 | (n',k')::r,n,k,h,hm=>by
  simp only [F7,De] at h
  refine rwl IF ?_
  rcases Ak.mp hm with e | hm2
  ·cases e;simp
  ·cases hb:n==n' with
   | true=>
    have e:=CZ.mp hb
    subst e
    have:=aL.mp (show r.lookup n=none by simpa using h.1) (n,k) hm2
    simp at this
   | false=>exact Mx h.2 hm2
theorem Vh(f:Str→Fo→Fo):∀(names:Ks) (n:Str),(names.map λx=>(x.1,f x.1 x.2)).lookup n=(names.lookup n).map (f n)
 | [],n=>rfl
 | (n',k')::r,n=>by
  refine rwl BF (rwl IF (rwl IF ?_))
  cases hb:n==n' with
  | true=>refine rwl (CZ.mp hb) ?_;rfl
  | false=>exact Vh f r n
noncomputable def Hc(K:Ks)(n:Str)(k:Fo):Fo:=if k== .free&&K.lookup n==some .cell then .cell else k
theorem nM(K:Ks)(names:Ks):EJ K names=names.map λx=>(x.1,Hc K x.1 x.2):=by
 unfold EJ Hc
 refine DE λx _=>?_
 obtain⟨n,k⟩:=x
 dsimp only
 split<;>rfl
theorem fR(K names:Ks)(n:Str):(EJ K names).lookup n=(names.lookup n).map (Hc K n):=by
 refine rwl (nM ..) ?_;exact Vh _ names n
theorem U6{scope:DL}(hk:env.scope.kind= .function):(MA scope env).names=EJ env.scope.names scope.names:=by
 unfold MA EJ
 simp only [hk,G3,AL.and_true,JG]
noncomputable def C8(env:A0)(names:Ks):List (Str×AD):=names.filterMap λx=>if x.2== .free then(env.cells.lookup x.1).map λc=>(x.1,c) else none
theorem Ux(f:Str×Fo→List (Str×AD)→CH (OW (List (Str×AD))))
  (hf:∀n k cs,f (n,k) cs=if(k== .free)=true then(cellOf env n>>= λc=>pure (.yield ((n,c)::cs))) else pure (.yield cs)):
  ∀(names:Ks) (acc:List (Str×AD)),(∀n,(n,Fq)∈names→∃c,env.cells.lookup n=some c)→forIn names acc f=pure ((C8 env names).reverse++acc)
 | [],acc,_=>by refine rwl List.forIn_nil ?_;rfl
 | (n,k)::r,acc,h=>by
  have ih:=Ux f hf r
  refine rwl (KL ..) (rwl (hf ..) ?_)
  by_cases hk:(k== .free)=true
  ·have hk':=CZ.mp hk
   subst hk'
   refine exE (h n Ah) λc hc=>?_
   refine rwl (AM hk) ?_
   unfold cellOf
   refine rwl hc ?_
   have:C8 env ((n,Fq)::r)=(n,c)::C8 env r:=by simp [C8,hc]
   refine rwl this (rwl List.reverse_cons (rwl (Dt ..) ?_))
   exact ih ((n,c)::acc) λn hn=>h n (Am _ hn)
  ·refine rwl (AO hk) ?_
   have:C8 env ((n,k)::r)=C8 env r:=by(rewrite [C8];refine rwl Ov (rwl (AO hk) ?_));rfl
   refine rwl this ?_
   exact ih acc λn hn=>h n (Am _ hn)
theorem dT{scope:DL}(h:∀n,(n,Fq)∈scope.names→∃c,env.cells.lookup n=some c):closureFor scope env=pure (C8 env scope.names).reverse:=by
 have:=Ux (env:=env) (λx cs=>if(x.2== .free)=true then(cellOf env x.1>>= λc=>pure (.yield ((x.1,c)::cs))) else pure (.yield cs)) (λn k cs=>rfl) scope.names [] h
 rw [Bo] at this
 unfold closureFor
 simp only [bind_pure]
 (refine rwr this ?_;rfl)
theorem Ni:∀(names:Ks) (n:AA) (acc:List (Str×AD)),Cw n names acc=Cw n names []++acc
 | [],n,acc=>rfl
 | (x,k)::r,n,acc=>by
  unfold Cw
  split
  ·refine rwl (Ni r (n+1) ((x,n)::acc)) (rwl (Ni r (n+1) [(x,n)]) (rwl (Dt ..) ?_));rfl
  ·exact Ni r n acc
theorem Qp:∀(names:Ks) (n:AA) (acc:List (Str×AD)) (x:Str) (c:AD),(x,c)∈Cw n names acc→(x,c)∈acc∨(x,GQ)∈names
 | [],n,acc,x,c,h=>.inl h
 | (y,k)::r,n,acc,x,c,h=>by
  unfold Cw at h
  split at h
  ·rename_i hk
   rcases Qp r _ _ x c h with h | h
   ·rcases Ak.mp h with e | h
    ·cases e;refine rwr (CZ.mp hk) ?_;exact .inr Ah
    ·exact .inl h
   ·exact .inr (Am _ h)
  ·rcases Qp r _ _ x c h with h | h
   ·exact .inl h
   ·exact .inr (Am _ h)
theorem Ko:∀(names:Ks) (n:AA) (acc:List (Str×AD)) (x:Str),(x,GQ)∈names∨(∃c,(x,c)∈acc)→∃c,(x,c)∈Cw n names acc
 | [],n,acc,x,h=>by
  rcases h with h | h
  ·simp at h
  ·exact h
 | (y,k)::r,n,acc,x,h=>by
  unfold Cw
  split
  ·refine Ko r _ _ x ?_
   rcases h with h | ⟨c,h⟩
   ·rcases Ak.mp h with e | h
    ·cases e;exact .inr ⟨n,Ah⟩
    ·exact .inl h
   ·exact .inr ⟨c,Am _ h⟩
  ·rename_i hk
   refine Ko r _ _ x ?_
   rcases h with h | h
   ·rcases Ak.mp h with e | h
    ·cases e;simp at hk
    ·exact .inl h
   ·exact .inr h
theorem LJ{α:Type}:∀{l:List (Str×α)} {n:Str} {c:α},(n,c)∈l→∃c',l.lookup n=some c'
 | (k,v)::r,n,c,h=>by
  refine rwl IF ?_
  cases hb:n==k with
  | true=>exact⟨v,rfl⟩
  | false=>
   rcases Ak.mp h with e | h
   ·cases e;simp at hb
   ·exact LJ h
noncomputable abbrev DR(scope:DL)(env:A0)(L:AD):A0:=
 {scope:=MA scope env,locals:=L,globals:=env.globals,cells:=Cw (L+1) scope.names []++(C8 env scope.names).reverse,qual:=env.qual,func:=none,code:=env.code,frame:=env.frame,builtins:=env.builtins}
theorem jl{scope:DL}{own:List AE}{Q:A0→AF→Prop}(X:ER s.heap μ env ρ)(hs:GU env.scope.names scope own=true)(S:SR w ca h₀ s.heap st μ)
  (h:∀h',(∀b o,s.heap.get? b=some o→h'.get? b=some o)→(∃m,h'.Ns s.heap.objs.size m)→ER h' μ (DR scope env s.heap.objs.size) (BY own ρ)→
   (∀hb:AQ,(∀a,s.heap.get? a=none→hb.get? a=none)→∀x∈own,Own hb (DR scope env s.heap.objs.size) x)→
   Q {(DR scope env s.heap.objs.size) with scope:=scope} {s with heap:=h'}):
  AP (AU prog w) A (newFunctionEnv scope env.globals (C8 env scope.names).reverse [] env.qual none .none (some env)) Q E s:=by
 simp only [GU,De] at hs
 (refine Bs hs ?_;clear hs;intro z4;rcases z4 with ⟨⟨hk,hnd⟩,hall⟩;intro hown)
 have hpw:=W9 hnd
 simp only [newFunctionEnv,AH.isSome_some,G0]
 refine AG (wpAny_alloc ?_)
 refine AG (wpAny_layCells _ (λname kind cells=>by cases hkc:kind==GQ<;>simp [hkc]) _ _ _ _ ?_)
 have ok:=cellsFrom_ok scope.names (s.heap.push {cls:=.type "dict",data:=.dict #[]}) (s.heap.objs.size+1) [] ⟨λ_ _ hm=>(xM hm),KC⟩ (by refine rwl (Dr ..) ?_;exact Aj _)
 rw [Dr] at ok
 refine rwl (show({s with heap:=s.heap.push {cls:=.type "dict",data:=.dict #[]}}:AF).heap.objs.size=s.heap.objs.size+1 from Dr ..) (rwl (Ni ..) ?_)
 refine AG ?_
 refine rwl List.forIn_nil ?_
 refine AN (AN ?_)
 generalize hL:s.heap.objs.size=L at*
 have old:∀b o,s.heap.get? b=some o→(pushCells (s.heap.push {cls:=.type "dict",data:=.dict #[]}) scope.names).get? b=some o:=λb o e=>aM _ _ b o (Az _ e)
 have nsL:(pushCells (s.heap.push {cls:=.type "dict",data:=.dict #[]}) scope.names).Ns L λ_=>none:=by
  refine rwr hL ?_;exact(AQ.Ns.new s.heap (.type "dict")).keeps (aM _ _)
 have hkind:∀n,JG (DR scope env L) n=(scope.names.lookup n).map (Hc env.scope.names n):=λn=>by
  show(MA scope env).names.lookup n=_
  (refine rwl (U6 X.kind) (rwl (fR ..) ?_);rfl)
 have inClos:∀n c,(n,c)∈(C8 env scope.names).reverse→(n,Fq)∈scope.names∧env.cells.lookup n=some c:=λn c hm=>by
  rw [S7] at hm
  refine AJ (Fg.mp hm) λx hx e=>?_
  obtain⟨y,k⟩:=x
  dsimp only at e
  split at e
  ·rename_i hfr
   refine AJ (Dn.mp e) λc' hc' e=>?_
   cases e
   replace hx:=CZ.mp hfr▸hx
   exact⟨hx,hc'⟩
  ·cases e
 have old':∀n c,(n,c)∈(C8 env scope.names).reverse→c<L:=λn c hm=>by
  obtain⟨_,u,o,eo,_⟩:=X.cout n c (mem_of_lookup (inClos n c hm).2)
  refine rwr hL ?_;exact BQ eo
 have freeK:∀n,(n,Fq)∈scope.names→env.kindOf n=some .cell∨env.kindOf n=some .free:=λn hn=>by
  have:=BE.mp hall _ hn
  simpa [JG] using this
 have freeHas:∀n,(n,Fq)∈scope.names→∃c,(n,c)∈(C8 env scope.names).reverse∧env.cells.lookup n=some c:=λn hn=>by
  refine exE (X.cnames n (freeK n hn)) λc hc=>?_
  exact⟨c,by refine rwi S7 ?_;exact Fg.mpr ⟨(n,.free),hn,by simp [hc]⟩,hc⟩
 have newIn:∀n c,(n,c)∈Cw (L+1) scope.names []→(n,GQ)∈scope.names:=λn c hm=>by
  rcases Qp _ _ _ _ _ hm with h | h
  ·simp at h
  ·exact h
 have lookNew:∀n,(n,GQ)∈scope.names→∃c,(Cw (L+1) scope.names []++(C8 env scope.names).reverse).lookup n=some c∧(n,c)∈Cw (L+1) scope.names []:=λn hn=>by
  refine exE (Ko scope.names (L+1) [] n (.inl hn)) λc hc=>?_
  refine exE (LJ hc) λc' hc'=>?_
  exact⟨c',by refine rwl aN (rwl hc' ?_);rfl,mem_of_lookup hc'⟩
 have lookOld:∀n,(n,Fq)∈scope.names→∃c,(Cw (L+1) scope.names []++(C8 env scope.names).reverse).lookup n=some c∧env.cells.lookup n=some c:=λn hn=>by
  refine AJ (freeHas n hn) λc hc ec=>?_
  refine exE (LJ hc) λc' hc'=>?_
  have e1:(Cw (L+1) scope.names []).lookup n=none:=by
   cases q:(Cw (L+1) scope.names []).lookup n with
   | none=>rfl
   | some d=>
    have h1:=Mx hnd (newIn n d (mem_of_lookup q))
    replace h1:=Mx hnd hn▸h1;cases h1
  exact⟨c',by refine rwl aN (rwl e1 ?_);exact hc',(inClos n c' (mem_of_lookup hc')).2⟩
 have kcases:∀n k,(scope.names.lookup n).map (Hc env.scope.names n)=some k→∃k',(n,k')∈scope.names∧scope.names.lookup n=some k'∧Hc env.scope.names n k'=k:=λn k e=>by
  refine AJ (Dn.mp e) λk' h1 h2=>?_
  exact⟨k',mem_of_lookup h1,h1,h2⟩
 have cellOrFree:∀n,(JG (DR scope env L) n=some .cell∨JG (DR scope env L) n=some .free)→(n,GQ)∈scope.names∨(n,Fq)∈scope.names:=λn hn=>by
  have key:∀k,(k=GQ∨k=Fq)→JG (DR scope env L) n=some k→(n,GQ)∈scope.names∨(n,Fq)∈scope.names:=λk hk hn=>by
   rw [hkind] at hn
   refine Al (kcases n _ hn) λk' h1 h2 h3=>?_
   unfold Hc at h3
   split at h3
   ·rename_i hc
    simp only [De,CZ] at hc
    replace h1:=hc.1▸h1;exact .inr h1
   ·subst h3
    rcases hk with rfl | rfl
    ·exact .inl h1
    ·exact .inr h1
  rcases hn with hn | hn
  ·exact key _ (.inl rfl) hn
  ·exact key _ (.inr rfl) hn
 have ownCell:∀n,(n,GQ)∈scope.names→∃x∈own,AK x=n:=λn hn=>by
  have:=BE.mp hall _ hn
  simpa using this
 refine h _ old ⟨_,nsL⟩ ⟨hk' hk,X.glob,X.blt,⟨_,nsL,λx v hx hkx=>?_⟩,λx v hx hkx=>?_,?_,λn c hc=>?_,λn hn=>?_,?_⟩ λhb hbn x hx=>?_
 ·exfalso
  rw [hkind] at hkx
  refine Al (kcases _ _ hkx) λk' h1 h2 h3=>?_
  have hl:k'= .local:=by
   unfold Hc at h3
   split at h3
   ·cases h3
   ·exact h3
  subst hl
  have:=BE.mp hall _ h1
  unfold BY at hx
  simp only [JD,CZ,L5] at this
  rcases this with e | ⟨y,hy,e⟩
  ·have:x=".0":=ED (e.trans (by rfl))
   subst this
   simp at hx
  ·have:=ED e
   subst this
   simp [hy] at hx
 ·have hnc:(AK x,GQ)∉scope.names:=λhm=>by
   refine AJ (ownCell _ hm) λy hy e=>?_
   have:=ED e
   subst this
   unfold BY at hx
   simp [hy] at hx
  have hf:=(cellOrFree _ hkx).resolve_left hnc
  refine AJ (lookOld _ hf) λc h1 h2=>?_
  have hx':ρ x=some v:=by
   unfold BY at hx
   split at hx
   ·cases hx
   ·exact hx
  (refine BO (X.cel x v hx' (freeK _ hf)) ?_;intro c' u e1 z5;rcases z5 with ⟨o,eo,d⟩;intro r)
  replace e1:=h2▸e1;(replace e1:=AV e1;subst e1)
  exact⟨c,u,h1,⟨o,old _ _ eo,d⟩,r.pass (Jt old)⟩
 ·intro hm
  refine exE (S.here hm) λo e=>?_
  have:=BQ e
  simp only [hL] at this
  exact CY _ this
 ·rcases BD.mp hc with hc | hc
  ·(have zz:=ok.empty n c hc;have h1:=zz.1;have h2:=zz.2;clear zz)
   refine⟨λhm=>?_,none,h1⟩
   refine exE (S.here hm) λo e=>?_
   have:=BQ e
   replace this:=hL▸this
   exact absurd (Bg (Cv this) h2) (CY _)
  ·obtain⟨n1,u,o,eo,d⟩:=X.cout n c (mem_of_lookup (inClos n c hc).2)
   exact⟨n1,u,o,old _ _ eo,d⟩
 ·rcases cellOrFree n hn with h | h
  ·refine AJ (lookNew n h) λc h1 _=>?_;exact⟨c,h1⟩
  ·refine AJ (lookOld n h) λc h1 _=>?_;exact⟨c,h1⟩
 ·refine rwi S8 ?_
  refine⟨ok.apart,?_,λa ha b hb e=>?_⟩
  ·refine rwi List.pairwise_reverse ?_
   unfold C8
   refine rwi List.pairwise_filterMap ?_
   refine hpw.imp λ{a b} hab x hx y hy=>?_
   split at hx
   ·split at hy
    ·(refine AJ (Dn.mp hx) ?_;intro c hc z6;subst z6)
     (refine AJ (Dn.mp hy) ?_;intro c' hc' z7;subst z7)
     intro e
     simp only at e
     subst e
     exact hab (name_of_addr X.apart (mem_of_lookup hc) (mem_of_lookup hc'))
    ·cases hy
   ·cases hx
  ·have h1:=(ok.empty a.1 a.2 ha).2
   have h2:=old' b.1 b.2 hb
   replace h2:=Cq e▸h2
   exact absurd (Bg (Cv h2) h1) (CY _)
 ·have hxo:=BE.mp hown x hx
  unfold E8 at hxo
  have hkx:JG (DR scope env L) (AK x)=scope.names.lookup (AK x):=by
   refine rwl (hkind ..) ?_
   simp only [JD,CZ] at hxo
   rcases hxo with e | e<;>refine rwl e ?_<;>rfl
  refine⟨?_,λ_=>hbn _ ?_,λc hc hl=>hbn _ ?_⟩
  ·refine rwl hkx ?_
   simpa using hxo
  ·show s.heap.get? L=none
   refine rwr hL ?_;exact C2 _
  ·replace hc:=hkx▸hc
   refine AJ (lookNew _ (mem_of_lookup hc)) λc' h1 h2=>?_
   have:(Cw (L+1) scope.names []++(C8 env scope.names).reverse).lookup (AK x)=some c:=hl
   replace this:=h1▸this;cases this
   have h3:=(ok.empty _ _ h2).2
   cases q:s.heap.get? c with
   | none=>rfl
   | some o=>
    have:=BQ q
    replace this:=hL▸this
    exact absurd (Bg (Cv this) h3) (CY _)
where hk' {scope:DL} {env:A0} (hk:(scope.kind== .function)=true):(MA scope env).kind= .function:=CZ.mp hk
end
end Mine
namespace Mine
open PySem PySem.Calls PyProof.Rows PySem.SeqAt PySem.MeetsSeq
section
variable{prog:Ar}{w:Ae}{A:Aq}{E:AB→AF→Prop}{R:HD→AF→Prop}{s:AF}
noncomputable def Lf(prog:Ar)(w:Ae)(A:Aq)(elt:Expr)(gens:List Eu)(scope:DL)(pos:Ax)(d:AA)(acc:AB)(env:A0)(Q:AF→Prop)(E:AB→AF→Prop)(s:AF):Prop:=
 match gens[d]? with
 | some g'=>g'.is_async=0∧(∀x,S9 g'.iter env x=pure x)∧
  AP (AU prog w) A (Dl g'.iter env) (λx s₄=>AP (AU prog w) A (GP x) (λit s₅=>Es (AU prog w) A (.compStart (.ListComp elt gens scope pos) d it acc env) (λr s'=>match r with | .ok _=>Q s' | .error e=>cameBackBy (AU prog w) A env E e s') s₅) E s₄) E s
 | none=>AP (AU prog w) A (Dl elt env) (λx s₄=>AP (AU prog w) A (call (.builtin "list.append") [acc,x]) (λ_ s₅=>Q s₅) E s₄) E s
theorem bA{elt:Expr}{gens:List Eu}{scope:DL}{pos:Ax}{d:AA}{it acc:AB}{env:A0}{target iter:Expr}{ifs:List Expr}(hg:gens[d]? =some ⟨target,iter,ifs,0⟩)(I:AA→AF→Prop)
  (turn:∀n s,I n s→AP (AU prog w) A (EU it) (λr s₁=>match r with
   | none=>R (.ok .next) s₁
   | some v=>AP (AU prog w) A (KP target it v) (λ_ s₁'=>AP (AU prog w) A (assign target env v) (λ_ s₂=>AP (AU prog w) A (forIn ifs true λc r=>if r=true then do let ok ←isTrue c env (Dl c env);pure (Ow ok) else pure (Ow r)) (λok s₃=>if ok=true then Lf prog w A elt gens scope pos (d+1) acc env (λs₅=>∃m,m<n∧I m s₅) (KS (AU prog w) A env λe s'=>R (.error e) s') s₃
      else ∃m,m<n∧I m s₃) (KS (AU prog w) A env λe s'=>R (.error e) s') s₂) (KS (AU prog w) A env λe s'=>R (.error e) s') s₁') (KS (AU prog w) A env λe s'=>R (.error e) s') s₁) (KS (AU prog w) A env λe s'=>R (.error e) s') s)
  (n:AA) (h:I n s):Es (AU prog w) A (.compLoop (.ListComp elt gens scope pos) d it acc env) R s:=by
 refine codeAny_loop rfl I (λn s hI=>?_) n h
 show AP _ A ((compTurn (.ListComp elt gens scope pos) d it acc env).onRaise (λx=>do noteFrame x env;theTreesLotGoes x)) _ _ s
 refine wpAny_noted ?_
 unfold compTurn
 simp only [hg]
 refine AG (Du (AG (Cb (turn n s hI) (λr s₁ h₁=>?_) λ_ _ h'=>h')))
 cases r with
 | none=>exact AN h₁
 | some v=>
  refine AG (Cb h₁ (λ_ s₁' h₁'=>?_) λ_ _ h'=>h')
  refine AG (Cb h₁' (λ_ s₂ h₂=>AG (Cb h₂ (λok s₃ h₃=>?_) λ_ _ h'=>h')) λ_ _ h'=>h')
  cases ok with
  | false=>exact AN ⟨rfl,h₃⟩
  | true=>
   simp only [G0] at h₃ ⊢
   unfold Lf at h₃
   cases hg2:gens[d+1]? with
   | none=>
    replace h₃:=hg2▸h₃
    dsimp only at h₃ ⊢
    exact AG (AG (Cb h₃ (λx s₄ h₄=>AG (Cb h₄ (λ_ s₅ h₅=>AN (AN ⟨rfl,h₅⟩)) λ_ _ h'=>h')) λ_ _ h'=>h'))
   | some g'=>
    replace h₃:=hg2▸h₃
    dsimp only at h₃ ⊢
    (refine A7 h₃ ?_;clear h₃;intro ha hf h₃)
    refine rwl ha ?_
    refine AG (Cb h₃ (λx s₄ h₄=>AG (Du ?_)) λ_ _ h'=>h')
    refine AG (Og (show(if(0 != 0)=true then foldedIterable g'.iter x else S9 g'.iter env x)=pure x from hf x) ?_)
    refine AG (Bj (Cb (show AP (AU prog w) A (if(0 != 0)=true then asyncIter x else GP x) _ _ s₄ from h₄) (λit s₅ h₅=>?_) λ_ _ h'=>h'))
    refine AG (wpAny_runOwn (codeAny_mono h₅ λr s' hr=>?_))
    cases r with
    | ok f=>exact AN ⟨rfl,hr⟩
    | error e=>exact hr
end
end Mine
namespace Mine
open PySem PySem.Calls PyProof.Rows PySem.SeqAt PySem.MeetsSeq
theorem M3(h:AQ):∀(l:List AD),∃h':AQ,(∀a∈l,h'.get? a=none)∧∀a,a∉l→h'.get? a=h.get? a
 | []=>⟨h,by simp,λ_ _=>rfl⟩
 | b::l=>by
  refine AJ (M3 h l) λh1 q1 q2=>?_
  have hb:(h1.update b λo=>{o with data:=.freed}).get? b=none:=by
   obtain⟨objs,lf⟩:=h1
   unfold AQ.get? AQ.update
   simp only [aO,G0]
   cases objs[b]? with
   | none=>rfl
   | some o=>rfl
  have sb:C7 b h1 (h1.update b λo=>{o with data:=.freed}):=DF ..
  refine⟨h1.update b λo=>{o with data:=.freed},λa ha=>?_,λa ha=>?_⟩
  ·by_cases e:a=b
   ·subst e;exact hb
   ·refine rwl (sb.2 a e) ?_
    exact q1 a ((Ak.mp ha).resolve_left e)
  ·simp only [Ak,not_or] at ha
   refine rwl (sb.2 a ha.1) ?_;exact q2 a ha.2
section
variable{w:Ae}{ca:AE→AD}{h₀ hb hb' h h':AQ}{μ μ' μ1:List AD}{st st' st1:St}{s s1:AF}{prog:Ar}{A:Aq}{E:AB→AF→Prop}{env:A0}{ρ ρ':Env}
theorem Nx.mono(N:Nx w ca h₀ hb' s μ s1 μ1 st1)(q:∀a,(∃o,hb.get? a=some o)→∃o,hb'.get? a=some o):Nx w ca h₀ hb s μ s1 μ1 st1:=
 ⟨N.rest,N.ext,N.alive,λa o e=>N.keep a o (q a e),N.tup,N.sr⟩
noncomputable def Acc(h:AQ)(D:AD)(μ:List AD)(xs:List V):Prop:=D∉μ∧∃vs n,h.get? D=some (EK vs n)∧VRs h μ xs vs
theorem Acc.later{D:AD}{xs:List V}(x:Acc h D μ xs)(P:Pass h h' μ μ')(k:∀o,h.get? D=some o→h'.get? D=some o):Acc h' D μ' xs:=by
 obtain⟨n,vs,m,e,r⟩:=x
 exact⟨P.notin n e,vs,m,k _ e,r.pass P⟩
theorem Acc.nx{D:AD}{xs:List V}(x:Acc s.heap D μ xs)(N:Nx w ca h₀ hb s μ s1 μ1 st1)(k:∃o,hb.get? D=some o):Acc s1.heap D μ1 xs:=
 x.later N.pass λo e=>N.keep D o k x.1 e
theorem Acc.tp{D:AD}{xs:List V}(x:Acc h D μ xs)(vs:AS AB)(t:IsTp h D vs):As:=by
 obtain⟨_,us,n,e,_⟩:=x
 exact FX e rfl (by decide) t
theorem mf{D:AD}{xs:List V}{v:V}{u:AB}{Q:AB→AF→Prop}(S:SR w ca h₀ s.heap st μ)(x:Acc s.heap D μ xs)(hl:fits xs.length=true)(hv:VR s.heap μ v u)(n0:hb.get? D=none)(HB:∀a o,h₀.get? a=some o→hb.get? a=some o)
  (h:∀s',Nx w ca h₀ hb s μ s' μ st→Acc s'.heap D μ (xs++[v])→(∀b,b≠D→s'.heap.get? b=s.heap.get? b)→Q .none s'):AP (AU prog w) A (call (.builtin "list.append") [.ref D,u]) Q E s:=by
 obtain⟨nm,ws,n,e0,rx⟩:=id x
 have hlen:=rx.length
 refine J8 SK ⟨_,e0,rfl⟩ ZH (ZI _ _) (list_append D ws.toArray n u (by have:=Dx hl;simp;omega)) ⟨e0,?_⟩
 have sb:C7 D s.heap (s.heap.update D (DG (·.push u))):=DF ..
 have e1:(s.heap.update D (DG (·.push u))).get? D=some (EK (ws++[u]) (if(ws.toArray.push u).size==ws.toArray.size then n else n+1)):=by
  refine rwl (GI _ e0 rfl) ?_
  show some (GJ _ _ (.seq _ _) _)=some (GJ _ _ (.seq _ _) _)
  simp
 have nt:∀vs,IsTp s.heap D vs→As:=x.tp
 have N:Nx w ca h₀ hb s μ {s with heap:=s.heap.update D (DG (·.push u)),toks:=s.toks} μ st:=Nx.aside S sb nm n0 HB nt ⟨_,e1⟩
 exact h _ N ⟨nm,_,_,e1,(rx.pass N.pass).append (VRs.cons (hv.pass N.pass) VRs.nil)⟩ λb hb=>sb.2 b hb
end
end Mine
namespace Mine
open PySem PySem.Calls PyProof.Rows PySem.SeqAt PySem.MeetsSeq
structure IQ(h₀:AQ)(f:AD)(o:Obj)(fd:JH)(body:List CL)(b:FnC):Prop where
 here:h₀.get? f=some o
 cls:o.cls= .type "function"
 data:o.data= .func fd
 text:fd.body= .stmts body
 meets:chkSs b.body fd.scope.names body=true
 glob:fd.globals=CX
 blt:fd.builtins=Iw
 clos:fd.closure=[]
 kind:fd.scope.kind= .function
 nco:fd.scope.isCoroutine=false
 ngen:fd.scope.isGenerator=false
 nodup:F7 fd.scope.names=true
 free:∀n k,(n,k)∈fd.scope.names→k≠ .free
 code:h₀.CodeRec fd.code fd.qualname
 own:∀p∈b.ps,E8 (fd.scope.names.lookup (AK p))=true
 distinct:b.ps.Nodup
 binds:∀us:List AB,us.length=b.ps.length→bindArgs fd ⟨us,[]⟩=pure ((b.ps.map AK).zip us)
noncomputable def place(ca fa:AE→AD)(f:AE):AD:=if Cm.contains f then ca f else fa f
structure Gl(ca fa:AE→AD)(h₀:AQ)(mg mb:Str→AH AB):Prop where
 g:h₀.Ns CX mg
 b:h₀.Ns Iw mb
 sm:∃o,h₀.get? B6=some o
 nolim:h₀.NoLimit
 usr:∀f,Hk.contains f=true→mg (AK f)=some (.ref (place ca fa f))
 blt:∀f∈HU,mg (AK f)=none∧mb (AK f)=some (HO f)
 typ:∀f∈["range","enumerate","zip"],mg (AK f)=none∧mb (AK f)=some (.type f)
 gl:∀x v,glob x=some v→∃u,mg (AK x)=some u∧VR h₀ [] v u
 fn:∀f b,DP fns f=some b→∃o fd body,IQ h₀ (fa f) o fd body b
 cls:∀c,Cm.contains c=true→∃N mN,GY h₀ (ca c) N mN c∧∀m,(DP fns (c++"."++m)).isSome→mN (AK m)=some (.ref (fa (c++"."++m)))
 attrs:∀c,Bz c≠[]→Cm.contains c=true
noncomputable def Go(w:Ae)(ca:AE→AD)(h₀:AQ)(s:AF)(μ:List AD)(P:QV)(Q:AB→AF→Prop):Prop:=∀v st',P v st'→BU w ca h₀ s μ st' v Q
noncomputable def RC(prog:Ar)(w:Ae)(ca fa:AE→AD)(h₀:AQ)(A:Aq)(cl:Calls):Prop:=
 ∀{f:AE} {vs:List V} {us:List AB} {st:St} {s:AF} {μ:List AD} {P:QV} {Q E:AB→AF→Prop},cl f vs st P→SR w ca h₀ s.heap st μ→VRs s.heap μ vs us→Go w ca h₀ s μ P Q→
  AP (AU prog w) A (call (.ref (place ca fa f)) us) Q E s
set_option genInjectivity false in
structure Cx where
 prog:Ar
 w:Ae
 ca:AE→AD
 fa:AE→AD
 h₀:AQ
 A:Aq
 cl:Calls
 mg:Str→AH AB
 mb:Str→AH AB
 hh:A.handled=none
 hu:A.units+20<Av
 G:Gl ca fa h₀ mg mb
 CS:RC prog w ca fa h₀ A cl
section
variable(C:Cx)
noncomputable abbrev Cx.S(h:AQ)(st:St)(μ:List AD):Prop:=SR C.w C.ca C.h₀ h st μ
noncomputable abbrev Cx.N(hb:AQ)(s:AF)(μ:List AD)(s':AF)(μ':List AD)(st':St):Prop:=Nx C.w C.ca C.h₀ hb s μ s' μ' st'
noncomputable abbrev Cx.wp{α:Type}(t:CH α)(Q:α→AF→Prop)(E:AB→AF→Prop)(s:AF):Prop:=AP (AU C.prog C.w) C.A t Q E s
noncomputable abbrev Cx.K(target:Expr)(it:AB)(wr wd wx:List AD)(l:List V)(src:AH AA)(st0:St)(P:AA→AQ→List AD→Prop):Prop:=Wk C.prog C.w C.ca C.h₀ C.A target it wr wd wx l src st0 P
noncomputable abbrev Cx.Go(s:AF)(μ:List AD)(P:QV)(Q:AB→AF→Prop):Prop:=Mine.Go C.w C.ca C.h₀ s μ P Q
noncomputable def Ao(K:Ks)(c:CE)(x:Expr):Prop:=∀{env:A0} {ρ:Env} {s:AF} {μ:List AD} {st:St} {P:QV} {Q E:AB→AF→Prop},env.scope.names=K→ER s.heap μ env ρ→C.S s.heap st μ→
 wE C.cl c ρ st P→C.Go s μ P Q→C.wp (Dl x env) Q E s
noncomputable def Cx.Tg(s:AF)(μ:List AD)(P:QV)(Q:AL→AF→Prop):Prop:=∀v st',P v st'→∃b,v= .bool b∧∀s' μ',C.N s.heap s μ s' μ' st'→Q b s'
noncomputable def BZ(K:Ks)(c:CE)(x:Expr):Prop:=∀{env:A0} {ρ:Env} {s:AF} {μ:List AD} {st:St} {P:QV} {Q:AL→AF→Prop} {E:AB→AF→Prop},env.scope.names=K→ER s.heap μ env ρ→C.S s.heap st μ→
 wE C.cl c ρ st P→C.Tg s μ P Q→C.wp (isTrue x env (Dl x env)) Q E s
noncomputable abbrev Ud(xs:List Expr)(env:A0):CH AL:=forIn xs true λc r=>if r=true then do let ok ←isTrue c env (Dl c env);pure (Ow ok) else pure (Ow r)
noncomputable def RY(K:Ks)(cs:List CE)(xs:List Expr):Prop:=∀{env:A0} {ρ:Env} {s:AF} {μ:List AD} {st:St} {P:AL→St→Prop} {Q:AL→AF→Prop} {E:AB→AF→Prop},env.scope.names=K→ER s.heap μ env ρ→C.S s.heap st μ→
 wT C.cl cs ρ st P→(∀b st',P b st'→∀s' μ',C.N s.heap s μ s' μ' st'→Q b s')→C.wp (Ud xs env) Q E s
noncomputable def Cx.Ig(target:Expr)(s0 s:AF)(μ:List AD)(P:QI)(Q:AB→AF→Prop):Prop:=∀l src st',P l src st'→
 ∀s' μ' itv wr wd wx Pw,C.N s.heap s μ s' μ' st'→C.K target itv wr wd wx l src st' Pw→Pw 0 s'.heap μ'→(∀a∈wx,s0.heap.get? a=none)→Q itv s'
noncomputable def Dg(K:Ks)(it:It)(ix target:Expr):Prop:=∀{env:A0} {ρ:Env} {s:AF} {μ:List AD} {st:St} {P:QI} {Q E:AB→AF→Prop},env.scope.names=K→ER s.heap μ env ρ→C.S s.heap st μ→
 wI C.cl it ρ st P→C.Ig target s s μ P Q→C.wp (Dl ix env) (λx s₁=>C.wp (GP x) Q E s₁) E s
noncomputable def Fw(x:Expr):Prop:=∀env v,S9 x env v=pure v
noncomputable def JO(own:List AE)(K K':Ks):List Gen→List Eu→Prop
 | [],l=>l=[]
 | .mk t it ifs::gs,l=>∃c cs,l=c::cs∧(0=c.is_async∧C9 t c.target∧(∀x∈t,x∈own)∧Fw c.iter)∧Dg C K it c.iter c.target∧RY C K' ifs c.ifs∧JO own K' K' gs cs
noncomputable def places(env:A0)(own:List AE):List AD:=env.locals::own.filterMap λx=>if env.kindOf (AK x)==some .cell then env.cells.lookup (AK x) else none
noncomputable def Cx.Rg(hb:AQ)(s:AF)(μ:List AD)(cenv:A0)(ρ:Env)(D:AD)(P:QL)(Q:AF→Prop):Prop:=∀ys st',P ys st'→∀s' μ',C.N hb s μ s' μ' st'→ER s'.heap μ' cenv ρ→Acc s'.heap D μ' ys→Q s'
noncomputable abbrev inG(cl:Calls)(e:CE)(gs:List Gen)(ρ:Env):Fi:=wG cl gs (wE cl e) ρ (BY (Bp gs) ρ)
noncomputable def Uv(own:List AE)(e:CE)(elt:Expr)(gens:List Eu)(scope:DL)(pos:Ax)(D:AD)(cenv:A0)(gs:List Gen)(d:AA):Prop:=
 ∀{ρ:Env} {s:AF} {μ:List AD} {st:St} {xs:List V} {P:QL} {Q:AF→Prop} {E:AB→AF→Prop} {hb:AQ},inG C.cl e gs ρ xs st P→ER s.heap μ cenv ρ→C.S s.heap st μ→Acc s.heap D μ xs→
  (∀a o,C.h₀.get? a=some o→hb.get? a=some o)→(∀a∈D::places cenv own,hb.get? a=none)→(∀a,s.heap.get? a=none→hb.get? a=none)→
  C.Rg hb s μ cenv (BY (Bp gs) ρ) D P Q→Lf C.prog C.w C.A elt gens scope pos d (.ref D) cenv Q E s
end
section
variable{C:Cx}{w:Ae}{ca:AE→AD}{h₀ hb hb' h h':AQ}{μ μ' μ1:List AD}{st st' st1:St}{s s1:AF}{prog:Ar}{A:Aq}{E:AB→AF→Prop}{env:A0}{ρ ρ':Env}
theorem cF{own:List AE}(KO:∀x∈own,env.kindOf (AK x)=some .local∨env.kindOf (AK x)=some .cell)(PL:∀a∈places env own,hb.get? a=none):∀x∈own,Own hb env x:=λx hx=>⟨KO x hx,λ_=>PL _ Ah,λc hk hc=>PL c (Am _ (Fg.mpr ⟨x,hx,by simp [hk,hc]⟩))⟩
theorem YI{own:List AE}{a:AD}(h:a∈places env own):a=env.locals∨∃n,(n,a)∈env.cells:=by
 rcases Ak.mp h with h | h
 ·exact .inl h
 ·refine AJ (Fg.mp h) λx _ e=>?_
  split at e
  ·exact .inr ⟨_,mem_of_lookup e⟩
  ·cases e
theorem gy{t:List AE}{hid e:Env}{v:V}(h:EW hid t v=some e)(y:AE)(hy:y∉t):e y=hid y:=by
 have one:∀{x:AE} {f:Env} {v:V},y≠x→upd f x v y=f y:=λh=>AO h
 cases t with
 | nil=>exact no h
 | cons x r=>cases r with
  | nil=>(replace h:=AV h;subst h);exact one λq=>hy (q▸Ah)
  | cons z r=>cases r with
   | nil=>
    refine MZ h λl _ h=>Kn h λa b _ h=>?_
    (replace h:=AV h;subst h)
    exact(one λq=>hy (q▸Am _ Ah)).trans (one λq=>hy (q▸Ah))
   | cons _ _=>exact no h
theorem Yd{target:Expr}{it:AB}{wr wd wx:List AD}{l:List V}{src:AH AA}{st0:St}{P:AA→AQ→List AD→Prop}(W:Wk prog w ca h₀ A target it wr wd wx l src st0 P){i:AA}{a:V}{Q:AB→AF→Prop}{F:AF→Prop}{E E2:AB→AF→Prop}
  (hv:l[i]? =some a) (hP:P i s.heap μ) (S:SR w ca h₀ s.heap st μ) (hs:Bd src st0 st=true)
  (h:∀h' tk u,(∀hb:AQ,(∀a∈wr,hb.get? a=none)→Nx w ca h₀ hb s μ {s with heap:=h',toks:=tk} μ st)→(∀b o,b∉wr→s.heap.get? b=some o→h'.get? b=some o)→VR h' μ a u→P (i+1) h' μ→Q u {s with heap:=h',toks:=tk}):
  AP (AU prog w) A (EU it) (λr s₁=>match r with
   | none=>F s₁
   | some v=>AP (AU prog w) A (KP target it v) (λ_ s₂=>Q v s₂) E2 s₁) E s:=by
 refine Cb (W.item (E:=λ_ _=>As) (Q:=Q) hv hP S hs h) (λr s₁ hr=>?_) λ_ _ h=>h.elim
 (refine AJ hr ?_;clear hr;intro v z8;subst z8;intro hr)
 exact Cb hr (λ_ _ h=>h) λ_ _ h=>h.elim
structure YK(C:Cx)(hb:AQ)(f:V→Fi)(ok:St→AL)(l:List V)(P:QL)(Pw:AA→AQ→List AD→Prop)(cenv:A0)(hid:Env)(s0:AF)(μ0:List AD)(D:AD)(i:AA)(s:AF)(μ:List AD)(st:St)(xs:List V):Prop where
 run:Kk f ok (l.drop i) xs st P
 le:i≤l.length
 P:Pw i s.heap μ
 X:ER s.heap μ cenv hid
 N:C.N hb s0 μ0 s μ st
 ac:Acc s.heap D μ xs
noncomputable abbrev Mr(cl:Calls)(e:CE)(hid:Env)(t:List AE)(ifs:List CE)(gs:List Gen):V→Fi:=Eb t hid (wT cl ifs) λe1=>inG cl e gs e1
theorem XC{own:List AE}{K':Ks}{e:CE}{elt:Expr}{gens:List Eu}{scope:DL}{pos:Ax}{D:AD}{cenv:A0}{d:AA}{t:List AE}{ifs:List CE}{gs:List Gen}{target iter:Expr}{ifsx:List Expr}
  (hg:gens[d]? =some ⟨target,iter,ifsx,0⟩) (ht:C9 t target) (hto:∀x∈t,x∈own) (KO:∀x∈own,cenv.kindOf (AK x)=some .local∨cenv.kindOf (AK x)=some .cell)
  (hK:cenv.scope.names=K') (sT:RY C K' ifs ifsx) (sIn:Uv C own e elt gens scope pos D cenv gs (d+1))
  {hid:Env} {s0:AF} {μ0:List AD} {stI:St} {xs:List V} {itv:AB} {wr wd wx:List AD} {l:List V} {src:AH AA} {Pw:AA→AQ→List AD→Prop} {R:HD→AF→Prop} {P:QL}
  (hhid:∀x,x∈t++Bp gs∨x=".0"→hid x=none) (W:C.K target itv wr wd wx l src stI Pw) (hP:Pw 0 s.heap μ)
  (el:Kk (Mr C.cl e hid t ifs gs) (Bd src stI) l xs st P)
  (X:ER s.heap μ cenv hid) (N0:C.N hb s0 μ0 s μ st) (ac:Acc s.heap D μ xs) (HB:∀a o,C.h₀.get? a=some o→hb.get? a=some o) (PL:∀a∈D::places cenv own,hb.get? a=none)
  (HN:∀a,s0.heap.get? a=none→hb.get? a=none) (nw:∀a∈wx,s0.heap.get? a=none) (np:∀a∈wx,a≠D∧a≠cenv.locals∧∀n,(n,a)∉cenv.cells)
  (npD:D≠cenv.locals∧∀n,(n,D)∉cenv.cells)
  (hR:C.Rg hb s0 μ0 cenv hid D P (R (.ok .next))):
  Es (AU C.prog C.w) C.A (.compLoop (.ListComp elt gens scope pos) d itv (.ref D) cenv) R s:=by
 refine bA hg (λk s'=>∃i μ' st'' xs',k=l.length-i∧YK C hb (Mr C.cl e hid t ifs gs) (Bd src stI) l P Pw cenv hid s0 μ0 D i s' μ' st'' xs') ?_ l.length
  ⟨0,μ,st,xs,rfl,el,BL _,hP,X,N0,ac⟩
 (intro k sk zr19;(refine RL zr19 ?_;clear zr19;intro i μk stk xk z9;subst z9;intro L))
 have kc:∀{wz:List AD},(∀a∈wz,a∈wx)→∀{h h':AQ},(∀b o,b∉wz→h.get? b=some o→h'.get? b=some o)→
   (∀o,h.get? cenv.locals=some o→h'.get? cenv.locals=some o)∧(∀n c,(n,c)∈cenv.cells→∀o,h.get? c=some o→h'.get? c=some o)∧(∀o,h.get? D=some o→h'.get? D=some o):=
  λhw _ _ k=>⟨λo=>k _ o λhm=>(np _ (hw _ hm)).2.1 rfl,λn c hc o=>k _ o λhm=>(np _ (hw _ hm)).2.2 n hc,λo=>k _ o λhm=>(np _ (hw _ hm)).1 rfl⟩
 have ek:=L.run
 cases hv:l[i]? with
 | none=>
  have hl:l.length=i:=Iu (L7.mp hv) L.le
  replace ek:=J7 (Bk hl)▸ek
  refine W.done hl L.P L.N.sr ek.1 λh' tk kk=>?_
  refine A7 (kc (λa ha=>W.sub' a (W.sub a ha)) kk) λk1 k2 k3=>?_
  have ntd:∀a∈wd,∀vs,IsTp sk.heap a vs→As:=λa ha vs t=>((W.apart L.P a (W.sub a ha)).resolve_left (W.off L.P a ha)) vs t
  have N:=L.N.lose (tk:=tk) kk (λa ha=>W.new0 a (W.sub a ha)) (λa ha=>nw a (W.sub' a (W.sub a ha))) (W.off L.P) ntd
  have P0:Pass sk.heap h' μk μk:=⟨⟨[],(Bo _).symm,λ_ h=>xM h⟩,λb vs n t=>IsTp.to t λo e=>kk b o (λhm=>ntd b hm vs t) e⟩
  exact hR _ _ ek.2 _ _ N (L.X.later P0 k1 k2) (L.ac.later P0 k3)
 | some a=>
  have hlt:i<l.length:=(BA.mp hv).1
  have hd:l.drop i=a::l.drop (i+1):=by(refine rwl (KN hlt) (rwl ((BA.mp hv).2) ?_);rfl)
  replace ek:=hd▸ek
  refine ek.2.elim λe1 hek=>?_
  have he1:=hek.1
  refine Yd W hv L.P L.N.sr ek.1 λh' tk u N1 k1 ru hP1=>?_
  refine A7 (kc W.sub' k1) λc1 c2 c3=>?_
  have N1b:=N1 hb λa ha=>HN a (nw a (W.sub' a ha))
  have P1:=N1b.pass
  have ac1:=L.ac.later P1 c3
  refine AJ (M3 h' (places cenv own)) λhbB q1 q2=>?_
  have plB:∀a∈places cenv own,hb.get? a=none:=λa ha=>PL a (Am _ ha)
  have pl0:∀a∈D::places cenv own,C.h₀.get? a=none:=λa ha=>Dw λo e=>by have:=PL a ha;replace this:=HB a o e▸this;exact xS this
  have HBB:∀a o,C.h₀.get? a=some o→hbB.get? a=some o:=λa o e=>by
   refine rwl (q2 a λhm=>by replace e:=pl0 a (Am _ hm)▸e;exact xN e) ?_
   exact N1b.sr.base a o e
  have inB:∀a,a∉places cenv own→(∃o,h'.get? a=some o)→∃o,hbB.get? a=some o:=λa hn zq1=>zq1.elim λo e=>⟨o,(q2 a hn).trans e⟩
  have wxp:∀a∈wx,a∉places cenv own:=λa ha hm=>(YI hm).elim (np a ha).2.1 λzq1=>zq1.elim λn e=>(np a ha).2.2 n e
  have Dp:D∉places cenv own:=λhm=>(YI hm).elim npD.1 λzq1=>zq1.elim λn e=>npD.2 n e
  have hbAlive:∀{s':AF} {μ':List AD} {st'':St},C.N hb s0 μ0 s' μ' st''→∀a,(∃o,hb.get? a=some o)→∃o,s'.heap.get? a=some o:=λN a zq1=>zq1.elim λo e=>by
   cases q:s0.heap.get? a with
   | none=>replace e:=HN a q▸e;exact xN e
   | some o'=>exact N.alive a o' q
  have Nk1:=L.N.trans N1b
  refine T7 (hb:=hbB) C.hh ht he1 (L.X.later P1 c1 c2) N1b.sr HBB (λx hx=>cF KO (λa ha=>q1 a ha) x (hto x hx)) ru λs2 N2 X2=>?_
  have ac2:Acc s2.heap D μk xk:=ac1.nx N2 (inB D Dp (ac1.elim λ_ zz=>zz.elim λvs zz=>zz.elim λn zz=>zz.elim λe _=>⟨_,e⟩))
  have hP2:=W.nx hP1 (λa ha=>inB a (wxp a ha) (W.here hP1 a ha)) N2
  have N2b:C.N hb _ μk s2 μk stk:=N2.mono λa ha=>inB a (λhm=>by(refine exE ha ?_;clear ha;intro o e);replace e:=plB a hm▸e;exact xN e) (hbAlive Nk1 a ha)
  refine sT hK X2 N2.sr hek.2 λb st2 hin s3 μ3 N3=>?_
  have X3:=X2.nx N3
  have ac3:=ac2.nx N3 (ac2.elim λ_ zz=>zz.elim λvs zz=>zz.elim λn zz=>zz.elim λe _=>⟨_,e⟩)
  have hP3:=W.nx hP2 (λa ha=>W.here hP2 a ha) N3
  have Nk3:=(Nk1.trans N2b).trans N3.weak
  have hidE:∀x v,hid x=some v→e1 x=some v:=λx v hx=>(gy he1 x λhm=>by replace hx:=hhid x (.inl (D7 _ hm))▸hx;exact xN hx).trans hx
  have fin:∀{s4:AF} {μ4:List AD} {st4:St} {ys:List V},Kk (Mr C.cl e hid t ifs gs) (Bd src stI) (l.drop (i+1)) ys st4 P→C.N hb s0 μ0 s4 μ4 st4→ER s4.heap μ4 cenv hid→Pw (i+1) s4.heap μ4→Acc s4.heap D μ4 ys→∃m,m<l.length-i∧
    ∃i μ' st'' xs',m=l.length-i∧YK C hb (Mr C.cl e hid t ifs gs) (Bd src stI) l P Pw cenv hid s0 μ0 D i s4 μ' st'' xs':=λrun N4 X4 hP4 ac4=>⟨l.length-(i+1),Zp hlt (DZ i),i+1,_,_,_,rfl,run,hlt,hP4,X4,N4,ac4⟩
  cases b with
  | false=>exact fin hin Nk3 (X3.less hidE) hP3 ac3
  | true=>
   refine AJ (M3 s3.heap (D::places cenv own)) λhbI r1 r2=>?_
   have inI:∀a,a∉D::places cenv own→(∃o,s3.heap.get? a=some o)→∃o,hbI.get? a=some o:=λa hn zq1=>zq1.elim λo e=>⟨o,(r2 a hn).trans e⟩
   refine sIn (hb:=hbI) hin X3 N3.sr ac3 (λa o e=>?_) r1 (λa e=>?_) λys st4 run s4 μ4 N4 X4 ac4=>?_
   ·refine rwl (r2 a λhm=>by replace e:=pl0 a hm▸e;exact xN e) ?_
    exact N3.sr.base a o e
   ·by_cases hm:a∈D::places cenv own
    ·exact r1 a hm
    ·refine rwl (r2 a hm) ?_;exact e
   ·have N4b:C.N hb _ μ3 s4 μ4 st4:=N4.mono λa ha=>inI a (λhm=>by(refine exE ha ?_;clear ha;intro o e);replace e:=PL a hm▸e;exact xN e) (hbAlive Nk3 a ha)
    refine fin run (Nk3.trans N4b) (X4.less λx v hx=>?_) (W.nx hP3 (λa ha=>inI a (λhm=>(Ak.mp hm).elim (np a ha).1 (wxp a ha)) (W.here hP3 a ha)) N4) ac4
    refine(AO λq=>?_).trans (hidE x v hx)
    rcases DH.mp q with q | q
    ·replace hx:=hhid x (.inl (D8 _ (GK.mp q)))▸hx;exact xN hx
    ·replace hx:=hhid x (.inr (eq_of_beq q))▸hx;exact xN hx
end
end Mine
namespace Mine
open PySem PySem.Calls PyProof.Rows PySem.SeqAt PySem.MeetsSeq
section
variable{w:Ae}{ca:AE→AD}{h₀ hb hb' h h':AQ}{μ μ' μ1:List AD}{st st' st1:St}{s s1:AF}{prog:Ar}{A:Aq}{E:AB→AF→Prop}{env:A0}{ρ ρ':Env}{C:Cx}
theorem XA{R:HD→AF→Prop}{elt:Expr}{gens:List Eu}{scope:DL}{pos:Ax}{d:AA}{it acc:AB}{c:Eu}(hg:gens[d]? =some c)(ha:c.is_async=0)
  (h0:Es (AU prog w) A (.compLoop (.ListComp elt gens scope pos) d it acc env) R s)
  (h:AP (AU prog w) A (GP it) (λit' s'=>Es (AU prog w) A (.compLoop (.ListComp elt gens scope pos) d it' acc env) R s') (KS (AU prog w) A env λx s'=>R (.error x) s') s):
  Es (AU prog w) A (.compStart (.ListComp elt gens scope pos) d it acc env) R s:=by
 refine Sn ?_
 show AP _ _ ((compStart (.ListComp elt gens scope pos) d it acc env).onRaise (λx=>do noteFrame x env;JF theWindowsPlace)) _ _ s
 refine wpAny_notedAt ?_
 unfold compStart
 have e1:(clausesOf (.ListComp elt gens scope pos))[d]? =some c:=hg
 simp only [e1,AH.elim,ha]
 show AP _ _ (ask>>= _) _ _ s
 refine AG (Oh (wpAny_ite ?_))
 split
 ·first
   | exact AG (AN (AN (Ox rfl h0)))
   | exact AN (Ox rfl h0)
 ·first
   | exact AG (Dc (AG (Du (AG (Cb h (λit' s' h'=>AN (Ox rfl h')) λ_ _ x=>x)))))
   | (refine AG (Dc ?_);show AP _ _ (JF c.iter.pos>>= _) _ _ s;exact AG (Du (AG (Cb h (λit' s' h'=>AN (Ox rfl h')) λ_ _ x=>x))))
theorem ER.locHere(X:ER h μ env ρ):∃o,h.get? env.locals=some o:=let⟨_,⟨o,_,_,e,_⟩,_⟩:=X.loc;⟨o,e⟩
theorem ER.cellHere(X:ER h μ env ρ){n:Str}{c:AD}(hc:(n,c)∈env.cells):∃o,h.get? c=some o:=(X.cout n c hc).elim λ_ zz=>zz.elim λ_ zz=>zz.elim λo zz=>zz.elim λe _=>⟨o,e⟩
theorem RT{own:List AE}{x:AE}{v:V}(h:BY own ρ x=some v):ρ x=some v:=by
 unfold BY at h
 split at h
 ·cases h
 ·exact h
theorem Xx{own:List AE}{x:AE}(h:x∈own∨x=".0"):BY own ρ x=none:=by
 unfold BY
 rw [AM]
 simp only [JD,GK,CZ]
 exact h
theorem jz{α:Type}{l:List α}{d:AA}{c:α}{cs:List α}(h:l.drop d=c::cs):l[d]? =some c∧l.drop (d+1)=cs:=by
 have h1:(l.drop d)[0]? =some c:=by refine rwl h ?_;rfl
 replace h1:=Ze▸h1
 refine⟨by simpa using h1,?_⟩
 refine rwr List.drop_drop (rwl h ?_);rfl
structure Bm(p:Prop):Prop where
 get:p
theorem fK{own:List AE}{K':Ks}{e:CE}{elt:Expr}{gens:List Eu}{scope:DL}{pos:Ax}{D:AD}{cenv:A0}
  (KO:∀x∈own,cenv.kindOf (AK x)=some .local∨cenv.kindOf (AK x)=some .cell) (hK:cenv.scope.names=K') (npD:D≠cenv.locals∧∀n,(n,D)∉cenv.cells) (sE:Ao C K' e elt)
  (gs:List Gen):∀(cs:List Eu) (d:AA),gens.drop d=cs→JO C own K' K' gs cs→Bm (Uv C own e elt gens scope pos D cenv gs d):=by
 induction gs with
 | nil=>
  intro cs d hd hG
  refine⟨?_⟩
  intro ρ s μ st xs P Q E hb ec X S ac HB PL HN hQ
  have hg:gens[d]? =none:=L7.mpr (List.drop_eq_nil_iff.mp (hd.trans hG))
  unfold Lf
  refine rwl hg ?_
  refine sE hK (X.less λx v=>RT) S ec λv st1 hp s1 μ1 u N1 ru=>?_
  have ac1:Acc s1.heap D μ1 xs:=ac.nx N1 (ac.elim λ_ zz=>zz.elim λvs zz=>zz.elim λn zz=>zz.elim λe _=>⟨_,e⟩)
  have X1:=(X.nx N1).less (ρ':=BY (Bp []) ρ) λx v=>RT
  refine mf (hb:=hb) N1.sr ac1 hp.1 ru (PL D Ah) HB λs2 N2 ac2 k2=>?_
  exact hQ _ _ hp.2 s2 μ1 (N1.weak.trans N2) (X1.later N2.pass (λo e=>(k2 _ (Bq npD.1)).trans e) λn c hc o e=>(k2 c λq=>npD.2 n (q▸hc)).trans e) ac2
 | cons g gs ih=>
  intro cs d hd hG
  refine⟨?_⟩
  intro ρ s μ st xs P Q E hb ec X S ac HB PL HN hQ
  obtain⟨t,it,ifs⟩:=g
  (refine Ld hG ?_;clear hG;intro c cs' z0;subst z0;intro z1;rcases z1 with ⟨ha,hT,hto,hfo⟩;intro sI sT hG2)
  have hg:=jz hd
  obtain⟨target,iter,ifsx,as⟩:=c
  subst ha
  unfold Lf
  refine rwl hg.1 ?_
  refine⟨rfl,λx=>hfo cenv x,?_⟩
  refine sI hK X S ec λl src st1 el s1 μ1 itv wr wd wx Pw N1 W hP nw=>?_
  have aD:∃o,s.heap.get? D=some o:=ac.elim λ_ zz=>zz.elim λvs zz=>zz.elim λn zz=>zz.elim λe _=>⟨_,e⟩
  have X1:=(X.nx N1).less (ρ':=BY (Bp (.mk t it ifs::gs)) ρ) λx v=>RT
  have lp:=λ(R:HD→AF→Prop) hR=>XC (pos:=pos) (scope:=scope) (R:=R) (hb:=hb) hg.1 hT hto KO hK sT (ih cs' (d+1) hg.2 hG2).get (λx hx=>Xx hx) W hP el X1 N1.weak (ac.nx N1 aD) HB PL HN nw
   (λa ha=>⟨Ge aD.choose_spec (nw a ha),Ge X.locHere.choose_spec (nw a ha),λn hc=>Ge (X.cellHere hc).choose_spec (nw a ha) rfl⟩) npD hR
  exact XA hg.1 rfl (lp _ hQ) (W.self hP (lp _ hQ))
end
end Mine
namespace Mine
open PySem PySem.Calls PyProof.Rows PySem.SeqAt PySem.MeetsSeq
section
variable{w:Ae}{ca:AE→AD}{h₀ hb hb' h h':AQ}{μ μ' μ1:List AD}{st st' st1:St}{s s1:AF}{prog:Ar}{A:Aq}{E:AB→AF→Prop}{env:A0}{ρ ρ':Env}{C:Cx}
theorem PH:∀(names:Ks) (n:AA) (acc:List (Str×AD)) (x:Str) (c:AD),(x,c)∈Cw n names acc→(x,c)∈acc∨n≤c
 | [],n,acc,x,c,h=>.inl h
 | (y,k)::r,n,acc,x,c,h=>by
  unfold Cw at h
  split at h
  ·rcases PH r _ _ x c h with h | h
   ·rcases Ak.mp h with e | h
    ·cases e;exact .inr (Aj _)
    ·exact .inl h
   ·exact .inr (DT h)
  ·exact PH r _ _ x c h
theorem nB{names:Ks}{x:Str}{c:AD}(h:(x,c)∈(C8 env names).reverse):(x,c)∈env.cells:=by
 rw [S7] at h
 refine AJ (Fg.mp h) λy hy e=>?_
 split at e
 ·refine AJ (Dn.mp e) λc' hc' e=>?_
  cases e;exact mem_of_lookup hc'
 ·cases e
theorem jJ{K:Ks}{scope:DL}{own:List AE}(hs:GU K scope own=true):∀n,(n,Fq)∈scope.names→K.lookup n=some .cell∨K.lookup n=some .free:=λn hn=>by
 simp only [GU,De] at hs
 have:=BE.mp hs.1.2 _ hn
 simpa using this
noncomputable def Left(w:Ae)(ca:AE→AD)(h₀:AQ)(s:AF)(μ:List AD)(st':St)(v:V)(D C:AD)(s':AF)(μ':List AD):Prop:=
 Nx w ca h₀ s.heap s μ s' μ' st'∧VR s'.heap μ' v (.ref D)∧(∃m,s'.heap.Ns C m)∧C∉μ'∧s.heap.get? C=none
theorem TV{K:Ks}{e:CE}{gs:List Gen}{elt:Expr}{gens:List Eu}{scope:DL}{pos:Ax}{p:Ax}{use:AH (AB→CH Ek)}{P:QV}{Q:AB→AF→Prop}
  (hK:env.scope.names=K) (hs:GU K scope (Bp gs)=true) (hG:JO C (Bp gs) K (EJ K scope.names) gs gens) (hne:gs≠[]) (sE:Ao C (EJ K scope.names) e elt)
  (X:ER s.heap μ env ρ) (S:C.S s.heap st μ) (ec:wE C.cl (.comp e gs) ρ st P)
  (h:∀v st',P v st'→∀D F s' μ',Left C.w C.ca C.h₀ s μ st' v D F s' μ'→Oy (AU C.prog C.w) C.A E use Q (.ref D) F (.ok .next) s'):
  C.wp (comprehension (.ListComp elt gens scope pos) scope env p (newList []) (firstAsync gens) (firstIter gens env) use) Q E s:=by
 subst hK
 cases gs with
 | nil=>exact absurd rfl hne
 | cons g gs=>
  obtain⟨t,it,ifs⟩:=g
  (refine Ld hG ?_;clear hG;intro c cs z2;subst z2;intro z3;rcases z3 with ⟨ha,hT,hto,hfo⟩;intro sI sT hG2)
  obtain⟨target,iter,ifsx,as⟩:=c
  subst ha
  have hs':=hs
  simp only [GU,De] at hs'
  (refine Bs hs' ?_;clear hs';intro z4;rcases z4 with ⟨⟨hk,hnd⟩,hall⟩;intro hown)
  refine wpAny_comprehension_free (cl:=(C8 env scope.names).reverse) (g:=⟨target,iter,ifsx,0⟩) (gs:=cs) rfl (λx=>hfo env x) (dT λn hn=>X.cnames n (jJ hs n hn)) (CZ.mp hk)
   (λx hx e=>by obtain⟨n,k⟩:=x;dsimp only at e;subst e;exact Mx hnd hx) ?_
  refine sI rfl X S ec λl src st1 el s1 μ1 itv wr wd wx Pw N1 W hP nw=>?_
  have kD:∀b o,s1.heap.get? b=some o→(s1.heap.push {cls:=.type "list",dict:=none,data:=.seq ([]:List AB).toArray}).get? b=some o:=λb o e=>Az _ e
  refine Hr ?_
  generalize hs2:({s1 with heap:=s1.heap.push {cls:=.type "list",dict:=none,data:=.seq ([]:List AB).toArray}}:AF)=s2
  have N2:C.N s1.heap s1 μ1 s2 μ1 st1:=by refine rwr hs2 ?_;exact Nx.grow (t:=s1.toks) N1.sr kD
  have k2:∀b o,s1.heap.get? b=some o→s2.heap.get? b=some o:=by refine rwr hs2 ?_;exact kD
  have sz:s2.heap.objs.size=s1.heap.objs.size+1:=by refine rwr hs2 ?_;exact Dr ..
  have eD:s2.heap.get? s1.heap.objs.size=some (EK [] 0):=by refine rwr hs2 ?_;exact Bb _ rfl
  have X2:=(X.nx N1).nx N2
  refine jl X2 hs N2.sr λh3 k3 nsL X3 hO=>?_
  generalize hL:s2.heap.objs.size=L at*
  have alive1:∀(a:AA) (o:Obj),s.heap.get? a=some o→a<s1.heap.objs.size:=λa o e=>by refine exE (N1.alive a o e) λo' e'=>?_;exact BQ e'
  have alive2:∀a,s2.heap.get? a=none→s.heap.get? a=none:=λa e=>Dw λo e'=>by
   refine exE (N1.alive a o e') λo1 e1=>?_
   replace e:=k2 a o1 e1▸e;cases e
  have sD:s.heap.get? s1.heap.objs.size=none:=Dw λo e=>CY _ (alive1 _ o e)
  have sL:s.heap.get? L=none:=Dw λo e=>by have:=alive1 _ o e;omega
  have O:=hO s.heap alive2
  have PL:∀a∈s1.heap.objs.size::places (DR scope env L) (Bp (.mk t it ifs::gs)),s.heap.get? a=none:=λa ha=>by
   rcases Ak.mp ha with rfl | ha
   ·exact sD
   ·rcases Ak.mp ha with rfl | ha
    ·exact sL
    ·refine AJ (Fg.mp ha) λx hx e=>?_
     split at e
     ·rename_i hc
      exact(O x hx).cel a (CZ.mp hc) e
     ·cases e
  have cc:∀n c,(n,c)∈(DR scope env L).cells→L+1≤c∨(n,c)∈env.cells:=λn c hc=>by
   rcases BD.mp hc with hc | hc
   ·rcases PH _ _ _ _ _ hc with h | h
    ·simp at h
    ·exact .inl h
   ·exact .inr (nB hc)
  have npD:s1.heap.objs.size≠(DR scope env L).locals∧∀n,(n,s1.heap.objs.size)∉(DR scope env L).cells:=by
   refine⟨λe=>?_,λn hc=>?_⟩
   ·have:@Eq AA s1.heap.objs.size L:=e
    omega
   ·rcases cc n _ hc with h | h
    ·have h3:@LE.le AA _ (L+1) s1.heap.objs.size:=h
     omega
    ·refine exE (X.cellHere h) λo e=>?_
     exact CY _ (alive1 _ o e)
  have np:∀a∈wx,a≠s1.heap.objs.size∧a≠(DR scope env L).locals∧∀n,(n,a)∉(DR scope env L).cells:=λa ha=>by
   refine exE (W.here hP a ha) λo e=>?_
   have lt:=BQ e
   refine⟨BP lt,λe=>?_,λn hc=>?_⟩
   ·have:@Eq AA a L:=e
    have h2:@LT.lt AA _ a s1.heap.objs.size:=lt
    omega
   ·rcases cc n _ hc with h | h
    ·have h2:@LT.lt AA _ a s1.heap.objs.size:=lt
     have h3:@LE.le AA _ (L+1) a:=h
     omega
    ·refine exE (X.cellHere h) λo' e'=>?_
     replace e':=nw a ha▸e';cases e'
  have N3:C.N s2.heap s2 μ1 {s2 with heap:=h3,toks:=s2.toks} μ1 st1:=Nx.grow N2.sr k3
  have hP2:=W.nx hP (W.here hP) N2
  have hP3:=W.nx hP2 (W.here hP2) N3
  have ac3:Acc h3 s1.heap.objs.size μ1 []:=⟨λhm=>by refine exE (N1.sr.here hm) λo e=>?_;exact CY _ (BQ e),[],0,k3 _ _ eD,VRs.nil⟩
  have KO:∀x∈Bp (.mk t it ifs::gs),(DR scope env L).kindOf (AK x)=some .local∨(DR scope env L).kindOf (AK x)=some .cell:=λx hx=>(O x hx).kind
  have hK':(DR scope env L).scope.names=EJ env.scope.names scope.names:=U6 X.kind
  have N03:C.N s.heap s μ {s2 with heap:=h3,toks:=s2.toks} μ1 st1:=(N1.trans N2.weak).trans N3.weak
  have lp:=λ(R:HD→AF→Prop) hR=>XC (pos:=pos) (scope:=scope) (R:=R) (hb:=s.heap) (elt:=elt) (gens:=⟨target,iter,ifsx,0⟩::cs) (d:=0) (xs:=[]) rfl hT hto KO hK' sT
   (fK KO hK' npD sE gs cs 1 rfl hG2).get (λx hx=>Xx hx) W hP3 el X3 N03 ac3 S.base PL (λa e=>e) nw np npD hR
  have key:C.Rg s.heap s μ (DR scope env L) (BY (Bp (.mk t it ifs::gs)) ρ) s1.heap.objs.size (Uu P) (Oy (AU C.prog C.w) C.A E use Q (.ref s1.heap.objs.size) L (.ok .next)):=λvs st2 hp s' μ' N X ac=>by
   have nt:=ac.tp
   obtain⟨nm,us,n,e,r⟩:=ac
   have N':=N.adopt (D:=s1.heap.objs.size) (o:=.list vs) sD nm (Dw λo e=>by replace sD:=S.base _ o e▸sD;cases sD) nt ⟨us,n,e,r.adopt nt⟩
   refine AJ X.loc λm hm _=>?_
   refine h _ _ hp _ _ _ _ ⟨N',?_,⟨m,hm⟩,λhm=>?_,sL⟩
   ·simp only [VR]
    exact⟨_,rfl,by refine rwr N.sr.len ?_;simp⟩
   ·rcases BD.mp hm with hm | hm
    ·exact X.lout hm
    ·have:@Eq AA L s1.heap.objs.size:=by simpa using hm
     omega
  refine XA (c:=⟨target,iter,ifsx,0⟩) rfl rfl (lp _ key) ?_
  exact W.self hP3 (lp _ key)
theorem Left.go{v:V}{D C:AD}{s':AF}(x:Left w ca h₀ s μ st' v D C s' μ')(S:SR w ca h₀ s.heap st μ){tk:AA}(hs:C7 C s'.heap h'):Nx w ca h₀ s.heap s μ {s' with heap:=h',toks:=tk} μ' st'∧VR h' μ' v (.ref D):=by
 (refine QK x ?_;clear x;intro N hv z5;rcases z5 with ⟨m,hm⟩;intro nm nC)
 have k:∀b o,b∉[C]→s'.heap.get? b=some o→h'.get? b=some o:=λb o hb e=>(hs.2 b (by simpa using hb)).trans e
 have n0:h₀.get? C=none:=Dw λo e=>by replace nC:=S.base _ o e▸nC;cases nC
 have nt:∀a∈[C],∀vs,IsTp s'.heap a vs→As:=λa ha vs t=>by simp at ha;subst ha;exact Ns.notTup hm t
 refine⟨N.lose k (by simpa using n0) (by simpa using nC) (by simpa using nm) nt,hv.pass ⟨⟨[],by simp,by simp⟩,λb vs n t=>IsTp.to t λo e=>k b o (λhm=>nt b hm vs t) e⟩⟩
theorem fC{K:Ks}{e:CE}{gs:List Gen}{elt:Expr}{gens:List Eu}{scope:DL}{pos:Ax}(hs:GU K scope (Bp gs)=true)(hG:JO C (Bp gs) K (EJ K scope.names) gs gens)(hne:gs≠[])(sE:Ao C (EJ K scope.names) e elt):
  Ao C K (.comp e gs) (.ListComp elt gens scope pos):=by
 intro env ρ s μ st P Q E hK X S ec h
 refine rwl (eval_ListComp ..) ?_
 refine TV hK hs hG hne sE X S ec λv st' hp D F s' μ' L=>?_
 unfold Oy
 refine exE L.2.2.1 λm hm=>?_
 refine⟨m,hm,λh' hs=>?_⟩
 have H:=L.go (tk:=s'.toks) S hs
 exact h _ _ hp _ _ _ H.1 H.2
end
end Mine
namespace Mine
open PySem PySem.Calls PyProof.Rows PySem.SeqAt PySem.MeetsSeq
section
variable(C:Cx)
noncomputable def Cx.Gs(s:AF)(μ:List AD)(P:QL)(Q:List AB→AF→Prop):Prop:=∀vs st',P vs st'→∀s' μ' us,C.N s.heap s μ s' μ' st'→VRs s'.heap μ' vs us→Q us s'
noncomputable def NA(K:Ks)(cs:List CE)(xs:List Expr):Prop:=∀{env:A0} {ρ:Env} {s:AF} {μ:List AD} {st:St} {pos:Ax} {P:QL} {Q:List AB→AF→Prop} {E:AB→AF→Prop},env.scope.names=K→ER s.heap μ env ρ→C.S s.heap st μ→
 wEs C.cl cs ρ st P→C.Gs s μ P Q→C.wp (JI (Dv pos (DW xs env))) Q E s
end
section
variable{M:Ej}{A:Aq}{E:AB→AF→Prop}{s:AF}{env:A0}
theorem HH{e:Expr}{r:List Expr}(h:Br (e::r)=true):DW (e::r) env=(false,Dl e env)::DW r env∧Br r=true:=
 a2 h λh1 h2=>⟨(by cases e<;>first | rfl | cases h1),h2⟩
theorem Wx:∀{r:List Expr},Br r=true→(DW r env).any (·.1)=false
 | [],_=>rfl
 | e::r,h=>by
  (have zz:=HH (env:=env) h;have h1:=zz.1;have h2:=zz.2;clear zz)
  refine rwl h1 (rwl TA (rwl (Wx h2) ?_));rfl
theorem JP{pos:Ax}{r:List Expr}(h:Br r=true):(Dv pos (DW r env)).any (·.1)=false:=by
 have:=Wx (env:=env) h
 unfold Dv
 refine rwl SG ?_
 exact this
theorem f6{pos:Ax}{r:List Expr}(h:Br r=true):(Dv pos (DW r env)).all (λx=>!x.1)=true:=by
 have:=JP (env:=env) (pos:=pos) h
 simp only [List.all_eq_not_any_not,AL.not_not,this,AL.not_false]
theorem IJ{f:AB}{pos:Ax}{r:List Expr}{Q:Args→AF→Prop}(h:Br r=true)(hq:AP M A (JI (Dv pos (DW r env))) (λvs s'=>Q ⟨vs,[]⟩ s') E s):
  AP M A (evalArgs f true (Dv pos (DW r env)) []) Q E s:=by
 cases r with
 | nil=>
  unfold evalArgs
  show AP M A (JI (Dv pos (DW [] env))>>= _) Q E s
  refine AG (Cb hq (λvs s' h'=>?_) λ_ _ x=>x)
  refine Bj ?_
  exact AG (AN (AG (AN (AN h'))))
 | cons e r=>
  refine Bs (HH (env:=env) h) λh1 _=>?_
  rw [h1] at hq ⊢
  exact evalArgs_plain hq
end
end Mine
namespace Mine
open PySem PySem.Calls PyProof.Rows PySem.SeqAt PySem.MeetsSeq
section
variable{w:Ae}{ca fa:AE→AD}{h₀ hb hb' h h':AQ}{μ μ' μ1:List AD}{st st' st1:St}{s s1:AF}{prog:Ar}{A:Aq}{E:AB→AF→Prop}{env:A0}{ρ ρ':Env}{C:Cx}{mg mb:Str→AH AB}
mutual
theorem VR.base(S:SR w ca h₀ h st μ):∀{a:V} {v:AB},VR h₀ [] a v→VR h μ a v
 | .none,_,x=>by simpa [VR] using x
 | .bool _,_,x=>by simpa [VR] using x
 | .int _,_,x=>by simpa [VR] using x
 | .str _,_,x=>by simpa [VR] using x
 | .ref _,_,x=>by
  simp only [VR] at x
  (refine AJ x ?_;clear x;intro a e q)
  simp at q
 | .tup l,_,x=>by
  simp only [VR] at x ⊢
  (refine BV x ?_;clear x;intro a vs e t n r)
  refine exE (IsTp.get t) λo eo=>?_
  exact⟨a,vs,e,IsTp.to t (S.base a),λhm=>(by replace eo:=S.above a hm▸eo;cases eo),VRs.base S r⟩
theorem VRs.base(S:SR w ca h₀ h st μ):∀{l:List V} {vs:List AB},VRs h₀ [] l vs→VRs h μ l vs
 | [],_,x=>by simpa [VRs] using x
 | a::l,_,x=>by
  simp only [VRs] at x ⊢
  (refine BO x ?_;clear x;intro v r e x1 x2)
  exact⟨v,r,e,VR.base S x1,VRs.base S x2⟩
end
theorem Gl.CB(G:Gl ca fa h₀ mg mb):∀c,Bz c≠[]→∃N mN,GY h₀ (ca c) N mN c:=λc hc=>(G.cls c (G.attrs c hc)).elim λN zz=>zz.elim λmN zz=>zz.elim λx _=>⟨N,mN,x⟩
theorem Gl.gNow(G:Gl ca fa h₀ mg mb)(S:SR w ca h₀ h st μ):h.Ns CX mg:=(G.g).elim λo zz=>zz.elim λes zz=>zz.elim λep zz=>zz.elim λe r=>⟨o,es,ep,S.base _ o e,r⟩
theorem Gl.bNow(G:Gl ca fa h₀ mg mb)(S:SR w ca h₀ h st μ):h.Ns Iw mb:=(G.b).elim λo zz=>zz.elim λes zz=>zz.elim λep zz=>zz.elim λe r=>⟨o,es,ep,S.base _ o e,r⟩
theorem Th{M:Ej}{x:Str}{pos:Ax}{u:AB}{Q:AB→AF→Prop}(X:ER s.heap μ env ρ)(G:Gl ca fa h₀ mg mb)(S:SR w ca h₀ s.heap st μ)(hk:env.kindOf x=some .globalImplicit)(hd:E7 x=true)(hu:mg x=some u)(h:Q u s):
  AP M A (Dl (.Name x pos) env) Q E s:=by
 simp only [E7,De,Ho,ne_eq] at hd
 refine aP X.kind hk (loadGlobal_global (mg:=mg) ?_ hu h) (by simpa using hd.1)
 refine rwl X.glob ?_;exact G.gNow S
theorem YV{M:Ej}{x:Str}{pos:Ax}{u:AB}{Q:AB→AF→Prop}(X:ER s.heap μ env ρ)(G:Gl ca fa h₀ mg mb)(S:SR w ca h₀ s.heap st μ)(hk:env.kindOf x=some .globalImplicit)(hd:E7 x=true)(hn:mg x=none)(hu:mb x=some u)(h:Q u s):
  AP M A (Dl (.Name x pos) env) Q E s:=by
 simp only [E7,De,Ho,ne_eq] at hd
 refine aP X.kind hk (loadGlobal_builtin (mg:=mg) (mb:=mb) ?_ hn ?_ hu h) (by simpa using hd.1)
 ·refine rwl X.glob ?_;exact G.gNow S
 ·refine rwl X.blt ?_;exact G.bNow S
theorem gw{C N:AD}{mN:Str→AH AB}{pos:Ax}{r:List Expr}{Q:AB→AF→Prop}(X:ClsAt h₀ C N mN)(hr:Br r=true)
  (h:AP (AU prog w) A (JI (Dv pos (DW r env))) (λvs s₁=>(∀b o,h₀.get? b=some o→s₁.heap.get? b=some o)∧AP (AU prog w) A (call (.ref C) vs) Q E s₁) E s):
  AP (AU prog w) A (Oz pos (.ref C) [] (Dv pos (DW r env)) []) Q E s:=by
 have hst:((Dv pos (DW r env)).any (λx=>x.fst)||([]:List (AH Str×CH AB)).any λx=>x.fst.isNone)=false:=by
  refine rwl (JP hr) ?_;rfl
 unfold Oz
 refine AG (Bj (IJ hr (Cb h (λvs s₁ h₁=>?_) λ_ _ x=>x)))
 obtain⟨hh,g,d,t,os⟩:=s₁
 obtain⟨nm,q,bs,sn,sub,col,dd,k0,k1,k2,k3,k5,hC⟩:=(X.keeps h₁.1).obj
 have f1:=tc_lookup
 have hT:(⟨hh,g,d,t,os⟩:AF).TypeIs (.ref C) "type":=⟨_,hC,rfl⟩
 refine AG (Du ?_)
 show AP _ _ (keeperOf (.ref C)>>= _) _ _ _
 unfold keeperOf specialOf
 repeat (any_goals (first | assumption | with_reducible refine wpAny_loadPart_at hC ?_ | with_reducible refine wpAny_load' hC ?_ | wp_step))
 refine rwl (AM (by rfl)) (rwl hst ?_)
 show AP _ _ (call (.ref C) vs []>>= λr=>do Oq [r] point;pure r) _ _ _
 exact AG (Cb h₁.2 (λr s' hr=>AG (Bj (wpAny_point (AN hr)))) λ_ _ x=>x)
theorem Go.then{P:QV}{Q:AB→AF→Prop}(h:Go w ca h₀ s μ P Q)(N:Nx w ca h₀ s.heap s μ s1 μ1 st1):Go w ca h₀ s1 μ1 P Q:=λv st' p s' μ' u N' r=>h v st' p s' μ' u (N.then N') r
theorem eX{K:Ks}{args:List CE}{argx:List Expr}{f:AE}{pos:Ax}{P:QV}{Q:AB→AF→Prop}(hf:Nd f=true)
  (hs:Br argx=true) (sA:NA C K args argx) (hK:env.scope.names=K) (X:ER s.heap μ env ρ) (S:C.S s.heap st μ) (e:wE C.cl (.callf f args) ρ st P) (h:C.Go s μ P Q):
  ∃u,(C.mg (AK f)=some u∨C.mg (AK f)=none∧C.mb (AK f)=some u)∧C.wp (Oz pos u [] (Dv pos (DW argx env)) []) Q E s:=by
 have e:wEs C.cl args ρ st (λvs s=>pB (C.cl f vs s P) (Is (Ck f vs s) (pr P)) (Hk.contains f)):=e
 unfold Nd at hf
 cases hu:Hk.contains f with
 | true=>
  rw [hu] at hf e
  have key:C.wp (JI (Dv pos (DW argx env))) (λvs s₁=>(∀b o,C.h₀.get? b=some o→s₁.heap.get? b=some o)∧C.wp (call (.ref (place C.ca C.fa f)) vs) Q E s₁) E s:=
   sA hK X S e λvs st1 q s1 μ1 us N1 ru=>⟨N1.sr.base,C.CS q N1.sr ru (Go.then h N1)⟩
  refine⟨_,.inl (C.G.usr f hu),?_⟩
  by_cases hc:Cm.contains f=true
  ·refine A6 (C.G.cls f hc) λN mN CB _=>?_
   rw [show place C.ca C.fa f=C.ca f from AM hc] at key ⊢
   exact gw CB.cls hs key
  ·rw [show place C.ca C.fa f=C.fa f from AO hc] at key ⊢
   refine exE (MB.mp ((DH.mp hf).resolve_left hc)) λb hq=>?_
   refine GW (C.G.fn f b hq) λo fd body F=>?_
   exact aQ (o:=o) (fd:=fd) (IJ hs (Cb key (λvs s1 q=>⟨⟨q.1 _ _ F.here,F.data⟩,q.2⟩) λ_ _ x=>x))
 | false=>
  rw [hu] at hf e
  have key:C.wp (JI (Dv pos (DW argx env))) (λus s1=>C.wp (call (HO f) us) Q E s1) E s:=
   sA hK X S e λvs st1 q s1 μ1 us N1 ru=>q.two λv st' e p=>jH C.hh C.G.sm N1.sr C.hu e ru (Go.then h N1 v st' p)
  refine⟨_,.inr (C.G.blt f (GK.mp hf)),?_⟩
  unfold HO at key ⊢
  split
  ·rename_i hc
   replace key:=AM hc▸key
   exact aR (JP hs) (IJ hs key)
  ·rename_i hc
   replace key:=AO hc▸key
   exact aS (JP hs) (IJ hs key)
end
end Mine
namespace Mine
open PySem PySem.Calls PyProof.Rows PySem.SeqAt PySem.MeetsSeq
theorem Va{o:Expr}{attr:Str}{env:A0}{whole:CH AB}:IP o=true→attributeBase o attr env whole=whole:=by
 cases o with
 | Call f args kws pos=>
  cases f with
  | Name id p=>
   cases args with
   | nil=>
    cases kws with
    | nil=>exact λh=>AM (DH.mpr (.inl (DH.mpr (.inl (DH.mpr (.inl ((show IP ((Expr.Name id p).Call [] [] pos)=(id != ("super":Str)) by kernel_rfl).symm.trans h)))))))
    | cons=>exact λ_=>rfl
   | cons=>exact λ_=>rfl
  | _=>exact λ_=>rfl
 | _=>exact λ_=>rfl
section
variable{w:Ae}{ca fa:AE→AD}{h₀ hb hb' h h':AQ}{μ μ' μ1:List AD}{st st' st1:St}{s s1:AF}{prog:Ar}{A:Aq}{E:AB→AF→Prop}{env:A0}{ρ ρ':Env}{C:Cx}
theorem gW{pos:Ax}{args:List Expr}(hs:Br args=true)(hn:args.length<29):methodCallForm (args.length+([]:List Keyword).length) (Dv pos (DW args env)) (backToKw pos (keywordEach [] env))=true:=by
 unfold methodCallForm
 refine rwl (f6 hs) ?_
 show(true&&true&&decide (args.length+0+0<30))=true
 simp;omega
theorem eQ{o:Expr}{name:Str}{apos pos:Ax}{args:List Expr}{Q:AB→AF→Prop}(hn:IP o=true)(hs:Br args=true)(hl:args.length<29)(hline:(apos.endLine==pos.line)=true)
  (h:AP (AU prog w) A (Dl o env) (λov s₁=>∀pl,AP (AU prog w) A (getMethod ov name pl) (λr s₂=>AP (AU prog w) A (Oz pos r.1 r.2 (Dv pos (DW args env)) []) Q E s₂) E s₁) E s):
  AP (AU prog w) A (Dl (.Call (.Attribute o name apos) args [] pos) env) Q E s:=by
 refine rwl (arm_eval_Call ..) (rwl (Va hn) ?_)
 refine AG (Cb h (λov s₁ h₁=>?_) λ_ _ e=>e)
 refine AG (Du ?_)
 have hpos:methodCallPos true o env apos pos=pure pos:=by unfold methodCallPos;simp [hline]
 unfold methodCall
 refine rwl (gW hs hl) ?_
 refine AG (Bj ?_)
 unfold calleeOf
 refine rwl (AM rfl) ?_
 refine Cb (h₁ _) (λr s₂ h₂=>?_) λ_ _ e=>e
 obtain⟨f,first⟩:=r
 exact AG (Og hpos h₂)
theorem We{K:Ks}{args:List CE}{argx:List Expr}{f:AE}{p pos:Ax}(hf:Nd f=true)(hs:Br argx=true)(sA:NA C K args argx)(hk:K.lookup (AK f)=some .globalImplicit)(hd:E7 (AK f)=true):
  Ao C K (.callf f args) (.Call (.Name (AK f) p) argx [] pos):=by
 intro env ρ s μ st P Q E hK X S e h
 refine AJ (eX (pos:=pos) (E:=E) hf hs sA hK X S e h) λu hm key=>?_
 subst hK
 refine aT (hm.elim (λhm=>Th X C.G S hk hd hm key) λhm=>YV X C.G S hk hd hm.1 hm.2 key)
theorem j8{m t:AE}{k:AE ⊕ AE}(e:Mq m t=some k):k= .inr t∧∃id,GB t m=some id:=
 gdE e λh e=>⟨(AV e).symm,MB.mp h⟩
theorem iL{a:V}{m:AE}{k:AE ⊕ AE}(e:Il a m st=some k):(∃t id,k= .inr t∧GB t m=some id∧Fx a st=some t)∨
  ∃r c fs,k= .inl (c++"."++m)∧a= .ref r∧st[r]? =some (.inst c)∧st[r+1]? =some (.ns fs)∧Ce m fs=none∧Cm.contains c=true∧MR.contains (c++"."++m)=true:=by
 have hb:∀{o:AH AE},Fx a st=o→o.bind (Mq m)=some k→∃t id,k= .inr t∧GB t m=some id∧Fx a st=some t:=λq e=>Bn e λt h e=>(j8 e).elim λe1 zz=>zz.elim λid e2=>⟨t,id,e1,e2,q.trans h⟩
 cases a with
 | ref r=>
  refine Bn e λo ho e=>?_
  have ht:Fx (.ref r) st=Ip o:=show st[r]?.bind Ip=Ip o from ho▸rfl
  cases o with
  | inst c=>
   refine gdE e λhc e=>QH e λfs hfs e=>?_
   cases hg:Ce m fs with
   | some v=>replace e:=hg▸e;cases e
   | none=>
    replace e:=hg▸e
    (have zz:=Ac.mp hc;have h1:=zz.1;have h2:=zz.2;clear zz)
    exact .inr ⟨r,c,fs,(AV e).symm,rfl,ho,hfs,hg,h1,h2⟩
  | _=>exact .inl (hb ht e)
 | _=>exact .inl (hb rfl e)
theorem di{c m:AE}:Cm.contains (c++"."++m)=false:=by
 have h:∀x∈Cm,x.toList.contains '.' =false:=by decide
 cases hq:Cm.contains (c++"."++m) with
 | false=>rfl
 | true=>
  have:=h _ (GK.mp hq)
  (replace this:=O0▸O0▸this;rewrite [List.contains_eq_mem] at this;rewrite [decide_eq_false_iff_not] at this)
  exact absurd (D7 _ (D8 _ Ah)) this
theorem To{K:Ks}{o:CE}{ox:Expr}{args:List CE}{argx:List Expr}{m:AE}{apos pos:Ax}
  (hn:IP ox=true) (hs:Br argx=true) (hl:argx.length<29) (hline:(apos.endLine==pos.line)=true) (sO:Ao C K o ox) (sA:NA C K args argx):
  Ao C K (.callm o m args) (.Call (.Attribute ox (AK m) apos) argx [] pos):=by
 intro env ρ s μ st P Q E hK X S e h
 refine eQ hn hs hl hline (sO hK X S e λa st1 e s1 μ1 x N1 rx pl=>e.elim λk e=>?_)
 (have zz:=e;clear e;have ek:=zz.1;have e:=zz.2;clear zz)
 have X1:=X.nx N1
 rcases iL ek with ⟨t,id,rfl,hid,ht⟩ | ⟨r,c,fs,rfl,rfl,hc,hfs,hgf,hcn,hmn⟩
 ·
  (have zz:=gI ht N1.sr rx;have hT:=zz.1;have hD:=zz.2;clear zz)
  have M:=bt hid
  refine getMethod_builtin hT M.attrs M.slot M.ty hD ?_
  refine aS (JP hs) (IJ hs (sA hK X1 N1.sr e λvs st2 e s2 μ2 us N2 ru=>e.2.two λv st' em p=>?_))
  obtain⟨id',hid',key⟩:=iD (Q:=Q) (E:=E) C.G.sm N2.sr C.hu e.1 em (rx.pass N2.pass) ru λs3 μ3 u N3 r3=>h v st' p s3 μ3 u ((N1.then N2).then N3) r3
  (have zz:=AV (hid.symm.trans hid');subst zz)
  exact key
 ·refine A6 (C.G.cls c hcn) λN mN CB hm=>?_
  have hfn:(DP fns (c++"."++m)).isSome=true:=BE.mp gU _ (GK.mp hmn)
  refine exE (MB.mp hfn) λb hb=>?_
  refine GW (C.G.fn _ b hb) λoF fd body F=>?_
  (refine AJ (rx:∃xa,x= .ref xa∧μ1[r]? =some xa) ?_;intro xa z6;subst z6;intro hxa)
  refine QQ (N1.sr.inst hc hfs hxa) λd mA o hd hne ho hdd I wi hf=>?_
  have hsh:mA (AK m)=none:=by
   have:=hf m
   replace this:=hgf▸this;exact this
  obtain⟨nm,q,bs,sn,sub,col,dd,k0,k1,k2,k3,k5,hC⟩:=(CB.cls.keeps N1.sr.base).obj
  obtain⟨hp,gp,dp,tp,os⟩:=s1
  refine method_of hC (CB.cls.keeps N1.sr.base).ns CB.ga CB.gt (hm m hfn) (N1.sr.base _ _ F.here) F.cls (Lq ..) I hsh ?_
  refine aQ (o:=oF) (fd:=fd) (IJ hs (sA hK X1 N1.sr e λvs st2 e s2 μ2 us N2 ru=>⟨⟨N2.sr.base _ _ F.here,F.data⟩,?_⟩))
  have hx2:VR s2.heap μ2 (.ref r) (.ref xa):=⟨xa,rfl,N2.pass.idx hxa⟩
  have:=C.CS (E:=E) (Q:=Q) e N2.sr (VRs.cons hx2 ru) (Go.then h (N1.then N2))
  rwa [show place C.ca C.fa (c++"."++m)=C.fa (c++"."++m) from AO (KU.mp di)] at this
end
end Mine
namespace Mine
open PySem PySem.Calls PyProof.Rows PySem.SeqAt PySem.MeetsSeq
section
variable{w:Ae}{ca fa:AE→AD}{h₀ hb hb' h h':AQ}{μ μ' μ1:List AD}{st st' st1:St}{s s1:AF}{prog:Ar}{A:Aq}{E:AB→AF→Prop}{env:A0}{ρ ρ':Env}{C:Cx}
theorem Hl{h:AQ}{o:Obj}:∀b ob,h.get? b=some ob→(h.push o).get? b=some ob:=λb ob e=>Az _ e
theorem HP(N:Nx w ca h₀ hb s μ s1 μ1 st1){a:AD}(h:s1.heap.get? a=none):s.heap.get? a=none:=Dw λo e=>by
 refine exE (N.alive a o e) λo' e'=>?_
 replace e':=h▸e';cases e'
theorem jT{target:Expr}{v:V}{u:AB}{P:QI}{Q:AB→AF→Prop}(S:C.S s.heap st μ)(ru:VR s.heap μ v u)(e:Is (LS v st) (kI2 P st))(h:C.Ig target s s μ P Q):C.wp (GP u) Q E s:=by
 have nI:=C2 s.heap
 have nI0:=EH S nI
 have nm:=IM S
 refine e.elim λp e=>?_
 have h:=h _ _ _ e.2
 have e:=e.1
 revert h
 cases v with
 | tup xs=>
  (have zz:=AV e;subst zz)
  intro h
  (refine BV (ru:∃a vs,u= .ref a∧_) ?_;intro t vs z7;subst z7;intro tp nt r)
  refine L8 tp.tup ?_
  have N:C.N s.heap s μ _ μ st:=Nx.grow (t:=s.toks) S (Hl (o:={cls:=.type "tuple_iterator",data:=.fields #[.ref t,.int 0 0]}))
  exact h _ _ _ _ _ _ _ N (Wk.tup (I:=s.heap.objs.size) (t:=t) C.hh nI0) ⟨⟨_,Bb _ rfl,rfl,rfl⟩,nm,nt,vs,IsTp.to tp (Hl t),r.pass N.pass⟩ (JJ.mpr nI)
 | str x=>
  refine gdE e λhc e=>?_
  (have zz:=AV e;subst zz)
  intro h
  (refine exE (ru:∃t,u= .str (AK x) t) ?_;intro t z8;subst z8)
  refine wpAny_pyIter_ascii ?_ ?_
  ·refine rwl (FY ..) ?_
   show(GG GC x.toList).toArray.all (· <128)=true
   refine rwl List.all_toArray (rwl G1 ?_)
   exact hc
  ·have N:C.N s.heap s μ _ μ st:=Nx.grow (t:=s.toks) S (Hl (o:={cls:=.type "str_ascii_iterator",data:=.fields #[.str (AK x) t,.int 0 0]}))
   exact h _ _ _ _ _ _ _ N (Wk.str (I:=s.heap.objs.size) (x:=x) (t:=t) C.hh nI0) ⟨⟨_,Bb _ rfl,rfl,rfl⟩,nm,trivial⟩ (JJ.mpr nI)
 | ref r=>
  (refine AJ (ru:∃a,u= .ref a∧μ[r]? =some a) ?_;intro a z9;subst z9;intro ha)
  refine Hm e (λxs hx e=>?_) λes n hx e=>gdE e λhk e=>?_
  ·(have zz:=AV e;subst zz)
   intro h
   refine A6 (S.list hx ha) λvs n e0 rx=>?_
   refine J9 (B0 e0) ?_
   have N:C.N s.heap s μ _ μ st:=Nx.grow (t:=s.toks) S (Hl (o:={cls:=.type "list_iterator",data:=.fields #[.ref a,.int 0 0]}))
   exact h _ _ _ _ _ _ _ N (Wk.list (I:=s.heap.objs.size) (ax:=a) C.hh nI0 hx) ⟨⟨_,Bb _ rfl,rfl,rfl⟩,nm,ha⟩ (JJ.mpr nI)
  ·(have zz:=AV e;subst zz)
   intro h
   refine Al (S.dictAt (prog:=C.prog) hx ha hk) λkvs D hlen _=>?_
   refine wpAny_pyIter_dict (knd:=G2 C.prog C.w) ?_ D ?_
   ·refine J0.mpr λq=>?_
    refine exE C.G.sm λo eo=>?_
    have:=S.above _ (Bx ha)
    replace this:=eo▸q▸this;cases this
   ·refine rwl hlen ?_
    have N:C.N s.heap s μ _ μ st:=Nx.grow (t:=s.toks) S (Hl (o:={cls:=.type "dict_keyiterator",data:=.fields #[.ref a,.int 0 0,.int es.length 0,.int n 0]}))
    exact h _ _ _ _ _ _ _ N (Wk.dict (I:=s.heap.objs.size) (d:=a) C.hh nI0 hx hk) ⟨⟨_,Bb _ rfl,rfl,rfl⟩,nm,ha⟩ (JJ.mpr nI)
 | _=>exact no e
theorem Cx.Ig.then{target:Expr}{s0:AF}{P:QI}{Q:AB→AF→Prop}(N:C.N s0.heap s0 μ s1 μ1 st1)(h:C.Ig target s0 s0 μ P Q):C.Ig target s1 s1 μ1 P Q:=λl src st' p s' μ' itv wr wd wx Pw N' W hP nw=>h l src st' p s' μ' itv wr wd wx Pw (N.then N') W hP λa ha=>HP N (nw a ha)
theorem iQ{K:Ks}{e:CE}{ix target:Expr}(sE:Ao C K e ix):Dg C K (.plain e) ix target:=by
 intro env ρ s μ st P Q E hK X S ei h
 exact sE hK X S ei λv st1 eit s1 μ1 u N1 ru=>jT N1.sr ru eit (h.then N1)
theorem RF{K:Ks}{y:AE}{p pos:Ax}{argx:List Expr}{Q:AB→AF→Prop}(hy:y∈["range","enumerate","zip"])(hs:Br argx=true)(hK:env.scope.names=K)(hk:K.lookup (AK y)=some .globalImplicit)(X:ER s.heap μ env ρ)(S:C.S s.heap st μ)
  (h:C.wp (JI (Dv pos (DW argx env))) (λus s₁=>C.wp (call (.type y) us) Q E s₁) E s):C.wp (Dl (.Call (.Name (AK y) p) argx [] pos) env) Q E s:=by
 subst hK
 refine aT (YV X C.G S hk ?_ (C.G.typ y hy).1 (C.G.typ y hy).2 (aR (JP hs) (IJ hs h)))
 simp only [Ak,Dm,or_false] at hy
 rcases hy with rfl | rfl | rfl<;>decide
theorem QM{v:V}{P:List V→Prop}(e:Ma v P){G:Prop}(q:∀l,v= .tup l→P l→G):G:=by
 cases v with
 | tup l=>exact q l rfl e
 | _=>exact e.elim
theorem gT{v:V}{P:Int→Prop}(e:Vm v P){G:Prop}(q:∀l,v= .int l→P l→G):G:=by
 cases v with
 | int l=>exact q l rfl e
 | _=>exact e.elim
theorem c9{K:Ks}{e:CE}{x target:Expr}{p pos:Ax}(hs:Br [x]=true)(hk:K.lookup (AK "range")=some .globalImplicit)(sE:Ao C K e x):
  Dg C K (.range e) (.Call (.Name (AK "range") p) [x] [] pos) target:=by
 intro env ρ s μ st P Q E hK X S ei h
 refine RF (by simp) hs hK hk X S (MC (sE hK X S ei λv st1 ei s1 μ1 u N1 ru=>O1 ?_) (HH hs).1)
 refine gT ei λn q ei=>?_
 (refine exE (q▸ru:VR s1.heap μ1 (.int n) u) ?_;intro t z0;subst z0)
 have h:=h _ _ _ ei.2
 refine call_range_1 ?_
 have hb:=LM ei.1
 have N2:C.N s1.heap s1 μ1 _ μ1 st1:=Nx.grow (t:=s1.toks+1+1) N1.sr (Hl (o:={cls:=.type "range",data:=.fields #[.int 0 s1.toks,.int n t,.int 1 (s1.toks+1)]}))
 refine wpAny_pyIter_range (IsRange.new ..) (small_one (by decide) (by decide) (by omega) (by omega)) ?_
 refine rwl (rangeSize_one ..) ?_
 generalize ({s1 with heap:=s1.heap.push {cls:=.type "range",data:=.fields #[.int 0 s1.toks,.int n t,.int 1 (s1.toks+1)]},toks:=s1.toks+1+1}:AF)=s2 at N2
 have N3:C.N s2.heap s2 μ1 _ μ1 st1:=Nx.grow (t:=s2.toks) N2.sr (Hl (o:={cls:=.type "range_iterator",data:=.fields #[CK 0,CK (if(0:Int)<n then n-0 else 0),CK 1]}))
 have nI:=C2 s2.heap
 refine h _ _ (.ref s2.heap.objs.size) _ _ _ _ ((N1.then N2).then N3) (Wk.range (I:=s2.heap.objs.size) (n:=n.toNat) C.hh (EH N2.sr nI)) ⟨?_,IM N2.sr,trivial⟩ (JJ.mpr (HP N1 (HP N2 nI)))
 refine(Bb _ rfl).trans ?_
 have:(if(0:Int)<n then n-0 else 0)=((n.toNat:Int)-((0:AA):Int)):=by split<;>omega
 refine rwl this ?_;rfl
theorem fG{K:Ks}{e:CE}{x:Expr}{p pos:Ax}{elts:List Expr}{kk:AA}{tp:Ax}(hs:Br [x]=true)(hk:K.lookup (AK "enumerate")=some .globalImplicit)(sE:Ao C K e x):
  Dg C K (.enum e) (.Call (.Name (AK "enumerate") p) [x] [] pos) (.Tuple elts kk tp):=by
 intro env ρ s μ st P Q E hK X S ei h
 refine RF (by simp) hs hK hk X S (MC (sE hK X S ei λv st1 ei s1 μ1 u N1 ru=>O1 ?_) (HH hs).1)
 refine QM ei λxs q ei=>?_
 (refine BV (q▸ru:VR s1.heap μ1 (.tup xs) u) ?_;intro t vs z1;subst z1;intro tp nt r)
 have h:=h _ _ _ ei
 refine nJ tp.tup λh' en it sz kp=>?_
 have N2:C.N s1.heap s1 μ1 {s1 with heap:=h'} μ1 st1:=Nx.grow (t:=s1.toks) N1.sr kp
 have nI:=C2 s1.heap
 have nE:s1.heap.get? (s1.heap.objs.size+1)=none:=Dw λo e=>absurd (BQ e) (Fh (Et _))
 refine aF (i:=0) en ?_
 have nm:=IM N1.sr
 have nm2:(s1.heap.objs.size+1:AA)∉μ1:=λhm=>by refine exE (N1.sr.here hm) λo e=>?_;replace e:=nE▸e;cases e
 exact h _ _ _ _ _ _ _ (N1.then N2) (Wk.enum (e:=s1.heap.objs.size+1) (it:=s1.heap.objs.size) (t:=t) C.hh (EH N1.sr nE) (EH N1.sr nI) (TB _)) ⟨⟨_,en⟩,it,⟨nm2,nm,nt⟩,vs,IsTp.to tp (kp t),r.pass N2.pass⟩
  (G7.mpr ⟨HP N1 nE,JJ.mpr (HP N1 nI)⟩)
theorem dg{K:Ks}{e f:CE}{x y:Expr}{p pos:Ax}{elts:List Expr}{kk:AA}{tp:Ax}(hs:Br [x,y]=true)(hk:K.lookup (AK "zip")=some .globalImplicit)(sE:Ao C K e x)(sF:Ao C K f y):
  Dg C K (.zip e f) (.Call (.Name (AK "zip") p) [x,y] [] pos) (.Tuple elts kk tp):=by
 intro env ρ s μ st P Q E hK X S ei h
 refine RF (by simp) hs hK hk X S ?_
 refine MC (sE hK X S ei λv st1 ei s1 μ1 u N1 ru=>?_) (HH hs).1
 refine MC (sF hK (X.nx N1) N1.sr ei λv2 st2 ei s2 μ2 u2 N2 ru2=>O1 ?_) (HH (HH (env:=env) hs).2).1
 refine QM ei λxs q1 ei=>QM ei λys q2 ei=>?_
 (have zz:=ei;clear ei;have hlen:=zz.1;have ei:=zz.2;clear zz)
 have h:=h _ _ _ ei
 (refine BV (q1▸ru.pass N2.pass:VR s2.heap μ2 (.tup xs) u) ?_;intro t1 vs z2;subst z2;intro tp1 nt1 r1)
 (refine BV (q2▸ru2:VR s2.heap μ2 (.tup ys) u2) ?_;intro t2 us z3;subst z3;intro tp2 nt2 r2)
 refine bM tp1.tup tp2.tup λh' hz hTI hTO i1 i2 sz kp=>?_
 generalize hB:s2.heap.objs.size=B at*
 have nn:∀k,s2.heap.get? (B+k:AA)=none:=λk=>Dw λo e=>by have h1:@LT.lt AA _ (B+k) s2.heap.objs.size:=BQ e;replace h1:=hB▸h1;omega
 have nmu:∀k:AA,(B+k:AA)∉μ2:=λk hm=>by refine exE (N2.sr.here hm) λo e=>?_;replace e:=nn k▸e;cases e
 have lt:∀{a:AA} {vs},IsTp s2.heap a vs→a<B:=λht=>by refine exE (IsTp.get ht) λo e=>?_;refine rwr hB ?_;exact BQ e
 have hpair:=hTO
 have ntp:∀vs,IsTp s2.heap (B+3:AA) vs→As:=λvs t=>by refine exE (IsTp.get t) λo e=>?_;replace e:=nn 3▸e;cases e
 have N3:C.N s2.heap s2 μ2 {s2 with heap:=h'} (μ2++[(B+3:AA)]) (st2++[.priv]):=
  Nx.new (t:=s2.toks) N2.sr (a:=(B+3:AA)) (o:=.priv) kp (nn 3) ⟨_,_,hTO⟩
 refine aK hz ?_
 have D:ZipApart (B+4:AA) (B+2:AA) (B+3:AA) B (B+1:AA) t1 t2:=by
  have q1:=lt tp1
  have q2:=lt tp2
  constructor<;>intro hq
  all_goals (first | (replace hq:@Eq AA _ _:=hq;omega))
 have NN:=(N1.then N2).then N3
 have nm3:∀k:AA,k≠3→(B+k:AA)∉μ2++[(B+3:AA)]:=λk hk hm=>by
  rcases BD.mp hm with hm | hm
  ·exact nmu k hm
  ·have:@Eq AA (B+k) (B+3):=by simpa using hm
   omega
 have nm4:∀{a:AA},a∉μ2→a<B→a∉μ2++[(B+3:AA)]:=λ{a} h1 h2 hm=>by
  rcases BD.mp hm with hm | hm
  ·exact h1 hm
  ·have:@Eq AA a (B+3):=by simpa using hm
   omega
 refine h _ _ _ _ _ _ _ NN (Wk.zip (z:=(B+4:AA)) (TI:=(B+2:AA)) (TO:=(B+3:AA)) (i1:=B) (i2:=(B+1:AA)) (l1:=t1) (l2:=t2) (p:=st2.length) (xs:=xs) (ys:=ys) C.hh D ?_ (by simp) hlen) ?_ ?_
 ·intro a ha
  simp only [Ak,Dm,or_false] at ha
  rcases ha with rfl | rfl | rfl | rfl
  ·exact EH N2.sr (nn 4)
  ·exact EH N2.sr (nn 3)
  ·exact EH N2.sr (nn 0)
  ·exact EH N2.sr (nn 1)
 ·refine⟨hz,hTI,i1,i2,⟨nm3 4 (by decide),nm3 2 (by decide),nm3 0 (by decide),nm3 1 (by decide),nm4 nt1 (lt tp1),nm4 nt2 (lt tp2)⟩,?_,⟨_,hTO⟩,⟨vs,N3.tup _ _ nt1 tp1,r1.pass N3.pass⟩,us,N3.tup _ _ nt2 tp2,r2.pass N3.pass⟩
  refine rwr N2.sr.len ?_;simp
 ·intro a ha
  simp only [Ak,Dm,or_false] at ha
  have old:∀k:AA,s.heap.get? (B+k:AA)=none:=λk=>HP N1 (HP N2 (nn k))
  rcases ha with rfl | rfl | rfl | rfl | rfl
  ·exact old 4
  ·exact old 3
  ·exact old 0
  ·exact old 1
  ·exact old 2
end
end Mine
namespace Mine
open PySem PySem.Calls PyProof.Rows PySem.SeqAt PySem.MeetsSeq
theorem bH{x:Expr}(h:X7 x=true):Fw x:=by
 revert h
 cases x with
 | Set a b c=>exact λh=>xF h
 | _=>exact λ_ _ _=>rfl
theorem TU{t:List AE}{target:Expr}(h:C9 t target)(h2:(t.length==2)=true):∃elts k p,target= .Tuple elts k p:=by
 cases h with
 | one x p=>cases h2
 | two x y pa pb k p=>exact⟨_,_,_,rfl⟩
section
variable{G:Prop}
theorem wNE{o:AH V}{Q:V→Prop}(h:wN o Q)(k:∀v,o=some v→Q v→G):G:=by
 cases o with
 | none=>exact h.elim
 | some v=>exact k v rfl h
theorem HY{v:V}{t f:Prop}(h:Gi v t f)(k:v= .bool true→t→G)(k':v= .bool false→f→G):G:=by
 cases v with
 | bool b=>cases b with
  | true=>exact k rfl h
  | false=>exact k' rfl h
 | _=>exact h.elim
end
section
variable{C:Cx}{μ:List AD}{st':St}{s:AF}
theorem Cx.Tg.at{P:QV}{Q:AL→AF→Prop}(h:C.Tg s μ P Q){b:AL}(p:P (.bool b) st'){s':AF}{μ':List AD}(N:C.N s.heap s μ s' μ' st'):Q b s':=(h _ _ p).elim λ_ q=>by cases q.1;exact q.2 s' μ' N
theorem mq{o:O}{st:St}(h:fits (Kh o)=true):Ci o st=some (.ref st.length,st++[o]):=AM h
theorem mH{l:List V}{st:St}(h:fits l.length=true):EC l st=some (.tup l,st):=AM h
end
end Mine
namespace Mine
open PySem PySem.Calls PyProof.Rows PySem.SeqAt PySem.MeetsSeq
section
variable(C:Cx)
noncomputable def AllE(K:Ks):List CE→List Expr→Prop
 | [],l=>l=[]
 | c::cs,l=>∃x xs,l=x::xs∧Ao C K c x∧AllE K cs xs
noncomputable def Rh(K:Ks):List CE→List Expr→Prop
 | [],l=>l=[]
 | c::cs,l=>∃x xs,l=x::xs∧BZ C K c x∧Rh K cs xs
noncomputable def LF(K:Ks)(o:AH CE)(x:AH Expr):Prop:=∀{env:A0} {ρ:Env} {s:AF} {μ:List AD} {st:St} {P:AH V→St→Prop} {Q E:AB→AF→Prop},env.scope.names=K→ER s.heap μ env ρ→C.S s.heap st μ→
 wO C.cl o ρ st P→(∀v st',P v st'→∀s' μ' u,C.N s.heap s μ s' μ' st'→BR s'.heap μ' v u→Q u s')→C.wp (evalPart x env) Q E s
end
section
variable{C:Cx}{K:Ks}{p:Ax}{k:AA}
theorem JQ{cs:List CE}:∀{xs:List Expr},Br xs=true→AllE C K cs xs→Bm (NA C K cs xs):=by
 induction cs with
 | nil=>
  intro xs _ hA
  cases(hA:xs=[])
  refine⟨?_⟩
  intro env ρ s μ st pos P Q E hK X S e h
  exact O1 (h _ _ e _ _ _ (Nx.refl S) VRs.nil)
 | cons c cs ih=>
  intro xs hs hA
  (refine BO hA ?_;clear hA;intro x xs z4;subst z4;intro hc hA)
  refine⟨?_⟩
  intro env ρ s μ st pos P Q E hK X S e h
  have H:=HH (env:=env) hs
  exact MC (hc hK X S e λv st1 e s1 μ1 u N1 r1=>(ih H.2 hA).get hK (X.nx N1) N1.sr e λvs st2 p s2 μ2 us N2 r2=>h _ _ p s2 μ2 (u::us) (N1.then N2) (VRs.cons (r1.pass N2.pass) r2)) H.1
theorem cU:Ao C K .cnone (.Constant .none k p):=by
 intro env ρ s μ st P Q E hK X S e h
 exact wpAny_Constant_none (Ii S (h _ _ e) VR.none_)
theorem m9{b:AL}:Ao C K (.cbool b) (.Constant (.bool b) k p):=by
 intro env ρ s μ st P Q E hK X S e h
 exact wpAny_Constant_bool (Ii S (h _ _ e) (VR.bool_ b))
theorem fZ{i:Int}:Ao C K (.cint i) (.Constant (.int i) k p):=by
 intro env ρ s μ st P Q E hK X S e h
 exact wpAny_Constant_int (IT S (h _ _ e) (VR.int_ _ _) _)
theorem lJ{x:AE}:Ao C K (.cstr x) (.Constant (.str (AK x)) k p):=by
 intro env ρ s μ st P Q E hK X S e h
 exact aU (IT S (h _ _ e) (VR.str_ _ _) _)
theorem Vb{y:Str}(h:E7 y=true):(y==("__debug__":Str))=false∧(y==("__classdict__":Str))=false:=
 a2 h λh1 h2=>⟨aV _▸h1,aV _▸h2⟩
theorem WX{x:AE}(hv:isVar (K.lookup (AK x))=true)(ho:E7 (AK x)=true):Ao C K (.name x) (.Name (AK x) p):=by
 intro env ρ s μ st P Q E hK X S e h
 subst hK
 refine wNE e λv hx e=>bk X hx ?_ (Vb ho).1 (Vb ho).2 λu r=>Ii S (h _ _ e) r
 rcases DH.mp hv with hv | hv
 ·exact(DH.mp hv).imp eq_of_beq λq=>.inl (eq_of_beq q)
 ·exact .inr (.inr (eq_of_beq hv))
theorem jg{x:AE}(hk:K.lookup (AK x)=some .globalImplicit)(ho:E7 (AK x)=true):Ao C K (.gname x) (.Name (AK x) p):=by
 intro env ρ s μ st P Q E hK X S e h
 subst hK
 refine e.elim λv e=>?_
 refine AJ (C.G.gl x _ e.1) λu hu r=>?_
 exact Th X C.G S hk ho hu (Ii S (h _ _ e.2) (r.base S))
theorem fO{op:BOp}{l r:CE}{l' r':Expr}(sL:Ao C K l l')(sR:Ao C K r r'):Ao C K (.bin op l r) (.BinOp l' (opB op) r' p):=by
 intro env ρ s μ st P Q E hK X S e h
 exact wpAny_BinOp (sL hK X S e λa st1 e s1 μ1 u1 N1 r1=>sR hK (X.nx N1) N1.sr e λb st2 e s2 μ2 u2 N2 r2=>e.two λv st' e p=>i8 e N2.sr (r1.pass N2.pass) r2 (Go.then h (N1.then N2) _ _ p))
theorem lA{op:COp}{l r:CE}{l' r':Expr}(hm:MD (opC op) r'=false)(sL:Ao C K l l')(sR:Ao C K r r'):Ao C K (.cmp l op r) (.Compare l' [opC op] [r'] p):=by
 intro env ρ s μ st P Q E hK X S e h
 exact wpAny_Compare1 (sL hK X S e λa st1 e s1 μ1 u1 N1 r1=>sR hK (X.nx N1) N1.sr e λb st2 e s2 μ2 u2 N2 r2=>e.elim λc e=>NT C.G.sm N2.sr C.hu e.1 (r1.pass N2.pass) r2 λtk=>IT N2.sr (Go.then h (N1.then N2) _ _ e.2) (VR.bool_ _) tk) hm
theorem vb{h:AQ}{μ:List AD}{v:V}{b:AL}{u:AB}(r:VR h μ v u)(q:v= .bool b):u= .bool b:=(q▸r:VR h μ (.bool b) u)
theorem fW{l r:CE}{a b:Expr}(sL:Ao C K l a)(sR:Ao C K r b):Ao C K (.andB l r) (.BoolOp .And [a,b] p):=by
 intro env ρ s μ st P Q E hK X S e h
 exact wpAny_And2 (sL hK X S e λv st1 e s1 μ1 u1 N1 r1=>HY e (λq e=>vb r1 q▸Hp (sR hK (X.nx N1) N1.sr e (Go.then h N1))) λq e=>vb r1 q▸Hp (h _ _ e _ _ _ N1 (VR.bool_ _)))
theorem ba{t b o:CE}{t' b' o':Expr}(sT:BZ C K t t')(sB:Ao C K b b')(sO:Ao C K o o'):Ao C K (.ite t b o) (.IfExp t' b' o' p):=by
 intro env ρ s μ st P Q E hK X S e h
 exact wpAny_IfExp (sT hK X S e λv st1 e=>HY e (λq e=>⟨true,q,λs1 μ1 N1=>sB hK (X.nx N1) N1.sr e (Go.then h N1)⟩) λq e=>⟨false,q,λs1 μ1 N1=>sO hK (X.nx N1) N1.sr e (Go.then h N1)⟩)
theorem gR{o:CE}{ox:Expr}{a:AE}(hn:IP ox=true)(sO:Ao C K o ox):Ao C K (.attr o a) (.Attribute ox (AK a) p):=by
 intro env ρ s μ st P Q E hK X S e h
 refine Attribute_any_ (sO hK X S e λx st1 e s1 μ1 u1 N1 r1=>e.elim λr e=>gE C.G.CB N1.sr e.1 r1 (Go.then h N1 _ _ e.2)) ?_
 have:Dl (.Attribute ox (AK a) p) env=(do
  let o ←attributeBase ox (AK a) env (Dl ox env)
  JF p.atName
  let r ←Oq [o] (getAttr o (AK a) true)
  letTemporaryGo ox o r
  pure r):=by with_unfolding_all rfl
 (refine rwl this (rwl (Va hn) ?_);rfl)
theorem gm{o i:CE}{ox ix:Expr}(sO:Ao C K o ox)(sI:Ao C K i ix):Ao C K (.sub o i) (.Subscript ox ix p):=by
 intro env ρ s μ st P Q E hK X S e h
 exact Subscript_ (sO hK X S e λx st1 e s1 μ1 u1 N1 r1=>sI hK (X.nx N1) N1.sr e λk st2 e s2 μ2 u2 N2 r2=>e.elim λr e=>V6 (cH N2.sr C.hu e.1 (r1.pass N2.pass) r2 (Go.then h (N1.then N2) _ _ e.2)))
theorem BR.pass{h h':AQ}{μ μ':List AD}(P:Pass h h' μ μ'){l:AH V}{u:AB}(r:BR h μ l u):BR h' μ' l u:=by
 cases l with
 | none=>exact r
 | some v=>exact VR.pass P r
theorem kh{o:CE}{ox:Expr}{lo hi:AH CE}{lx hx:AH Expr}{p2:Ax}(sO:Ao C K o ox)(sL:LF C K lo lx)(sH:LF C K hi hx):Ao C K (.slice o lo hi) (.Subscript ox (.Slice lx hx none p) p2):=by
 intro env ρ s μ st P Q E hK X S e h
 refine Subscript_ (sO hK X S e λx st1 e s1 μ1 u1 N1 r1=>wpAny_Slice ?_)
 refine sL hK (X.nx N1) N1.sr e λl st2 e s2 μ2 u2 N2 r2=>sH hK ((X.nx N1).nx N2) N2.sr e λu st3 e s3 μ3 u3 N3 r3=>e.two λv st' e p=>?_
 exact AN (V6 (iV N3.sr C.hu e ((r1.pass N2.pass).pass N3.pass) (BR.pass N3.pass r2) r3 (Go.then h ((N1.then N2).then N3) _ _ p)))
theorem dI:LF C K none none:=by
 intro env ρ s μ st P Q E hK X S e h
 exact AN (h _ _ e _ _ _ (Nx.refl S) rfl)
theorem kW{c:CE}{x:Expr}(sE:Ao C K c x):LF C K (some c) (some x):=by
 intro env ρ s μ st P Q E hK X S e h
 exact sE hK X S e λv st' e=>h _ _ e
theorem Uw{n m:AA}(h:fits n=true)(e:m=n):m+1≤Dd:=e▸Dx h
theorem dz{es:List CE}{xs:List Expr}(hs:Br xs=true)(hA:AllE C K es xs):Ao C K (.tuple es) (.Tuple xs k p):=by
 intro env ρ s μ st P Q E hK X S e h
 exact wpAny_Tuple ((JQ hs hA).get hK X S e λvs st1 e s1 μ1 us N1 r1=>⟨DT (Uw e.1 r1.length),MQ N1.sr (mH e.1) (Go.then h N1 _ _ e.2) r1 s1.toks 0⟩)
theorem lj{es:List CE}{xs:List Expr}(hs:Br xs=true)(hA:AllE C K es xs):Ao C K (.list es) (.List xs p):=by
 intro env ρ s μ st P Q E hK X S e h
 exact wpAny_List ((JQ hs hA).get hK X S e λvs st1 e s1 μ1 us N1 r1=>⟨DT (Uw e.1 r1.length),Qh N1.sr (mq e.1) (Go.then h N1 _ _ e.2) r1 s1.toks 0⟩)
theorem QD{c:CE}{x:Expr}(sE:Ao C K c x)(he:∀(env:A0) (whole:CH AB),isTrue x env whole=(do let v ←whole;JF x.pos;Oq [v] (truthy v))):BZ C K c x:=by
 intro env ρ s μ st P Q E hK X S e h
 refine wpAny_isTrue_value (sE hK X S e λv st1 p s1 μ1 u N1 r1=>?_) (he _ _)
 refine AJ (h _ _ p) λb q h=>?_
 exact vb r1 q▸Hp (h _ _ N1)
theorem dU{c:CE}{x:Expr}(sT:BZ C K c x):BZ C K (.notB c) (.UnaryOp .Not x p):=by
 intro env ρ s μ st P Q E hK X S e h
 exact wpAny_isTrue_Not (sT hK X S e λv st1 e=>HY e (λq e=>⟨true,q,λs1 μ1 N1=>h.at e N1⟩) λq e=>⟨false,q,λs1 μ1 N1=>h.at e N1⟩)
theorem jZ{op:COp}{l r:CE}{l' r':Expr}(hm:MD (opC op) r'=false)(sL:Ao C K l l')(sR:Ao C K r r'):BZ C K (.cmp l op r) (.Compare l' [opC op] [r'] p):=by
 intro env ρ s μ st P Q E hK X S e h
 exact wpAny_isTrue_Compare1 (sL hK X S e λa st1 e s1 μ1 u1 N1 r1=>sR hK (X.nx N1) N1.sr e λb st2 e s2 μ2 u2 N2 r2=>e.elim λc e=>NT C.G.sm N2.sr C.hu e.1 (r1.pass N2.pass) r2 λtk=>Hp (h.at e.2 ((N1.then N2).then (Nx.tok N2.sr tk)))) hm
theorem d5{op op2:COp}{l m r:CE}{l' m' r':Expr}(hm:MD (opC op2) r'=false)(sL:Ao C K l l')(sM:Ao C K m m')(sR:Ao C K r r'):BZ C K (.cmp2 l op m op2 r) (.Compare l' [opC op,opC op2] [m',r'] p):=by
 intro env ρ s μ st P Q E hK X S e h
 refine isTrue_chain (sL hK X S e λa st1 e s1 μ1 u1 N1 r1=>test_link (sM hK (X.nx N1) N1.sr e λb st2 e s2 μ2 u2 N2 r2=>e.elim λc e=>?_)) (by simpa [lastMarks] using hm)
 refine NT C.G.sm N2.sr C.hu e.1 (r1.pass N2.pass) r2 λtk=>Hp ?_
 have e:=e.2
 have N3:C.N s2.heap s2 μ2 {s2 with toks:=tk} μ2 st2:=Nx.tok N2.sr tk
 cases c with
 | false=>exact h.at (b:=false) e ((N1.then N2).then N3)
 | true=>
  refine test_last (sR hK (((X.nx N1).nx N2).nx N3) N3.sr e λd st3 e s4 μ4 u4 N4 r4=>e.elim λc2 e=>?_)
  exact NT C.G.sm N4.sr C.hu e.1 ((r2.pass N3.pass).pass N4.pass) r4 λtk=>Hp (h.at e.2 ((((N1.then N2).then N3).then N4).then (Nx.tok N4.sr tk)))
theorem Tr{l:CE}{a:Expr}{ys:List Expr}{w:Rn V}(sL:BZ C K l a){env:A0}{ρ:Env}{s:AF}{μ:List AD}{st:St}{P:QV}{Q:AL→AF→Prop}{E:AB→AF→Prop}(hK:env.scope.names=K)(X:ER s.heap μ env ρ)(S:C.S s.heap st μ)
  (e:wE C.cl l ρ st (VE w P)) (h:C.Tg s μ P Q) (k:∀st1 s1 μ1,w st1 P→C.N s.heap s μ s1 μ1 st1→C.wp (allTrue .And ys env) Q E s1):C.wp (allTrue .And (a::ys) env) Q E s:=
 aW (sL hK X S e λv st1 e=>HY e (λq e=>⟨true,q,λs1 μ1 N1=>k _ _ _ e N1⟩) λq e=>⟨false,q,λs1 μ1 N1=>h.at (b:=false) e N1⟩)
theorem Cx.Tg.then{s s1:AF}{μ μ1:List AD}{st1:St}{P:QV}{Q:AL→AF→Prop}(h:C.Tg s μ P Q)(N:C.N s.heap s μ s1 μ1 st1):C.Tg s1 μ1 P Q:=λv st' p=>(h v st' p).imp λb q=>⟨q.1,λs' μ' N'=>q.2 s' μ' (N.then N')⟩
theorem jb{r:CE}{b:Expr}(sR:BZ C K r b){env:A0}{ρ:Env}{s:AF}{μ:List AD}{st:St}{P:QV}{Q:AL→AF→Prop}{E:AB→AF→Prop}(hK:env.scope.names=K)(X:ER s.heap μ env ρ)(S:C.S s.heap st μ)
  (e:wE C.cl r ρ st P) (h:C.Tg s μ P Q):C.wp (allTrue .And [b] env) Q E s:=
 aW (sR hK X S e λv st2 p=>by
  refine AJ (h v st2 p) λb q h=>?_
  refine⟨b,q,λs2 μ2 N2=>?_⟩
  cases b with
  | true=>exact wpAny_allTrue_And_nil (h _ _ N2)
  | false=>exact h _ _ N2)
theorem lQ{l r:CE}{a b:Expr}(sL:BZ C K l a)(sR:BZ C K r b):BZ C K (.andB l r) (.BoolOp .And [a,b] p):=by
 intro env ρ s μ st P Q E hK X S e h
 exact TC (Tr sL hK X S e h λst1 s1 μ1 e N1=>jb sR hK (X.nx N1) N1.sr e (h.then N1))
theorem dN{l r:CE}{a b c:Expr}{p':Ax}(sL:BZ C K l a)(sR:BZ C K r (.BoolOp .And [b,c] p')):BZ C K (.andB l r) (.BoolOp .And [a,b,c] p):=by
 intro env ρ s μ st P Q E hK X S e h
 refine TC (Tr sL hK X S e h λst1 s1 μ1 e N1=>?_)
 have:=sR (Q:=Q) (E:=E) hK (X.nx N1) N1.sr e (h.then N1)
 rwa [arm_isTrue_BoolOp] at this
theorem jI{l r:CE}{a b:Expr}(sL:BZ C K l a)(sR:BZ C K r b):BZ C K (.orB l r) (.BoolOp .Or [a,b] p):=by
 intro env ρ s μ st P Q E hK X S e h
 refine TC (aX (sL hK X S e λv st1 e=>HY e (λq e=>⟨true,q,λs1 μ1 N1=>h.at (b:=true) e N1⟩) λq e=>⟨false,q,λs1 μ1 N1=>aX (sR hK (X.nx N1) N1.sr e λv st2 p=>?_)⟩))
 refine AJ (h v st2 p) λb q h=>?_
 refine⟨b,q,λs2 μ2 N2=>?_⟩
 cases b with
 | false=>exact wpAny_allTrue_Or_nil (h _ _ (N1.then N2))
 | true=>exact h _ _ (N1.then N2)
theorem je{cs:List CE}:∀{xs:List Expr},Rh C K cs xs→Bm (RY C K cs xs):=by
 induction cs with
 | nil=>
  intro xs hA
  cases(hA:xs=[])
  refine⟨?_⟩
  intro env ρ s μ st P Q E hK X S e h
  exact AN (h _ _ e _ _ (Nx.refl S))
 | cons c cs ih=>
  intro xs hA
  (refine BO hA ?_;clear hA;intro x xs z5;subst z5;intro hc hA)
  refine⟨?_⟩
  intro env ρ s μ st P Q E hK X S e h
  unfold Ud
  refine rwl (KL ..) ?_
  refine AG ?_
  refine rwl (AM rfl) ?_
  refine AG (hc hK X S e λv st1 e=>HY e (λq e=>⟨true,q,λs1 μ1 N1=>AN ?_⟩) λq e=>⟨false,q,λs1 μ1 N1=>AN ?_⟩)
  ·exact(ih hA).get hK (X.nx N1) N1.sr e λb st2 p s2 μ2 N2=>h b st2 p s2 μ2 (N1.then N2)
  ·
   have h1:=h _ _ e _ _ N1
   clear ih hA
   dsimp only
   induction xs with
   | nil=>exact AN h1
   | cons y ys ih=>
    refine rwl (KL ..) ?_
    refine AG ?_
    refine rwl (AO (by decide)) ?_
    exact AN ih
end
end Mine
namespace Mine
open PySem PySem.Calls PyProof.Rows PySem.SeqAt PySem.MeetsSeq
noncomputable def PairsR(h:AQ)(μ:List AD):List AE→List V→List (AB×AB)→Prop
 | [],vs,ps=>vs=[]∧ps=[]
 | k::ks,vs,ps=>∃v vs' t u r,vs=v::vs'∧ps=(.str (AK k) t,u)::r∧VR h μ v u∧PairsR h μ ks vs' r
section
variable{C:Cx}{h h':AQ}{μ μ':List AD}{K:Ks}{A:Aq}{prog:Ar}{w:Ae}{ca:AE→AD}{h₀:AQ}{E:AB→AF→Prop}
theorem PairsR.pass(P:Pass h h' μ μ'){ks:List AE}:∀{vs:List V} {ps:List (AB×AB)},PairsR h μ ks vs ps→PairsR h' μ' ks vs ps:=by
 induction ks with
 | nil=>exact λx=>x
 | cons k ks ih=>exact λzq1=>zq1.elim λv zz=>zz.elim λvs' zz=>zz.elim λt zz=>zz.elim λu zz=>zz.elim λr zz=>zz.elim λe1 zz=>zz.elim λe2 zz=>zz.elim λx y=>⟨v,vs',t,u,r,e1,e2,x.pass P,ih y⟩
theorem PairsR.adopt{D:AD}(nt:∀vs,IsTp h D vs→As){ks:List AE}:∀{vs:List V} {ps:List (AB×AB)},PairsR h μ ks vs ps→PairsR h (μ++[D]) ks vs ps:=by
 induction ks with
 | nil=>exact λx=>x
 | cons k ks ih=>exact λzq1=>zq1.elim λv zz=>zz.elim λvs' zz=>zz.elim λt zz=>zz.elim λu zz=>zz.elim λr zz=>zz.elim λe1 zz=>zz.elim λe2 zz=>zz.elim λx y=>⟨v,vs',t,u,r,e1,e2,x.adopt nt,ih y⟩
theorem Ws{x:AE}{xs:List AE}{l:List (AH Expr)}(h:Im (x::xs) l=true){G:Prop}(q:∀(k:AA) (p:Ax) r,l=some (.Constant (.str (AK x)) k p)::r→Im xs r=true→G):G:=by
 cases l with
 | nil=>cases h
 | cons o r=>
  refine a2 h λh1 h2=>?_
  cases o with
  | none=>cases h1
  | some e=>exact Bc (x:=e) (t:=7) (k:=λu=>AK x==u.n) (G:=λe'=>e=e'→G) h1 (λu hu e'=>q u.k u.p r (by refine rwl e' (rwl (eq_of_beq hu) ?_);rfl) h2) rfl
theorem bY{ks:List AE}:∀{ks':List (AH Expr)},Im ks ks'=true→ks'.all (·.isSome)=true∧ks'.length=ks.length:=by
 induction ks with
 | nil=>intro l h;(have zz:=Em.mp h;subst zz);exact⟨rfl,rfl⟩
 | cons k ks ih=>exact λh=>Ws h λ_ _ r e h=>e▸⟨(ih h).1,AW Jx (ih h).2⟩
theorem AllE.length{cs:List CE}:∀{xs:List Expr},AllE C K cs xs→cs.length=xs.length:=by
 induction cs with
 | nil=>exact λh=>(h:_=[])▸rfl
 | cons c cs ih=>exact λzq1=>zq1.elim λx zz=>zz.elim λxs zz=>zz.elim λe zz=>zz.elim λ_ h=>e▸AW Jx (ih h)
theorem eC{ks:List AE}:∀{ks':List (AH Expr)} {vs:List CE} {vs':List Expr},Im ks ks'=true→ks.length=vs.length→AllE C K vs vs'→
  ∀{env:A0} {ρ:Env} {s:AF} {μ:List AD} {st:St} {pos:Ax} {P:QL} {Q:List (AB×AB)→AF→Prop} {E:AB→AF→Prop},env.scope.names=K→ER s.heap μ env ρ→C.S s.heap st μ→
   wEs C.cl vs ρ st P→(∀xs st',P xs st'→∀s' μ' ps,C.N s.heap s μ s' μ' st'→PairsR s'.heap μ' ks xs ps→Q ps s')→C.wp (evalPairs (pairTrees ks' vs' env pos)) Q E s:=by
 induction ks with
 | nil=>
  intro ks' vs vs' hm hl hA env ρ s μ st pos P Q E hK X S e h
  (have zz:=Em.mp hm;subst zz)
  cases vs with
  | cons _ _=>cases hl
  | nil=>cases(hA:vs'=[]);exact AN (h _ _ e _ _ _ (Nx.refl S) ⟨rfl,rfl⟩)
 | cons k ks ih=>
  intro ks' vs vs' hm hl hA env ρ s μ st pos P Q E hK X S e h
  refine Ws hm λ_ _ r q hm=>?_
  cases vs with
  | nil=>cases hl
  | cons c vs=>
   (refine BO hA ?_;clear hA;intro x vs' z6;subst z6;intro hc hA)
   refine rwl q ?_
   refine evalPairs_cons (aU ?_)
   have N0:C.N s.heap s μ {s with toks:=s.toks+1} μ st:=Nx.tok S _
   refine AG (hc hK (X.nx N0) N0.sr e λv st1 e s1 μ1 u N1 r1=>AG (Du (AN ?_)))
   exact ih hm (CC hl) hA hK ((X.nx N0).nx N1) N1.sr e λxs st2 p s2 μ2 ps N2 r2=>h _ _ p _ _ _ ((N0.then N1).then N2) ⟨v,xs,_,u,_,rfl,rfl,r1.pass N2.pass,r2⟩
theorem gb{es:List (V×V)}{k a v:V}(h1:Aa a es=none)(h:k≠a):Aa a (es++[(k,v)])=none:=by
 induction es with
 | nil=>exact AO (KU.mp (V.beq_false h))
 | cons e es ih=>
  by_cases hb:V.beq e.1 a=true
  ·replace h1:=(show Aa a (e::es)=some e.2 from AM hb)▸h1;cases h1
  ·exact(AO hb).trans (ih ((AO hb).symm.trans h1))
theorem fH{α:Type}{l:List α}{i:AA}{a:α}(h:l[i]? =some a):l.set i a=l:=Oo λj=>by
 by_cases hj:i=j
 ·subst hj;refine rwl (List.getElem?_set_self') (rwl h ?_);rfl
 ·(refine rwl (Jz hj) ?_;rfl)
theorem lM{i:AA}{d:AD}(hu:A.units<Av){ks:List AE}:∀{xs:List V} {ps es:List (V×V)} {pv:List (AB×AB)} {n:AA} {s:AF} {st:St} {Q:PUnit→AF→Prop},NX ks xs=some ps→PairsR s.heap μ ks xs pv→
  (∀e∈ps,Aa e.1 es=none)→SR w ca h₀ s.heap st μ→μ[i]? =some d→st[i]? =some (.dict es n)→fits (es.length+ps.length)=true→(∀s',Nx w ca h₀ s.heap s μ s' μ (st.set i (.dict (es++ps) (n+ps.length)))→Q PUnit.unit s')→AP (AU prog w) A (storeAll d pv) Q E s:=by
 induction ks with
 | nil=>
  intro xs ps es pv n s st Q hd hp hk S hm he hf h
  (have zz:=hp.1;subst zz);(have zz:=hp.2;subst zz);(have zz:=AV hd;subst zz)
  refine AN (h s ?_)
  refine rwl (Bo ..) (rwl ME (rwl (AA.add_zero ..) (rwl (fH he) ?_)))
  exact Nx.refl S
 | cons k ks ih=>
  intro xs ps es pv n s st Q hd hp hk S hm he hf h
  (refine e5_4 hp ?_;clear hp;intro x xs t u r z7;subst z7;intro z8;subst z8;intro r1 r2)
  refine Bn hd λps' hd' hd=>gdE hd λhn hd=>?_
  (have zz:=AV hd;subst zz)
  have hn:=Dz.mp hn
  have h0:Aa (.str k) es=none:=hk _ Ah
  show AP _ _ (forIn ((Ru (AK k) t,u)::r) PUnit.unit _) Q E s
  refine rwl (KL ..) ?_
  refine AG (AG (Q3 (k:=.str k) S hu hm he rfl (VR.str_ _ _) r1 (PV hf (Bh _ _)) λs1 N1=>AN ?_))
  replace N1:=h0▸N1
  have N1:Nx w ca h₀ s.heap s μ s1 μ (st.set i (.dict (CD (.str k) x es) (n+1))):=N1
  replace N1:=QA h0▸N1
  have hl:i<st.length:=(BA.mp he).1
  refine ih hd' (r2.pass N1.pass) (λe hmem=>?_) N1.sr hm (OD hl) (PV hf ?_) λs2 N2=>h s2 ?_
  ·refine gb (hk e (Am _ hmem)) λheq=>?_
   refine exE (Lg hmem) λj hj=>?_
   exact Gr.mp hn j e.2 (by(refine rwl hj (rwl heq ?_);rfl))
  ·refine rwl Au ?_;exact Bk ((G4 _ 1 _).trans (AW (es.length+ ·) (GF 1 _)))
  ·have:=N1.then N2
   rw [List.set_set,Dt] at this
   refine rwl Co (rwl (GF ps'.length 1) (rwr (G4 ..) ?_))
   exact this
theorem cN{ks:List AE}{ks':List (AH Expr)}{vs:List CE}{vs':List Expr}{p:Ax}(hm:Im ks ks'=true)(h10:ks.length≤10)(hl:ks.length=vs.length)(hA:AllE C K vs vs'):
  Ao C K (.dict ks vs) (.Dict ks' vs' p):=by
 intro env ρ s μ st P Q E hK X S e h
 have kD:∀b o,s.heap.get? b=some o→(s.heap.push {cls:=.type "dict",data:=.dict #[]}).get? b=some o:=Hl
 have nD:=C2 s.heap
 have n0:=EH S nD
 cases ks with
 | nil=>
  (have zz:=Em.mp hm;subst zz)
  cases vs with
  | cons _ _=>cases hl
  | nil=>
   cases(hA:vs'=[])
   refine Al (e:Is (NX [] []) (Mine.kD P st)) λps e2 hf e=>?_
   (have zz:=AV e2;subst zz)
   exact wpAny_Dict_empty (h _ _ e _ _ _ (Nx.new (t:=s.toks) S kD nD ⟨[],Bb _ rfl,rfl,rfl⟩) (Kq S _ _))
 | cons k ks=>
  have hk:=bY hm
  refine wpAny_Dict_any hk.1 (hk.2.trans (hl.trans hA.length)) (λq=>by replace hk:=q▸hk;exact nomatch hk.2) (AR (Bk hk.2) (AR h10 (by decide))) ?_
  generalize hs0:({s with heap:=s.heap.push {cls:=.type "dict",data:=.dict #[]}}:AF)=s0
  have N0:C.N s.heap s μ s0 μ st:=by refine rwr hs0 ?_;exact Nx.grow (t:=s.toks) S kD
  have eD:s0.heap.get? s.heap.objs.size=some (Di [] 0):=by refine rwr hs0 ?_;exact Bb _ rfl
  generalize s.heap.objs.size=D at*
  have nm:D∉μ:=λhm=>by refine exE (S.here hm) λo e=>?_;replace e:=nD▸e;cases e
  refine eC hm hl hA hK (X.nx N0) N0.sr e λxs st1 e s1 μ1 pv N1 r1=>?_
  (refine Al e ?_;clear e;intro ps e2 hf e)
  have nm1:D∉μ1:=N1.pass.notin nm eD
  have eD1:s1.heap.get? D=some (Di [] 0):=N1.keep D _ ⟨_,eD⟩ nm eD
  have nt:∀vs,IsTp s1.heap D vs→As:=λvs t=>FX eD1 rfl (by decide) t
  have Na:C.N s.heap s μ s1 (μ1++[D]) (st1++[.dict [] 0]):=(N0.then N1).adopt nD nm1 n0 nt ⟨[],eD1,rfl,rfl⟩
  refine lM (i:=st1.length) (es:=[]) (n:=0) (by have:=C.hu;omega) e2 (r1.adopt nt) (λe _=>rfl) Na.sr (by refine rwr N1.sr.len ?_;exact Iv) Iv (by refine rwl ME (rwl (CI ..) ?_);exact hf) λs2 N2=>?_
  have N3:=Na.then N2
  (replace N3:=List.set_append_right _ _ (Aj _)▸N3;rewrite [KD] at N3;rewrite [List.nil_append] at N3;rewrite [CI] at N3)
  exact h _ _ e _ _ _ N3 ⟨D,rfl,by refine rwr N1.sr.len ?_;exact Iv⟩
end
end Mine
namespace Mine
open PySem PySem.Calls PyProof.Rows PySem.SeqAt PySem.MeetsSeq
section
variable{prog:Ar}{w:Ae}{A:Aq}{E:AB→AF→Prop}{s:AF}
theorem WV{it t:AD}{items:AS AB}(hne:t≠it):∀(n i:AA) (s:AF) (Q:List AB→AF→Prop),s.heap.IsListIter it t i→s.heap.IsList t items→i+n≤items.size→
  (∀h',h'.IsListIter it t (i+n)→C7 it s.heap h'→Q ((items.toList.drop i).take n) {s with heap:=h'})→AP (AU prog w) A (draw (.ref it) n) Q E s
 | 0,i,s,Q,hit,_,_,hQ=>by
  show AP _ _ (pure []) Q E s
  exact AN (by simpa using hQ s.heap hit (Sk ..))
 | n+1,i,s,Q,hit,ht,hle,hQ=>by
  have hlt:i<items.size:=by omega
  show AP _ _ (EU (.ref it)>>= _) Q E s
  refine AG (Of hit ht (x:=items[i]) (by simp [hlt]) λh₁ hit₁ hs₁=>?_)
  refine AG (Bj (WV hne n (i+1) _ _ hit₁ (ht.elim λo zz=>zz.elim λe r=>⟨o,(hs₁.2 t hne).trans e,r⟩) (by omega) λh₂ hit₂ hs₂=>AN ?_))
  have hd:items.toList.drop i=items[i]::items.toList.drop (i+1):=by simp [KN,hlt]
  have:=hQ h₂ (by refine rwl (show i+(n+1)=i+1+n by omega) ?_;exact hit₂) (hs₁.trans hs₂)
  replace this:=List.take_succ_cons▸hd▸this
  exact this
theorem lh{t:AD}{items:AS AB}{Q:List AB→AF→Prop}(hh:A.handled=none)(ht:s.heap.IsList t items)
  (hQ:∀h',FF s.heap.objs.size s.heap h'→Q items.toList {s with heap:=h'}):AP (AU prog w) A (TF (.ref t) items.size none) Q E s:=by
 have hlt:t≠s.heap.objs.size:=by(refine AJ ht ?_;clear ht;intro o ho _);exact BP (BQ ho)
 have hT:s.TypeIs (.ref t) "list":=ht.elim λo zz=>zz.elim λe zz=>zz.elim λc _=>⟨o,e,c⟩
 unfold TF
 refine AG ?_
 unfold notIterableAtAll
 refine AG (Nz hT slot_list_iter.lookup ?_)
 refine AN ?_
 simp only [Fc,Fe]
 refine AG (Bj (J9 ht ?_))
 have ht0:(s.heap.push {cls:=.type "list_iterator",data:=.fields #[.ref t,.int 0 0]}).IsList t items:=ht.elim λo zz=>zz.elim λe r=>⟨o,Az _ e,r⟩
 refine AG (Bj (WV hlt items.size 0 _ _ ⟨_,Bb _ rfl,rfl,rfl⟩ ht0 (by omega) λh₁ hit₁ hs₁=>?_))
 have hall:List.take items.size (List.drop 0 items.toList)=items.toList:=by
  refine rwl List.drop_zero ?_;exact ZP (by simp)
 refine rwl hall ?_
 refine rwl (AO (by simp)) ?_
 have ht₁:h₁.IsList t items:=ht0.elim λo zz=>zz.elim λe r=>⟨o,(hs₁.2 t hlt).trans e,r⟩
 refine AG (Bj (Oe hh hit₁ ht₁ (by simp) λh₂ he₂=>?_))
 simp only [AH.isSome_none,Fc,Fe]
 refine AN (hQ h₂ λb o hb e=>he₂ b o hb (hs₁.extBut b o hb (Az _ e)))
end
noncomputable def FP(env:A0):List AD:=env.locals::env.cells.map (·.2)
structure Base(h₀ hb:AQ)(s:AF)(env:A0):Prop where
 HB:∀a o,h₀.get? a=some o→hb.get? a=some o
 PL:∀a∈FP env,hb.get? a=none
 HN:∀a,s.heap.get? a=none→hb.get? a=none
section
variable(C:Cx)
noncomputable def Cx.Fp(hb:AQ)(s:AF)(μ:List AD)(env:A0)(P:QS)(R:QV)(Q:Flow→AF→Prop):Prop:=
 (∀ρ st',P ρ st'→∀s' μ',C.N hb s μ s' μ' st'→ER s'.heap μ' env ρ→Q .next s')∧∀v st',R v st'→∀s' μ' u,C.N hb s μ s' μ' st'→VR s'.heap μ' v u→Q (.ret u) s'
noncomputable def CM(K:Ks)(c:CS)(x:CL):Prop:=∀{env:A0} {ρ:Env} {s:AF} {μ:List AD} {st:St} {hb:AQ} {P:QS} {R:QV} {Q:Flow→AF→Prop} {E:AB→AF→Prop},env.scope.names=K→Base C.h₀ hb s env→ER s.heap μ env ρ→C.S s.heap st μ→
 wS C.cl c ρ st P R→C.Fp hb s μ env P R Q→C.wp (exec x env) Q E s
noncomputable def Gg(K:Ks)(cs:List CS)(xs:List CL):Prop:=∀{env:A0} {ρ:Env} {s:AF} {μ:List AD} {st:St} {hb:AQ} {P:QS} {R:QV} {Q:Flow→AF→Prop} {E:AB→AF→Prop},env.scope.names=K→Base C.h₀ hb s env→ER s.heap μ env ρ→C.S s.heap st μ→
 wSs C.cl cs ρ st P R→C.Fp hb s μ env P R Q→C.wp (execs xs env) Q E s
noncomputable def X9(K:Ks)(c:CE)(x:Expr):Prop:=Kb x=true∨∃e' gs elt gens scope pp,c= .comp e' gs∧x= .ListComp elt gens scope pp∧gs≠[]∧GU K scope (Bp gs)=true∧
 JO C (Bp gs) K (EJ K scope.names) gs gens∧Bm (Ao C (EJ K scope.names) e' elt)
end
section
variable{C:Cx}{h₀ hb hb' h h':AQ}{μ μ' μ1:List AD}{st st' st1:St}{s s1:AF}{E:AB→AF→Prop}{env:A0}{ρ ρ':Env}{K:Ks}{pos:Ax}{w:Ae}{ca:AE→AD}
theorem Base.then(B:Base h₀ hb s env)(N:Nx w ca h₀ hb' s μ s1 μ1 st1):Base h₀ hb s1 env:=⟨B.HB,B.PL,λa h=>B.HN a (HP N h)⟩
theorem Base.own(B:Base h₀ hb s env){x:AE}(h:E8 (env.scope.names.lookup (AK x))=true):Own hb env x:=
 ⟨(DH.mp h).imp eq_of_beq eq_of_beq,λ_=>B.PL _ Ah,λc _ hc=>B.PL c (Am _ (Ay.mpr ⟨_,mem_of_lookup hc,rfl⟩))⟩
theorem Cx.Fp.then{P:QS}{R:QV}{Q:Flow→AF→Prop}(h:C.Fp hb s μ env P R Q)(N:C.N hb s μ s1 μ1 st1):C.Fp hb s1 μ1 env P R Q:=
 ⟨λρ st' p s' μ' N' X=>h.1 ρ st' p s' μ' (N.trans N') X,λv st' p s' μ' u N' r=>h.2 v st' p s' μ' u (N.trans N') r⟩
theorem gh(X:ER h μ env ρ):interactive env=false:=by
 unfold interactive
 refine rwl X.kind ?_;rfl
theorem XH{value:Expr}{target:AH Expr}{line:AA}(h:Kb value=true):JE value target line env=pure false:=by
 show(O3 (λ_=>CH AL) (Hb value) _ _)=_
 (refine rwl (Dz.mp h) ?_;rfl)
theorem eZ{value a:Expr}{b:Str}{p:Ax}{line:AA}:JE value (some (.Attribute a b p)) line env=pure false:=by
 show(O3 (λ_=>CH AL) (Hb value) _ _)=_
 cases Hb value<;>rfl
theorem nH{value a b:Expr}{p:Ax}{line:AA}:JE value (some (.Subscript a b p)) line env=pure false:=by
 show(O3 (λ_=>CH AL) (Hb value) _ _)=_
 cases Hb value<;>rfl
theorem gr{value:Expr}{a:List Expr}{k:AA}{p:Ax}{line:AA}:JE value (some (.Tuple a k p)) line env=pure false:=by
 show(O3 (λ_=>CH AL) (Hb value) _ _)=_
 cases Hb value<;>rfl
theorem e7{e:CE}{x:Expr}(sE:Ao C K e x)(hn:Kb x=true):CM C K (.expr e) (.Expr x pos):=by
 intro env ρ s μ st hb P R Q E hK B X S e h
 refine rwl (exec_Expr env x pos (gh X) (XH hn)) ?_
 exact AG (Du (AG (sE hK X S e λv st1 p s1 μ1 u N1 r1=>wpAny_dropValue (h.1 _ _ p s1 μ1 N1.weak (X.nx N1)))))
theorem cV{e:CE}{x:Expr}(sE:Ao C K e x):CM C K (.ret e) (.Return (some x) pos):=by
 intro env ρ s μ st hb P R Q E hK B X S e h
 exact wpAny_Return_some (sE hK X S e λv st1 p s1 μ1 u N1 r1=>h.2 _ _ p s1 μ1 u N1.weak r1)
theorem s_if{c:CE}{x:Expr}{t f:List CS}{tx fx:List CL}(sT:BZ C K c x)(sA:Gg C K t tx)(sB:Gg C K f fx):CM C K (.ifs c t f) (.If x tx fx pos):=by
 intro env ρ s μ st hb P R Q E hK B X S e h
 exact wpAny_If (sT hK X S e λv st1 e=>HY e (λq e=>⟨true,q,λs1 μ1 N1=>(AM rfl).symm▸sA hK (B.then N1) (X.nx N1) N1.sr e (h.then N1.weak)⟩) λq e=>⟨false,q,λs1 μ1 N1=>(AO DD).symm▸sB hK (B.then N1) (X.nx N1) N1.sr e (h.then N1.weak)⟩)
theorem ke:Gg C K [] []:=by
 intro env ρ s μ st hb P R Q E hK B X S e h
 exact TG (h.1 _ _ e s μ (Nx.refl S) X)
theorem kf{c:CS}{cs:List CS}{x:CL}{xs:List CL}(sS:CM C K c x)(sR:Gg C K cs xs):Gg C K (c::cs) (x::xs):=by
 intro env ρ s μ st hb P R Q E hK B X S e h
 exact wpAny_execs_cons (sS hK B X S e ⟨λρ1 st1 e s1 μ1 N1 X1=>sR hK (B.then N1) X1 N1.sr e (h.then N1),h.2⟩)
theorem dS{o:CE}{ox:Expr}{a:AE}{e:CE}{x:Expr}{p:Ax}(sO:Ao C K o ox)(sE:Ao C K e x):CM C K (.assign (.attr o a) e) (.Assign [.Attribute ox (AK a) p] x pos):=by
 intro env ρ s μ st hb P R Q E hK B X S e h
 refine plainObj_wpAny_Assign_Attribute (sE hK X S e λv st1 e s1 μ1 u N1 r1=>sO hK (X.nx N1) N1.sr e λr st2 e s2 μ2 u2 N2 r2=>e.elim λt e=>?_) eZ
 exact dY C.G.CB N2.sr e.1 r2 (r1.pass N2.pass) λs3 N3=>h.1 _ _ e.2 s3 μ2 ((N1.then N2).then N3).weak (((X.nx N1).nx N2).nx N3)
theorem kX{o i:CE}{ox ix:Expr}{e:CE}{x:Expr}{p:Ax}(sO:Ao C K o ox)(sI:Ao C K i ix)(sE:Ao C K e x):CM C K (.assign (.sub o i) e) (.Assign [.Subscript ox ix p] x pos):=by
 intro env ρ s μ st hb P R Q E hK B X S e h
 refine wpAny_Assign_Subscript (sE hK X S e λv st1 e s1 μ1 u N1 r1=>sO hK (X.nx N1) N1.sr e λr st2 e s2 μ2 u2 N2 r2=>sI hK ((X.nx N1).nx N2) N2.sr e λk st3 e s3 μ3 u3 N3 r3=>e.elim λt e=>?_) nH
 exact dj N3.sr C.hu e.1 (r2.pass N3.pass) r3 ((r1.pass N2.pass).pass N3.pass) λs4 N4=>h.1 _ _ e.2 s4 μ3 (((N1.then N2).then N3).then N4).weak ((((X.nx N1).nx N2).nx N3).nx N4)
theorem Qu{x:AE}{v:V}{u:AB}{p:Ax}{Q:Ek→AF→Prop}(B:Base C.h₀ hb s env)(X:ER s.heap μ env ρ)(S:C.S s.heap st μ)(ho:E8 (env.scope.names.lookup (AK x))=true)(r:VR s.heap μ v u)
  (h:∀s',C.N hb s μ s' μ st→ER s'.heap μ env (upd ρ x v)→(∀b,b≠env.locals→(∀n,(n,b)∉env.cells)→s'.heap.get? b=s.heap.get? b)→Q () s'):C.wp (assign (.Name (AK x) p) env u) Q E s:=
 AG (Du (Ib X S B.HB (B.own ho) r h))
theorem mj{x:AE}{e:CE}{ex:Expr}{p:Ax}(sE:Ao C K e ex)(hc:X9 C K e ex)(ho:LL K (AK x)=true):CM C K (.assign (.name x) e) (.Assign [.Name (AK x) p] ex pos):=by
 intro env ρ s μ st hb P R Q E hK B X S ec h
 have ho':E8 (env.scope.names.lookup (AK x))=true:=hK▸(Ac.mp ho).1
 have plain:JE ex (some (.Name (AK x) p)) pos.line env=pure false→C.wp (exec (.Assign [.Name (AK x) p] ex pos) env) Q E s:=λhs=>by
  refine rwl (exec_Assign_Name env _ _ _ _ hs) ?_
  refine AG (Du (AG (sE hK X S ec λv st1 q s1 μ1 u N1 r1=>AG (Du (AG ?_)))))
  exact Ib (X.nx N1) N1.sr B.HB ((B.then N1).own ho') r1 λs2 N2 X2 _=>AN (h.1 _ _ q s2 μ1 (N1.weak.trans N2) X2)
 rcases hc with hc | ⟨e',gs,elt,gens,scope,pp,rfl,rfl,hne,hs1,hs2,hs3⟩
 ·exact plain (XH hc)
 ·have hsw:JE (.ListComp elt gens scope pp) (some (.Name (AK x) p)) pos.line env=pure (env.blockKind== .function&&env.kindOf (AK x)==some .local&&p.line==pp.line
    && !(scope.names.any λ(n,k)=>n==AK x&&(k== .local||k== .cell))):=rfl
  generalize (env.blockKind== .function&&env.kindOf (AK x)==some .local&&p.line==pp.line
    && !(scope.names.any λ(n,k)=>n==AK x&&(k== .local||k== .cell)))=bb at hsw
  cases bb with
  | false=>exact plain hsw
  | true=>
   refine rwl (exec_Assign_Name_used _ _ _ _ hsw) ?_
   refine AG (Du (AG ?_))
   refine rwl (arm_evalThenUse_ListComp ..) ?_
   refine AG (TV (use:=some (assign (.Name (AK x) p) env)) hK hs1 hs2 hne hs3.get X S ec λv st1 q D F s1 μ1 L=>?_)
   (refine QK L ?_;clear L;intro N1 rv z9;rcases z9 with ⟨m,hm⟩;intro nF sF)
   unfold Oy
   refine Qu (B.then N1) (X.nx N1) N1.sr ho' rv λs2 N2 X2 k2=>?_
   have hFl:F≠env.locals:=Ge X.locHere.choose_spec sF
   have hFc:∀n,(n,F)∉env.cells:=λn hc=>(X.cellHere hc).elim λo e=>xS (e.symm.trans sF)
   have eqF:=k2 F hFl hFc
   have hm2:s2.heap.Ns F m:=hm.elim λo zz=>zz.elim λes zz=>zz.elim λep zz=>zz.elim λe r=>⟨o,es,ep,eqF.trans e,r⟩
   refine⟨m,hm2,λh' hs=>AN (AN ?_)⟩
   have k:∀b o,b∉[F]→s2.heap.get? b=some o→h'.get? b=some o:=λb o hb e=>(hs.2 b λq=>hb (Aw.mpr q)).trans e
   have n0:C.h₀.get? F=none:=EH S sF
   have nt:∀a∈[F],∀vs,IsTp s2.heap a vs→As:=λa ha vs t=>Ns.notTup hm2 (Aw.mp ha▸t)
   have one:∀{Pf:AD→Prop},Pf F→∀a∈[F],Pf a:=λq=>JJ.mpr q
   have N3:=(N1.weak.trans N2).lose (tk:=s2.toks) k (one n0) (one sF) (one nF) nt
   refine h.1 _ _ q _ μ1 N3 (X2.later ⟨⟨[],(Bo _).symm,λ_ h=>xM h⟩,λb vs n t=>IsTp.to t λo e=>k b o (λhm=>nt b hm vs t) e⟩ (λo e=>k _ o (λq=>hFl (Aw.mp q).symm) e) λn c hc o e=>k c o (λq=>hFc n (Aw.mp q▸hc)) e)
end
end Mine
namespace Mine
open PySem PySem.Calls PyProof.Rows PySem.SeqAt PySem.MeetsSeq
section
variable{C:Cx}{h₀ hb hb' h h':AQ}{μ μ' μ1:List AD}{st st' st1:St}{s s1:AF}{E:AB→AF→Prop}{env:A0}{ρ ρ':Env}{K:Ks}{pos:Ax}
theorem fm2{f:Expr→AH Str}{a b:Expr}{X Y:Str}(ha:f a=none∨f a=some X)(hb:f b=none∨f b=some Y)(hl:([a,b].filterMap f).length=2):[a,b].filterMap f=[X,Y]:=by
 rcases ha with ha | ha<;>rcases hb with hb | hb<;>simp [Ov,ha,hb] at hl ⊢
theorem d9{X Y:Str}{pa pb tp:Ax}{k:AA}{ex:Expr}(hc:NH ex=false):
  TH [.Tuple [.Name X pa,.Name Y pb] k tp] ex env=pure none∨TH [.Tuple [.Name X pa,.Name Y pb] k tp] ex env=pure (some [X,Y]):=by
 unfold TH
 cases ex with
 | Tuple vs k2 p2=>
  unfold NH at hc
  replace hc:=iP▸hc
  have hc:vs.all (constantsAlone 8)=false:=hc
  dsimp only
  split
  ·exact .inl rfl
  ·split
   ·exact .inl rfl
   ·split
    ·exact .inl rfl
    ·rename_i hn
     split
     ·exact .inl rfl
     ·split
      ·rename_i hq
       replace hq:=hc▸hq;cases hq
      ·refine .inr ?_
       have hl:=Nn.of_not_not λhq=>hn (DH.mpr (.inl (Ho.mpr hq)))
       have he:=fm2 (X:=X) (Y:=Y) (by dsimp only;split<;>simp) (by dsimp only;split<;>simp) hl
       exact AW (λz=>(pure (some z):CH (AH (List Str)))) he
 | _=>exact .inl rfl
theorem WZ{v a b:V}{u:AB}{Q:List AB→AF→Prop}(S:C.S s.heap st μ)(r:VR s.heap μ v u)(e:PR v st=some [a,b])
  (h:∀s' u1 u2,C.N s.heap s μ s' μ st→VR s'.heap μ a u1→VR s'.heap μ b u2→Q [u1,u2] s'):C.wp (TF u 2 none) Q E s:=by
 have fin:∀{ws:List AB} {h':AQ},VRs s.heap μ [a,b] ws→FF s.heap.objs.size s.heap h'→Q ws {s with heap:=h'}:=λ{ws h'} rs he=>by
  have N:C.N s.heap s μ {s with heap:=h'} μ st:=Nx.grow (t:=s.toks) S λb o e=>he b o (BP (BQ e)) e
  (refine BO (VRs.two rs) ?_;intro u1 u2 z0;subst z0;intro x1 x2)
  exact h _ _ _ N (x1.pass N.pass) (x2.pass N.pass)
 cases v with
 | tup l=>
  (have zz:=AV e;subst zz)
  (refine BV (VRs.toTup (a:=0) r) ?_;intro t ws z1;subst z1;intro tp nt rs)
  refine rwl (show(2:AA)=ws.toArray.size from rs.length.symm) ?_
  exact unpackItems_tuple C.hh tp λh' he=>fin rs he
 | ref i=>
  refine FL e λxs hx e=>?_
  (have zz:=AV e;subst zz)
  (refine AJ (r:∃t,u= .ref t∧μ[i]? =some t) ?_;intro t z2;subst z2;intro ht)
  refine A6 (S.list hx ht) λws n e0 rs=>?_
  refine rwl (show(2:AA)=ws.toArray.size from rs.length.symm) ?_
  exact lh C.hh (B0 e0) λh' he=>fin rs he
 | _=>exact no e
theorem fV{x y:AE}{a b:V}(hne:x≠y):upd (upd ρ y b) x a=upd (upd ρ x a) y b:=by
 funext z
 unfold upd
 by_cases h1:z=x
 ·(refine rwl (AM h1) (rwl (AO λq=>hne (h1.symm.trans q)) (rwl (AM h1) ?_));rfl)
 ·(refine rwl (AO h1) (rwl (AO h1) ?_);rfl)
theorem lB{x y:AE}{e:CE}{ex:Expr}{pa pb tp:Ax}{k:AA}(sE:Ao C K e ex)(hx:E8 (K.lookup (AK x))=true)(hy:E8 (K.lookup (AK y))=true)(hne:x≠y)(hc:NH ex=false):
  CM C K (.assign (.tup [x,y]) e) (.Assign [.Tuple [.Name (AK x) pa,.Name (AK y) pb] k tp] ex pos):=by
 intro env ρ s μ st hb P R Q E hK B X S ec h
 subst hK
 have two:∀{v st1},kTu P ρ [x,y] v st1→∃a b,PR v st1=some [a,b]∧P (upd (upd ρ x a) y b) st1:=λ{v st1} q=>by
  (refine AJ q ?_;clear q;intro vs e1 q)
  match vs,e1,q with
  | [a,b],e1,q=>exact⟨a,b,e1,q⟩
 have hs:swapsWithSole [.Tuple [.Name (AK x) pa,.Name (AK y) pb] k tp] ex pos.line env=pure false:=gr (env:=env) (value:=ex) (a:=[.Name (AK x) pa,.Name (AK y) pb]) (k:=k) (p:=tp) (line:=pos.line)
 rcases d9 (env:=env) (X:=AK x) (Y:=AK y) (pa:=pa) (pb:=pb) (tp:=tp) (k:=k) hc with hw | hw
 ·refine Assign_Tuple (sE rfl X S ec λv st1 q s1 μ1 u N1 r1=>?_) hs hw
  refine A6 (two q) λa b hu q=>?_
  refine rwl (assign_Tuple ..) ?_
  refine AG (Du ?_)
  unfold unpack
  refine AG (Bj (WZ N1.sr r1 hu λs2 u1 u2 N2 x1 x2=>KR ?_))
  refine Qu ((B.then N1).then N2) ((X.nx N1).nx N2) N2.sr hx x1 λs3 N3 X3 _=>KR ?_
  refine Qu (((B.then N1).then N2).then N3) X3 N3.sr hy (x2.pass N3.pass) λs4 N4 X4 _=>?_
  exact S6 (h.1 _ _ q s4 μ1 (((N1.weak.trans N2.weak).trans N3).trans N4) X4)
 ·refine Assign_Tuple_swapped (sE rfl X S ec λv st1 q s1 μ1 u N1 r1=>?_) hs hw
  refine A6 (two q) λa b hu q=>?_
  refine WZ N1.sr r1 hu λs2 u1 u2 N2 x1 x2=>KR ?_
  refine Ib ((X.nx N1).nx N2) N2.sr B.HB (B.own hy) x2 λs3 N3 X3 _=>KR ?_
  refine Ib X3 N3.sr B.HB (B.own hx) (x1.pass N3.pass) λs4 N4 X4 _=>?_
  replace X4:=fV hne▸X4
  exact S6 (h.1 _ _ q s4 μ1 (((N1.weak.trans N2.weak).trans N3).trans N4) X4)
theorem jj{c:CE}{x:Expr}{b:List CS}{bx:List CL}(sT:BZ C K c x)(sB:Gg C K b bx):CM C K (.whiles c b) (.While x bx [] pos):=by
 intro env ρ s μ st hb P R Q E hK B X S e h
 refine wpAny_While (codeAny_whileLoop (λk s'=>∃ρ' μ' st',wWh (wE C.cl c) (wSs C.cl b) k ρ' st' P R∧C.N hb s μ s' μ' st'∧ER s'.heap μ' env ρ') ?_ Jg ⟨ρ,μ,st,e,Nx.refl S,X⟩)
 (intro k sk zr20;(refine Mg zr20 ?_;clear zr20;intro ρk μk stk ek Nk Xk))
 cases k with
 | zero=>exact ek.elim
 | succ k=>
  refine sT hK Xk Nk.sr (P:=kWh (wSs C.cl b ρk) (wWh (wE C.cl c) (wSs C.cl b) k) P R ρk) ek λv st1 e=>HY e (λq e=>⟨true,q,λs1 μ1 N1=>(AM rfl).symm▸?_⟩) λq e=>⟨false,q,λs1 μ1 N1=>(AO DD).symm▸TG (h.1 _ _ e s1 μ1 (Nk.trans N1.weak) (Xk.nx N1))⟩
  exact sB hK ((B.then Nk).then N1) (Xk.nx N1) N1.sr e ⟨λρ2 st2 e s2 μ2 N2 X2=>⟨k,DZ k,ρ2,μ2,st2,e,(Nk.trans N1.weak).trans N2,X2⟩,λv st2 r s2 μ2 u N2 rv=>h.2 _ _ r s2 μ2 u ((Nk.trans N1.weak).trans N2) rv⟩
theorem VP{a:AD}(h:a∈FP env):a=env.locals∨∃n,(n,a)∈env.cells:=
 (Ak.mp h).imp id λh=>(Ay.mp h).elim λx zz=>zz.elim λhm e=>⟨x.1,e▸hm⟩
structure ForI(C:Cx)(hb:AQ)(w:List V→Env→Rs)(l:List V)(P:QS)(R:QV)(Pw:AA→AQ→List AD→Prop)(env:A0)(s0:AF)(μ0:List AD)(i:AA)(s:AF)(μ:List AD)(st:St)(ρ:Env):Prop where
 run:w (l.drop i) ρ st P R
 le:i≤l.length
 P:Pw i s.heap μ
 X:ER s.heap μ env ρ
 N:C.N hb s0 μ0 s μ st
theorem cP{t:List AE}{it:It}{ix target:Expr}{b:List CS}{bx:List CL}(ht:C9 t target)(hto:∀x∈t,E8 (K.lookup (AK x))=true)(hfo:Fw ix)(sI:Dg C K it ix target)
  (sB:Gg C K b bx):CM C K (.fors t it b) (.For target ix bx [] pos):=by
 intro env ρ s μ st hb P R Q E hK B X S e h
 refine wpAny_For (sI hK X S e λl src stI el s0 μ0 itv wr wd wx Pw N0 W hP nw=>?_) λx=>hfo env x
 have np:∀a∈wx,a≠env.locals∧∀n,(n,a)∉env.cells:=λa ha=>⟨Ge X.locHere.choose_spec (nw a ha),λn hc=>Ge (X.cellHere hc).choose_spec (nw a ha) rfl⟩
 have wxp:∀a∈wx,a∉FP env:=λa ha hm=>(VP hm).elim (np a ha).1 λzq1=>zq1.elim λn e=>(np a ha).2 n e
 have hbAlive:∀{s':AF} {μ':List AD} {st'':St},C.N hb s μ s' μ' st''→∀a,(∃o,hb.get? a=some o)→∃o,s'.heap.get? a=some o:=λN a zq1=>zq1.elim λo e=>by
  cases q:s.heap.get? a with
  | none=>exact xN ((B.HN a q).symm.trans e)
  | some o'=>exact N.alive a o' q
 have kc:∀{wz:List AD},(∀a∈wz,a∈wx)→∀{h h':AQ},(∀b o,b∉wz→h.get? b=some o→h'.get? b=some o)→
   (∀o,h.get? env.locals=some o→h'.get? env.locals=some o)∧(∀n c,(n,c)∈env.cells→∀o,h.get? c=some o→h'.get? c=some o):=
  λhw _ _ k=>⟨λo=>k _ o λhm=>(np _ (hw _ hm)).1 rfl,λn c hc o=>k _ o λhm=>(np _ (hw _ hm)).2 n hc⟩
 refine codeAny_forLoop_any (λk s'=>∃i μ' st'' ρ',k=l.length-i∧ForI C hb (IK t (wSs C.cl b) (Bd src stI)) l P R Pw env s μ i s' μ' st'' ρ') ?_ l.length ⟨0,μ0,stI,ρ,rfl,el,BL _,hP,X.nx N0,N0.weak⟩
 (intro k sk zr21;(refine RL zr21 ?_;clear zr21;intro i μk stk ρk z3;subst z3;intro L))
 have ek:=L.run
 cases hv:l[i]? with
 | none=>
  have hl:l.length=i:=Iu (L7.mp hv) L.le
  replace ek:=J7 (Bk hl)▸ek
  refine W.done hl L.P L.N.sr ek.1 λh' tk kk=>?_
  have k2:=kc (λa ha=>W.sub' a (W.sub a ha)) kk
  have ntd:∀a∈wd,∀vs,IsTp sk.heap a vs→As:=λa ha vs t=>((W.apart L.P a (W.sub a ha)).resolve_left (W.off L.P a ha)) vs t
  have N:=L.N.lose (tk:=tk) kk (λa ha=>W.new0 a (W.sub a ha)) (λa ha=>nw a (W.sub' a (W.sub a ha))) (W.off L.P) ntd
  have P0:Pass sk.heap h' μk μk:=⟨⟨[],(Bo _).symm,λ_ h=>xM h⟩,λb vs n t=>IsTp.to t λo e=>kk b o (λhm=>ntd b hm vs t) e⟩
  exact TG (h.1 _ _ ek.2 _ _ N (L.X.later P0 k2.1 k2.2))
 | some a=>
  have hlt:i<l.length:=(BA.mp hv).1
  have hd:l.drop i=a::l.drop (i+1):=by(refine rwl (KN hlt) (rwl ((BA.mp hv).2) ?_);rfl)
  replace ek:=hd▸ek
  refine ek.2.elim λe1 hek=>?_
  refine Yd W hv L.P L.N.sr ek.1 λh' tk u N1 k1 ru hP1=>?_
  have c12:=kc W.sub' k1
  have N1b:=N1 hb λa ha=>B.HN a (nw a (W.sub' a ha))
  have X1:=L.X.later N1b.pass c12.1 c12.2
  have Nk1:=L.N.trans N1b
  have fp0:∀a∈FP env,C.h₀.get? a=none:=λa ha=>Dw λo e=>xS ((B.HB a o e).symm.trans (B.PL a ha))
  refine AJ (M3 h' (FP env)) λhbB q1 q2=>?_
  have HBB:∀a o,C.h₀.get? a=some o→hbB.get? a=some o:=λa o e=>(q2 a λhm=>xS (e.symm.trans (fp0 a hm))).trans (N1b.sr.base a o e)
  have inB:∀a,a∉FP env→(∃o,h'.get? a=some o)→∃o,hbB.get? a=some o:=λa hn zq1=>zq1.elim λo e=>⟨o,(q2 a hn).trans e⟩
  have BB:Base C.h₀ hbB {sk with heap:=h',toks:=tk} env:=⟨HBB,q1,λa e=>by
   by_cases hm:a∈FP env
   ·exact q1 a hm
   ·exact(q2 a hm).trans e⟩
  have toHb:∀{s5:AF} {μ5:List AD} {st5:St} {s6:AF} {μ6:List AD},C.N hbB s6 μ6 s5 μ5 st5→C.N hb s6 μ6 s5 μ5 st5:=λN=>N.mono λa ha=>inB a (λhm=>ha.elim λo e=>xN ((B.PL a hm).symm.trans e)) (hbAlive Nk1 a ha)
  refine T7 (hb:=hbB) C.hh ht hek.1 X1 N1b.sr HBB (λx hx=>BB.own (hK▸hto x hx)) ru λs2 N2 X2=>?_
  have hP2:=W.nx hP1 (λa ha=>inB a (wxp a ha) (W.here hP1 a ha)) N2
  refine sB hK (BB.then N2) X2 N2.sr hek.2 ⟨λρ3 st3 e3 s3 μ3 N3 X3=>?_,λv st3 r s3 μ3 u N3 rv=>h.2 _ _ r s3 μ3 u ((Nk1.trans (toHb N2)).trans (toHb N3)) rv⟩
  exact⟨l.length-(i+1),by omega,i+1,μ3,st3,ρ3,rfl,e3,hlt,W.nx hP2 (λa ha=>inB a (wxp a ha) (W.here hP1 a ha)) N3,X3,(Nk1.trans (toHb N2)).trans (toHb N3)⟩
end
end Mine
namespace Mine
open PySem PySem.Calls PyProof.Rows PySem.SeqAt PySem.MeetsSeq
section
variable(C:Cx)
noncomputable def mV(c:CE)(K:Ks)(x:Expr):Prop:=Ao C K c x∧X9 C K c x
noncomputable def mE(c:CE):Prop:=∀K x,(chk c false K x=true→mV C c K x)∧(chk c true K x=true→BZ C K c x)
noncomputable def mB(c:CE)(K:Ks)(x:Expr):Prop:=mV C c K x∧BZ C K c x
noncomputable def mI(it:It):Prop:=∀K t x,Qv it K t x=true→Fw x∧∀target,C9 t target→Bm (Dg C K it x target)
noncomputable def mEs(cs:List CE):Prop:=∀K xs,(chkEs cs K xs=true→AllE C K cs xs)∧(QJ cs K xs=true→Rh C K cs xs)
noncomputable def mO(o:AH CE):Prop:=∀K x,chkO o K x=true→Bm (LF C K o x)
noncomputable def mG(g:Gen):Prop:=match g with
 | .mk t it ifs=>mI C it∧mEs C ifs
noncomputable def mGs(gs:List Gen):Prop:=∀own K K' xs,chkGs gs own K K' xs=true→JO C own K K' gs xs
end
section
variable{C:Cx}{K:Ks}
theorem nt{a:AL}(h:(!a)=true):a=false:=by cases a with
 | true=>cases h
 | false=>rfl
theorem de{p:Prop}{_:Nn p}(h:decide p=true):p:=BC h
theorem only{c:CE}(h:∀K x,chk c false K x=true→mV C c K x)(q:∀K x,chk c true K x=false):mE C c:=λK x=>⟨h K x,λz=>(xF ((q K x).symm.trans z))⟩
theorem Px{c:CE}(h:∀K x,chk c true K x=true→BZ C K c x)(q:∀K x,chk c false K x=false):mE C c:=λK x=>⟨λz=>(xF ((q K x).symm.trans z)),h K x⟩
theorem both{c:CE}(h:∀K x b,chk c b K x=true→mB C c K x):mE C c:=λK x=>⟨λz=>(h K x _ z).1,λz=>(h K x _ z).2⟩
theorem Le{n:AE}{x:Expr}(h:Jr n K x=true){G:Expr→Prop}(q:∀p,K.lookup (AK n)=some .globalImplicit→E7 (AK n)=true→G (.Name (AK n) p)):G x:=
 Bc (x:=x) (t:=12) h λu h=>qb (G:=λn'=>G (.Name n' u.p)) h λh=>a2 h λh1 h2=>q u.p (eq_of_beq h1) h2
theorem pl{c:CE}{x:Expr}(h:Ao C K c x)(q:Kb x=true):mV C c K x:=⟨h,.inl q⟩
theorem W8{e:CE}(a:mE C e):mI C (.plain e):=λK t x h=>a2 h λh1 h2=>⟨bH h1,λ_ _=>⟨iQ ((a K _).1 h2).1⟩⟩
theorem Ug{e:CE}(a:mE C e):mI C (.range e):=λK t x h=>Bc (G:=λx=>Fw x∧∀target,C9 t target→Bm (Dg C K _ x target)) h λu h=>a2 h λh1 h=>a2 h λh2 h=>Le (G:=λf=>Fw (.Call f u.l [] u.p)∧∀target,C9 t target→Bm (Dg C K _ (.Call f u.l [] u.p) target)) h λp h4 _=>⟨λ_ _=>rfl,λ_ _=>b1E (G:=λl=>Br l=true→Bm (Dg C K _ (.Call (.Name _ p) l [] u.p) _)) h2 (λy h2 h1=>⟨c9 h1 h4 ((a K _).1 h2).1⟩) h1⟩
theorem UE{e:CE}(a:mE C e):mI C (.enum e):=λK t x h=>a2 h λh0 h=>Bc (G:=λx=>Fw x∧∀target,C9 t target→Bm (Dg C K _ x target)) h λu h=>a2 h λh1 h=>a2 h λh2 h=>Le (G:=λf=>Fw (.Call f u.l [] u.p)∧∀target,C9 t target→Bm (Dg C K _ (.Call f u.l [] u.p) target)) h λp h4 _=>⟨λ_ _=>rfl,λ_ ht=>(TU ht h0).elim λ_ zz=>zz.elim λ_ zz=>zz.elim λ_ q=>q▸b1E (G:=λl=>Br l=true→Bm (Dg C K _ (.Call (.Name _ p) l [] u.p) _)) h2 (λy h2 h1=>⟨fG h1 h4 ((a K _).1 h2).1⟩) h1⟩
theorem Wf{l r:CE}(a:mE C l)(b:mE C r):mI C (.zip l r):=λK t x h=>a2 h λh0 h=>Bc (G:=λx=>Fw x∧∀target,C9 t target→Bm (Dg C K _ x target)) h λu h=>a2 h λh1 h=>a2 h λh2 h=>Le (G:=λf=>Fw (.Call f u.l [] u.p)∧∀target,C9 t target→Bm (Dg C K _ (.Call f u.l [] u.p) target)) h λp h4 _=>⟨λ_ _=>rfl,λ_ ht=>(TU ht h0).elim λ_ zz=>zz.elim λ_ zz=>zz.elim λ_ q=>q▸b2E (G:=λl=>Br l=true→Bm (Dg C K _ (.Call (.Name _ p) l [] u.p) _)) h2 (λy z h2 h1=>a2 h2 λh2 h3=>⟨dg h1 h4 ((a K _).1 h2).1 ((b K _).1 h3).1⟩) h1⟩
theorem LQ:(∀c,mE C c)∧∀it,mI C it:=by
 have name:∀v,mE C (.name v):=λv=>both λK x b h=>Bc (G:=mB C _ K) h λu h=>qb (G:=λn=>mB C _ K (.Name n u.p)) h λh=>a2 h λh1 h2=>⟨pl (WX h1 h2) rfl,QD (WX h1 h2) λ_ _=>rfl⟩
 have r:(∀c,mE C c):=@CE.rec (mE C) (mI C) (mG C) (mEs C) (mO C) (mGs C)
  (only (λK x h=>Bc (G:=mV C _ K) h λu h=>pl cU rfl) λ_ _=>rfl)
  (λb=>only (λK x h=>Bc (G:=mV C _ K) h λu h=>qe (G:=λb'=>mV C _ K (.Constant (.bool b') u.k u.p)) h (pl m9 rfl)) λ_ _=>rfl)
  (λi=>only (λK x h=>Bc (G:=mV C _ K) h λu h=>qe (G:=λb'=>mV C _ K (.Constant (.int b') u.k u.p)) h (pl fZ rfl)) λ_ _=>rfl)
  (λv=>only (λK x h=>Bc (G:=mV C _ K) h λu h=>qe (G:=λb'=>mV C _ K (.Constant (.str b') u.k u.p)) h (pl lJ rfl)) λ_ _=>rfl)
  name
  (λv=>only (λK x h=>Le (G:=mV C _ K) h λp h1 h2=>pl (jg h1 h2) rfl) λ_ _=>rfl)
  (λop l r a b=>only (λK x h=>Bc (G:=mV C _ K) h λu h=>qb (G:=λo=>mV C _ K (.BinOp u.a o u.b u.p)) h λh=>a2 h λh1 h2=>pl (fO ((a K _).1 h1).1 ((b K _).1 h2).1) rfl) λ_ _=>rfl)
  (λl op r a b=>both λK x _ h=>Bc (G:=mB C _ K) h λu h=>b1E (G:=λos=>mB C _ K (.Compare u.a os u.l u.p)) h λo h=>b1E (G:=λl=>mB C _ K (.Compare u.a [o] l u.p)) h λy h=>qb (G:=λo=>mB C _ K (.Compare u.a [o] [y] u.p)) h λh=>a2 h λh1 h=>a2 h λh2 h3=>⟨pl (lA (nt h1) ((a K _).1 h2).1 ((b K _).1 h3).1) rfl,jZ (nt h1) ((a K _).1 h2).1 ((b K _).1 h3).1⟩)
  (λl op m op2 r a b c=>Px (λK x h=>Bc (G:=BZ C K _) h λu h=>b2E (G:=λos=>BZ C K _ (.Compare u.a os u.l u.p)) h λo o2 h=>b2E (G:=λl=>BZ C K _ (.Compare u.a [o,o2] l u.p)) h λy z h=>qb (G:=λo=>BZ C K _ (.Compare u.a [o,o2] [y,z] u.p)) h λh=>qb (G:=λo2=>BZ C K _ (.Compare u.a [_,o2] [y,z] u.p)) h λh=>a2 h λh1 h=>a2 h λh2 h=>a2 h λh3 h4=>d5 (nt h1) ((a K _).1 h2).1 ((b K _).1 h3).1 ((c K _).1 h4).1) λ_ _=>rfl)
  (λl r a b K x=>⟨λh=>Bc (G:=mV C _ K) h λu h=>b2E (G:=λl=>mV C _ K (.BoolOp .And l u.p)) ((TJ _).symm.trans h) λy z h=>a2 h λh1 h2=>pl (fW ((a K _).1 h1).1 ((b K _).1 h2).1) rfl,λh=>Bc (G:=BZ C K _) h λu h=>(DH.mp h).elim (λh=>b2E (G:=λl=>BZ C K _ (.BoolOp .And l u.p)) h λy z h=>a2 h λh1 h2=>lQ ((a K _).2 h1) ((b K _).2 h2))
    λh=>b3E (G:=λl=>BZ C K _ (.BoolOp .And l u.p)) h λy z w h=>a2 h λh1 h2=>dN ((a K _).2 h1) ((b K _).2 h2)⟩)
  (λl r a b=>Px (λK x h=>Bc (G:=BZ C K _) h λu h=>b2E (G:=λl=>BZ C K _ (.BoolOp .Or l u.p)) h λy z h=>a2 h λh1 h2=>jI ((a K _).2 h1) ((b K _).2 h2)) λ_ _=>rfl)
  (λe a=>Px (λK x h=>Bc (G:=BZ C K _) h λu h=>dU ((a K _).2 h)) λ_ _=>rfl)
  (λt b o a c d=>only (λK x h=>Bc (G:=mV C _ K) h λu h=>a2 h λh1 h=>a2 h λh2 h3=>pl (ba ((a K _).2 h1) ((c K _).1 h2).1 ((d K _).1 h3).1) rfl) λ_ _=>rfl)
  (λf args a=>both λK x _ h=>Bc (G:=mB C _ K) h λu h=>a2 h λh1 h=>a2 h λh2 h=>a2 h λh3 h=>Le (G:=λf=>mB C _ K (.Call f u.l [] u.p)) h λp h4 h5=>⟨pl (We h2 h1 (JQ h1 ((a K _).1 h3)).get h4 h5) rfl,QD (We h2 h1 (JQ h1 ((a K _).1 h3)).get h4 h5) λ_ _=>rfl⟩)
  (λo m args a b=>both λK x _ h=>Bc (G:=mB C _ K) h λu h=>a2 h λh1 h=>a2 h λh2 h=>a2 h λh3 h=>Bc (x:=u.a) (G:=λf=>mB C _ K (.Call f u.l [] u.p)) h λv h=>qb (G:=λn=>mB C _ K (.Call (.Attribute v.a n v.p) u.l [] u.p)) h λh=>a2 h λh4 h=>a2 h λh5 h6=>⟨pl (To h4 h1 (de h2) h5 ((a K _).1 h6).1 (JQ h1 ((b K _).1 h3)).get) rfl,QD (To h4 h1 (de h2) h5 ((a K _).1 h6).1 (JQ h1 ((b K _).1 h3)).get) λ_ _=>rfl⟩)
  (λo n a=>only (λK x h=>Bc (G:=mV C _ K) h λu h=>qb (G:=λn=>mV C _ K (.Attribute u.a n u.p)) h λh=>a2 h λh1 h2=>pl (gR h1 ((a K _).1 h2).1) rfl) λ_ _=>rfl)
  (λo i a b=>only (λK x h=>Bc (G:=mV C _ K) h λu h=>a2 h λh1 h2=>pl (gm ((a K _).1 h1).1 ((b K _).1 h2).1) rfl) λ_ _=>rfl)
  (λo lo hi a b c=>only (λK x h=>Bc (G:=mV C _ K) h λu h=>a2 h λh1 h=>Bc (x:=u.b) (G:=λs=>mV C _ K (.Subscript u.a s u.p)) h λv h=>a2 h λh2 h3=>pl (kh ((a K _).1 h1).1 (b K _ h2).get (c K _ h3).get) rfl) λ_ _=>rfl)
  (λes a=>only (λK x h=>Bc (G:=mV C _ K) h λu h=>a2 h λh1 h2=>pl (dz h1 ((a K _).1 h2)) rfl) λ_ _=>rfl)
  (λes a=>only (λK x h=>Bc (G:=mV C _ K) h λu h=>a2 h λh1 h2=>pl (lj h1 ((a K _).1 h2)) rfl) λ_ _=>rfl)
  (λks es a=>only (λK x h=>Bc (G:=mV C _ K) h λu h=>a2 h λh1 h=>a2 h λh2 h=>a2 h λh3 h4=>pl (cN h1 (de h2) (de h3) ((a K _).1 h4)) rfl) λ_ _=>rfl)
  (λe gs a b=>only (λK x h=>Bc (G:=mV C _ K) h λu h=>a2 h λh1 h=>a2 h λh2 h=>a2 h λh3 h4=>have hne:=λq=>DD ((nt h1).symm.trans (Em.mpr q))
   ⟨fC h2 (b _ _ _ _ h3) hne ((a _ _).1 h4).1,.inr ⟨_,_,_,_,_,_,rfl,rfl,hne,h2,b _ _ _ _ h3,⟨((a _ _).1 h4).1⟩⟩⟩) λ_ _=>rfl)
  (λe a=>W8 a)
  (λe a=>Ug a)
  (λe a=>UE a)
  (λl r a b=>Wf a b)
  (λt it ifs a b=>⟨a,b⟩)
  (λK xs=>⟨Em.mp,Em.mp⟩)
  (λe es a b K xs=>by
   cases xs with
   | nil=>exact⟨λh=>(xF h),λh=>(xF h)⟩
   | cons x xs=>exact⟨λh=>a2 h λh1 h2=>⟨x,xs,rfl,((a K x).1 h1).1,(b K xs).1 h2⟩,λh=>a2 h λh1 h2=>⟨x,xs,rfl,(a K x).2 h1,(b K xs).2 h2⟩⟩)
  (λK x h=>by(have zz:=Dz.mp h;subst zz);exact⟨dI⟩)
  (λe a K x h=>by
   cases x with
   | none=>cases h
   | some x=>exact⟨kW ((a K x).1 h).1⟩)
  (λown K K' xs h=>Em.mp h)
  (λg gs a b own K K' xs h=>by
   obtain⟨t,it,ifs⟩:=g
   cases xs with
   | nil=>cases h
   | cons c cs=>exact a2 h λh0 h=>a2 h0 λh0 h1=>a2 h λh2 h=>a2 h λh3 h=>a2 h λh4 h5=>⟨c,cs,rfl,⟨eq_of_beq h0,Kt h2,λx hx=>GK.mp (BE.mp h1 x hx),(a.1 _ _ _ h3).1⟩,((a.1 _ _ _ h3).2 _ (Kt h2)).get,(je ((a.2 _ _).2 h4)).get,b _ _ _ _ h5⟩)
 refine⟨r,λit=>?_⟩
 cases it with
 | plain e=>exact W8 (r e)
 | range e=>exact Ug (r e)
 | enum e=>exact UE (r e)
 | zip a b=>exact Wf (r a) (r b)
theorem GZ{e:CE}{x:Expr}(h:chk e false K x=true):Ao C K e x:=((LQ.1 e K x).1 h).1
theorem V9{e:CE}{x:Expr}(h:chk e true K x=true):BZ C K e x:=(LQ.1 e K x).2 h
variable(C) in
noncomputable def mS(c:CS):Prop:=∀K x,UN c K x=true→Bm (CM C K c x)
variable(C) in
noncomputable def mSs(cs:List CS):Prop:=∀K xs,chkSs cs K xs=true→Bm (Gg C K cs xs)
theorem dE{t:Tgt}{e:CE}{b a:Expr}{p:Ax}(h:YY t e K b a=true):Bm (CM C K (.assign t e) (.Assign [b] a p)):=by
 cases t with
 | name v=>exact Bc (G:=λb=>Bm (CM C K _ (.Assign [b] a p))) h λu h=>qb (G:=λn=>Bm (CM C K _ (.Assign [.Name n u.p] a p))) h λh=>a2 h λh1 h2=>⟨mj (GZ h2) ((LQ.1 e K a).1 h2).2 h1⟩
 | attr o n=>exact Bc (G:=λb=>Bm (CM C K _ (.Assign [b] a p))) h λu h=>qb (G:=λn=>Bm (CM C K _ (.Assign [.Attribute u.a n u.p] a p))) h λh=>a2 h λh1 h2=>⟨dS (GZ h1) (GZ h2)⟩
 | sub o i=>exact Bc (G:=λb=>Bm (CM C K _ (.Assign [b] a p))) h λu h=>a2 h λh1 h=>a2 h λh2 h3=>⟨kX (GZ h1) (GZ h2) (GZ h3)⟩
 | tup l=>
  exact b2E (G:=λl=>Bm (CM C K (.assign (.tup l) e) (.Assign [b] a p))) h λv v2 h=>a2 h λh0 h=>a2 h λh1 h=>a2 h λh2 h=>a2 h λh3 h=>a2 h λh4 h5=>by
   cases Kt h0
   exact⟨lB (GZ h5) (Ac.mp h1).1 (Ac.mp h2).1 (Ho.mp h3) (nt h4)⟩
theorem eV{cs:List CS}{xs:List CL}(h:chkSs cs K xs=true):Gg C K cs xs:=
 (@CS.rec_1 (mS C) (mSs C)
  (λe K x h=>Jm (G:=λx=>Bm (CM C K _ x)) h λu h=>a2 h λh1 h2=>⟨e7 (GZ h2) h1⟩)
  (λt e K x h=>Jm (G:=λx=>Bm (CM C K _ x)) h λu h=>dE h)
  (λc t f a b K x h=>Jm (G:=λx=>Bm (CM C K _ x)) h λu h=>a2 h λh1 h=>a2 h λh2 h3=>⟨s_if (V9 h1) (a K _ h2).get (b K _ h3).get⟩)
  (λc b a K x h=>Jm (G:=λx=>Bm (CM C K _ x)) h λu h=>a2 h λh1 h2=>⟨jj (V9 h1) (a K _ h2).get⟩)
  (λt it b a K x h=>Jm (G:=λx=>Bm (CM C K _ x)) h λu h=>a2 h λh1 h=>a2 h λh2 h=>a2 h λh3 h4=>⟨cP (Kt h1) (λx hx=>(Ac.mp (BE.mp h2 x hx)).1) ((LQ (C:=C)).2 it _ _ _ h3).1 (((LQ (C:=C)).2 it _ _ _ h3).2 _ (Kt h1)).get (a K _ h4).get⟩)
  (λe K x h=>Jm (G:=λx=>Bm (CM C K _ x)) h λu h=>⟨cV (GZ h)⟩)
  (λK x h=>⟨@λ_ _ _ _ _ _ _ _ _ _ _ _ _ _ e _=>e.elim⟩)
  (λK xs h=>by(have zz:=Em.mp h;subst zz);exact⟨ke⟩)
  (λc cs a b K xs h=>by
   cases xs with
   | nil=>cases h
   | cons x xs=>exact a2 h λh1 h2=>⟨kf (a K x h1).get (b K xs h2).get⟩) cs K xs h).get
end
end Mine
namespace Mine
open PySem PySem.Calls PyProof.Rows PySem.SeqAt PySem.MeetsSeq
theorem Qm:∀(names:Ks) (n:AA) (acc:List (Str×AD)),F7 names=true→(∀x∈acc,names.lookup x.1=none)→acc.Pairwise (λa b=>a.1≠b.1)→(Cw n names acc).Pairwise (λa b=>a.1≠b.1)
 | [],n,acc,_,_,h=>h
 | (y,k)::r,n,acc,hn,ha,h=>by
  simp only [F7,De,Dz] at hn
  have ha':∀x∈acc,x.1≠y∧r.lookup x.1=none:=λx hx=>by
   have:=ha x hx
   rw [IF] at this
   cases hb:x.1==y with
   | true=>replace this:=hb▸this;cases this
   | false=>replace this:=hb▸this;exact⟨by simpa using hb,this⟩
  unfold Cw
  split
  ·refine Qm r _ _ hn.2 (λx hx=>?_) (Fl.mpr ⟨λb hb=>(ha' b hb).1.symm,h⟩)
   rcases Ak.mp hx with rfl | hx
   ·exact hn.1
   ·exact(ha' x hx).2
  ·exact Qm r _ _ hn.2 (λx hx=>(ha' x hx).2) h
theorem UZ{α:Type}:∀{l:List (Str×α)} {n:Str} {c:α},l.Pairwise (λa b=>a.1≠b.1)→(n,c)∈l→l.lookup n=some c
 | (m,d)::r,n,c,hp,h=>by
  refine rwl IF ?_
  rcases Ak.mp h with e | h
  ·cases e;simp
  ·have:=(Fl.mp hp).1 _ h
   refine rwl (show(n==m)=false by simpa using this.symm) ?_
   exact UZ (Fl.mp hp).2 h
section
variable{w:Ae}{ca fa:AE→AD}{h₀ hb hb' h h':AQ}{μ μ' μ1:List AD}{st st' st1:St}{s s1:AF}{prog:Ar}{A:Aq}{E:AB→AF→Prop}{env:A0}{ρ ρ':Env}{mg mb:Str→AH AB}
theorem nW{ρ:Env}{x:AE}{v:V}{p:AE}{ps:List AE}(h:Gv ρ (p::ps) [] x=some v):ρ x=some v:=h
theorem dD{kd:Str→AH Fo}{ps:List AE}:∀{vs:List V} {us:List AB} {ρ:Env} {m:Str→AH AB},VRs h μ vs us→(∀x v,ρ x=some v→kd (AK x)=some .local→∃u,m (AK x)=some u∧VR h μ v u)→
  ∀x v,Gv ρ ps vs x=some v→kd (AK x)=some .local→∃u,bindL kd ((ps.map AK).zip us) m (AK x)=some u∧VR h μ v u:=by
 induction ps with
 | nil=>exact λr hm=>hm
 | cons p ps ih=>
  intro vs us ρ m r hm
  cases vs with
  | nil=>cases(r:us=[]);exact hm
  | cons v vs=>
   (refine BO (r:∃u us',us=u::us'∧VR h μ v u∧VRs h μ vs us') ?_;intro u us' z4;subst z4;intro r1 r2)
   refine ih r2 λx w hx hk=>?_
   by_cases e:x=p
   ·replace hx:=(show upd ρ p v x=some v from AM e)▸hx
    (replace hx:=AV hx;subst hx)
    exact⟨u,by refine rwr e (rwl (AM hk) ?_);exact AM rfl,r1⟩
   ·refine AJ (hm x w ((AO e).symm.trans hx) hk) λu' e1 e2=>?_
    refine⟨u',?_,e2⟩
    split
    ·exact(AO λz=>e (ED z)).trans e1
    ·exact e1
theorem m7{kd:Str→AH Fo}{ps:List AE}:∀{vs:List V} {us:List AB} {ρ:Env} {m:Str→AH AB},VRs h μ vs us→(∀x v,ρ x=some v→kd (AK x)=some .cell→∃u,m (AK x)=some u∧VR h μ v u)→
  ∀x v,Gv ρ ps vs x=some v→kd (AK x)=some .cell→∃u,bindC kd ((ps.map AK).zip us) m (AK x)=some u∧VR h μ v u:=by
 induction ps with
 | nil=>exact λr hm=>hm
 | cons p ps ih=>
  intro vs us ρ m r hm
  cases vs with
  | nil=>cases(r:us=[]);exact hm
  | cons v vs=>
   (refine BO (r:∃u us',us=u::us'∧VR h μ v u∧VRs h μ vs us') ?_;intro u us' z5;subst z5;intro r1 r2)
   refine ih r2 λx w hx hk=>?_
   by_cases e:x=p
   ·replace hx:=(show upd ρ p v x=some v from AM e)▸hx
    (replace hx:=AV hx;subst hx)
    exact⟨u,by refine rwr e (rwl (AO (by refine rwl hk ?_;decide)) ?_);exact AM rfl,r1⟩
   ·refine AJ (hm x w ((AO e).symm.trans hx) hk) λu' e1 e2=>?_
    refine⟨u',?_,e2⟩
    split
    ·exact e1
    ·exact(AO λz=>e (ED z)).trans e1
theorem Xs{a:AD}{o:Obj}{fd:JH}{body:List CL}{b:FnC}{vs:List V}{us:List AB}{cl:Calls}{P:QV}{Q:AB→AF→Prop}(hd:A.depth<recursionLimit)(F:IQ h₀ a o fd body b)(G:Gl ca fa h₀ mg mb)
  (CS:∀env:A0,RC prog w ca fa h₀ (A.deeper env) cl) (hA:A.handled=none) (hu:A.units+23<Av) (S:SR w ca h₀ s.heap st μ) (r:VRs s.heap μ vs us) (e:wFn cl b vs st P) (h:Go w ca h₀ s μ P Q):
  AP (AU prog w) A (call (.ref a) us) Q E s:=by
 ·(have zz:=e;clear e;have hlen:=zz.1;have e:=zz.2;clear zz)
  have hl:us.length=b.ps.length:=by(refine rwl r.length (rwl hlen ?_);rfl)
  have hk0:∀x∈(b.ps.map AK).zip us,fd.scope.names.lookup x.1=some .local∨(fd.scope.names.lookup x.1=some .cell∧((Cw (s.heap.objs.size+1) fd.scope.names []).lookup x.1).isSome=true):=λx hx=>by
   obtain⟨n,u⟩:=x
   have hq:=(List.of_mem_zip hx).1
   refine AJ (Ay.mp hq) λp hp he=>?_
   subst he
   have:=F.own p hp
   simp only [E8,JD,CZ] at this
   rcases this with q | q
   ·exact .inl q
   ·refine .inr ⟨q,?_⟩
    refine exE (Ko fd.scope.names (s.heap.objs.size+1) [] (AK p) (.inl (mem_of_lookup q))) λc hc=>?_
    refine exE (LJ hc) λc' hc'=>?_
    dsimp only
    refine rwl hc' ?_;rfl
  refine wpAny_call (codeAny_call_cells (fd:=fd) (body:=body) hd (S.base _ _ F.here) F.data (G.nolim.keeps S.base) (F.code.keeps S.base) F.text (F.binds us hl) F.clos hk0 (λs1 I=>?_) F.nco F.ngen F.kind)
  refine CU I.toInCall.same λh1 tk es=>?_
  have keep:=I.toInCall.keep
  have N:Nx w ca h₀ s.heap s μ s1 μ st:=by
   rw [es] at keep ⊢
   exact Nx.grow S keep
  generalize hE:callEnvC fd s.heap.objs.size a=env at I ⊢
  have e1:env.scope=fd.scope:=by refine rwr hE ?_;rfl
  have e2:env.locals=s.heap.objs.size:=by refine rwr hE ?_;rfl
  have e3:env.cells=Cw (s.heap.objs.size+1) fd.scope.names []:=by refine rwr hE ?_;rfl
  have e4:env.globals=CX:=by refine rwr hE ?_;exact F.glob
  have e5:env.builtins=Iw:=by refine rwr hE ?_;exact F.blt
  have kd:∀n,env.kindOf n=fd.scope.names.lookup n:=λn=>by unfold Env.kindOf;(refine rwl e1 ?_;rfl)
  have pw:env.cells.Pairwise λa b=>a.1≠b.1:=by refine rwl e3 ?_;exact Qm _ _ _ F.nodup (by simp) KC
  have nfree:∀n,env.kindOf n≠some .free:=λn hq=>by
   rw [kd] at hq
   exact F.free n .free (mem_of_lookup hq) rfl
  have up:∀n c,(n,c)∈env.cells→s.heap.get? c=none:=λn c hc=>Dw λo eo=>by
   have h1:=I.above n c hc
   have h2:=BQ eo
   replace h1:=e2▸h1
   exact CY _ (Eo h1 h2)
  have upL:s.heap.get? env.locals=none:=by refine rwl e2 ?_;exact C2 _
  have notmu:∀c,s.heap.get? c=none→c∉μ:=λc hc hm=>by
   refine exE (S.here hm) λo eo=>?_
   replace eo:=hc▸eo;cases eo
  have cn:∀n,env.kindOf n=some .cell→∃c,env.cells.lookup n=some c:=λn hn=>by
   rw [kd] at hn
   refine exE (Ko fd.scope.names (s.heap.objs.size+1) [] n (.inl (mem_of_lookup hn))) λc hc=>?_
   refine rwl e3 ?_
   exact LJ hc
  have r1:=r.pass N.pass
  have X:ER s1.heap μ env (Gv (λ_=>none) b.ps vs):=by
   refine⟨by refine rwl e1 ?_;exact F.kind,e4,e5,⟨_,I.toInCall.ns,λx v' hx hk=>?_⟩,λx v' hx hk=>?_,notmu _ upL,λn c hc=>⟨notmu c (up n c hc),_,I.cell n c (UZ pw hc)⟩,λn hn=>?_,I.apart⟩
   ·exact dD r1 (by simp) x v' hx hk
   ·rcases hk with hk | hk
    ·refine exE (cn _ hk) λc hc=>?_
     obtain⟨u,hu,rv⟩:=m7 r1 (by simp) x v' hx hk
     exact⟨c,u,hc,hu▸I.cell _ c hc,rv⟩
    ·exact absurd hk (nfree _)
   ·rcases hn with hn | hn
    ·exact cn n hn
    ·exact absurd hn (nfree n)
  have B:Base h₀ s.heap s1 env:=⟨S.base,λa ha=>by
   rcases VP ha with rfl | ⟨n,hc⟩
   ·exact upL
   ·exact up n a hc,λa ha=>Dw λo eo=>by replace ha:=keep a o eo▸ha;cases ha⟩
  have hc:(A.deeper env).units+20<Av:=hu
  exact eV (C:=⟨prog,w,ca,fa,h₀,A.deeper env,cl,mg,mb,hA,hc,G,CS env⟩) F.meets (hb:=s.heap) (by(refine rwl e1 ?_;rfl)) B X N.sr e ⟨λρ2 st2 p s2 μ2 N2 X2=>h _ _ p s2 μ2 .none (N.trans N2) VR.none_,λv st2 p s2 μ2 u N2 r2=>h _ _ p s2 μ2 u (N.trans N2) r2⟩
theorem Nx.two{h':AQ}{t:AA}(S:SR w ca h₀ s.heap st μ)(k:∀b o,s.heap.get? b=some o→h'.get? b=some o){x d:AD}{o1 o2:O}(nx:s.heap.get? x=none)(nd:s.heap.get? d=none)(hne:x≠d)
  (h1:OR w ca h' (μ++[x,d]) st.length x o1) (h2:OR w ca h' (μ++[x,d]) (st.length+1) d o2):Nx w ca h₀ s.heap s μ {s with heap:=h',toks:=t} (μ++[x,d]) (st++[o1,o2]):=by
 have P:Pass s.heap h' μ (μ++[x,d]):=⟨⟨[x,d],rfl,by simp [nx,nd]⟩,λb vs n t=>IsTp.to t λo e=>k b o e⟩
 refine Nx.of S (λb o _ e=>k b o e) (λb o e=>⟨o,k b o e⟩) (by simp [nx,nd]) ⟨by simp [S.len],?_,λb ob e=>k b ob (S.base b ob e),λb hb=>?_,λj ob e=>?_⟩
 ·refine rwi GD ?_
  refine⟨S.nodup,by simp [hne],λb hb c hc=>?_⟩
  simp only [Ak,Dm,or_false] at hc
  refine exE (S.here hb) λob e=>?_
  rintro rfl
  rcases hc with rfl | rfl
  ·replace e:=nx▸e;cases e
  ·replace e:=nd▸e;cases e
 ·rcases BD.mp hb with hb | hb
  ·exact S.above b hb
  ·simp only [Ak,Dm,or_false] at hb
   rcases hb with rfl | rfl
   ·exact EH S nx
   ·exact EH S nd
 ·rcases Np j st.length with l | l
  ·replace e:=C6 l▸e
   refine AJ (S.obj j ob e) λb hb y=>?_
   refine⟨b,P.idx hb,y.pass P ?_⟩
   refine exE y.here λo1 e1=>?_
   refine rwl e1 ?_;exact k b o1 e1
  ·replace e:=Hx l▸e
   obtain⟨i,rfl⟩:∃i,j=st.length+i:=⟨j-st.length,(Fb l).symm⟩
   rw [OT] at e
   match i,e with
   | 0,e=>
    simp only [aY,Jy] at e
    subst e
    exact⟨x,by refine rwr S.len ?_;simp,h1⟩
   | 1,e=>
    simp only [Zd,aY,Jy] at e
    subst e
    exact⟨d,by refine rwr S.len (rwl (Hx (by omega)) ?_);simp,h2⟩
   | i+2,e=>simp at e
theorem YW{d n j:AA}(h:d+3*(n+1)<900)(hj:j≤3):d+j+3*n<900:=Bi (show d+j+3*n≤d+(3*n+3) from AR (FD (ES hj d) _) (Bk ((G4 ..).trans (AW (d+ ·) (GF 3 _))))) h
theorem Ui{u n j L:AA}(h:u+40*(n+1)+200<L)(hj:j≤40):u+j+40*n+200<L:=Bi (FD (show u+j+40*n≤u+(40*n+40) from AR (FD (ES hj u) _) (Bk ((G4 ..).trans (AW (u+ ·) (GF 40 _))))) _) h
theorem VI{u n k L:AA}(h:u+40*(n+1)+200<L)(hk:k≤200):u+k<L:=Bi (ET (Bh _ _) hk) h
theorem cj{d n:AA}(h:d+3*(n+1)<900):d<1000:=Eo (Bi (Bh _ _) h) (by decide)
theorem bZ{d n:AA}(h:d+3*(n+1)<900):d+1<1000:=Eo (OJ (Bi (Bh _ _) h)) (by decide)
theorem jE(G:Gl ca fa h₀ mg mb)(n:AA):∀(A:Aq),WL A n→Bm (RC prog w ca fa h₀ A (wC n)):=by
 induction n with
 | zero=>exact λA R=>⟨@λ_ _ _ _ _ _ _ _ _ e _ _ _=>(il▸e:As).elim⟩
 | succ n ih=>
  intro A R
  refine⟨?_⟩
  intro f vs us st s μ P Q E e S r h
  have uni:=R.uni
  have dep:=R.dep
  replace e:=QF▸e
  cases hc:Cm.contains f with
  | false=>
   replace e:=hc▸e
   refine rwl (show place ca fa f=fa f from AO (KU.mp hc)) ?_
   (refine AJ e ?_;clear e;intro b hb e)
   refine GW (G.fn _ b hb) λo fd body F=>?_
   exact Xs (cj R.dep) F G (λenv=>(ih (A.deeper env) ⟨R.hd,YW (j:=1) R.dep (by decide),Ui (j:=3) R.uni (by decide)⟩).get) R.hd (VI (k:=23) R.uni (by decide)) S r e h
  | true=>
   replace e:=hc▸e
   refine rwl (show place ca fa f=ca f from AM hc) ?_
   (refine AJ e ?_;clear e;intro b hb e)
   refine A6 (G.cls f hc) λN mN CB hm=>?_
   refine GW (G.fn _ b hb) λo fd body F=>?_
   have hdot:f++"."++"__init__"=f++".__init__":=by refine rwl AE.append_assoc ?_;rfl
   have hi:=hm "__init__" (by refine rwl hdot (rwl hb ?_);rfl)
   replace hi:=hdot▸hi
   obtain⟨nm,q,bs,sn,sub,col,dd,k0,k1,k2,k3,k5,hC⟩:=(CB.cls.keeps S.base).obj
   obtain⟨hp,gp,dp,tp,os⟩:=s
   refine wpAny_call_obj_init PySem.F.objNew hC (CB.cls.keeps S.base).ns hi (S.base _ _ F.here) F.cls λh' x dx Mk=>?_
   refine DC Mk.inst λox hx hcx hncx hdx=>?_
   have hdd:=Mk.dict ox hx
   have hnsd:dx≠x∧h'.Ns1 dx λ_=>none:=by
    rcases hdx with ⟨hn0,_⟩ | ⟨d',hd',hne',hns'⟩
    ·replace hdd:=hn0▸hdd;cases hdd
    ·obtain rfl:=AV (hd'.symm.trans hdd);exact⟨hne',hns'⟩
   have hlen:=S.len
   have N1:Nx w ca h₀ hp ⟨hp,gp,dp,tp,os⟩ μ ⟨h',gp,dp,tp,os⟩ (μ++[x,dx]) (st++[.inst f,.ns []]):=
    Nx.two (s:=⟨hp,gp,dp,tp,os⟩) (t:=tp) S Mk.keeps Mk.newX Mk.newD (Bq hnsd.1)
     ⟨dx,ox,by refine rwr hlen (rwl (Hx (Et _)) (rwl (AA.succ_sub (Aj _)) (rwl (KD ..) ?_)));rfl,hnsd.1,hx,hcx,hncx,hdd⟩
     ⟨_,hnsd.2,λy hy=>absurd rfl hy,λx=>rfl⟩
   have hself:VR h' (μ++[x,dx]) (.ref st.length) (.ref x):=⟨x,rfl,by refine rwr hlen (rwl (Hx (Aj _)) (rwl (KD ..) ?_));rfl⟩
   have R2:∀c rest env,WL ((A.under (.builtin "type.__call__" ⟨.ref c::rest,[]⟩)).deeper env) n:=λc rest env=>⟨R.hd,YW (j:=2) R.dep (by decide),Ui (j:=4) R.uni (by decide)⟩
   refine Xs (s:=⟨h',gp,dp,tp,os⟩) (bZ R.dep) F G (λenv=>(ih _ (R2 _ _ env)).get) R.hd (VI (k:=24) R.uni (by decide)) N1.sr (VRs.cons hself (r.pass N1.pass)) e λv st' p s3 μ3 u N3 r3=>?_
   exact⟨(p.1▸r3:VR s3.heap μ3 .none u),h _ _ p.2 s3 μ3 _ (N1.then N3) (hself.pass N3.pass)⟩
end
end Mine
namespace Mine
section
variable{α β γ:Type}{x:AH α}{a:α}{Q Q':α→Prop}
theorem is_some(q:Q a):Is (some a) Q:=⟨a,rfl,q⟩
theorem Is.bind{f:α→AH β}{P:β→Prop}(h:Is x Q)(k:∀a,Q a→Is (f a) P):Is (x.bind f) P:=h.elim λa p=>p.1▸k a p.2
end
structure Keep(X:AA→Prop)(s t:St):Prop where
 len:s.length≤t.length
 at':∀i,i<s.length→¬X i→t[i]? =s[i]?
noncomputable abbrev nk:AA→Prop:=λ_=>As
section
variable{X Y:AA→Prop}{s t u:St}{i:AA}{o:O}
theorem Keep.refl:Keep X s s:=⟨Aj _,λ_ _ _=>rfl⟩
theorem Keep.trans(K:Keep X s t)(K':Keep X t u):Keep X s u:=⟨AR K.len K'.len,λi h n=>(K'.at' i (Bg h K.len) n).trans (K.at' i h n)⟩
theorem Keep.weak(K:Keep X s t)(h:∀i,i<s.length→X i→Y i):Keep Y s t:=⟨K.len,λi hi n=>K.at' i hi λx=>n (h i hi x)⟩
theorem BI(e:s[i]? =some o):i<s.length:=(BA.mp e).1
theorem Keep.get(K:Keep X s t)(e:s[i]? =some o)(n:¬X i):t[i]? =some o:=(K.at' i (BI e) n).trans e
theorem Keep.at(K:Keep nk s t)(e:s[i]? =some o):t[i]? =some o:=K.get e id
theorem Keep.app(l:St):Keep X s (s++l):=⟨Au▸Bh _ _,λi h _=>C6 h⟩
theorem Keep.push(o:O):Keep X s (s++[o]):=Keep.app [o]
theorem Af:(s++[o])[s.length]? =some o:=Iv
theorem RB(h:i<s.length):(s.set i o)[i]? =some o:=OD h
theorem Bl{j:AA}(h:i≠j):(s.set i o)[j]? =s[j]? :=Jz h
theorem Keep.set(h:X i):Keep X s (s.set i o):=⟨Bk Gz.symm,λj hj n=>Bl λe=>n (e▸h)⟩
theorem Keep.set_new(K:Keep X s t)(h:s.length≤i):Keep X s (t.set i o):=⟨AR K.len (Bk Gz.symm),λj hj n=>(Bl (Fm (Bg hj h))).trans (K.at' j hj n)⟩
end
theorem Bt{n:AA}(h:n≤100000):fits n=true:=An h
theorem FW{i:Int}(h:-2147483648<i)(h':i<2147483648):BJ i=true:=Ac.mpr ⟨An h,An h'⟩
theorem ng{o:O}{s:St}{Q:QV}(h:Kh o≤100000)(q:Q (.ref s.length) (s++[o])):Is (Ci o s) (pr Q):=Is.it (AM (Bt h)) q
theorem BH{n:AA}{f:AE}{b:FnC}{args:List V}{s:St}{Q:QV}(h1:Cm.contains f=false)(h2:DP fns f=some b)(hl:b.ps.length=args.length)
  (h:wSs (wC n) b.body (Gv (λ_=>none) b.ps args) s (PS Q) Q):wC (n+1) f args s Q:=
 QF.mpr (h1.symm▸Is.it h2 ⟨hl,h⟩:pB _ (Is (DP fns f) (kFn (wC n) args s Q)) (Cm.contains f))
theorem Mn{n:AA}{f:AE}{b:FnC}{args:List V}{s:St}{Q:QV}(h1:Cm.contains f=true)(h2:DP fns (f++".__init__")=some b)(hl:b.ps.length=args.length+1)
  (h:wSs (wC n) b.body (Gv (λ_=>none) b.ps (.ref s.length::args)) (s++[.inst f,.ns []]) (PS (kIn Q (.ref s.length))) (kIn Q (.ref s.length))):wC (n+1) f args s Q:=
 QF.mpr (h1.symm▸Is.it h2 ⟨hl,h⟩:pB (Q7 (wC n) fns f args s Q) _ (Cm.contains f))
theorem nm{o:AH V}{Q:V→Prop}{v:V}(h:o=some v)(q:Q v):wN o Q:=h▸q
theorem nN{x:AE}{env:Env}{v:V}:EW env [x] v=some (upd env x v):=rfl
theorem nR{x y:AE}{env:Env}{a b:V}:EW env [x,y] (.tup [a,b])=some (upd (upd env x a) y b):=rfl
theorem Jj{l k:AA}:k+(l+1)=k+1+l:=(G4 k 1 l).symm▸GF l 1▸rfl
theorem IX{n i k:AA}(e:(Ab n)[i]? =some k):k=i∧i<n:=by
 refine exE (BA.mp e) λh1 h2=>?_
 rw [Sa] at h2
 exact⟨h2.symm,DK (n:=n)▸h1⟩
section
variable{α:Type}{l:List α}{f:α→V}{ok:St→AL}
theorem kU{F:V→Fi}{Q:QL}(I:AA→List V→St→Prop)(st:∀i acc s,I i acc s→ok s=true):∀(k:AA) (acc:List V) (s:St),I k acc s→
  (∀i a acc s,l[i]? =some a→I (k+i) acc s→∀T:QL,(∀acc s,I (k+i+1) acc s→T acc s)→F (f a) acc s T)→(∀acc s,I (k+l.length) acc s→Q acc s)→Kk F ok (l.map f) acc s Q:=by
 induction l with
 | nil=>exact λk acc s i0 _ he=>⟨st _ _ _ i0,he _ _ i0⟩
 | cons a l ih=>exact λk acc s i0 hs he=>⟨st _ _ _ i0,hs 0 a acc s rfl i0 _ λacc s j=>ih (k+1) acc s j (λi b acc s e j=>Jj▸hs (i+1) b acc s e (Jj.symm▸j)) λacc s j=>he acc s (Jj.symm▸j)⟩
theorem Vs{t:List AE}{w:Env→Rs}{Q:QS}{R:QV}(I:AA→Env→St→Prop)(st:∀i env s,I i env s→ok s=true):∀(k:AA) (env:Env) (s:St),I k env s→
  (∀i a env s,l[i]? =some a→I (k+i) env s→Is (EW env t (f a)) λe=>∀T:QS,(∀env s,I (k+i+1) env s→T env s)→w e s T R)→(∀env s,I (k+l.length) env s→Q env s)→IK t w ok (l.map f) env s Q R:=by
 induction l with
 | nil=>exact λk env s i0 _ he=>⟨st _ _ _ i0,he _ _ i0⟩
 | cons a l ih=>exact λk env s i0 hs he=>⟨st _ _ _ i0,(hs 0 a env s rfl i0).elim λe q=>⟨e,q.1,q.2 _ λenv s j=>ih (k+1) env s j (λi b env s e j=>Jj▸hs (i+1) b env s e (Jj.symm▸j)) λenv s j=>he env s (Jj.symm▸j)⟩⟩
variable{cl:Calls}{src:AH AA}{s:St}
theorem Eg{x:AE}{b:List CS}{env:Env}{Q:QS}{R:QV}(I:AA→Env→St→Prop)(i0:I 0 env s)(st:∀i env t,I i env t→Bd src s t=true)
  (hs:∀i a env t,l[i]? =some a→I i env t→∀T:QS,(∀env t,I (i+1) env t→T env t)→wSs cl b (upd env x (f a)) t T R) (he:∀env t,I l.length env t→Q env t):IK [x] (wSs cl b) (Bd src s) (l.map f) env s Q R:=
 Vs I st 0 env s i0 (λi a env t e j=>⟨_,rfl,λT q=>hs i a env t e ((CI i)▸j) T ((CI i).symm▸q)⟩) λenv t j=>he env t ((CI l.length)▸j)
theorem Kp{x y:AE}{g h:α→V}{b:List CS}{env:Env}{Q:QS}{R:QV}(I:AA→Env→St→Prop)(i0:I 0 env s)(st:∀i env t,I i env t→Bd src s t=true)
  (hs:∀i a env t,l[i]? =some a→I i env t→∀T:QS,(∀env t,I (i+1) env t→T env t)→wSs cl b (upd (upd env x (g a)) y (h a)) t T R) (he:∀env t,I l.length env t→Q env t):IK [x,y] (wSs cl b) (Bd src s) (l.map λa=>.tup [g a,h a]) env s Q R:=
 Vs I st 0 env s i0 (λi a env t e j=>⟨_,rfl,λT q=>hs i a env t e ((CI i)▸j) T ((CI i).symm▸q)⟩) λenv t j=>he env t ((CI l.length)▸j)
variable{t:List AE}{ifs:List CE}{hid:Env}{Q:QL}
theorem Q9{gs:List Gen}{we:Env→Rn V}{acc0:List V}(I:AA→List V→St→Prop)(u:α→Env)(hb:∀a,EW hid t (f a)=some (u a))(i0:I 0 acc0 s)(st:∀i acc t,I i acc t→Bd src s t=true)
  (hs:∀i a acc t,l[i]? =some a→I i acc t→∀T:QL,(∀acc t,I (i+1) acc t→T acc t)→wT cl ifs (u a) t (Td (wG cl gs we (u a) (BY (Bp gs) (u a))) T acc)) (he:∀acc t,I l.length acc t→Q acc t):
  kG (Eb t hid (wT cl ifs) λe=>wG cl gs we e (BY (Bp gs) e)) acc0 Q (l.map f) src s:=
 kU I st 0 acc0 s i0 (λi a acc t e j T q=>⟨_,hb a,hs i a acc t e ((CI i)▸j) T ((CI i).symm▸q)⟩) λacc t j=>he acc t ((CI l.length)▸j)
noncomputable def kSt(cl:Calls)(e:CE)(env:Env)(Y:QV)(N:St→Prop)(b:AL)(s:St):Prop:=pB (wE cl e (BY [] env) s Y) (N s) b
theorem WB{e:CE}{acc0:List V}(I:AA→List V→St→Prop)(u:α→Env)(hb:∀a,EW hid t (f a)=some (u a))(hl:acc0.length+l.length≤100000)(i0:I 0 acc0 s)(st:∀i acc t,I i acc t→Bd src s t=true)
  (hs:∀i a acc t,l[i]? =some a→I i acc t→∀(Y:QV) (N:St→Prop),(∀v t,I (i+1) (acc++[v]) t→Y v t)→(∀t,I (i+1) acc t→N t)→wT cl ifs (u a) t (kSt cl e (u a) Y N)) (he:∀acc t,I l.length acc t→Q acc t):
  kG (Eb t hid (wT cl ifs) λe1=>wG cl [] (wE cl e) e1 (BY (Bp []) e1)) acc0 Q (l.map f) src s:=
 Q9 (λi acc t=>I i acc t∧acc.length≤acc0.length+i) u hb ⟨i0,Aj _⟩ (λi acc t j=>st i acc t j.1)
  (λi a acc t ea j T q=>hs i a acc t ea j.1 (Vd T acc) (T acc) (λv t j'=>⟨Bt (AR j.2 (AR (ES (B7 (BA.mp ea).1) _) hl)),q _ _ ⟨j',by refine rwl Au ?_;exact CJ j.2⟩⟩) λt j'=>q _ _ ⟨j',I7 j.2⟩)
  λacc t j=>he acc t j.1
theorem X6{e:CE}{acc0:List V}(g:α→V)(p:α→AL)(u:α→Env)(hb:∀a,EW hid t (f a)=some (u a))(hl:acc0.length+l.length≤100000)(st:Bd src s s=true)
  (hs:∀a∈l,∀(Y:QV) (N:St→Prop),(p a=true→Y (g a) s)→(p a=false→N s)→wT cl ifs (u a) s (kSt cl e (u a) Y N)) (q:Q (acc0++(l.filter p).map g) s):
  kG (Eb t hid (wT cl ifs) λe1=>wG cl [] (wE cl e) e1 (BY (Bp []) e1)) acc0 Q (l.map f) src s:=
 WB (λi acc t=>s=t∧acc=acc0++((l.take i).filter p).map g) u hb hl ⟨rfl,(Bo _).symm⟩ (λi acc t j=>j.1▸st)
  (λi a acc t ea j Y N hY hN=>by
   (refine Bs j ?_;clear j;intro z6;subst z6;intro z7;subst z7)
   have tk:((l.take (i+1)).filter p).map g=((l.take i).filter p).map g++([a].filter p).map g:=by refine rwl O4 (rwl ea (rwl (IG ..) (rwl BS ?_)));rfl
   exact hs a (Bx ea) Y N (λh=>hY _ _ ⟨rfl,by refine rwl tk (rwl O5 (rwl (AM h) (rwl (Dt ..) ?_)));rfl⟩) λh=>hN _ ⟨rfl,by refine rwl tk (rwl O5 (rwl (AO (KU.mp h)) ?_));exact AW (acc0++ ·) (Bo _).symm⟩)
  λacc t j=>by
   (refine Bs j ?_;clear j;intro z8;subst z8;intro z9;subst z9)
   refine rwl Cr ?_;exact q
theorem QB{x:AE}{e:CE}{acc0:List V}(g:α→V)(hl:acc0.length+l.length≤100000)(st:Bd src s s=true)(hs:∀a∈l,∀Y:QV,Y (g a) s→wE cl e (BY [] (upd hid x (f a))) s Y)(q:Q (acc0++l.map g) s):
  kG (Eb [x] hid (wT cl []) λe1=>wG cl [] (wE cl e) e1 (BY (Bp []) e1)) acc0 Q (l.map f) src s:=
 X6 g (λ_=>true) (λa=>upd hid x (f a)) (λ_=>rfl) hl st (λa ha Y N h _=>hs a ha Y (h rfl)) ((MF.mpr λ_ _=>rfl:l.filter (λ_=>true)=l).symm▸q)
theorem IU{e:CE}(I:AA→List V→St→Prop)(u:α→Env)(hb:∀a,EW hid t (f a)=some (u a))(hl:l.length≤100000)(i0:I 0 [] s)(st:∀i acc t,I i acc t→Bd src s t=true)
  (hs:∀i a acc t,l[i]? =some a→I i acc t→∀(Y:QV) (N:St→Prop),(∀v t,I (i+1) (acc++[v]) t→Y v t)→(∀t,I (i+1) acc t→N t)→wT cl ifs (u a) t (kSt cl e (u a) Y N)) (he:∀acc t,I l.length acc t→Q acc t):
  kG (Eb t hid (wT cl ifs) λe1=>wG cl [] (wE cl e) e1 (BY (Bp []) e1)) [] Q (l.map f) src s:=WB I u hb ((CI _).symm▸hl) i0 st hs he
theorem JN{e:CE}(g:α→V)(p:α→AL)(u:α→Env)(hb:∀a,EW hid t (f a)=some (u a))(hl:l.length≤100000)(st:Bd src s s=true)
  (hs:∀a∈l,∀(Y:QV) (N:St→Prop),(p a=true→Y (g a) s)→(p a=false→N s)→wT cl ifs (u a) s (kSt cl e (u a) Y N)) (q:Q ((l.filter p).map g) s):
  kG (Eb t hid (wT cl ifs) λe1=>wG cl [] (wE cl e) e1 (BY (Bp []) e1)) [] Q (l.map f) src s:=X6 g p u hb ((CI _).symm▸hl) st hs q
theorem M9{x:AE}{e:CE}(g:α→V)(hl:l.length≤100000)(st:Bd src s s=true)(hs:∀a∈l,∀Y:QV,Y (g a) s→wE cl e (BY [] (upd hid x (f a))) s Y)(q:Q (l.map g) s):
  kG (Eb [x] hid (wT cl []) λe1=>wG cl [] (wE cl e) e1 (BY (Bp []) e1)) [] Q (l.map f) src s:=QB g ((CI _).symm▸hl) st hs q
theorem Q4{l:List V}{e:CE}(g:V→V)(p:V→AL)(u:V→Env)(hb:∀a,EW hid t a=some (u a))(hl:l.length≤100000)(st:Bd src s s=true)
  (hs:∀a∈l,∀(Y:QV) (N:St→Prop),(p a=true→Y (g a) s)→(p a=false→N s)→wT cl ifs (u a) s (kSt cl e (u a) Y N)) (q:Q ((l.filter p).map g) s):
  kG (Eb t hid (wT cl ifs) λe1=>wG cl [] (wE cl e) e1 (BY (Bp []) e1)) [] Q l src s:=by
 have:=JN (f:=id) g p u hb hl st hs q
 rwa [TK] at this
end
end Mine
namespace Mine
noncomputable abbrev Rows:=List (List Int)
noncomputable def EF(acc:List Int):List Int→List Int
 | []=>acc
 | h::_=>if h∈acc then acc else acc++[h]
theorem JV{acc t:List Int}{h:Int}:EF acc (h::t)=if h∈acc then acc else acc++[h]:=rfl
noncomputable def A9(R:Rows):List Int:=R.foldl EF []
noncomputable def Cn:List Int→List Int→AH (List Int)
 | [],x=>some x
 | _::_,[]=>none
 | a::p,b::x=>if a=b then Cn p x else none
noncomputable def sub(R:Rows)(p:List Int):Rows:=R.filterMap (Cn p)
noncomputable def kids(R:Rows)(p:List Int):List Int:=A9 (sub R p)
noncomputable def Cu(R:Rows)(k:Int):Rows:=sub R [k]
noncomputable def Ag(r:List Int):V:=.tup (r.map V.int)
theorem Dk:∀{p x y:List Int},Cn p x=some y↔x=p++y
 | [],x,y=>by simp [Cn]
 | a::p,[],y=>by simp [Cn]
 | a::p,b::x,y=>by
  unfold Cn
  by_cases h:a=b
  ·refine rwl (AM h) (rwi Dk ?_);simp [h]
  ·refine rwl (AO h) ?_;simp [Bq h]
theorem RH{p x:List Int}:Cn p x=none↔∀y,x≠p++y:=by
 cases h:Cn p x with
 | none=>simp;intro y e;replace h:=Dk.mpr e▸h;cases h
 | some y=>simp;exact⟨y,Dk.mp h⟩
theorem W4(R:Rows)(x:List Int):A9 (R++[x])=EF (A9 R) x:=by simp [A9]
theorem YO(R:Rows)(x p:List Int):sub (R++[x]) p=sub R p++(Cn p x).toList:=by
 unfold sub;refine rwl List.filterMap_append ?_;cases h:Cn p x<;>simp [h]
theorem Qx(R:Rows)(x p:List Int):kids (R++[x]) p=((Cn p x).elim (kids R p) (EF (kids R p))):=by
 unfold kids;refine rwl (YO ..) ?_
 cases Cn p x with
 | none=>simp
 | some y=>simp [W4]
theorem VJ(A:Rows)(w p:List Int)(v:Int):kids (A++[w++[v]]) p=if p=w then EF (kids (A++[w]) p) [v] else kids (A++[w]) p:=by
 refine rwl (Qx ..) (rwl (Qx ..) ?_)
 by_cases h:p=w
 ·subst h
  refine rwl (AM rfl) (rwl (Dk.mpr rfl) (rwl (Dk.mpr (Bo p).symm) ?_));rfl
 ·refine rwl (AO h) ?_
  cases q:Cn p w with
  | some y=>
   have e:=Dk.mp q
   refine rwl (show Cn p (w++[v])=some (y++[v]) from Dk.mpr (by refine rwl e ?_;simp)) ?_
   cases y with
   | nil=>exact absurd (by simpa using e.symm) h
   | cons a y=>rfl
  | none=>
   cases q2:Cn p (w++[v]) with
   | none=>rfl
   | some y=>
    have e:=Dk.mp q2
    rcases TL y with rfl | ⟨z,a,rfl⟩
    ·rfl
    ·(replace e:=TM▸e;rewrite [←Dt] at e)
     have:=aZ e rfl
     exact absurd this (RH.mp q z)
theorem lR{acc x:List Int}{k:Int}:k∈EF acc x↔k∈acc∨∃y,x=k::y:=by
 cases x with
 | nil=>simp [EF]
 | cons h t=>
  refine rwl JV ?_
  by_cases q:h∈acc
  ·refine rwl (AM q) ?_;refine⟨.inl,λz=>z.elim id λzq1=>zq1.elim λy e=>?_⟩
   cases e;exact q
  ·refine rwl (AO q) (rwi BD (rwi Aw ?_))
   refine or_congr O6 ⟨λe=>⟨t,by(refine rwl e ?_;rfl)⟩,λzq1=>zq1.elim λy e=>by cases e;rfl⟩
theorem Xi:∀{R:Rows} {acc:List Int} {k:Int},k∈R.foldl EF acc↔k∈acc∨∃y,k::y∈R
 | [],acc,k=>by simp
 | x::R,acc,k=>by
  refine rwl Zr (rwi Xi (rwi lR (rwi or_assoc ?_)))
  refine or_congr O6 ⟨λh=>?_,λzq1=>zq1.elim λy h=>?_⟩
  ·rcases h with ⟨y,e⟩ | ⟨y,e⟩
   ·exact⟨y,by refine rwl e ?_;exact Ah⟩
   ·exact⟨y,Am _ e⟩
  ·rcases Ak.mp h with e | e
   ·exact .inl ⟨y,e.symm⟩
   ·exact .inr ⟨y,e⟩
theorem Hd{R:Rows}{k:Int}:k∈A9 R↔∃y,k::y∈R:=by unfold A9;refine rwi Xi ?_;simp
theorem JW{R:Rows}{p y:List Int}:y∈sub R p↔p++y∈R:=by
 unfold sub;refine rwi Fg ?_
 exact⟨λzq1=>zq1.elim λx zz=>zz.elim λh e=>Dk.mp e▸h,λh=>⟨_,h,Dk.mpr rfl⟩⟩
theorem Xa{R:Rows}{p:List Int}{k:Int}:k∈kids R p↔∃y,p++k::y∈R:=by
 unfold kids;refine rwi Hd ?_;simp only [JW]
theorem j9{acc x:List Int}(h:acc.Nodup):(EF acc x).Nodup:=by
 cases x with
 | nil=>exact h
 | cons a t=>
  refine rwl JV ?_
  split
  ·exact h
  ·rename_i q
   refine rwi GD ?_
   exact⟨h,by simp,λb hb c hc=>by refine rwl (Aw.mp hc) ?_;rintro rfl;exact q hb⟩
theorem Qr(R:Rows):(A9 R).Nodup:=by
 unfold A9
 have:∀(R:Rows) (acc:List Int),acc.Nodup→(R.foldl EF acc).Nodup:=by
  intro R
  induction R with
  | nil=>exact λacc h=>h
  | cons x R ih=>exact λacc h=>ih _ (j9 h)
 exact this R [] El
theorem lP(R:Rows)(p q:List Int):sub (sub R p) q=sub R (p++q):=by
 unfold sub
 refine rwl List.filterMap_filterMap ?_
 congr 1;funext x
 cases h:Cn p x with
 | none=>
  cases h2:Cn (p++q) x with
  | none=>rfl
  | some y=>exact absurd (by(refine rwl (Dk.mp h2) (rwl (Dt ..) ?_);rfl)) (RH.mp h (q++y))
 | some z=>
  have e:=Dk.mp h
  simp only [KV]
  cases h2:Cn q z with
  | none=>
   cases h3:Cn (p++q) x with
   | none=>rfl
   | some y=>
    have:=Dk.mp h3
    (replace this:=e▸this;rewrite [Dt] at this)
    exact absurd (List.append_cancel_left this) (RH.mp h2 y)
  | some y=>exact(Dk.mpr (by(refine rwl e (rwl (Dk.mp h2) (rwl (Dt ..) ?_));rfl))).symm
theorem cC(R:Rows)(p:List Int)(k:Int):Cu (sub R p) k=sub R (p++[k]):=lP R p [k]
theorem IZ{R:Rows}{d:AA}{k:Int}(h:∀x∈R,x.length=d+1):∀x∈Cu R k,x.length=d:=λx hx=>by
 have:=h _ (JW.mp hx);simpa using this
theorem PX(R:Rows)(k:Int):(Cu R k).length≤R.length:=ae _ _
theorem NQ(R:Rows):(A9 R).length≤R.length:=by
 have:∀(R:Rows) (acc:List Int),(R.foldl EF acc).length≤acc.length+R.length:=by
  intro R
  induction R with
  | nil=>simp
  | cons x R ih=>
   intro acc
   refine AR (ih _) ?_
   have:(EF acc x).length≤acc.length+1:=by
    cases x with
    | nil=>simp [EF]
    | cons a t=>refine rwl JV ?_;split<;>simp
   simp;omega
 simpa [A9] using this R []
noncomputable def Trie(s:St)(lo hi:AA):AA→Rows→AA→Prop
 | 0,R,r=>lo≤r∧r<hi∧∃ep,s[r]? =some (.dict [] ep)
 | d+1,R,r=>lo≤r∧r<hi∧∃(c:Int→AA) (ep:AA),s[r]? =some (.dict ((A9 R).map λk=>(.int k,.ref (c k))) ep)∧∀k∈A9 R,Trie s lo hi d (Cu R k) (c k)
theorem Trie.keep{s t:St}{lo hi:AA}{X:AA→Prop}(K:Keep X s t)(hX:∀i,lo≤i→i<hi→¬X i):∀{d:AA} {R:Rows} {r:AA},Trie s lo hi d R r→Trie t lo hi d R r
 | 0,R,r,⟨h1,h2,ep,e⟩=>⟨h1,h2,ep,K.get e (hX r h1 h2)⟩
 | d+1,R,r,⟨h1,h2,c,ep,e,h⟩=>⟨h1,h2,c,ep,K.get e (hX r h1 h2),λk hk=>(h k hk).keep K hX⟩
theorem Trie.wide{s:St}{lo hi lo' hi':AA}(h1:lo'≤lo)(h2:hi≤hi'):∀{d:AA} {R:Rows} {r:AA},Trie s lo hi d R r→Trie s lo' hi' d R r
 | 0,R,r,⟨a,b,ep,e⟩=>⟨AR h1 a,Bg b h2,ep,e⟩
 | d+1,R,r,⟨a,b,c,ep,e,h⟩=>⟨AR h1 a,Bg b h2,c,ep,e,λk hk=>(h k hk).wide h1 h2⟩
end Mine
namespace Mine
theorem Gm{s:St}{i j:Int}(h1:-2147483648<i∧i<2147483648)(h2:-2147483648<j∧j<2147483648):F8 .add (.int i) (.int j) s=some (.int (i+j),s):=AM (by refine rwl (FW h1.1 h1.2) (rwl (FW h2.1 h2.2) ?_);rfl)
theorem NP{s:St}{i j:Int}(h1:-2147483648<i∧i<2147483648)(h2:-2147483648<j∧j<2147483648):F8 .sub (.int i) (.int j) s=some (.int (i-j),s):=AM (by refine rwl (FW h1.1 h1.2) (rwl (FW h2.1 h2.2) ?_);rfl)
theorem NZ{s:St}{i j:Int}(h1:-2147483648<i∧i<2147483648)(h2:-2147483648<j∧j<2147483648):F8 .mul (.int i) (.int j) s=some (.int (i*j),s):=AM (by refine rwl (FW h1.1 h1.2) (rwl (FW h2.1 h2.2) ?_);rfl)
theorem NO{s:St}{i j:Int}(h:0<j∧j<2147483648):F8 .mod (.int i) (.int j) s=some (.int (i%j),s):=AM (by refine rwl (FW (by omega) h.2) (rwl (An h.1) ?_);rfl)
theorem Mz{s:St}{i j:Int}:Ct .lt (.int i) (.int j) s=some (decide (i<j)):=rfl
theorem cL{a b:Int}:V.beq (.int a) (.int b)=decide (a=b):=by unfold V.beq;rfl
theorem Me{K:List Int}{f:Int→V}{v:Int}:Aa (.int v) (K.map λk=>(.int k,f k))=if v∈K then some (f v) else none:=by
 induction K with
 | nil=>rfl
 | cons a K ih=>
  refine rwl BF ?_
  unfold Aa
  refine rwl cL (rwl ih ?_)
  by_cases h:a=v
  ·subst h;simp
  ·simp [h,Bq h]
theorem CW{α:Type}{l:List α}{i:AA}{a:α}(e:l[i]? =some a):l.take (i+1)=l.take i++[a]:=by refine rwl O4 (rwl e ?_);rfl
section
variable{α:Type}{s:St}{i ep:AA}{es:List (V×V)}{xs:List V}{m:AE}{a:List V→AH α}{b:List (V×V)→AA→AH α}
theorem Bu(h:s[i]? =some (.list xs)):atO s[i]? a b=a xs:=h▸rfl
theorem EX(h:s[i]? =some (.dict es ep)):atO s[i]? a b=b es ep:=h▸rfl
theorem Js(h:s[i]? =some (.dict es ep))(hm:(GB "dict" m).isSome=true:=by rfl):Il (.ref i) m s=some (.inr "dict"):=show s[i]?.bind _=_ from h▸AM hm
theorem DQ(h:s[i]? =some (.list xs))(hm:(GB "list" m).isSome=true:=by rfl):Il (.ref i) m s=some (.inr "list"):=show s[i]?.bind _=_ from h▸AM hm
theorem Jc(h:s[i]? =some (.dict es ep)):Fx (.ref i) s=some "dict":=show s[i]?.bind _=_ from h▸rfl
theorem DO(h:s[i]? =some (.list xs)):Fx (.ref i) s=some "list":=show s[i]?.bind _=_ from h▸rfl
theorem MK{k v:V}(h:s[i]? =some (.dict es ep))(hk:k.simple=true)(hf:es.length≤100000):
  Ec (.ref i) "setdefault" [k,v] s=match Aa k es with | some w=>some (w,s) | none=>some (v,s.set i (.dict (es++[(k,v)]) (ep+1))):=by
 refine(EX h).trans ((AM rfl).trans ((AM hk).trans ?_))
 cases Aa k es with
 | none=>exact AM (Bt hf)
 | some w=>rfl
end
noncomputable def Pres(W:Rows)(p:List Int):Prop:=∃y,p++y∈W
structure IL(s0 s:St)(W:Rows)(ρ:List Int→AA):Prop where
 keep:Keep nk s0 s
 obj:∀p,Pres W p→∃ep,s[ρ p]? =some (.dict ((kids W p).map λk=>(.int k,.ref (ρ (p++[k])))) ep)
 inj:∀p q,Pres W p→Pres W q→ρ p=ρ q→p=q
 lo:∀p,Pres W p→s0.length≤ρ p
theorem NC{W:Rows}{p:List Int}{k:Int}(h:k∈kids W p):Pres W (p++[k]):=by
 refine exE (Xa.mp h) λy h=>?_
 exact⟨y,by simpa using h⟩
theorem Pres.up{W:Rows}{p:List Int}{k:Int}:Pres W (p++[k])→k∈kids W p:=λzq1=>zq1.elim λy h=>Xa.mpr ⟨y,by simpa using h⟩
theorem Pres.left{W:Rows}{p q:List Int}:Pres W (p++q)→Pres W p:=λzq1=>zq1.elim λy h=>⟨q++y,by simpa using h⟩
theorem jW(W:Rows)(p:List Int):(kids W p).length≤W.length:=AR (NQ _) (ae _ _)
theorem Jn{A:Rows}{w p:List Int}{v:Int}:Pres (A++[w++[v]]) p↔Pres (A++[w]) p∨p=w++[v]:=by
 constructor
 ·(intro zr22;(refine exE zr22 ?_;clear zr22;intro y h))
  rcases BD.mp h with h | h
  ·exact .inl ⟨y,D7 _ h⟩
  ·have e:=Aw.mp h
   rcases TL y with rfl | ⟨z,a,rfl⟩
   ·exact .inr (by simpa using e)
   ·(replace e:=TM▸e;rewrite [←Dt] at e)
    exact .inl ⟨z,D8 _ (by refine rwl (aZ e rfl) ?_;simp)⟩
 ·rintro(⟨y,h⟩ | rfl)
  ·rcases BD.mp h with h | h
   ·exact⟨y,D7 _ h⟩
   ·exact⟨y++[v],D8 _ (by refine rwr (Dt ..) (rwl (Aw.mp h) ?_);simp)⟩
  ·exact⟨[],by simp⟩
theorem iA{s0 s:St}{A:Rows}{w:List Int}{v:Int}{ρ:List Int→AA}(F:IL s0 s (A++[w]) ρ)(hl:A.length≤1000):
  ∃ρ' t,Ec (.ref (ρ w)) "setdefault" [.int v,.ref s.length] (s++[.dict [] 0])=some (.ref (ρ' (w++[v])),t)∧IL s0 t (A++[w++[v]]) ρ'∧ρ' []=ρ []:=by
 have pw:Pres (A++[w]) w:=⟨[],by simp⟩
 refine exE (F.obj w pw) λep e=>?_
 have hw:=BI e
 have e1:(s++[O.dict [] 0])[ρ w]? =_:=(C6 hw).trans e
 have hc:=jW (A++[w]) w
 replace hc:=GR▸Au▸hc
 refine rwl (MK e1 rfl (by refine rwl (AY ..) ?_;omega)) (rwl (Me (f:=λk=>V.ref (ρ (w++[k])))) ?_)
 have kp:Keep nk s0 (s++[.dict [] 0]):=F.keep.trans (Keep.push _)
 by_cases hv:v∈kids (A++[w]) w
 ·refine rwl (AM hv) ?_
  have hk:∀p,kids (A++[w++[v]]) p=kids (A++[w]) p:=λp=>by
   refine rwl (VJ ..) ?_
   split
   ·rename_i h;subst h;(refine rwl JV (rwl (AM hv) ?_);rfl)
   ·rfl
  have hp:∀p,Pres (A++[w++[v]]) p→Pres (A++[w]) p:=λp h=>(Jn.mp h).elim id λe=>e▸NC hv
  refine⟨ρ,_,rfl,⟨kp,λp h=>?_,λp q h1 h2=>F.inj p q (hp p h1) (hp q h2),λp h=>F.lo p (hp p h)⟩,rfl⟩
  refine exE (F.obj p (hp p h)) λep e=>?_
  refine rwl (hk ..) ?_
  exact⟨ep,(C6 (BI e)).trans e⟩
 ·refine rwl (AO hv) ?_
  have np:¬Pres (A++[w]) (w++[v]):=λh=>hv h.up
  have ho:∀p,Pres (A++[w]) p→p≠w++[v]:=λp h e=>np (e▸h)
  generalize hρ:(λp=>if p=w++[v] then s.length else ρ p)=ρ'
  have r1:ρ' (w++[v])=s.length:=by refine rwr hρ ?_;exact AM rfl
  have r2:∀p,p≠w++[v]→ρ' p=ρ p:=λp h=>by refine rwr hρ ?_;exact AO h
  have lt:∀p,Pres (A++[w]) p→ρ p<s.length:=λp h=>(F.obj p h).elim λ_ e=>BI e
  refine⟨ρ',_,by(refine rwl r1 ?_;rfl),⟨kp.set_new (F.lo w pw),λp h=>?_,λp q h1 h2 e=>?_,λp h=>?_⟩,r2 [] (by simp)⟩
  ·refine rwl (VJ ..) ?_
   rcases Jn.mp h with h | rfl
   ·have hkp:∀k∈kids (A++[w]) p,ρ' (p++[k])=ρ (p++[k]):=λk hk=>r2 _ (ho _ (NC hk))
    have em:∀K:List Int,(∀k∈K,ρ' (p++[k])=ρ (p++[k]))→(K.map λk=>(V.int k,V.ref (ρ' (p++[k]))))=K.map λk=>(V.int k,V.ref (ρ (p++[k]))):=λK h=>DE λk hk=>by(refine rwl (h k hk) ?_;rfl)
    refine rwl (r2 p (ho p h)) ?_
    by_cases hpw:p=w
    ·subst hpw
     refine⟨ep+1,?_⟩
     (refine rwl (AM rfl) (rwl JV (rwl (AO hv) (rwl BS (rwl (em _ hkp) (rwl (RB (by refine rwl Au ?_;omega)) (rwl O7 (rwl r1 ?_)))))));rfl)
    ·refine exE (F.obj p h) λep2 e2=>?_
     refine⟨ep2,?_⟩
     refine rwl (AO hpw) (rwl (em _ hkp) (rwl (Bl (λz=>hpw (F.inj _ _ pw h z).symm)) (rwl (C6 (lt p h)) ?_)))
     exact e2
   ·have hnil:kids (A++[w]) (w++[v])=[]:=MG.mpr λk hk=>np (NC hk).left
    refine⟨0,?_⟩
    refine rwl (AO (by simp)) (rwl hnil (rwl r1 (rwl (Bl (by omega)) ?_)))
    simp
  ·rcases Jn.mp h1 with h1 | rfl
   ·replace e:=r2 p (ho p h1)▸e
    rcases Jn.mp h2 with h2 | rfl
    ·replace e:=r2 q (ho q h2)▸e;exact F.inj p q h1 h2 e
    ·replace e:=r1▸e;have:=lt p h1;omega
   ·replace e:=r1▸e
    rcases Jn.mp h2 with h2 | rfl
    ·replace e:=r2 q (ho q h2)▸e;have:=lt q h2;omega
    ·rfl
  ·rcases Jn.mp h with h | rfl
   ·refine rwl (r2 p (ho p h)) ?_;exact F.lo p h
   ·refine rwl r1 ?_;exact F.keep.len
theorem ji{s0 s:St}{W:Rows}{ρ:List Int→AA}(F:IL s0 s W ρ)(h:Pres W []):IL s0 s (W++[[]]) ρ:=by
 have hp:∀p,Pres (W++[[]]) p→Pres W p:=λp zq1=>zq1.elim λy hy=>by
  rcases BD.mp hy with hy | hy
  ·exact⟨y,hy⟩
  ·have:=Aw.mp hy
   rw [af] at this
   refine rwl this.1 ?_;exact h
 refine⟨F.keep,λp h=>?_,λp q h1 h2=>F.inj p q (hp p h1) (hp q h2),λp h=>F.lo p (hp p h)⟩
 refine exE (F.obj p (hp p h)) λep e=>?_
 have:kids (W++[[]]) p=kids W p:=by
  refine rwl (Qx ..) ?_
  cases p<;>rfl
 refine rwl this ?_;exact⟨ep,e⟩
end Mine
namespace Mine
theorem gd{s0 s:St}{R:Rows}{ρ:List Int→AA}(F:IL s0 s ([]::R) ρ):∀(d:AA) (p:List Int),Pres ([]::R) p→(∀x∈sub R p,x.length=d)→Trie s s0.length s.length d (sub R p) (ρ p):=by
 have ek:∀p,kids ([]::R) p=A9 (sub R p):=λp=>by
  cases p with
  | nil=>rfl
  | cons a p=>rfl
 intro d
 induction d with
 | zero=>
  intro p h hd
  refine exE (F.obj p h) λep e=>?_
  have:A9 (sub R p)=[]:=MG.mpr λk hk=>by
   refine exE (Hd.mp hk) λy hy=>?_
   have:=hd _ hy
   simp at this
  (rewrite [ek] at e;replace e:=this▸e)
  exact⟨F.lo p h,BI e,ep,e⟩
 | succ d ih=>
  intro p h hd
  refine exE (F.obj p h) λep e=>?_
  have hk:∀k∈A9 (sub R p),Trie s s0.length s.length d (Cu (sub R p) k) (ρ (p++[k])):=λk hk=>by
   have:=IZ (k:=k) hd
   rw [cC] at this ⊢
   exact ih _ (NC (by refine rwl (ek ..) ?_;exact hk)) this
  rw [ek] at e
  exact⟨F.lo p h,BI e,λk=>ρ (p++[k]),ep,e,hk⟩
theorem C4{s:St}{r:AA}{xs:List V}(h:s[r]? =some (.list xs)):LS (.ref r) s=some (xs,some r):=Bu h
theorem Cy{s t:St}{r:AA}{xs:List V}(h:s[r]? =some (.list xs))(h':t[r]? =some (.list xs)):Bd (some r) s t=true:=by
 show(match s[r]? with | none=>false | some a=>match t[r]? with | none=>false | some b=>JZ a b)=true
 refine rwl h (rwl h' ?_);exact V.beqL_self xs
section
variable{n:AA}{s:St}
theorem UW{r d:AA}{R:Rows}{Q:QV}(h:s[r]? =some (.list (R.map Ag)))(hd:∀x∈R,x.length=d)(hl:R.length≤500)
  (q:∀a t,Keep nk s t→Trie t s.length t.length d R a→Q (.ref a) t):wC (n+1) "trie_of" [.ref r] s Q:=by
 refine BH (b:=V5) rfl rfl rfl (Is.it rfl ⟨rfl,?_⟩)
 have h1:(s++[O.dict [] 0])[r]? =some (.list (R.map Ag)):=(Keep.push (X:=nk) _).at h
 refine Is.it (C4 h1) (Eg (λi env t=>env "found"=some (.ref s.length)∧∃ρ,ρ []=s.length∧IL s t ([]::R.take i) ρ) ⟨rfl,λ_=>s.length,rfl,?_⟩ (λi env t j=>j.2.elim λρ F=>Cy h1 (F.2.keep.at h)) (λi row env t er j T hT=>?_) λenv t j=>?_)
 ·have hp:∀p,Pres ([]::R.take 0) p→p=[]:=λp zq1=>zq1.elim λy hy=>(af.mp ((Ak.mp hy).elim id λh=>xM h)).1
  refine⟨Keep.push _,λp h=>?_,λp q h1 h2 _=>(hp p h1).trans (hp q h2).symm,λp h=>Aj _⟩
  refine rwl (hp p h) ?_;exact⟨0,Af⟩
 ·obtain⟨hf,ρ,h0,F⟩:=j
  have F0:=ji F ⟨[],Ah⟩
  have tk:=CW er
  have hl':([]::R.take i:Rows).length≤1000:=by refine rwl Co (rwl FC ?_);omega
  refine nm hf (Is.it (a:=(row.map V.int,none)) rfl (Eg (λj env t=>env "found"=some (.ref s.length)∧∃ρ,ρ []=s.length∧IL s t (([]::R.take i)++[row.take j]) ρ∧env "here"=some (.ref (ρ (row.take j))))
   ⟨hf,ρ,h0,F0,by refine rwl List.take_zero (rwl h0 ?_);rfl⟩ (λ_ _ _ _=>rfl) (λj v env t ev k T hT=>?_) λenv t k=>?_))
  ·obtain⟨hf,ρ,h0,F,hh⟩:=k
   have tk:=CW ev
   refine exE (F.obj (row.take j) ⟨[],D8 _ ((Bo _).symm▸Ah)⟩) λep eo=>?_
   refine BO (iA F hl' (v:=v)) λρ' t' em F' h0'=>?_
   exact nm hh (Is.it (Js eo) (Is.it rfl ⟨rfl,Jc ((Keep.push (X:=nk) _).at eo),Is.it em (hT _ _ ⟨hf,ρ',h0'.trans h0,tk▸F',tk▸rfl⟩)⟩))
  ·obtain⟨hf,ρ,h0,F,_⟩:=k
   replace F:=Cr▸F
   exact hT _ _ ⟨hf,ρ,h0,tk▸F⟩
 ·obtain⟨hf,ρ,h0,F⟩:=j
  replace F:=Cr▸F
  refine nm hf (q _ _ F.keep ?_)
  have:=gd F d [] ⟨[],Ah⟩ (by simpa [sub,Cn] using hd)
  replace this:=h0▸this
  simpa [sub,Cn] using this
theorem Tv{s:St}{n:AA}:∀{a b:List Int},eqL (eqR (n+1) s) (a.map V.int) (b.map V.int)=some (decide (a=b))
 | [],[]=>rfl
 | [],_::_=>rfl
 | _::_,[]=>rfl
 | x::a,y::b=>by
  (refine rwl BF (rwl BF ?_);rewrite [eqL])
  show(some (decide (x=y))).bind _=_
  refine rwl (KV ..) (rwl Tv (rwl (KV ..) ?_))
  by_cases h:x=y<;>by_cases h2:a=b<;>simp [h,h2]
theorem U3{s:St}{n:AA}{a b:List Int}:eqR (n+2) s (Ag a) (Ag b)=some (decide (a=b)):=Tv
theorem Nh{f:V→AH AL}{g:V→AL}:∀{l:List V},(∀x∈l,f x=some (g x))→Gk f l=some (l.map g)
 | [],_=>rfl
 | x::l,h=>by
  (rewrite [Gk];refine rwl (h x Ah) (rwl (Nh λy hy=>h y (Am _ hy)) ?_));rfl
theorem iX{s:St}{v:Int}{l:List Int}:inL (eqR Bv s) (.int v) (l.map V.int)=some (decide (v∈l)):=by
 unfold inL
 refine rwl (Nh (g:=λy=>match y with | .int i=>decide (i=v) | _=>false) (λx hx=>by(refine AJ (Ay.mp hx) ?_;intro i _ z0;subst z0);rfl)) (rwl (ah ..) ?_)
 congr 1
 refine rwl CQ ?_
 induction l with
 | nil=>rfl
 | cons a l ih=>
  refine rwl BF (rwl TA (rwl ih ?_))
  by_cases h:a=v<;>simp [h,eq_comm]
theorem EG{s:St}{r:AA}{xs:List V}{v:V}(h:s[r]? =some (.list xs))(hf:xs.length≤100000):Ec (.ref r) "append" [v] s=some (.none,s.set r (.list (xs++[v]))):=by
 exact(Bu h).trans ((AM rfl).trans (AM (Bt hf)))
theorem LG{s:St}{r ep:AA}{es:List (V×V)}{k v:V}(h:s[r]? =some (.dict es ep))(hk:k.simple=true)(hf:es.length≤100000):
  JU (.ref r) k v s=some (s.set r (.dict (CD k v es) (if(Aa k es).isSome then ep else ep+1))):=by
 exact(EX h).trans (AM (Ac.mpr ⟨hk,Bt hf⟩))
theorem NU{k v:V}:∀{es:List (V×V)},Aa k es=none→CD k v es=es++[(k,v)]
 | [],_=>rfl
 | (a,w)::es,h=>by
  unfold Aa at h
  unfold CD
  split at h
  ·cases h
  ·rename_i q;refine rwl (AO q) (rwl (NU h) ?_);rfl
theorem Md{s:St}{x:V}{l:List V}{Q:QV}(h:l.length≤90000)(q:Q (.tup l) s):Is (EV (.tup (x::l)) (some (.int 1)) none s) (pr Q):=by
 have e:EV (.tup (x::l)) (some (.int 1)) none s=some (.tup l,s):=by
  refine(AM (Ac.mpr ⟨An (CJ (BL _)),An (Aj _)⟩)).trans ?_
  unfold EC cut
  refine rwl Cr ?_
  exact AM (Bt (AR h (by decide)))
 exact Is.it e q
theorem Rb{s:St}{h:Int}{t:List Int}:CP (Ag (h::t)) (.int 0) s=some (.int h):=rfl
theorem at_last{s t:St}{o:O}(e:t=s++[o]):t[s.length]? =some o:=by refine rwl e ?_;exact Af
theorem m8{R:Rows}{i:AA}{row:List Int}(e:R[i]? =some row):A9 (R.take (i+1))=EF (A9 (R.take i)) row:=by
 refine rwl O4 (rwl e ?_);exact W4 _ _
theorem nO{R:Rows}{i:AA}{row:List Int}{k:Int}(e:R[i]? =some row):Cu (R.take (i+1)) k=Cu (R.take i) k++(Cn [k] row).toList:=by
 refine rwl O4 (rwl e ?_);exact YO _ _ _
theorem fj{s:St}{r:AA}{v:Int}{l:List Int}(h:s[r]? =some (.list (l.map V.int))):Ct .nin (.int v) (.ref r) s=some (!decide (v∈l)):=by
 show(atO s[r]? (λxs=>inL (eqR Bv s) (.int v) xs) _).map _=_
 refine rwl (Bu h) (rwl iX ?_);rfl
theorem EM{s:St}{i:AA}{o o':O}(h:s[i]? =some o):(s.set i o')[i]? =some o':=RB (BI h)
structure Lb(s:St)(r:AA)(hs:List Int)(env:Env)(t:St):Prop where
 e1:env "heads"=some (.ref s.length)
 e2:env "found"=some (.ref (s.length+1))
 e3:env "rows"=some (.ref r)
 K:Keep nk s t
 b1:t[s.length]? =some (.list (hs.map V.int))
noncomputable def HS(c:Int→AA)(l:List Int):List (V×V):=l.map λk=>(.int k,.ref (c k))
theorem dJ{c c':Int→AA}{l:List Int}{k:Int}(h:∀x∈l,c' x=c x):HS c l++[(.int k,.ref (c' k))]=HS c' (l++[k]):=by
 unfold HS
 refine rwl BS ?_
 exact AW (· ++_) (DE λx hx=>by(refine rwl (h x hx) ?_;rfl))
theorem Xh{l:List Int}{k:Int}(c:Int→AA)(a:AA)(h:k∉l):∃c':Int→AA,c' k=a∧∀x∈l,c' x=c x:=⟨λx=>if x=k then a else c x,AM rfl,λx hx=>AO λ(q:x=k)=>h (q▸hx)⟩
theorem Xc{l:List Int}(hn:l.Nodup){i:AA}{k:Int}(e:l[i]? =some k):k∉l.take i:=λhm=>by
 have h1:=hn.sublist (List.take_sublist (i+1) l)
 replace h1:=CW e▸h1
 exact(GD.mp h1).2.2 k hm k Ah rfl
theorem ig{R:Rows}{k:Int}:(R.filter λrow=>decide (row.head? =some k)).map (λrow=>Ag row.tail)=(Cu R k).map Ag:=by
 induction R with
 | nil=>rfl
 | cons row R ih=>
  cases row with
  | nil=>exact ih
  | cons x tl=>
   by_cases hx:x=k
   ·refine rwl O5 (rwl (AM (show decide ((x::tl).head? =some k)=true from An (AW some hx))) (rwl BF (rwl ih (rwl (show Cu ((x::tl)::R) k=tl::Cu R k from H6 (Dk.mpr (hx▸rfl))) ?_))));rfl
   ·(refine rwl O5 (rwl (AO (λz:decide ((x::tl).head? =some k)=true=>hx (AV (BC z)))) (rwl ih (rwl (show Cu ((x::tl)::R) k=Cu R k from OV (AO (Bq hx))) ?_)));rfl)
theorem UM{m d r:AA}{s:St}{R:Rows}{P:St→Int→AA→Prop}{Q:QV}(h:s[r]? =some (.list (R.map Ag)))(hd:∀x∈R,x.length=d)(hl:R.length≤500)(h50:d≤50)
  (pk:∀k t t' a,Keep nk t t'→P t k a→P t' k a) (pe:∀k t t' a,t.length=t'.length→(∀i,s.length+2≤i→t'[i]? =t[i]?)→P t k a→P t' k a)
  (rec:∀k∈A9 R,∀(t:St) (r':AA) (Q:QV),s.length+2≤t.length→t[r']? =some (.list ((Cu R k).map Ag))→(∀a u,Keep nk t u→P u k a→Q (.ref a) u)→wC m "_law_laid" [.ref r'] t Q)
  (q:∀(t:St) (c:Int→AA) (ep:AA),Keep nk s t→t[s.length+1]? =some (.dict (HS c (A9 R)) ep)→(∀k∈A9 R,P t k (c k))→Q (.ref (s.length+1)) t):wC (m+1) "_law_laid" [.ref r] s Q:=by
 refine BH (b:=Wz) rfl rfl rfl ⟨rfl,Is.it rfl ⟨rfl,rfl,Is.it rfl ?_⟩⟩
 have hf:(s++[O.list []]).length=s.length+1:=Au
 have a1:(s++[O.list []]++[O.dict [] ([]:List (V×V)).length])[s.length]? =some (.list []):=(Keep.push (X:=nk) _).at Af
 have a2:(s++[O.list []]++[O.dict [] ([]:List (V×V)).length])[s.length+1]? =some (.dict [] 0):=hf▸Af
 have k1:Keep nk s (s++[O.list []]++[O.dict [] ([]:List (V×V)).length]):=(Keep.push _).trans (Keep.push _)
 generalize s++[O.list []]++[O.dict [] ([]:List (V×V)).length]=s1 at a1 a2 k1 ⊢
 have hc:=NQ R
 refine Is.it (C4 (k1.at h)) (Eg (λi env t=>Lb s r (A9 (R.take i)) env t∧t[s.length+1]? =some (.dict [] 0)) ⟨⟨rfl,hf▸rfl,rfl,k1,a1⟩,a2⟩
  (λi env t j=>Cy (k1.at h) (j.1.K.at h)) (λi row env t er j T hT=>?_) λenv t j=>?_)
 ·have L:=j.1
  have ht:=m8 er
  refine⟨rfl,Is.it (a:=!decide (row=[])) (AW (IA not) (U3 (b:=[]))) ?_⟩
  cases row with
  | nil=>exact hT _ _ ⟨ht▸⟨L.e1,L.e2,L.e3,L.K,L.b1⟩,j.2⟩
  | cons x tl=>
   replace ht:=JV▸ht
   refine Is.it Rb (nm L.e1 (Is.it (fj L.b1) ?_))
   by_cases hx:x∈A9 (R.take i)
   ·replace ht:=AM hx▸ht
    refine rwl (An hx) ?_
    exact hT _ _ ⟨ht▸⟨L.e1,L.e2,L.e3,L.K,L.b1⟩,j.2⟩
   ·replace ht:=AO hx▸ht
    refine rwl (B5 hx) ?_
    have hh:(A9 (R.take i)).length≤500:=AR (NQ _) (AR (FC▸SU _ _) hl)
    refine nm L.e1 (Is.it (DQ L.b1) (Is.it Rb ⟨DO L.b1,Is.it (EG L.b1 (by refine rwl (AY ..) ?_;omega)) (hT _ _ ⟨⟨L.e1,L.e2,L.e3,L.K.set_new (Aj _),?_⟩,?_⟩)⟩))
    ·refine rwl (EM L.b1) (rwl ht (rwl BS ?_));rfl
    ·refine rwl (Bl (BP (DZ _))) ?_;exact j.2
 ·have L:=j.1
  replace L:=Cr▸L
  refine nm L.e1 (Is.it (C4 L.b1) (Eg (λi env u=>Lb s r (A9 R) env u∧∃c ep,u[s.length+1]? =some (.dict (HS c ((A9 R).take i)) ep)∧∀k∈(A9 R).take i,P u k (c k))
   ⟨L,λ_=>0,0,j.2,λ_ h=>xM h⟩ (λi env u j=>Cy L.b1 j.1.b1) (λi k env u ek j T hT=>?_) λenv u j=>?_))
  ·obtain⟨L,c,ep,c2,c3⟩:=j
   have hk:k∈A9 R:=Bx ek
   have hr0:=L.K.at h
   refine nm L.e3 (Is.it (C4 hr0) (JN (λrow=>Ag row.tail) (λrow=>decide (row.head? =some k)) _ (λ_=>rfl) (by omega) (Cy hr0 hr0) (λrow hm Y N hY hN=>?_) ?_))
   ·have hr:=hd _ hm
    cases row with
    | nil=>
     refine exE (Hd.mp hk) λy hy=>?_
     exact absurd ((hd _ hy).trans hr.symm) (Zy _)
    | cons x tl=>
     refine Is.it Rb (Is.it (a:=decide (x=k)) rfl ?_)
     by_cases hx:x=k
     ·refine rwl (An hx) ?_
      exact Md (by refine rwl (AY ..) ?_;have:tl.length+1=d:=hr;omega) (hY (An (AW some hx)))
     ·refine rwl (B5 hx) ?_
      exact hN (B5 λz=>hx (AV z))
   ·refine rwl ig ?_
    refine rec k hk _ _ _ (AR (BI c2) (Keep.push (X:=nk) _).len) Af λa w Kw Pw=>?_
    have Kv:Keep nk u w:=(Keep.push _).trans Kw
    have d2:=Kv.at c2
    have hki:=Xc (Qr R) ek
    have hg:Aa (.int k) (HS c ((A9 R).take i))=none:=(Me (f:=λk=>V.ref (c k))).trans (AO hki)
    (refine AJ (Xh c a hki) ?_;intro c' z1;subst z1;intro cx)
    have hlen:(HS c ((A9 R).take i)).length≤100000:=by unfold HS;refine rwl (AY ..) (rwl FC ?_);omega
    have hset:=LG (v:=.ref (c' k)) d2 (k:=.int k) rfl hlen
    replace hset:=Cq (CW ek)▸dJ cx▸NU hg▸hg▸hset
    refine nm L.e2 (Is.it hset (hT _ _ ⟨⟨L.e1,L.e2,L.e3,(L.K.trans Kv).set_new (Et _),(Bl (TB _)).trans (Kv.at L.b1)⟩,c',ep+1,EM d2,λx hx=>?_⟩))
    refine pe x w _ _ Gz.symm (λi hi=>Bl (BP hi)) ?_
    replace hx:=CW ek▸hx
    rcases BD.mp hx with hx | hx
    ·refine rwl (cx x hx) ?_
     exact pk x u w _ Kv (c3 x hx)
    ·refine rwl (Aw.mp hx) ?_;exact Pw
  ·obtain⟨L,c,ep,c2,c3⟩:=j
   rw [Cr] at c2 c3
   exact nm L.e2 (q _ c ep L.K c2 c3)
theorem bw:∀{d n:AA} {s:St} {r:AA} {R:Rows} {Q:QV},s[r]? =some (.list (R.map Ag))→(∀x∈R,x.length=d)→R.length≤500→d≤50→
  (∀a t,Keep nk s t→Trie t s.length t.length d R a→Q (.ref a) t)→wC (n+d+1) "_law_laid" [.ref r] s Q:=by
 intro d
 induction d with
 | zero=>
  intro n s r R Q h hd hl h50 q
  have hn:A9 R=[]:=MG.mpr λk hk=>by
   refine exE (Hd.mp hk) λy hy=>?_
   have:=hd _ hy
   simp at this
  refine UM (P:=λ_ _ _=>FG) h hd hl h50 (λ_ _ _ _ _ h=>h) (λ_ _ _ _ _ _ h=>h) (λk hk=>by replace hk:=hn▸hk;cases hk) λt c ep K e _=>q _ _ K ?_
  replace e:=hn▸e
  exact⟨Et _,BI e,ep,e⟩
 | succ d ih=>
  intro n s r R Q h hd hl h50 q
  refine UM (P:=λt k a=>Trie t (s.length+2) t.length d (Cu R k) a) h hd hl h50 (λk t t' a K T=>(T.keep K λ_ _ _=>id).wide (Aj _) K.len) (λk t t' a e1 e2 T=>?_) (λk hk t r' Q hle e q=>?_) λt c ep K e hP=>q _ _ K ?_
  ·have K:Keep (λi=>i<s.length+2) t t':=⟨Bk e1,λi hi hn=>e2 i (Ds hn)⟩
   refine rwr e1 ?_;exact T.keep K λi h1 _=>SO.mpr h1
  ·refine rwl (show n+(d+1)=n+d+1 from rfl) ?_
   exact ih e (IZ hd) (AR (PX R k) hl) (by omega) λa u Ku T=>q a u Ku (T.wide hle (Aj _))
  ·exact⟨Et _,BI e,c,ep,e,λk hk=>(hP k hk).wide (by omega) (Aj _)⟩
end
end Mine
namespace Mine
noncomputable def Seq(s:St)(lo hi:AA):AA→Rows→AA→Prop
 | 0,R,r=>lo≤r∧r<hi∧s[r]? =some (.list [])
 | d+1,R,r=>lo≤r∧r<hi∧∃(c:Int→AA),s[r]? =some (.list ((A9 R).map λk=>.tup [.int k,.ref (c k)]))∧∀k∈A9 R,Seq s lo hi d (Cu R k) (c k)
theorem Seq.keep{s t:St}{lo hi:AA}{X:AA→Prop}(K:Keep X s t)(hX:∀i,lo≤i→i<hi→¬X i):∀{d:AA} {R:Rows} {r:AA},Seq s lo hi d R r→Seq t lo hi d R r
 | 0,R,r,⟨h1,h2,e⟩=>⟨h1,h2,K.get e (hX r h1 h2)⟩
 | d+1,R,r,⟨h1,h2,c,e,h⟩=>⟨h1,h2,c,K.get e (hX r h1 h2),λk hk=>(h k hk).keep K hX⟩
theorem Seq.wide{s:St}{lo hi lo' hi':AA}(h1:lo'≤lo)(h2:hi≤hi'):∀{d:AA} {R:Rows} {r:AA},Seq s lo hi d R r→Seq s lo' hi' d R r
 | 0,R,r,⟨a,b,e⟩=>⟨AR h1 a,Bg b h2,e⟩
 | d+1,R,r,⟨a,b,c,e,h⟩=>⟨AR h1 a,Bg b h2,c,e,λk hk=>(h k hk).wide h1 h2⟩
theorem RP{s:St}{r ep:AA}{K:List Int}{f:Int→V}(h:s[r]? =some (.dict (K.map λk=>(.int k,f k)) ep)):LS (.ref r) s=some (K.map V.int,some r):=by
 refine(EX h).trans ((AM (BE.mpr λx hx=>by(refine AJ (Ay.mp hx) ?_;intro k _ z2;subst z2);rfl)).trans ?_)
 refine rwl CQ ?_;rfl
theorem Pk{s t:St}{r ep:AA}{es:List (V×V)}(h:s[r]? =some (.dict es ep))(h':t[r]? =some (.dict es ep)):Bd (some r) s t=true:=by
 show(match s[r]? with | none=>false | some a=>match t[r]? with | none=>false | some b=>JZ a b)=true
 refine rwl h (rwl h' ?_)
 exact Ac.mpr ⟨V.beqL_self _,An rfl⟩
theorem Xl{s:St}{r ep:AA}{K:List Int}{f:Int→V}{k:Int}(h:s[r]? =some (.dict (K.map λk=>(.int k,f k)) ep))(hk:k∈K):CP (.ref r) (.int k) s=some (f k):=
 (EX h).trans ((AM rfl).trans (Me.trans (AM hk)))
theorem nQ{R:Rows}(hd:∀x∈R,x.length=0):A9 R=[]:=MG.mpr λk hk=>by
 refine exE (Hd.mp hk) λy hy=>?_
 have:=hd _ hy
 simp at this
section
theorem jR{d:AA}:∀{n:AA} {s:St} {lo hi a:AA} {R:Rows} {Q:QV},Trie s lo hi d R a→R.length≤500→
  (∀b t,Keep nk s t→Seq t s.length t.length d R b→Q (.ref b) t)→wC (n+d+1) "_law_sequence" [.ref a] s Q:=by
 induction d with
 | zero=>
  intro n s lo hi a R Q T hl q
  obtain⟨_,_,ep,e⟩:=T
  exact BH (b:=RU) rfl rfl rfl (Is.it (RP (K:=[]) (f:=λ_=>.none) e) ⟨Pk e e,q _ _ (Keep.push _) ⟨Aj _,BI Af,Af⟩⟩)
 | succ d ih=>
  intro n s lo hi a R Q T hl q
  obtain⟨_,_,c,ep,e,hT⟩:=T
  have hc:=NQ R
  refine BH (b:=RU) rfl rfl rfl (Is.it (RP e) (IU (λi acc t=>Keep nk s t∧∃c',acc=((A9 R).take i).map (λk=>V.tup [.int k,.ref (c' k)])∧∀k∈(A9 R).take i,Seq t s.length t.length d (Cu R k) (c' k))
   _ (λ_=>rfl) (by omega) ⟨Keep.refl,λ_=>0,rfl,λ_ h=>xM h⟩ (λi acc t j=>Pk e (j.1.at e)) (λi k acc t ek j Y N hY _=>?_) λys t j=>?_))
  ·obtain⟨K,c',h1,h2⟩:=j
   have hk:k∈A9 R:=Bx ek
   refine Is.it (Xl (K.at e) hk) (ih (n:=n) ((hT k hk).keep K λ_ _ _=>id) (AR (PX R k) hl) λb u Ku Sb=>⟨rfl,hY _ _ ⟨K.trans Ku,?_⟩⟩)
   refine AJ (Xh c' b (Xc (Qr R) ek)) λc2 ck cx=>?_
   refine⟨c2,?_,λx hx=>?_⟩
   ·refine rwl (CW ek) (rwl BS (rwl O7 (rwl ck (rwl h1 ?_))))
    exact AW (· ++_) (DE λx hx=>by(refine rwl (cx x hx) ?_;rfl))
   ·replace hx:=CW ek▸hx
    rcases BD.mp hx with hx | hx
    ·refine rwl (cx x hx) ?_;exact((h2 x hx).keep Ku λ_ _ _=>id).wide (Aj _) Ku.len
    ·refine rwl (Aw.mp hx) (rwl ck ?_);exact Sb.wide K.len (Aj _)
  ·obtain⟨K,c',h1,h2⟩:=j
   rw [Cr] at h1 h2
   exact q _ _ (K.trans (Keep.push _)) ⟨K.len,BI Af,c',h1▸Af,λk hk=>((h2 k hk).keep (X:=nk) (Keep.push _) λ_ _ _=>id).wide (Aj _) (Keep.push (X:=nk) _).len⟩
end
theorem jw{f:V→V→AH AL}{K:List Int}{g h:Int→V}{L:List Int}(hm:∀k∈L,k∈K)(he:∀k∈L,f (h k) (g k)=some true):eqD f (K.map λk=>(.int k,g k)) (L.map λk=>(.int k,h k))=some true:=by
 induction L with
 | nil=>rfl
 | cons k L ih=>
  (refine rwl BF ?_;rewrite [eqD];refine rwl Me (rwl (AM (hm k Ah)) ?_))
  show(f (h k) (g k)).bind _=_
  refine rwl (he k Ah) (rwl (ih (λk hk=>hm k (Am _ hk)) λk hk=>he k (Am _ hk)) ?_);rfl
theorem M8{lo hi lo' hi' a b:AA}(h1:lo≤a)(h2:a<hi)(h3:lo'≤b)(h4:b<hi')(h:hi≤lo'∨hi'≤lo):¬a=b:=λe=>h.elim (λh=>CY a (Bg h2 (AR h (e▸h3)))) λh=>CY a (Bg (e▸h4) (AR h h1))
theorem gX{K:List Int}{g h:Int→V}:((K.map λk=>(V.int k,g k)).all (λe=>e.1.isInt)&&(K.map λk=>(V.int k,h k)).all (λe=>e.1.isInt))=true:=by
 refine rwl (De ..) (rwi BE (rwi BE ?_))
 exact⟨λx hx=>by(refine AJ (Ay.mp hx) ?_;intro k _ z3;subst z3);rfl,λx hx=>by(refine AJ (Ay.mp hx) ?_;intro k _ z4;subst z4);rfl⟩
theorem mC{s:St}{m d:AA}:∀{lo hi lo' hi' a b:AA} {R:Rows},Trie s lo hi d R a→Trie s lo' hi' d R b→hi≤lo'∨hi'≤lo→eqR (m+d+1) s (.ref a) (.ref b)=some true:=by
 induction d with
 | zero=>
  intro lo hi lo' hi' a b R T T' h
  obtain⟨a1,a2,ep,e⟩:=T
  obtain⟨b1,b2,ep',e'⟩:=T'
  exact(AO (M8 a1 a2 b1 b2 h)).trans ((EX e).trans ((EX e').trans rfl))
 | succ d ih=>
  intro lo hi lo' hi' a b R T T' h
  obtain⟨a1,a2,c,ep,e,hT⟩:=T
  obtain⟨b1,b2,c',ep',e',hT'⟩:=T'
  refine(AO (M8 a1 a2 b1 b2 h)).trans ((EX e).trans ((EX e').trans ((AM gX).trans ?_)))
  refine rwl (AM (by(refine rwl (AY ..) (rwl (AY ..) ?_);rfl))) ?_
  exact jw (λk hk=>hk) λk hk=>ih (hT k hk) (hT' k hk) h
theorem Rf{f:V→V→AH AL}{a b:V}{l m:List V}(e:f a b=some true)(r:eqL f l m=some true):eqL f (a::l) (b::m)=some true:=by
 show(f a b).bind _=_
 refine rwl e (rwl (KV ..) (rwl r ?_));rfl
theorem eY{f:V→V→AH AL}{g h:Int→V}{L:List Int}:(∀k∈L,f (g k) (h k)=some true)→eqL f (L.map g) (L.map h)=some true:=by
 induction L with
 | nil=>exact λ_=>rfl
 | cons k L ih=>exact λhe=>Rf (he k Ah) (ih λk hk=>he k (Am _ hk))
theorem mX{s:St}{m d:AA}:∀{lo hi lo' hi' a b:AA} {R:Rows},Seq s lo hi d R a→Seq s lo' hi' d R b→hi≤lo'∨hi'≤lo→eqR (m+2*d+1) s (.ref a) (.ref b)=some true:=by
 induction d with
 | zero=>
  intro lo hi lo' hi' a b R T T' h
  (refine A7 T ?_;clear T;intro a1 a2 e)
  (refine A7 T' ?_;clear T';intro b1 b2 e')
  exact(AO (M8 a1 a2 b1 b2 h)).trans ((Bu e).trans ((Bu e').trans rfl))
 | succ d ih=>
  intro lo hi lo' hi' a b R T T' h
  obtain⟨a1,a2,c,e,hT⟩:=T
  obtain⟨b1,b2,c',e',hT'⟩:=T'
  refine(AO (M8 a1 a2 b1 b2 h)).trans ((Bu e).trans ((Bu e').trans ?_))
  refine rwl (AM (by(refine rwl (AY ..) (rwl (AY ..) ?_);rfl))) ?_
  refine eY λk hk=>?_
  exact Rf (a:=.int k) (b:=.int k) (show some (decide (k=k))=some true from AW some (An rfl)) (Rf (ih (hT k hk) (hT' k hk) h) (show eqL (eqR (m+2*d+1) s) [] []=some true from rfl))
end Mine
namespace Mine
noncomputable def EL:AA→Rows→Rows
 | 0,_=>[[]]
 | d+1,R=>(A9 R).flatMap λk=>(EL d (Cu R k)).map (k:: ·)
theorem Ij:∀{d:AA} {R:Rows} {x:List Int},(∀y∈R,y.length=d)→(R≠[]∨0<d)→(x∈EL d R↔x∈R)
 | 0,R,x,hd,hn=>by
  unfold EL
  refine rwi Aw ?_
  constructor
  ·rintro rfl
   refine exE (List.exists_mem_of_ne_nil R (hn.resolve_right (CY 0))) λy hy=>?_
   have:=hd y hy
   rw [Ln] at this
   exact this▸hy
  ·intro h
   exact Ln.mp (hd x h)
 | d+1,R,x,hd,_=>by
  unfold EL
  refine rwi O8 ?_
  constructor
  ·(intro zr23;(refine AJ zr23 ?_;clear zr23;intro k hk hx))
   (refine AJ (Ay.mp hx) ?_;intro y hy z5;subst z5)
   refine exE (Hd.mp hk) λz hz=>?_
   have:=(Ij (IZ hd) (.inl (TN (JW.mpr (show [k]++z∈R from hz))))).mp hy
   exact JW.mp this
  ·intro h
   cases x with
   | nil=>exact absurd (hd _ h) (by simp)
   | cons k y=>
    have hy:y∈Cu R k:=JW.mpr h
    exact⟨k,Hd.mpr ⟨y,h⟩,Ay.mpr ⟨y,(Ij (IZ hd) (.inl (TN hy))).mpr hy,rfl⟩⟩
theorem Tc{α:Type}{f:α→Rows}{g:α→Int}:∀{L:List α},(L.map g).Nodup→(∀k∈L,(f k).Nodup)→(∀k∈L,∀x∈f k,∃y,x=g k::y)→(L.flatMap f).Nodup
 | [],_,_,_=>El
 | k::L,h,h1,h2=>by
  refine rwl List.flatMap_cons (rwi GD ?_)
  (replace h:=BF▸h;rewrite [DS] at h)
  refine⟨h1 k Ah,Tc h.2 (λk hk=>h1 k (Am _ hk)) (λk hk=>h2 k (Am _ hk)),λa ha b hb e=>?_⟩
  (refine exE (h2 k Ah a ha) ?_;intro y z6;subst z6)
  refine AJ (O8.mp hb) λk' hk' hb=>?_
  (refine exE (h2 k' (Am _ hk') b hb) ?_;intro z z7;subst z7)
  injection e with e1 e2
  exact h.1 (Ay.mpr ⟨k',hk',e1.symm⟩)
theorem Qa{α β:Type}{f:α→β}(hf:∀a b,f a=f b→a=b):∀{l:List α},l.Nodup→(l.map f).Nodup
 | [],_=>El
 | a::l,h=>by
  rw [DS] at h
  refine rwl BF (rwi DS ?_)
  refine⟨λhm=>?_,Qa hf h.2⟩
  refine AJ (Ay.mp hm) λb hb e=>?_
  exact h.1 (hf _ _ e▸hb)
theorem PW:∀{d:AA} {R:Rows},(EL d R).Nodup
 | 0,R=>by simp [EL]
 | d+1,R=>by
  unfold EL
  refine Tc (g:=id) (by simpa using Qr R) (λk _=>Qa (λa b e=>by injection e) PW) λk _ x hx=>?_
  (refine AJ (Ay.mp hx) ?_;intro y _ z8;subst z8)
  exact⟨y,rfl⟩
theorem PU{α:Type}:∀{l m:List α},l.Nodup→m.Nodup→(∀a,a∈l↔a∈m)→l.Perm m
 | [],m,_,_,h=>by
  have:m=[]:=MG.mpr λa ha=>by have:=(h a).mpr ha;cases this
  (refine rwl this ?_;rfl)
 | a::l,m,h1,h2,h=>by
  (refine CU (ai ((h a).mp Ah)) ?_;intro s t z9;subst z9)
  rw [DS] at h1
  have h3:=(Lz (l₁:=s) (a:=a) (l₂:=t)).nodup_iff.mp h2
  rw [DS] at h3
  refine((PU h1.2 h3.2 λb=>?_).cons a).trans Lz.symm
  have hb:=h b
  rw [Lz.mem_iff,Ak,Ak] at hb
  constructor
  ·intro hm
   exact(hb.mp (.inr hm)).resolve_left (by rintro rfl;exact h1.1 hm)
  ·intro hm
   exact(hb.mpr (.inr hm)).resolve_left (by rintro rfl;exact h3.1 hm)
theorem NW{α:Type}{l m:List α}(h1:l.Nodup)(h:∀a∈l,a∈m):l.length≤m.length:=by
 induction l generalizing m with
 | nil=>simp
 | cons a l ih=>
  (refine CU (ai (h a Ah)) ?_;intro s t z0;subst z0)
  rw [DS] at h1
  have:=ih (m:=s++t) h1.2 λb hb=>by
   have:=h b (Am _ hb)
   rw [Lz.mem_iff,Ak] at this
   exact this.resolve_left (by rintro rfl;exact h1.1 hb)
  simp at this ⊢;omega
theorem Xj{d:AA}{R:Rows}(hd:∀y∈R,y.length=d)(hn:R≠[]∨0<d):(EL d R).length≤R.length:=NW PW λa ha=>(Ij hd hn).mp ha
section
theorem Mi{s:St}{a b:List Int}(h:(a++b).length≤100000):F8 .add (Ag a) (Ag b) s=some (Ag (a++b),s):=by
 show EC (a.map V.int++b.map V.int) s=_
 refine rwr BS ?_
 exact AM (Bt (AY (as:=a++b) V.int▸h))
theorem Wh{R:Rows}{k:Int}(hk:k∈A9 R):Cu R k≠[]:=(Hd.mp hk).elim λz hz=>TN (JW.mpr (show [k]++z∈R from hz))
noncomputable def JR(d:AA)(R:Rows)(k:Int):Rows:=(EL d (Cu R k)).map (k:: ·)
theorem iv{d:AA}:∀{n:AA} {s:St} {lo hi a:AA} {R:Rows} {Q:QV},Trie s lo hi d R a→(∀x∈R,x.length=d)→(R≠[]∨0<d)→R.length≤500→d≤50→
  (∀b t,Keep nk s t→t[b]? =some (.list ((EL d R).map Ag))→s.length≤b→Q (.ref b) t)→wC (n+d+1) "_law_ways" [.ref a,.int (d:AA)] s Q:=by
 induction d with
 | zero=>exact λT hd hn hl h50 q=>BH (b:=PZ) rfl rfl rfl (Is.it (a:=true) rfl ⟨rfl,rfl,q _ _ (Keep.push _) Af (Aj _)⟩)
 | succ d ih=>
  intro n s lo hi a R Q T hd hn hl h50 q
  obtain⟨_,_,c,ep,e,hT⟩:=T
  have hw:=Xj hd hn
  refine BH (b:=PZ) rfl rfl rfl (Is.it (a:=false) (AW some (B5 (by omega))) ?_)
  have hsum:∀i k,(A9 R)[i]? =some k→(((A9 R).take i).flatMap (JR d R)).length+(JR d R k).length≤500:=λi k ek=>by
   refine AR ?_ (AR hw hl)
   have h1:(((A9 R).take (i+1)).flatMap (JR d R)).length≤((A9 R).flatMap (JR d R)).length:=by
    refine rwr (JA (i+1) (A9 R)) (rwl IH (rwl Au (rwl (JA ..) ?_)));exact Bh _ _
   rwa [CW ek,IH,aj,Au] at h1
  refine Is.it (RP e) (Q9 (λi acc t=>Keep nk s t∧acc=(((A9 R).take i).flatMap (JR d R)).map Ag) _ (λ_=>rfl) ⟨Keep.refl,rfl⟩ (λi acc t j=>Pk e (j.1.at e)) (λi k acc t ek j T hT'=>?_) λys t j=>?_)
  ·(refine Bs j ?_;clear j;intro K z1;subst z1)
   have hk:k∈A9 R:=Bx ek
   have hwl:∀y∈EL d (Cu R k),y.length=d:=λy hy=>IZ hd _ ((Ij (IZ hd) (.inl (Wh hk))).mp hy)
   have hsb:F8 .sub (.int ((d+1:AA):Int)) (.int 1) t=some (.int (d:AA),t):=by
    (refine rwl (NP (by omega) (by omega)) (rwl (show((d+1:AA):Int)-1=(d:AA) by omega) ?_);rfl)
   refine Is.it (Xl (K.at e) hk) (Is.it hsb ?_)
   refine ih (n:=n) ((hT k hk).keep K λ_ _ _=>id) (IZ hd) (.inl (Wh hk)) (AR (PX R k) hl) (by omega) λb u Ku eb lb=>Is.it (C4 eb) (QB (λy=>Ag (k::y)) ?_ (Cy eb eb) (λy hy Y hY=>?_) (hT' _ _ ⟨K.trans Ku,?_⟩))
   ·have:=hsum i k ek
    unfold JR at this ⊢
    rw [AY] at this ⊢
    omega
   ·exact⟨rfl,Is.it (Mi (a:=[k]) (b:=y) (by have:=hwl y hy;refine rwl Au (rwl GR ?_);omega)) hY⟩
   ·refine rwl (CW ek) (rwl IH (rwl BS (rwl (aj ..) ?_)))
    exact AW (_++ ·) (CQ (f:=(k:: ·)) (g:=Ag)).symm
  ·(refine Bs j ?_;clear j;intro K z2;subst z2)
   refine rwl Cr ?_
   exact q _ _ (K.trans (Keep.push _)) Af K.len
end
end Mine
namespace Mine
theorem IS{l:List V}(h64:l.length<64)(C:Cmb l):Ei l=some (Dj l):=by
 unfold Ei
 rw [AM]
 refine rwl (De ..) (rwi BE ?_)
 exact⟨An h64,λa ha=>BE.mpr λb hb=>C a ha b hb⟩
theorem dw{l m:List V}(hp:l.Perm m)(h64:l.length<64)(C:Cmb l):∃ys,Ei l=some ys∧Ei m=some ys∧ys.Perm l:=by
 have C':Cmb m:=λa ha b hb=>C a (hp.mem_iff.mpr ha) b (hp.mem_iff.mpr hb)
 refine⟨Dj l,IS h64 C,?_,FN l⟩
 refine rwl (IS (by refine rwr hp.length_eq ?_;exact h64) C') ?_
 congr 1
 exact(Q0 C _ (λy hy=>(FN l).mem_iff.mp hy) ((FN l).trans (hp.trans (FN m).symm)) (LO C _ λy hy=>hy) (LO C' _ λy hy=>hy)).symm
theorem Xf:∀{a b:List Int},DN (a.map V.int) (b.map V.int)=true
 | [],_=>rfl
 | _::_,[]=>rfl
 | x::a,y::b=>by
  (refine rwl BF (rwl BF ?_);rewrite [DN];refine rwl Xf ?_);rfl
theorem VQ{l:List V}(h:∀x∈l,∃r,r≠[]∧x=Ag r):Cmb l:=λa ha b hb=>by
 (refine AJ (h a ha) ?_;intro r hr z3;subst z3)
 (refine AJ (h b hb) ?_;intro q hq z4;subst z4)
 cases r with
 | nil=>exact absurd rfl hr
 | cons x r=>cases q with
  | nil=>exact absurd rfl hq
  | cons y q=>show(DA (.int x) (.int y)&&DN _ _)=true;refine rwl Xf ?_;rfl
theorem MX{a b:List Int}(h:Ag a=Ag b):a=b:=by
 injection h with h
 induction a generalizing b with
 | nil=>cases b with
  | nil=>rfl
  | cons _ _=>cases h
 | cons x a ih=>cases b with
  | nil=>cases h
  | cons y b=>
   replace h:=BF▸BF▸h
   injection h with h1 h2
   injection h1 with h1
   (refine rwl h1 (rwl (ih h2) ?_);rfl)
theorem Hn{x:V}:∀{l acc:List V},x∈A8 acc l↔x∈acc∨x∈l
 | [],acc=>by simp [A8]
 | y::l,acc=>by
  unfold A8
  split
  ·rename_i h
   refine rwi Hn (rwi Ak ?_)
   refine⟨λh=>h.imp id .inr,λh'=>?_⟩
   rcases h' with h' | rfl | h'
   ·exact .inl h'
   ·exact .inl (HZ.mp h)
   ·exact .inr h'
  ·(refine rwi Hn (rwi BD (rwi Aw (rwi Ak (rwi or_assoc ?_))));rfl)
theorem NG:∀{l acc:List V},acc.Nodup→(A8 acc l).Nodup
 | [],acc,h=>by simpa [A8] using h
 | y::l,acc,h=>by
  unfold A8
  split
  ·exact NG h
  ·rename_i q
   refine NG ?_
   refine rwi GD ?_
   exact⟨h,by simp,λa ha b hb=>by refine rwl (Aw.mp hb) ?_;rintro rfl;exact q (HZ.mpr ha)⟩
theorem nP(l acc:List V):(A8 acc l).length≤acc.length+l.length:=HQ l acc
theorem Qc{f:V→V→AH AL}{l:List V}(h:∀x∈l,f x x=some true):eqL f l l=some true:=by
 induction l with
 | nil=>rfl
 | cons x l ih=>(rewrite [eqL];refine rwl (h x Ah) (rwl (ih λy hy=>h y (Am _ hy)) ?_));rfl
theorem mL{s:St}{n a b:AA}{l:List V}(ha:s[a]? =some (.list l))(hb:s[b]? =some (.list l))(h:a≠b)(hl:∀x∈l,eqR n s x x=some true):eqR (n+1) s (.ref a) (.ref b)=some true:=
 (AO h).trans ((Bu ha).trans ((Bu hb).trans ((AM rfl).trans (Qc hl))))
section
variable{s:St}{r:AA}{l ys:List V}{Q:QV}
theorem M7(h:s[r]? =some (.list l))(e:Ei l=some ys)(hl:ys.length≤1000)(q:Q (.ref s.length) (s++[.list ys])):Is (Ck "sorted" [.ref r] s) (pr Q):=
 Is.it ((show s[r]?.bind (RZ · s)=Ci (.list ys) s by refine rwl h ?_;exact(AW (OE · _) e)).trans (AM (Bt (AR hl (by decide))))) q
theorem Qq(h:s[r]? =some (.set l))(e:Ei l=some ys)(hl:ys.length≤1000)(q:Q (.ref s.length) (s++[.list ys])):Is (Ck "sorted" [.ref r] s) (pr Q):=
 Is.it ((show s[r]?.bind (RZ · s)=Ci (.list ys) s by refine rwl h ?_;exact(AW (OE · _) e)).trans (AM (Bt (AR hl (by decide))))) q
theorem Pj(h:s[r]? =some (.list l))(e:(l.all V.isInt||l.all V.flatTup)=true)(hl:l.length<15)(q:Q (.ref s.length) (s++[.set (A8 [] l)])):Is (Ck "set" [.ref r] s) (pr Q):=
 Is.it ((Bu h:Ck "set" [.ref r] s=_).trans ((AM (Ac.mpr ⟨e,An hl⟩)).trans (AM (Bt (AR (HQ l []) (by refine rwl ME (rwl (CI ..) ?_);omega)))))) q
theorem EB(h:s[r]? =some (.list l))(hl:l.length≤100000):Ck "len" [.ref r] s=some (.int l.length,s):=(Bu h:Ck "len" [.ref r] s=_).trans (AM (Bt hl))
theorem LN(hl:l.length≤100000):Ck "len" [.tup l] s=some (.int l.length,s):=AM (Bt hl)
theorem Hh(h:s[r]? =some (.list l))(hl:l.length≤100000):Ck "tuple" [.ref r] s=some (.tup l,s):=(Bu h:Ck "tuple" [.ref r] s=_).trans (AM (Bt hl))
end
theorem lU{R:Rows}:((R.map Ag).all V.isInt||(R.map Ag).all V.flatTup)=true:=by
 refine rwl (JD ..) ?_
 refine .inr (BE.mpr λx hx=>?_)
 (refine AJ (Ay.mp hx) ?_;intro r _ z5;subst z5)
 show(r.map V.int).all V.atom=true
 refine rwl G1 (rwi BE ?_);exact λ_ _=>rfl
structure PadAt(s:St)(k:AA):Prop where
 pad:∃ep,s[3]? =some (.dict [(.str "cells",.ref 2),(.str "spot",.int (k:AA))] ep)
 cells:∃cs:List Int,s[2]? =some (.list (cs.map V.int))∧cs.length≤60
theorem CT{s:St}{i:AA}{c a:AE}{fs:List (AE×V)}{v:V}(h:s[i]? =some (.inst c))(h1:s[i+1]? =some (.ns fs))(ha:(Bz c).contains a=true)(e:Ce a fs=some v):Ed (.ref i) a s=some v:=by
 show ofI s[i]? (λc=>ofN s[i+1]? λfs=>_)=_
 refine rwl h (rwl h1 ?_);exact(AM ha).trans e
theorem BN{s:St}{i:AA}{c m:AE}{fs:List (AE×V)}(h:s[i]? =some (.inst c))(h1:s[i+1]? =some (.ns fs))(hc:(Cm.contains c&&MR.contains (c++"."++m))=true)(hf:Ce m fs=none):Il (.ref i) m s=some (.inl (c++"."++m)):=by
 show s[i]?.bind (Vc m i s)=_
 refine rwl h ?_
 refine(AM hc).trans ?_
 refine rwl h1 ?_
 show(match Ce m fs with | some _=>none | none=>_)=_
 (refine rwl hf ?_;rfl)
theorem YG{k:Int}(h:0≤k)(hs:BJ k=true):(decide (0≤k)&&BJ k)=true:=by refine rwl hs (rwl (An h) ?_);rfl
theorem sub_int{k:Int}{xs:List V}(h:0≤k)(hs:BJ k=true):Bw (.int k) (λk=>if(decide (0≤k)&&BJ k)=true then xs[k.toNat]? else none)=xs[k.toNat]? :=AM (YG h hs)
theorem YH{i:AA}{xs:List V}{v:V}(hx:xs[i]? =some v)(hs:BJ i=true):Bw (.int i) (λk=>if(decide (0≤k)&&BJ k)=true then xs[k.toNat]? else none)=some v:=by
 refine rwl (sub_int (Hq i) hs) (rwl (DM ..) ?_);exact hx
theorem HT{s:St}{i r:AA}{xs:List V}{v:V}(h:s[r]? =some (.list xs))(hx:xs[i]? =some v)(hs:BJ i=true):CP (.ref r) (.int i) s=some v:=(Bu h).trans (YH hx hs)
theorem Kg{s:St}{i:AA}{xs:List V}{v:V}(hx:xs[i]? =some v)(hs:BJ i=true):CP (.tup xs) (.int i) s=some v:=by unfold CP;exact YH hx hs
theorem Gj{s:St}{r ep:AA}{es:List (V×V)}{k v:V}(h:s[r]? =some (.dict es ep))(hk:k.simple=true)(e:Aa k es=some v):CP (.ref r) k s=some v:=(EX h).trans ((AM hk).trans e)
theorem Vx{i:Int}{m:AA}(h:0<m):∃v:AA,i%(m:Int)=v∧v<m:=by
 have h1:=Zf i (b:=m) (by omega)
 have h2:=Zg i (b:=m) (by omega)
 exact⟨(i%m).toNat,by omega,by omega⟩
section
variable{n:AA}
theorem sm{i B:Int}(h0:0≤i)(h:i≤B)(hB:B<2147483648:=by decide):-2147483648<i∧i<2147483648:=⟨Int.lt_of_lt_of_le (by decide) h0,Int.lt_of_le_of_lt h hB⟩
theorem E0{s:St}{k m:AA}{Q:QV}(P:PadAt s k)(hk:k≤1000)(hm:0<m)(hm':m≤1000)
  (q:∀(v:AA) t,v<m→Keep (· =3) s t→t.length=s.length→PadAt t (k+1)→Q (.int (v:AA)) t):wC (n+1) "_law_pin" [.ref 3,.int (m:AA)] s Q:=by
 obtain⟨⟨ep,e⟩,cs,ec,hc⟩:=P
 refine BH (b:=YL) rfl rfl rfl (Is.it (Gj e rfl rfl) (Is.it (Gm (by omega) (by omega)) (Is.it (LG e rfl (by show 2≤100000;decide)) ?_)))
 generalize ht:s.set 3 _=t
 have e':t[3]? =some (.dict [(.str "cells",.ref 2),(.str "spot",.int ((k:AA)+1))] ep):=by refine rwr ht (rwl (EM e) ?_);rfl
 have ec':t[2]? =some (.list (cs.map V.int)):=by refine rwr ht (rwl (Bl (by decide)) ?_);exact ec
 have K:Keep (· =3) s t:=by refine rwr ht ?_;exact Keep.set rfl
 have hl:t.length=s.length:=by refine rwr ht ?_;simp
 have P':PadAt t (k+1):=⟨⟨ep,e'⟩,cs,ec',hc⟩
 refine Is.it (Gj e' rfl rfl) (Is.it (EB ec' (by refine rwl (AY ..) ?_;omega)) (Is.it Mz ?_))
 refine rwl (AY ..) ?_
 by_cases h:k<cs.length
 ·refine rwl (An (by omega)) ?_
  refine Is.it (Gj e' rfl rfl) (Is.it (HT (i:=k) (v:=.int cs[k]) ec' (by simp [h]) (FW (by omega) (by omega))) (Is.it (NO (by omega)) ?_))
  refine AJ (Vx (i:=cs[k]) hm) λv ev hv=>?_
  refine rwl ev ?_;exact q v t hv K hl P'
 ·refine rwl (B5 (by omega)) ?_
  have k0:0≤(k:Int):=Hq k
  have k1:(k:Int)≤1000:=Lo.mpr hk
  have l0:0≤(cs.length:Int):=Hq _
  have l1:(cs.length:Int)≤1000:=Lo.mpr (AR (Ds h) hk)
  have a0:0≤4*(k:Int):=O9 (by decide) k0
  have a1:4*(k:Int)≤4*1000:=TP k1 (by decide)
  have b0:0≤4*(k:Int)*k:=O9 a0 k0
  have b1:4*(k:Int)*k≤4*1000*1000:=Int.mul_le_mul a1 k1 k0 (by decide)
  have c0:0≤3*(k:Int):=O9 (by decide) k0
  have c1:3*(k:Int)≤3*1000:=TP k1 (by decide)
  have d0:0≤2*(cs.length:Int):=O9 (by decide) l0
  have d1:2*(cs.length:Int)≤2*1000:=TP l1 (by decide)
  refine Is.it (NZ (by decide) (sm k0 k1)) (Is.it (NZ (sm a0 a1) (sm k0 k1)) (Is.it (NZ (by decide) (sm k0 k1)) (Is.it (Gm (sm b0 b1) (sm c0 c1)) (Is.it (Gj e' rfl rfl) (Is.it (EB ec' (by refine rwl (AY ..) ?_;omega)) ?_)))))
  refine rwl (AY ..) ?_
  refine Is.it (NZ (by decide) (sm l0 l1)) (Is.it (Gm (sm (KW b0 c0) (MH b1 c1)) (sm d0 d1)) (Is.it (Gm (sm (KW (KW b0 c0) d0) (MH (MH b1 c1) d1)) (by decide)) (Is.it (NO (by decide)) (Is.it (NO (by omega)) ?_))))
  generalize (4*(k:Int)*k+3*k+2*(cs.length:Int)+6)%47=i
  refine AJ (Vx (i:=i) hm) λv ev hv=>?_
  refine rwl ev ?_;exact q v t hv K hl P'
end
end Mine
namespace Mine
structure Fix(s:St)(b:AA)(F:List O):Prop where
 get:∀(i:AA) (o:O),F[i]? =some o→s[b+i]? =some o
theorem Fix.set{s:St}{b i:AA}{F:List O}{o o':O}(H:Fix s b F)(e:F[i]? =some o'):Fix (s.set (b+i) o) b (F.set i o):=⟨λj p h=>by
 by_cases hj:i=j
 ·subst hj
  replace h:=OD (BA.mp e).1▸h
  refine rwl (EM (H.get i o' e)) ?_;exact h
 ·replace h:=Jz hj▸h
  refine rwl (Bl (by omega)) ?_;exact H.get j p h⟩
theorem Fix.keep{X:AA→Prop}{s t:St}{b:AA}{F:List O}(H:Fix s b F)(K:Keep X s t)(h:∀i,i<F.length→¬X (b+i)):Fix t b F:=
 ⟨λi o e=>K.get (H.get i o e) (h i (BA.mp e).1)⟩
noncomputable abbrev nV(k:AA):V:=.int (k:Int)
noncomputable def Ai(d:AE×List AA):V:=.tup (.str d.1::d.2.map nV)
structure W where
 n:AA
 nd:AA→AE×List AA
 par:AA→AA
 rep:AA→AA
 lr:AA→AA
 lot:AA→List AA
 ks:List AA
 ar:AA→AA
 ab:AA→List AA
 wts:List Int
 dps:List Int
 mgd:List V
 edg:List V
 fst:List V
 kn:List (V×V)
 wt:List AA
 e1:AA
 e2:AA
 e3:AA
noncomputable def W.F(w:W)(b:AA):List O:=[.inst "Heap",.ns [("bank",.ref (b+2)),("unions",.ref (b+8)),("edges",.ref (b+13)),("forest",.ref (b+14)),("known",.ref (b+15)),("above",.ref (b+16)),("waiting",.ref (b+17)),("backs",.int 0)],.inst "Bank",.ns [("nodes",.ref (b+4)),("numbers",.ref (b+5)),("weights",.ref (b+6)),("depths",.ref (b+7))],.list ((Ab w.n).map λi=>Ai (w.nd i)),.dict ((Ab w.n).map λi=>(Ai (w.nd i),nV i)) w.e1,.list (w.wts.map V.int),.list (w.dps.map V.int),.inst "Unions",.ns [("above",.ref (b+10)),("lots",.ref (b+11)),("merged",.ref (b+12))],.list ((Ab w.n).map λi=>nV (w.par i)),.list ((Ab w.n).map λi=>V.ref (w.lr i)),.list w.mgd,.list w.edg,.list w.fst,.dict w.kn w.e2,.dict (w.ks.map λc=>(nV c,V.ref (w.ar c))) w.e3,.list (w.wt.map nV)]
structure Rd(s:St)(b:AA)(w:W):Prop where
 fix:Fix s b (w.F b)
 hn:w.n≤12
 lots:∀i,i<w.n→s[w.lr i]? =some (.list ((w.lot i).map nV))
 lo:∀i,i<w.n→b+18≤w.lr i
 kid:∀i,i<w.n→(w.nd i).2.length≤2∧∀k∈(w.nd i).2,k<w.n
 pa:∀a,a<w.n→w.par a≤a
 re:∀a,a<w.n→w.rep a<w.n∧w.rep (w.par a)=w.rep a∧(w.par a=a↔w.rep a=a)
 lotm:∀r,r<w.n→w.rep r=r→(w.lot r).Nodup∧∀a,a∈w.lot r↔a<w.n∧w.rep a=r
theorem Rd.keep{X:AA→Prop}{s t:St}{b:AA}{w:W}(H:Rd s b w)(K:Keep X s t)(h:∀i,b≤i→¬X i):Rd t b w:=
 ⟨H.fix.keep K λi _=>h _ (Bh _ _),H.hn,λi hi=>K.get (H.lots i hi) (h _ (by have:=H.lo i hi;omega)),H.lo,H.kid,H.pa,H.re,H.lotm⟩
theorem JX{α:Type}{n i:AA}{f:AA→α}(h:i<n):((Ab n).map f)[i]? =some (f i):=by simp [h]
theorem DB{k:AA}(h:k<2000000000):BJ (k:Int)=true:=FW (by omega) (by omega)
theorem QX{s:St}{a b:AA}:Ct .eq (nV a) (nV b) s=some (decide (a=b)):=by
 show some (decide ((a:Int)=(b:Int)))=_
 congr 1;exact ZY.mpr (by omega)
theorem Xy{s:St}{a b:AA}:Ct .ne (nV a) (nV b) s=some (!decide (a=b)):=by
 show(Ct .eq (nV a) (nV b) s).map _=_
 refine rwl QX ?_;rfl
section
variable{n:AA}{s:St}{b:AA}{w:W}{Q:QV}
theorem Ie(H:Rd s b w):∀a,a<w.n→w.rep (w.rep a)=w.rep a:=by
 intro a
 induction a using AA.strongRecOn with
 | ind a ih=>
  intro ha
  by_cases h:w.par a=a
  ·have:=(H.re a ha).2.2.mp h
   (refine rwl this (rwl this ?_);rfl)
  ·have h1:=H.pa a ha
   have:=ih (w.par a) (by omega) (by omega)
   rwa [(H.re a ha).2.1] at this
theorem mY(H:Rd s b w){cl:Calls}{R:QV}{Q:QS}(fuel:AA):∀(a:AA) (env:Env),a<fuel→a<w.n→env "self"=some (.ref (b+8))→env "a"=some (nV a)→(∀env',env' "a"=some (nV (w.rep a))→Q env' s)→
  wWh (wE cl (.cmp (.sub (.attr (.name "self") "above") (.name "a")) .ne (.name "a"))) (wSs cl [.assign (.name "a") (.sub (.attr (.name "self") "above") (.name "a"))]) fuel env s Q R:=by
 induction fuel with
 | zero=>exact λa env h=>absurd h (CR _)
 | succ fuel ih=>
  intro a env h ha e1 e2 q
  have fx:=H.fix
  have hat:Ed (.ref (b+8)) "above" s=some (.ref (b+10)):=CT (fx.get 8 _ rfl) (fx.get 9 _ rfl) rfl rfl
  have hn:=H.hn
  have hsub:CP (.ref (b+10)) (nV a) s=some (nV (w.par a)):=HT (fx.get 10 _ rfl) (JX ha) (DB (by omega))
  show wE cl _ env s _
  refine nm e1 (Is.it hat (nm e2 (Is.it hsub (nm e2 (Is.it Xy ?_)))))
  by_cases hp:w.par a=a
  ·refine rwl (An hp) ?_
   exact q env (e2.trans (by(refine rwl ((H.re a ha).2.2.mp hp) ?_;rfl)))
  ·refine rwl (B5 hp) ?_
   have hle:=H.pa a ha
   exact nm e1 (Is.it hat (nm e2 (Is.it hsub (ih (w.par a) _ (by omega) (by omega) e1 rfl ((H.re a ha).2.1.symm▸q)))))
theorem Mm(H:Rd s b w){a:AA}(ha:a<w.n)(q:Q (nV (w.rep a)) s):wC (n+1) "Unions.find" [.ref (b+8),nV a] s Q:=
 BH (b:=Us) rfl rfl rfl (mY H Jg a _ (by have:=H.hn;unfold Jg;omega) ha rfl rfl λenv' e=>nm e q)
theorem Mt(H:Rd s b w){a:AA}(ha:a<w.n)(q:Q (nV (w.rep a)) s):wC (n+2) "Heap.find" [.ref b,nV a] s Q:=
 BH (b:=Ts) rfl rfl rfl (Is.it (CT (H.fix.get 0 _ rfl) (H.fix.get 1 _ rfl) rfl rfl) (Is.it (BN (H.fix.get 8 _ rfl) (H.fix.get 9 _ rfl) rfl rfl) (Mm H ha q)))
theorem bop(H:Rd s b w){i:AA}(hi:i<w.n)(q:Q (.str (w.nd i).1) s):wC (n+1) "Bank.op" [.ref (b+2),nV i] s Q:=by
 have hn:=H.hn
 have h1:CP (.ref (b+4)) (nV i) s=some (Ai (w.nd i)):=HT (H.fix.get 4 _ rfl) (JX hi) (DB (by omega))
 exact BH (b:=Ub) rfl rfl rfl (Is.it (CT (H.fix.get 2 _ rfl) (H.fix.get 3 _ rfl) rfl rfl) (Is.it h1 (Is.it (Kg (i:=0) (xs:=.str (w.nd i).1::(w.nd i).2.map nV) rfl rfl) q)))
theorem WU(H:Rd s b w){i:AA}(hi:i<w.n)(q:Q (.tup ((w.nd i).2.map nV)) s):wC (n+1) "Bank.kids" [.ref (b+2),nV i] s Q:=by
 have hn:=H.hn
 have h1:CP (.ref (b+4)) (nV i) s=some (Ai (w.nd i)):=HT (H.fix.get 4 _ rfl) (JX hi) (DB (by omega))
 have hk:=(H.kid i hi).1
 exact BH (b:=Vy) rfl rfl rfl (Is.it (CT (H.fix.get 2 _ rfl) (H.fix.get 3 _ rfl) rfl rfl) (Is.it h1 (Md (by refine rwl (AY ..) ?_;omega) q)))
theorem Cc{α:Type}{k:AA}{f:AA→α}:((Ab k).map f).length=k:=(AY ..).trans DK
theorem NB(H:Rd s b w)(q:Q (nV w.n) s):wC (n+2) "Heap.size" [.ref b] s Q:=by
 have hn:=H.hn
 refine BH (b:=Xz) rfl rfl rfl (Is.it (CT (H.fix.get 0 _ rfl) (H.fix.get 1 _ rfl) rfl rfl) (Is.it (BN (H.fix.get 2 _ rfl) (H.fix.get 3 _ rfl) rfl rfl) ?_))
 refine BH (b:=T6) rfl rfl rfl (Is.it (CT (H.fix.get 2 _ rfl) (H.fix.get 3 _ rfl) rfl rfl) (Is.it (EB (H.fix.get 4 _ rfl) (by refine rwl Cc ?_;omega)) ?_))
 refine rwl Cc ?_;exact q
noncomputable def BK(w:W)(i:AA):AE×List AA:=((w.nd i).1,(w.nd i).2.map w.rep)
theorem Po(H:Rd s b w){hid:Env}{o x:AE}{l:List AA}{Q:QL}(hl:l.length≤100000)(hk:∀k∈l,k<w.n)(ho:∀v,BY [] (upd hid x v) o=some (.ref b))(hx:∀v,BY [] (upd hid x v) x=some v)(q:Q ((l.map w.rep).map nV) s):
  kG (Eb [x] hid (wT (wC (n+2)) []) λe1=>wG (wC (n+2)) [] (wE (wC (n+2)) (.callm (.name o) "find" [.name x])) e1 (BY (Bp []) e1)) [] Q (l.map nV) none s:=
 M9 (λk=>nV (w.rep k)) hl rfl (λk hm Y hY=>nm (ho _) (Is.it (BN (H.fix.get 0 _ rfl) (H.fix.get 1 _ rfl) rfl rfl) (nm (hx _) (Mt H (hk k hm) hY)))) (CQ (f:=w.rep) (g:=nV)▸q)
theorem Xp(H:Rd s b w){i:AA}(hi:i<w.n)(q:Q (Ai (BK w i)) (s++[.list (((w.nd i).2.map w.rep).map nV)])):wC (n+3) "Heap.node" [.ref b,nV i] s Q:=by
 have hk:=H.kid i hi
 refine BH (b:=Vk) rfl rfl rfl (Is.it (CT (H.fix.get 0 _ rfl) (H.fix.get 1 _ rfl) rfl rfl) (Is.it (BN (H.fix.get 2 _ rfl) (H.fix.get 3 _ rfl) rfl rfl) (bop H hi ⟨rfl,?_⟩)))
 refine Is.it (CT (H.fix.get 0 _ rfl) (H.fix.get 1 _ rfl) rfl rfl) (Is.it (BN (H.fix.get 2 _ rfl) (H.fix.get 3 _ rfl) rfl rfl) (WU H hi (Is.it (a:=((w.nd i).2.map nV,none)) rfl (Po H (by omega) hk.2 (λ_=>rfl) (λ_=>rfl) ?_))))
 have hl:(((w.nd i).2.map w.rep).map nV).length≤2:=by refine rwl (AY ..) (rwl (AY ..) ?_);exact hk.1
 refine Is.it (Hh Af (AR hl (by decide))) (Is.it (a:=((Ai (BK w i),s++[O.list (((w.nd i).2.map w.rep).map nV)]):V×St)) ?_ q)
 exact AM (Bt (AR (CJ hl) (by decide)))
theorem nZ{n:AA}(f:AA→V):(Ab ((n:Int)).toNat).map f=(Ab n).map f:=by(refine rwl (DM ..) ?_;rfl)
theorem lK(H:Rd s b w)(q:Q (.ref s.length) (s++[.list (((Ab w.n).filter λa=>w.rep a=a).map nV)])):wC (n+2) "Heap.classes" [.ref b] s Q:=by
 have hn:=H.hn
 refine BH (b:=Wu) rfl rfl rfl (Is.it (CT (H.fix.get 0 _ rfl) (H.fix.get 1 _ rfl) rfl rfl) (Is.it (BN (H.fix.get 8 _ rfl) (H.fix.get 9 _ rfl) rfl rfl) ?_))
 have hat:Ed (.ref (b+8)) "above" s=some (.ref (b+10)):=CT (H.fix.get 8 _ rfl) (H.fix.get 9 _ rfl) rfl rfl
 refine BH (b:=V4) rfl rfl rfl (Is.it hat (Is.it (EB (H.fix.get 10 _ rfl) (by refine rwl Cc ?_;omega)) ?_))
 refine rwl Cc ?_
 refine⟨DB (by omega),JN (l:=Ab ((w.n:Int)).toNat) (f:=nV) nV (λa=>decide (w.rep a=a)) _ (λ_=>rfl) (by refine rwl DK ?_;omega) rfl (λk hm Y N hY hN=>?_) (by refine rwl (DM ..) ?_;exact q)⟩
 have hk:k<w.n:=DM w.n▸Ca.mp hm
 have hsub:CP (.ref (b+10)) (nV k) s=some (nV (w.par k)):=HT (H.fix.get 10 _ rfl) (JX hk) (DB (by omega))
 refine Is.it hat (Is.it hsub (Is.it QX ?_))
 have hr:=(H.re k hk).2.2
 by_cases hp:w.par k=k
 ·refine rwl (An hp) ?_
  exact hY (An (hr.mp hp))
 ·refine rwl (B5 hp) ?_
  exact hN (B5 λh=>hp (hr.mpr h))
end
end Mine
namespace Mine
theorem Tn:∀{M:List V},(∀x∈M,∃k,x=nV k)→∃L:List AA,M=L.map nV
 | [],_=>⟨[],rfl⟩
 | x::M,h=>by
  (refine exE (h x Ah) ?_;intro k z6;subst z6)
  (refine exE (Tn λy hy=>h y (Am _ hy)) ?_;intro L z7;subst z7)
  exact⟨k::L,rfl⟩
theorem FJ{a b:AA}(h:nV a=nV b):a=b:=by injection h with h;exact GS.inj h
theorem RK{a b:AE×List AA}(h:Ai a=Ai b):a=b:=by
 obtain⟨x,l⟩:=a
 obtain⟨y,m⟩:=b
 injection h with h
 injection h with h1 h2
 injection h1 with h1
 dsimp only at h1 h2
 refine rwl h1 ?_
 congr 1
 clear h1
 induction l generalizing m with
 | nil=>cases m with
  | nil=>rfl
  | cons _ _=>cases h2
 | cons p l ih=>cases m with
  | nil=>cases h2
  | cons q m=>
   replace h2:=BF▸BF▸h2
   injection h2 with h3 h4
   (refine rwl (FJ h3) (rwl (ih m h4) ?_);rfl)
theorem Qi:∀{a b:List AA},DN (a.map nV) (b.map nV)=true
 | [],_=>rfl
 | _::_,[]=>rfl
 | x::a,y::b=>by
  (refine rwl BF (rwl BF ?_);rewrite [DN];refine rwl Qi ?_);rfl
theorem VB{l:List V}(h:∀x∈l,∃d,x=Ai d):Cmb l:=λa ha b hb=>by
 (refine exE (h a ha) ?_;intro c z8;subst z8)
 (refine exE (h b hb) ?_;intro d z9;subst z9)
 show(DA (.str c.1) (.str d.1)&&DN (c.2.map nV) (d.2.map nV))=true
 refine rwl Qi ?_;rfl
theorem Qb{l:List V}(h:∀x∈l,∃k,x=nV k):Cmb l:=λa ha b hb=>by
 (refine exE (h a ha) ?_;intro c z0;subst z0)
 (refine exE (h b hb) ?_;intro d z1;subst z1)
 rfl
theorem XD:∀{M:List V},(∀x∈M,∃k,x=Ai k)→∃L:List (AE×List AA),M=L.map Ai
 | [],_=>⟨[],rfl⟩
 | x::M,h=>by
  (refine exE (h x Ah) ?_;intro k z2;subst z2)
  (refine exE (XD λy hy=>h y (Am _ hy)) ?_;intro L z3;subst z3)
  exact⟨k::L,rfl⟩
theorem Ra{α β:Type}{f:α→β}:∀{l:List α},(l.map f).Nodup→l.Nodup
 | [],_=>El
 | a::l,h=>by
  (replace h:=BF▸h;rewrite [DS] at h)
  exact DS.mpr ⟨λhm=>h.1 (Ay.mpr ⟨a,hm,rfl⟩),Ra h.2⟩
theorem QC{l:List AA}{n:AA}(h:l.Nodup)(hl:∀a∈l,a<n):l.length≤n:=by
 have:=NW h (m:=Ab n) λa ha=>Ca.mpr (hl a ha)
 simpa using this
section
variable{n:AA}{s:St}{b:AA}{w:W}{Q:QV}
theorem jV(H:Rd s b w){c:AA}(hc:c<w.n)(q:∀L:List AA,L.length≤12→(∀a,a∈L↔a<w.n∧w.rep a=w.rep c)→Q (.ref s.length) (s++[.list (L.map nV)])):wC (n+3) "Heap.members" [.ref b,nV c] s Q:=by
 have hn:=H.hn
 have hr:=(H.re c hc).1
 (have zz:=H.lotm _ hr (Ie H c hc);have nd:=zz.1;have hm:=zz.2;clear zz)
 have hlen:=QC nd λa ha=>((hm a).mp ha).1
 refine BH (b:=VT) rfl rfl rfl (Is.it (CT (H.fix.get 0 _ rfl) (H.fix.get 1 _ rfl) rfl rfl) (Is.it (BN (H.fix.get 8 _ rfl) (H.fix.get 9 _ rfl) rfl rfl) ?_))
 refine BH (b:=WJ) rfl rfl rfl (Is.it (CT (H.fix.get 8 _ rfl) (H.fix.get 9 _ rfl) rfl rfl) (Is.it (BN (H.fix.get 8 _ rfl) (H.fix.get 9 _ rfl) rfl rfl) (Mm H hc ?_)))
 refine Is.it (HT (v:=.ref (w.lr (w.rep c))) (H.fix.get 11 _ rfl) (JX hr) (DB (by omega))) ?_
 have hc2:Cmb ((w.lot (w.rep c)).map nV):=Qb λx hx=>by(refine AJ (Ay.mp hx) ?_;intro k _ z4;subst z4);exact⟨k,rfl⟩
 have hp:=FN ((w.lot (w.rep c)).map nV)
 refine exE (Tn (M:=Dj ((w.lot (w.rep c)).map nV)) λx hx=>by(refine AJ (Ay.mp (hp.mem_iff.mp hx)) ?_;intro k _ z5;subst z5);exact⟨k,rfl⟩) λL eL=>?_
 have hl:L.length=(w.lot (w.rep c)).length:=by have:=hp.length_eq;replace this:=eL▸this;simpa using this
 refine M7 (H.lots _ hr) (IS (by refine rwl (AY ..) ?_;omega) hc2) (by refine rwl eL (rwl (AY ..) ?_);omega) ?_
 refine rwl eL ?_
 refine q L (by omega) λa=>?_
 rw [←hm a]
 have:=hp.mem_iff (a:=nV a)
 replace this:=eL▸this
 constructor
 ·intro h
  refine AJ (Ay.mp (this.mp (Ay.mpr ⟨a,h,rfl⟩))) λk hk e=>?_
  exact FJ e▸hk
 ·intro h
  refine AJ (Ay.mp (this.mpr (Ay.mpr ⟨a,h,rfl⟩))) λk hk e=>?_
  exact FJ e▸hk
theorem nS{l:List V}(h:l.length≤12):l.length≤100000:=AR h (by decide)
theorem jf(H:Rd s b w){c:AA}(hc:c<w.n)(q:∀(r:AA) (t:St) (N:List (AE×List AA)),Keep nk s t→s.length≤r→t[r]? =some (.list (N.map Ai))→N.length≤12→N.Nodup→Srt (N.map Ai)→(∀x,x∈N↔∃k,k<w.n∧w.rep k=w.rep c∧x=BK w k)→Q (.ref r) t):
  wC (n+4) "Heap.nodes_of" [.ref b,nV c] s Q:=by
 refine BH (b:=Ut) rfl rfl rfl (Is.it (BN (H.fix.get 0 _ rfl) (H.fix.get 1 _ rfl) rfl rfl) (jV H hc λL hL hm=>Is.it (C4 Af) ?_))
 refine IU (λi acc t=>Keep nk (s++[.list (L.map nV)]) t∧acc=(L.take i).map λk=>Ai (BK w k)) _ (λ_=>rfl) (AR hL (by decide)) ⟨Keep.refl,rfl⟩ (λi acc t j=>Cy Af (j.1.at Af)) (λi k acc t ek j Y N hY _=>?_) λys t j=>?_
 ·(refine Bs j ?_;clear j;intro K z6;subst z6)
  have hk:=((hm k).mp (Bx ek)).1
  have H':=H.keep ((Keep.push (X:=nk) _).trans K) λ_ _=>id
  exact Is.it (BN (H'.fix.get 0 _ rfl) (H'.fix.get 1 _ rfl) rfl rfl) (Xp H' hk (hY _ _ ⟨K.trans (Keep.push _),by refine rwl (CW ek) (rwl BS ?_);rfl⟩))
 ·(have K:=j.1;have hy:=j.2;clear j)
  replace hy:=Cr▸hy
  have hN:∀x∈L.map λk=>Ai (BK w k),∃d,x=Ai d:=λx hx=>by(refine AJ (Ay.mp hx) ?_;intro k _ z7;subst z7);exact⟨_,rfl⟩
  refine rwl hy ?_
  generalize hNL:(L.map λk=>Ai (BK w k))=NL at hN ⊢
  have hlen:NL.length≤12:=by refine rwr hNL (rwl (AY ..) ?_);exact hL
  have hd:(A8 [] NL).length≤12:=AR (HQ NL []) (by refine rwl ME (rwl (CI ..) ?_);exact hlen)
  have hds:∀x∈A8 [] NL,∃d,x=Ai d:=λx hx=>hN x ((Hn.mp hx).resolve_left λh=>xM h)
  have hp:=FN (A8 [] NL)
  refine Pj Af ?_ (Bi hlen (by decide)) (Qq Af (IS (Bi hd (by decide)) (VB hds)) (by refine rwl hp.length_eq ?_;exact AR hd (by decide)) ?_)
  ·refine DH.mpr (.inr (BE.mpr λx hx=>?_))
   (refine exE (hN x hx) ?_;intro d z8;subst z8)
   show(V.atom (.str d.1)&&(d.2.map nV).all V.atom)=true
   refine rwl (De ..) (rwl G1 (rwi BE ?_));exact⟨rfl,λ_ _=>rfl⟩
  ·refine exE (XD (M:=Dj (A8 [] NL)) λx hx=>hds x (hp.mem_iff.mp hx)) λM eM=>?_
   have hl:M.length=(A8 [] NL).length:=by have:=hp.length_eq;rwa [eM,AY] at this
   have hK:Keep nk s _:=(Keep.push (X:=nk) _).trans (K.trans ((Keep.push (.list NL)).trans (Keep.push (.set (A8 [] NL)))))
   refine q _ _ M (hK.trans (Keep.push _)) hK.len (eM▸Af) (hl▸hd) ?_ (eM▸LO (VB hds) _ λy hy=>hy) λx=>?_
   ·have:=hp.nodup_iff.mpr (NG (l:=NL) El)
    replace this:=eM▸this
    exact Ra this
   ·have h1:x∈M↔Ai x∈M.map Ai:=⟨λh=>Ay.mpr ⟨x,h,rfl⟩,λh=>by refine AJ (Ay.mp h) λy hy e=>?_;exact RK e▸hy⟩
    refine rwi h1 (rwr eM (rwi hp.mem_iff (rwi Hn (rwr hNL (rwi Ay ?_)))))
    exact⟨λh=>h.elim (λh=>xM h) λzq1=>zq1.elim λk zz=>zz.elim λhk e=>⟨k,((hm k).mp hk).1,((hm k).mp hk).2,(RK e).symm⟩,λzq1=>zq1.elim λk zz=>zz.elim λh1 zz=>zz.elim λh2 e=>.inr ⟨k,(hm k).mpr ⟨h1,h2⟩,by(refine rwl e ?_;rfl)⟩⟩
end
end Mine
namespace Mine
noncomputable def B3(P:List (V×V))(k:V):List V:=(P.filter λp=>V.beq p.1 k).map (·.2)
structure MM(t:St)(lo D ex:AA)(P:List (V×V)):Prop where
 lt:D<lo
 exl:ex<t.length
 le:lo≤t.length
 dict:∃es ep,t[D]? =some (.dict es ep)∧es.length≤P.length∧(∀k,Aa k es=none→B3 P k=[])∧
  (∀k v,Aa k es=some v→∃r,v= .ref r∧lo≤r∧r≠ex∧t[r]? =some (.list (B3 P k)))∧∀k k' v,Aa k es=some v→Aa k' es=some v→k=k'
theorem Jq{a b:V}(h:a≠b):¬V.beq a b=true:=λz=>h ((V.beq_iff _ _).mp z)
theorem Fz(a:V):V.beq a a=true:=(V.beq_iff _ _).mpr rfl
theorem Ve{P:List (V×V)}{k row:V}:B3 (P++[(k,row)]) k=B3 P k++[row]:=by
 unfold B3
 refine rwl (IG ..) (rwl BS (rwl (II (p:=λp:V×V=>V.beq p.1 k) (a:=(k,row)) (Fz k)) ?_));rfl
theorem ML{P:List (V×V)}{k row k':V}(h:k≠k'):B3 (P++[(k,row)]) k'=B3 P k':=by
 unfold B3
 refine rwl (IG ..) (rwl BS (rwl (KX (p:=λp:V×V=>V.beq p.1 k') (a:=(k,row)) (Jq h)) ?_));simp
theorem Ja{k v k':V}:∀{es:List (V×V)},Aa k' es=none→Aa k' (es++[(k,v)])=if V.beq k k'=true then some v else none
 | [],_=>rfl
 | (a,u)::es,h=>by
  rw [Aa] at h
  (refine rwl Lk ?_;rewrite [Aa])
  split at h
  ·cases h
  ·rename_i q;refine rwl (AO q) ?_;exact Ja h
theorem Kx{k v k' u:V}:∀{es:List (V×V)},Aa k' es=some u→Aa k' (es++[(k,v)])=some u
 | [],h=>by cases h
 | (a,w)::es,h=>by
  rw [Aa] at h
  (refine rwl Lk ?_;rewrite [Aa])
  split at h
  ·rename_i q;refine rwl (AM q) ?_;exact h
  ·rename_i q;refine rwl (AO q) ?_;exact Kx h
theorem eU{t:St}{lo D ex:AA}{P:List (V×V)}{key:V}(M:MM t lo D ex P)(hk:key.simple=true)(hl:P.length≤1000):
  ∃r t1,Ec (.ref D) "setdefault" [key,.ref t.length] (t++[.list []])=some (.ref r,t1)∧t1[r]? =some (.list (B3 P key))∧lo≤r∧r≠ex∧Keep (D= ·) t t1∧
   ∀row,MM (t1.set r (.list (B3 P key++[row]))) lo D ex (P++[(key,row)]):=by
 refine Ld M.dict λes ep e hes h1 h2 h3=>?_
 have hD:=BI e
 have hlt:=M.lt
 have hle:=M.le
 have hex:=M.exl
 have e1:(t++[O.list []])[D]? =some (.dict es ep):=(C6 hD).trans e
 refine rwl (MK e1 hk (by omega)) ?_
 cases hg:Aa key es with
 | some v=>
  (refine DC (h2 key v hg) ?_;intro r z9;subst z9;intro hr hrx er)
  have er1:(t++[O.list []])[r]? =some (.list (B3 P key)):=(C6 (BI er)).trans er
  refine⟨r,_,rfl,er1,hr,hrx,Keep.push _,λrow=>⟨hlt,by simp;omega,by simp;omega,es,ep,?_,by simp;omega,λk hn=>?_,λk v hv=>?_,h3⟩⟩
  ·refine rwl (Bl (by omega)) ?_;exact e1
  ·(refine rwl (ML (by rintro rfl;replace hn:=hg▸hn;cases hn)) (rwl (h1 k hn) ?_);rfl)
  ·(refine DC (h2 k v hv) ?_;intro r' z0;subst z0;intro hr' hrx' er')
   refine⟨r',rfl,hr',hrx',?_⟩
   by_cases hkk:key=k
   ·subst hkk
    replace hv:=hg▸hv;cases hv
    (refine rwl Ve (rwl (EM er1) ?_);rfl)
   ·refine rwl (ML hkk) (rwl (Bl (by rintro rfl;exact hkk (h3 _ _ _ hg hv))) (rwl (C6 (BI er')) ?_))
    exact er'
 | none=>
  have hrn:B3 P key=[]:=h1 key hg
  have hnl:∀k v,Aa k es=some v→v≠ .ref t.length:=λk v hv e=>by
   (refine DC (h2 k v hv) ?_;intro r' z1;subst z1;intro _ _ er')
   cases e
   exact absurd (BI er') (CY _)
  refine⟨t.length,_,rfl,?_,hle,Fm hex,(Keep.push (X:=(D= ·)) _).trans (Keep.set rfl),λrow=>⟨hlt,by simp;omega,by simp;omega,es++[(key,.ref t.length)],ep+1,?_,by simp;omega,λk hn=>?_,λk v hv=>?_,λk k' v hv hv'=>?_⟩⟩
  ·refine rwl (Bl (by omega)) (rwl hrn ?_);exact Af
  ·(refine rwl (Bl (by omega)) (rwl (EM e1) ?_);rfl)
  ·cases hq:Aa k es with
   | some u=>replace hn:=Kx hq▸hn;cases hn
   | none=>
    by_cases hkk:key=k
    ·subst hkk;replace hn:=AM (Fz _)▸Ja hq▸hn;cases hn
    ·refine rwl (ML hkk) ?_;exact h1 k hq
  ·cases hq:Aa k es with
   | some u=>
    replace hv:=Kx hq▸hv
    cases hv
    (refine DC (h2 k v hq) ?_;intro r' z2;subst z2;intro hr' hrx' er')
    refine⟨r',rfl,hr',hrx',?_⟩
    have hlr:=BI er'
    refine rwl (ML (by rintro rfl;replace hq:=hg▸hq;cases hq)) (rwl (Bl (by omega)) (rwl (Bl (by omega)) (rwl (C6 hlr) ?_)))
    exact er'
   | none=>
    replace hv:=Ja hq▸hv
    by_cases hkk:key=k
    ·subst hkk
     replace hv:=AM (Fz _)▸hv
     (replace hv:=AV hv;subst hv)
     refine⟨_,rfl,hle,Fm hex,?_⟩
     (refine rwl Ve (rwl (RB (by simp)) ?_);rfl)
    ·replace hv:=AO (Jq hkk)▸hv;cases hv
  ·have side:∀k v,Aa k (es++[(key,V.ref t.length)])=some v→Aa k es=some v∨(k=key∧v= .ref t.length):=λk v hv=>by
    cases hq:Aa k es with
    | some u=>replace hv:=Kx hq▸hv;exact .inl hv
    | none=>
     replace hv:=Ja hq▸hv
     by_cases hkk:key=k
     ·rw [AM (hkk▸Fz _)] at hv;(replace hv:=AV hv;subst hv);exact .inr ⟨hkk.symm,rfl⟩
     ·replace hv:=AO (Jq hkk)▸hv;cases hv
   rcases side k v hv with a | ⟨a,a'⟩
   ·rcases side k' v hv' with c | ⟨c,c'⟩
    ·exact h3 _ _ _ a c
    ·exact absurd c' (hnl _ _ a)
   ·rcases side k' v hv' with c | ⟨c,c'⟩
    ·exact absurd a' (hnl _ _ c)
    ·(refine rwl a (rwl c ?_);rfl)
theorem MM.keep{t u:St}{lo D ex ex':AA}{P:List (V×V)}(M:MM t lo D ex P)(K:Keep nk t u)(h:ex'=ex∨t.length≤ex'∧ex'<u.length):MM u lo D ex' P:=by
 obtain⟨hl,hx,hle,es,ep,e,h0,h1,h2,h3⟩:=M
 have:=K.len
 exact⟨hl,by rcases h with rfl | h<;>omega,AR hle K.len,es,ep,K.at e,h0,h1,λk v hv=>by
  refine DC (h2 k v hv) λr e1 e2 e4 e3=>?_
  exact⟨r,e1,e2,by have:=BI e3;rcases h with rfl | h<;>omega,K.at e3⟩,h3⟩
theorem LA{s:St}{r:AA}{c a:AE}{v:V}{fs:List (AE×V)}(h:s[r]? =some (.inst c))(h1:s[r+1]? =some (.ns fs))(ha:(Bz c).contains a=true)(hf:fs.length<100):LP (.ref r) a v s=some (s.set (r+1) (.ns (By a v fs))):=by
 show ofI s[r]? (λc=>ofN s[r+1]? λfs=>_)=_
 refine rwl h (rwl h1 ?_);exact AM (Ac.mpr ⟨ha,An hf⟩)
noncomputable def CG(d:AE×List AA):V:=.tup [.str d.1,nV (d.2.length+1)]
noncomputable def Cg(c:AA)(d:AE×List AA):V:=Ag ((c::d.2).map GS)
theorem Pr{a:V}{x y:List V}:ltL (a::x) (a::y)=ltL x y:=AM ((V.beq_iff _ _).mpr rfl)
theorem iZ{c:AA}{d e:AE×List AA}(h:d.1=e.1):ltV (Cg c d) (Cg c e)=ltV (Ai d) (Ai e):=by
 show ltL (_::_) (_::_)=ltL (_::_) (_::_)
 refine rwl Pr (rwl h (rwl Pr (rwl CQ (rwl CQ ?_))));rfl
theorem fi{c c':AA}{d e:AE×List AA}(h:c'<c):ltV (Cg c d) (Cg c' e)=false:=by
 show ltL (nV c::_) (nV c'::_)=false
 exact(AO (λz=>by have:=FJ ((V.beq_iff _ _).mp z);omega)).trans (B5 (by omega))
theorem RQ{c c':AA}{d e:AE×List AA}(h:Cg c d=Cg c' e):c=c'∧d.2=e.2:=by
 have h1:=MX h
 have:∀{a b:List AA},a.map GS=b.map GS→a=b:=by
  intro a
  induction a with
  | nil=>intro b h;cases b with
   | nil=>rfl
   | cons _ _=>cases h
  | cons x a ih=>intro b h;cases b with
   | nil=>cases h
   | cons y b=>
    replace h:=BF▸BF▸h
    injection h with h1 h2
    (refine rwl (GS.inj h1) (rwl (ih h2) ?_);rfl)
 have:=this h1
 injection this with h1 h2
 exact⟨h1,h2⟩
theorem VM{d e:AE×List AA}:CG d=CG e↔d.1=e.1∧d.2.length=e.2.length:=by
 constructor
 ·intro h
  injection h with h
  injection h with h1 h2
  injection h1 with h1
  injection h2 with h2 _
  exact⟨h1,by have:=FJ h2;omega⟩
 ·(intro zr24;(have h1:=zr24.1;have h2:=zr24.2;clear zr24))
  unfold CG;(refine rwl h1 (rwl h2 ?_);rfl)
end Mine
namespace Mine
noncomputable def ROk(w:W)(cs:AA→Prop)(key:V)(L:List V):Prop:=L.Nodup∧Srt L∧∀x,x∈L↔∃k,k<w.n∧cs (w.rep k)∧CG (BK w k)=key∧x=Cg (w.rep k) (BK w k)
theorem PY{α β:Type}{f:α→β}:∀{l:List α},(∀a∈l,∀b∈l,f a=f b→a=b)→l.Nodup→(l.map f).Nodup
 | [],_,_=>El
 | a::l,hf,h=>by
  rw [DS] at h
  refine rwl BF (rwi DS ?_)
  refine⟨λhm=>?_,PY (λa ha b hb=>hf a (Am _ ha) b (Am _ hb)) h.2⟩
  refine AJ (Ay.mp hm) λb hb e=>?_
  exact h.1 (hf b (Am _ hb) a Ah e▸hb)
theorem PT{α:Type}{f g:α→V}:∀{l:List α},(∀a∈l,∀b∈l,ltV (f a) (f b)=ltV (g a) (g b))→Srt (l.map g)→Srt (l.map f)
 | [],_,_=>KC
 | a::l,hf,h=>by
  (have zz:=Fl.mp h;have h1:=zz.1;have h2:=zz.2;clear zz)
  refine Fl.mpr ⟨λx hx=>?_,PT (λa ha b hb=>hf a (Am _ ha) b (Am _ hb)) h2⟩
  (refine AJ (Ay.mp hx) ?_;intro b hb z3;subst z3)
  refine rwl (hf b (Am _ hb) a Ah) ?_
  exact h1 _ (Ay.mpr ⟨b,hb,rfl⟩)
theorem m6{α:Type}{g:α→V}{l:List α}{p:α→AL}(h:Srt (l.map g)):Srt ((l.filter p).map g):=h.sublist (List.filter_sublist.map g)
theorem gO{P:List (V×V)}{c:AA}{key:V}:∀(N:List (AE×List AA)),B3 (P++N.map λd=>(CG d,Cg c d)) key=B3 P key++(N.filter λd=>V.beq (CG d) key).map (Cg c)
 | N=>by
  unfold B3
  refine rwl (IG ..) (rwl BS (rwl PA (rwl CQ ?_)));rfl
theorem bp{w:W}{cs:AA→Prop}{c:AA}{P:List (V×V)}{key:V}{N:List (AE×List AA)}(h:ROk w cs key (B3 P key))(hc:∀a,cs a→a<c)(nd:N.Nodup)(sr:Srt (N.map Ai))
  (hm:∀d,d∈N↔∃k,k<w.n∧w.rep k=c∧d=BK w k):ROk w (λa=>cs a∨a=c) key (B3 (P++N.map λd=>(CG d,Cg c d)) key):=by
 (refine A7 h ?_;clear h;intro h1 h2 h3)
 refine rwl (gO ..) ?_
 have hk:∀d∈N.filter λd=>V.beq (CG d) key,CG d=key:=λd hd=>(V.beq_iff _ _).mp (Ew.mp hd).2
 have hop:∀d∈N.filter λd=>V.beq (CG d) key,∀e∈N.filter λd=>V.beq (CG d) key,d.1=e.1:=λd hd e he=>(VM.mp ((hk d hd).trans (hk e he).symm)).1
 refine⟨GD.mpr ⟨h1,PY (λd hd e he q=>I8 (hop d hd e he) (RQ q).2) (nd.filter _),λx hx y hy e=>?_⟩,S8.mpr ⟨h2,PT (λd hd e he=>iZ (hop d hd e he)) (m6 sr),λx hx y hy=>?_⟩,λx=>?_⟩
 ·(refine DC ((h3 x).mp hx) ?_;intro k _ hck _ z4;subst z4)
  (refine AJ (Ay.mp hy) ?_;intro d _ z5;subst z5)
  have:=(RQ e).1
  have:=hc _ hck
  omega
 ·(refine DC ((h3 x).mp hx) ?_;intro k _ hck _ z6;subst z6)
  (refine AJ (Ay.mp hy) ?_;intro d _ z7;subst z7)
  exact fi (hc _ hck)
 ·(refine rwi BD ?_;rewrite [h3];refine rwi Ay ?_)
  constructor
  ·rintro(⟨k,a1,a2,a3,a4⟩ | ⟨d,hd,rfl⟩)
   ·exact⟨k,a1,.inl a2,a3,a4⟩
   ·(refine Al ((hm d).mp (Ew.mp hd).1) ?_;intro k b1 b2 z8;subst z8)
    exact⟨k,b1,.inr b2,hk _ hd,by(refine rwl b2 ?_;rfl)⟩
  ·rintro⟨k,a1,a2 | a2,a3,rfl⟩
   ·exact .inl ⟨k,a1,a2,a3,rfl⟩
   ·exact .inr ⟨BK w k,Ew.mpr ⟨(hm _).mpr ⟨k,a1,a2,rfl⟩,by refine rwl a3 ?_;exact Fz _⟩,by(refine rwl a2 ?_;rfl)⟩
theorem mh{s:St}{d:AE×List AA}:CP (Ai d) (.int 0) s=some (.str d.1):=rfl
section
variable{n:AA}{s:St}{b:AA}{w:W}{Q:QV}
structure TabAt(s:St)(a:AA)(P:List (V×V)):Prop where
 i0:s[a]? =some (.inst "Tables")
 i1:s[a+1]? =some (.ns [("rows",.ref (a+2))])
 mm:∃lo ex,MM s lo (a+2) ex P
structure TI(s:St)(b:AA)(C:List AA)(l:AA)(env:Env)(t:St):Prop where
 v1:env "self"=some (.ref s.length)
 v2:env "heap"=some (.ref b)
 K:Keep nk s t
 g0:t[s.length]? =some (.inst "Tables")
 g1:t[s.length+1]? =some (.ns [("rows",.ref (s.length+2))])
 gC:t[l]? =some (.list (C.map nV))
noncomputable def Ic(c:AA)(N:List (AE×List AA)):List (V×V):=N.map λd=>(CG d,Cg c d)
theorem c6{P:List (V×V)}{k:V}:(B3 P k).length≤P.length:=AR (Bk (AY ..)) (Fs _ _)
theorem jc{s:St}{b c r l:AA}{C:List AA}{P:List (V×V)}{N:List (AE×List AA)}{env:Env}{v:St}{d:AE×List AA}{T:QS}{R:QV}(L:TI s b C l env v)(hc:env "c"=some (nV c))(hd:env "node"=some (Ai d))(hdl:d.2.length≤2)(hPl:P.length≤1000)
  (er:v[r]? =some (.list (N.map Ai))) (M:MM v (s.length+4) (s.length+2) r P) (hl:l=s.length+3)
  (q:∀t,TI s b C l env t→t[r]? =some (.list (N.map Ai))→MM t (s.length+4) (s.length+2) r (P++[(CG d,Cg c d)])→T env t):
  wSs (wC n) [.expr (.callm (.callm (.attr (.name "self") "rows") "setdefault" [.tuple [.sub (.name "node") (.cint 0),.callf "len" [.name "node"]],.list []]) "append" [.bin .add (.tuple [.name "c"]) (.slice (.name "node") (some (.cint 1)) none)])] env v T R:=by
 refine Qs (eU M (key:=CG d) rfl hPl) λr1 u1 em er1 hr1 hrx Ku1 hM=>?_
 have hv1:=BI L.g1
 refine A6 M.dict λes ep eD _=>?_
 have hnl:(V.str d.1::d.2.map nV).length≤3:=CJ (AR (Bk (AY ..)) hdl)
 refine nm L.v1 (Is.it (CT L.g0 L.g1 rfl rfl) (Is.it (Js eD) (nm hd (Is.it mh (nm hd (Is.it (LN (AR hnl (by decide))) ⟨rfl,rfl,?_⟩))))))
 have hkd:V.tup [.str d.1,.int ((V.str d.1::d.2.map nV).length:AA)]=CG d:=by unfold CG nV;(refine rwl Co (rwl (AY ..) ?_);rfl)
 refine rwl hkd ?_
 refine⟨Jc ((Keep.push (X:=nk) _).at eD),Is.it em (Is.it (DQ er1) (nm hc ⟨rfl,nm hd (Md (AR (OU hnl) (by decide)) (Is.it (a:=(Cg c d,u1)) ?_ ⟨DO er1,Is.it (EG er1 (AR c6 (AR hPl (by decide)))) (q _ ?_ ?_ (hM (Cg c d)))⟩))⟩))⟩
 ·show EC ([nV c]++d.2.map nV) u1=_
  refine rwl (show([nV c]++d.2.map nV)=((c::d.2).map GS).map V.int by refine rwl CQ ?_;rfl) ?_
  exact AM (Bt (by refine rwl (AY ..) (rwl (AY ..) ?_);exact AR (CJ hdl) (by decide)))
 ·have kk:∀{i:AA} {o:O},v[i]? =some o→s.length+2≠i→i<s.length+4→(u1.set r1 (.list (B3 P (CG d)++[Cg c d])))[i]? =some o:=λ{i o} h h1 h2=>by
   refine rwl (Bl (by omega)) ?_;exact Ku1.get h h1
  exact⟨L.v1,L.v2,⟨AR L.K.len (AR Ku1.len (Bk Gz.symm)),λi hi _=>by
   refine rwl (Bl (by omega)) ?_
   exact(Ku1.at' i (Bg hi L.K.len) (by omega)).trans (L.K.at' i hi id)⟩,kk L.g0 (by omega) (by omega),kk L.g1 (by omega) (by omega),kk L.gC (by omega) (by omega)⟩
 ·refine rwl (Bl hrx) ?_
  exact Ku1.get er λ(z:s.length+2=r)=>by replace er:=eD▸Cq z▸er;cases er
theorem kO(H:Rd s b w)(hb:b<s.length)(q:∀t P,Keep nk s t→TabAt t s.length P→(∀key,ROk w (λ_=>FG) key (B3 P key))→Q (.ref s.length) t):wC (n+5) "Tables" [.ref b] s Q:=by
 have hn:=H.hn
 refine Mn (b:=Wm) rfl rfl rfl (Is.it rfl ⟨rfl,?_⟩)
 have hlen:(s++[O.inst "Tables",.ns []]).length=s.length+2:=Au
 have e0:(s++[O.inst "Tables",.ns []]++[O.dict [] ([]:List (V×V)).length])[s.length]? =some (.inst "Tables"):=by simp
 have e1:(s++[O.inst "Tables",.ns []]++[O.dict [] ([]:List (V×V)).length])[s.length+1]? =some (.ns []):=by simp
 have e2:(s++[O.inst "Tables",.ns []]++[O.dict [] ([]:List (V×V)).length])[s.length+2]? =some (.dict [] 0):=hlen▸Af
 have K1:Keep nk s (s++[O.inst "Tables",.ns []]++[O.dict [] ([]:List (V×V)).length]):=(Keep.app _).trans (Keep.push _)
 have hl1:(s++[O.inst "Tables",.ns []]++[O.dict [] ([]:List (V×V)).length]).length=s.length+3:=by simp
 refine Is.it (LA e0 e1 rfl (by decide)) ?_
 refine rwl hlen ?_
 revert e2 K1 hl1 e0 e1
 refine gen (α:=List O) (s++[O.inst "Tables",.ns []]++[O.dict [] ([]:List (V×V)).length]) λs1=>?_
 set_option tactic.hygienic false in intros
 have K2:Keep nk s (s1.set (s.length+1) (.ns (By "rows" (.ref (s.length+2)) []))):=K1.set_new (Et _)
 have f0:=(Bl (o:=.ns (By "rows" (.ref (s.length+2)) [])) (TB s.length)).trans e0
 have f1:(s1.set (s.length+1) (.ns (By "rows" (.ref (s.length+2)) [])))[s.length+1]? =some (.ns [("rows",.ref (s.length+2))]):=EM e1
 have f2:=(Bl (o:=.ns (By "rows" (.ref (s.length+2)) [])) (BP (DZ (s.length+1)))).trans e2
 have hl2:=(Gz (as:=s1) (i:=s.length+1) (a:=.ns (By "rows" (.ref (s.length+2)) []))).trans hl1
 revert K2 f0 f1 f2 hl2
 refine gen (s1.set (s.length+1) (.ns (By "rows" (.ref (s.length+2)) []))) λs2=>?_
 set_option tactic.hygienic false in intros
 have H2:=H.keep K2 λ_ _=>id
 refine Is.it (BN (H2.fix.get 0 _ rfl) (H2.fix.get 1 _ rfl) rfl rfl) (lK H2 ?_)
 have hCm:∀c,c∈((Ab w.n).filter λa=>w.rep a=a)↔c<w.n∧w.rep c=c:=λc=>by(refine rwi Ew (rwi Ca (rwi Li ?_));rfl)
 have hCp:((Ab w.n).filter λa=>w.rep a=a).Pairwise (· < ·):=Zs.filter _
 have hCl:((Ab w.n).filter λa=>w.rep a=a).length≤12:=AR (Fs _ _) (DK▸hn)
 revert hCm hCp hCl
 refine gen (((Ab w.n).filter λa=>w.rep a=a)) λC hCm hCp hCl=>?_
 refine Is.it (C4 Af) (Eg (λi env t=>TI s b C s2.length env t∧∃P ex,MM t (s.length+4) (s.length+2) ex P∧P.length≤12*i∧∀key,ROk w (· ∈C.take i) key (B3 P key))
  ⟨⟨rfl,rfl,K2.trans (Keep.push _),(Keep.push (X:=nk) _).at f0,(Keep.push (X:=nk) _).at f1,Af⟩,[],s.length+3,?_,Aj _,λkey=>⟨El,KC,λx=>⟨(λh=>xM h),(λzq1=>zq1.elim λ_ zz=>zz.elim λ_ zz=>zz.elim λh _=>nomatch h)⟩⟩⟩
  (λi env t j=>Cy Af j.1.gC) (λi c env t ec j T hT=>?_) λenv t j=>?_)
 ·exact⟨Cv (DZ _),hl2▸BI Af,by refine rwl Au (rwl hl2 ?_);exact Aj _,[],0,(Keep.push (X:=nk) _).at f2,Aj _,λ_ _=>rfl,(λk v h=>xN h),λk k' v h=>xN h⟩
 ·obtain⟨L,P,ex,M,hP,hR⟩:=j
  have hcn:=(hCm c).mp (Bx ec)
  have Ht:=H.keep L.K λ_ _=>id
  have hil:i<C.length:=(BA.mp ec).1
  refine nm L.v2 (Is.it (BN (Ht.fix.get 0 _ rfl) (Ht.fix.get 1 _ rfl) rfl rfl) (jf Ht hcn.1 λr u N Ku hr er hN nd sr hm=>?_))
  have M1:=M.keep Ku (ex':=r) (.inr ⟨hr,BI er⟩)
  replace hm:=hcn.2▸hm
  refine Is.it (C4 er) (Eg (λj env v=>TI s b C s2.length env v∧env "c"=some (nV c)∧v[r]? =some (.list (N.map Ai))∧MM v (s.length+4) (s.length+2) r (P++Ic c (N.take j)))
   ⟨⟨L.v1,L.v2,L.K.trans Ku,Ku.at L.g0,Ku.at L.g1,Ku.at L.gC⟩,rfl,er,(Bo P).symm▸M1⟩ (λj env v z=>Cy er z.2.2.1) (λj d env v ed z T hT=>?_) λenv v z=>?_)
  ·have hdl:d.2.length≤2:=by
    (refine Al ((hm d).mp (Bx ed)) ?_;intro k hk _ z9;subst z9)
    exact AR (Bk (AY ..)) (H.kid k hk).1
   have hPl:(P++Ic c (N.take j)).length≤1000:=by
    unfold Ic;refine rwl Au (rwl (AY ..) (rwl FC ?_))
    exact AR (ET (AR hP (Ft 12 (AR (B7 hil) hCl))) (AR (SU _ _) hN)) (by decide)
   refine jc (env:=upd env "node" (Ai d)) ⟨z.1.v1,z.1.v2,z.1.K,z.1.g0,z.1.g1,z.1.gC⟩ z.2.1 rfl hdl hPl z.2.2.1 z.2.2.2 hl2 λt L e M=>hT _ _ ⟨L,z.2.1,e,?_⟩
   have:P++Ic c (N.take (j+1))=P++Ic c (N.take j)++[(CG d,Cg c d)]:=by unfold Ic;refine rwl (CW ed) (rwl BS (rwl (Dt ..) ?_));rfl
   exact this▸M
  ·have M:=z.2.2.2
   replace M:=Cr▸M
   refine hT _ _ ⟨⟨z.1.v1,z.1.v2,z.1.K,z.1.g0,z.1.g1,z.1.gC⟩,_,r,M,by unfold Ic;refine rwl Au (rwl (AY ..) ?_);exact ET hP hN,λkey=>?_⟩
   have hlt:∀a∈C.take i,a<c:=λa ha=>by
    replace hCp:=Cq (JA i C)▸hCp
    refine(S8.mp hCp).2.2 a ha c ?_
    refine rwl (KN hil) (rwl ((BA.mp ec).2) ?_);exact Ah
   refine A7 (bp (c:=c) (hR key) hlt nd sr hm) λa1 a2 a3=>?_
   refine⟨a1,a2,λx=>(a3 x).trans ?_⟩
   refine rwl (CW ec) ?_
   simp only [BD,Aw]
 ·obtain⟨L,P,ex,M,hP,hR⟩:=j
  replace hR:=Cr▸hR
  refine⟨rfl,q t P L.K ⟨L.g0,L.g1,_,ex,M⟩ λkey=>?_⟩
  refine A7 (hR key) λa1 a2 a3=>?_
  exact⟨a1,a2,λx=>(a3 x).trans ⟨λzq1=>zq1.elim λk zz=>zz.elim λb1 zz=>zz.elim λ_ b3=>⟨k,b1,trivial,b3⟩,λzq1=>zq1.elim λk zz=>zz.elim λb1 zz=>zz.elim λ_ b3=>⟨k,b1,(hCm _).mpr ⟨(H.re k b1).1,Ie H k b1⟩,b3⟩⟩⟩
end
end Mine
namespace Mine
noncomputable def B9:V→AL
 | .str _=>true
 | .tup l=>l.all V.atom
 | _=>false
theorem Mc{v:V}(h:B9 v=true):v.simple=true:=by
 cases v<;>first | rfl | exact h | cases h
theorem iw{s:St}{n:AA}{a b:V}(ha:a.atom=true)(hb:b.atom=true):eqR (n+1) s a b=some (V.beq a b):=by
 cases a<;>first | cases ha;done | (cases b<;>first | cases hb;done | rfl)
theorem W7{s:St}{n:AA}:∀{l m:List V},l.all V.atom=true→m.all V.atom=true→eqL (eqR (n+1) s) l m=some (V.beqL l m)
 | [],[],_,_=>rfl
 | [],_::_,_,_=>rfl
 | _::_,[],_,_=>rfl
 | a::l,b::m,h1,h2=>by
  rw [List.all_cons,De] at h1 h2
  (rewrite [eqL];refine rwl (iw h1.1 h2.1) (rwl (KV ..) (rwl (W7 h1.2 h2.2) ?_)));rfl
theorem Pl{s:St}{n:AA}{a b:V}(ha:B9 a=true)(hb:B9 b=true):eqR (n+2) s a b=some (V.beq a b):=by
 cases a<;>first | cases ha;done | (cases b<;>first | cases hb;done | rfl | exact W7 ha hb)
theorem Xm{s:St}{x:V}{l:List V}(hx:B9 x=true)(hl:∀y∈l,B9 y=true):inL (eqR Bv s) x l=some (BG x l):=by
 unfold inL
 refine rwl (Nh (f:=λy=>eqR Bv s y x) (g:=λy=>V.beq y x) λy hy=>Pl (n:=10) (hl y hy) hx) (rwl (ah ..) (rwl SG ?_));rfl
theorem Tp{s:St}{x:V}{l:List V}(hx:B9 x=true)(hl:∀y∈l,B9 y=true)(hm:BG x l=true):JM (eqR Bv s) x l=some (l.findIdx λy=>V.beq y x):=by
 unfold JM
 refine rwl (Nh (f:=λy=>eqR Bv s y x) (g:=λy=>V.beq y x) λy hy=>Pl (n:=10) (hl y hy) hx) (rwl (KV ..) (rwl (ZG) ?_))
 show List.findIdx? (λy=>V.beq y x) l=_
 (refine rwl (List.findIdx?_eq_some_of_exists (by unfold BG at hm;rwa [L5] at hm)) ?_;rfl)
theorem jL{s:St}{x:V}{l:List V}(hx:B9 x=true)(hl:∀y∈l,B9 y=true):Ct .inn x (.tup l) s=some (BG x l):=Xm hx hl
theorem YX{s:St}{x:V}{r ep:AA}{es:List (V×V)}(hx:B9 x=true)(h:s[r]? =some (.dict es ep)):Ct .inn x (.ref r) s=some (Aa x es).isSome:=(EX h:inR x (.ref r) s=_).trans (AM (Mc hx))
theorem bC{s:St}{x:V}{r:AA}{l:List V}(h:s[r]? =some (.list l))(hx:B9 x=true)(hl:∀y∈l,B9 y=true):Ct .nin x (.ref r) s=some (!BG x l):=
 AW (IA (!·)) ((Bu h:inR x (.ref r) s=_).trans (Xm hx hl))
noncomputable def idx(NS:List V)(x:V):AA:=NS.findIdx λy=>V.beq y x
noncomputable def HV(NS:List V)(row:List Int)(j:AA):AL:=(Ab j).all λk=>decide (row.getD (idx NS (NS.getD k .none)) 0=row.getD k 0)
noncomputable def Cd(NS:List V)(row:List Int):AL:=HV NS row NS.length
noncomputable def pick(NS O:List V)(row:List Int):List Int:=(O.filter λx=>BG x NS).map λx=>row.getD (idx NS x) 0
theorem lV{NS:List V}{row:List Int}{j:AA}:HV NS row (j+1)=(HV NS row j&&decide (row.getD (idx NS (NS.getD j .none)) 0=row.getD j 0)):=by
 unfold HV
 refine rwl Sg (rwl List.all_append ?_);simp
theorem Wr{NS:List V}{j:AA}{x:V}(e:NS[j]? =some x)(h:BG x (NS.take j)=false):idx NS x=j:=by
 have hj:=(BA.mp e)
 unfold idx
 refine rwi (List.findIdx_eq hj.1) (rwl hj.2 ?_)
 refine⟨Fz x,λi hi=>?_⟩
 have hil:i<NS.length:=Eo hi hj.1
 show V.beq (NS[i]'hil) x=false
 cases q:V.beq (NS[i]'hil) x with
 | false=>rfl
 | true=>
  have:BG x (NS.take j)=true:=L5.mpr ⟨NS[i]'hil,List.mem_take_iff_getElem.mpr ⟨i,by omega,rfl⟩,q⟩
  replace this:=h▸this;cases this
theorem YS{x y:V}{l:List V}:BG x (l++[y])=(BG x l||V.beq y x):=by unfold BG;refine rwl List.any_append ?_;simp
theorem Vj:∀{M:List V},(∀x∈M,∃r,x=Ag r)→∃R:Rows,M=R.map Ag
 | [],_=>⟨[],rfl⟩
 | x::M,h=>by
  (refine exE (h x Ah) ?_;intro k z0;subst z0)
  (refine exE (Vj λy hy=>h y (Am _ hy)) ?_;intro L z1;subst z1)
  exact⟨k::L,rfl⟩
theorem fI{s t:St}{r:AA}(h:s[r]? =some .priv)(h':t[r]? =some .priv):Bd (some r) s t=true:=by
 show(match s[r]? with | none=>false | some a=>match t[r]? with | none=>false | some b=>JZ a b)=true
 refine rwl h (rwl h' ?_);rfl
theorem ay{a:List V}:∀{b:List V},a.length=b.length→FV a b=(Ab a.length).map λk=>V.tup [a.getD k .none,b.getD k .none]:=by
 induction a with
 | nil=>exact λ_=>rfl
 | cons x a ih=>
  intro b h
  cases b with
  | nil=>cases h
  | cons y b=>(refine rwl Co (rwl Yl (rwl BF (rwl CQ ?_)));rewrite [FV];refine rwl (ih (CC h)) ?_);rfl
theorem mi{NS:List V}{row:List Int}(h:row.length=NS.length):FV NS (row.map V.int)=(Ab NS.length).map λk=>V.tup [NS.getD k .none,.int (row.getD k 0)]:=by
 refine rwl (ay (by(refine rwl (AY ..) (rwl h ?_);rfl))) ?_
 refine DE λk hk=>?_
 have hk:k<row.length:=h▸Ca.mp hk
 refine rwl (EO (l:=row.map V.int)) (rwl (DU) (rwl (Ba hk) (rwl (EO (l:=row)) (rwl (Ba hk) ?_))));rfl
noncomputable def JL(NS:List V)(row:List Int)(j:AA)(es:List (V×V)):Prop:=∀x,Aa x es=if BG x (NS.take j)=true then some (.int (row.getD (idx NS x) 0)) else none
theorem mz{NS:List V}{row:List Int}{j:AA}{es:List (V×V)}{x:V}(h:JL NS row j es)(e:NS[j]? =some x)(hm:BG x (NS.take j)=true):JL NS row (j+1) es:=λy=>by
 refine rwl (h y) (rwl (CW e) (rwl YS ?_))
 cases q:V.beq x y with
 | false=>(refine rwl (TJ ..) ?_;rfl)
 | true=>refine rwr ((V.beq_iff _ _).mp q) (rwl hm ?_);rfl
theorem ky{NS:List V}{row:List Int}{j:AA}{es:List (V×V)}{x:V}(h:JL NS row j es)(e:NS[j]? =some x)(hm:BG x (NS.take j)=false):JL NS row (j+1) (es++[(x,.int (row.getD j 0))]):=λy=>by
 have hn:Aa x es=none:=by refine rwl (h x) (rwl hm ?_);rfl
 refine rwl (CW e) (rwl YS ?_)
 cases q:V.beq x y with
 | false=>
  refine rwl (TJ ..) (rwr (h y) ?_)
  cases g:Aa y es with
  | none=>refine rwl (Ja g) (rwl q ?_);rfl
  | some u=>exact Kx g
 | true=>
  have exy:=(V.beq_iff _ _).mp q
  subst exy
  (refine rwl (Ja hn) (rwl q (rwl (AL.or_true ..) (rwl (Wr e hm) ?_)));rfl)
end Mine
namespace Mine
noncomputable def B4(c:AA)(d:AE×List AA):V:=.tup (nV c:: .str d.1::d.2.map nV)
theorem WN(c:AA)(d:AE×List AA):B9 (B4 c d)=true:=by
 show(V.atom (nV c)&&(V.atom (.str d.1)&&(d.2.map nV).all V.atom))=true
 refine rwl G1 ?_
 exact De _ _▸⟨rfl,De _ _▸⟨rfl,BE.mpr λ_ _=>rfl⟩⟩
theorem QR{c c':AA}{d e:AE×List AA}(h:B4 c d=B4 c' e):c=c'∧d=e:=by
 injection h with h
 injection h with h1 h2
 exact⟨FJ h1,RK (AW V.tup h2)⟩
theorem WW{a b:V}{x y:List V}:ltL (a::x) (b::y)=if V.beq a b=true then ltL x y else ltV a b:=rfl
theorem ft{c c':AA}{d e:AE×List AA}(h:d.1=e.1):ltV (B4 c d) (B4 c' e)=ltV (Cg c d) (Cg c' e):=by
 show ltL (nV c:: .str d.1::d.2.map nV) (nV c':: .str e.1::e.2.map nV)=ltL (nV c::(d.2.map GS).map V.int) (nV c'::(e.2.map GS).map V.int)
 refine rwl h (rwl (WW (x:=.str e.1::d.2.map nV)) (rwl (WW (x:=(d.2.map GS).map V.int)) (rwl Pr (rwl CQ (rwl CQ ?_)))));rfl
theorem Un{l:List V}(h:∀x∈l,∃c d,x=B4 c d):Cmb l:=λa ha b hb=>by
 (refine CU (h a ha) ?_;intro c d z2;subst z2)
 (refine CU (h b hb) ?_;intro c' d' z3;subst z3)
 show(DA (nV c) (nV c')&&(DA (.str d.1) (.str d'.1)&&DN (d.2.map nV) (d'.2.map nV)))=true
 refine rwl Qi ?_;rfl
theorem YQ:∀{M:List V},(∀x∈M,∃c d,x=B4 c d)→∃L:List (AA×(AE×List AA)),M=L.map λp=>B4 p.1 p.2
 | [],_=>⟨[],rfl⟩
 | x::M,h=>by
  (refine CU (h x Ah) ?_;intro c d z4;subst z4)
  (refine exE (YQ λy hy=>h y (Am _ hy)) ?_;intro L z5;subst z5)
  exact⟨(c,d)::L,rfl⟩
theorem eW{w:W}{op:AE}{m:AA}{F:List V}{R:Rows}(hn:F.Nodup)(hf:∀x,x∈F↔∃k,k<w.n∧CG (BK w k)= .tup [.str op,nV m]∧x=B4 (w.rep k) (BK w k))
  (hR:ROk w (λ_=>FG) (.tup [.str op,nV m]) (R.map Ag)):∃L:List (AA×(AE×List AA)),Dj F=L.map (λp=>B4 p.1 p.2)∧(L.map λp=>Cg p.1 p.2)=R.map Ag∧∀p∈L,p.2.1=op∧p.2.2.length+1=m:=by
 have hp:=FN F
 have hF:∀x∈F,∃c d,x=B4 c d:=λx hx=>by refine Al ((hf x).mp hx) λk _ _ e=>?_;exact⟨_,_,e⟩
 refine exE (YQ (M:=Dj F) λx hx=>hF x (hp.mem_iff.mp hx)) λL eL=>?_
 have hs:Srt (Dj F):=LO (Un hF) _ λy hy=>hy
 have hm:∀p,p∈L↔∃k,k<w.n∧CG (BK w k)= .tup [.str op,nV m]∧p=(w.rep k,BK w k):=λp=>by
  have h1:p∈L↔B4 p.1 p.2∈Dj F:=by
   refine rwl eL (rwi Ay ?_)
   exact⟨λh=>⟨p,h,rfl⟩,λzq1=>zq1.elim λq zz=>zz.elim λhq e=>by have:=QR e;replace hq:=(show q=p from I8 this.1 this.2)▸hq;exact hq⟩
  (refine rwi h1 (rwi hp.mem_iff ?_);rewrite [hf])
  exact⟨λzq1=>zq1.elim λk zz=>zz.elim λa1 zz=>zz.elim λa2 a3=>⟨k,a1,a2,I8 (QR a3).1 (QR a3).2⟩,λzq1=>zq1.elim λk zz=>zz.elim λa1 zz=>zz.elim λa2 a3=>⟨k,a1,a2,by(refine rwl a3 ?_;rfl)⟩⟩
 have hk:∀p∈L,p.2.1=op∧p.2.2.length+1=m:=λp hp'=>by
  (refine Al ((hm p).mp hp') ?_;intro k _ a2 z6;subst z6)
  have:=VM (d:=BK w k) (e:=(op,List.replicate (m-1) 0))
  injection a2 with a2
  injection a2 with b1 b2
  injection b1 with b1
  injection b2 with b2 _
  exact⟨b1,FJ b2⟩
 refine⟨L,eL,?_,hk⟩
 (refine A7 hR ?_;clear hR;intro r1 r2 r3)
 have hop:∀p∈L,∀q∈L,p.2.1=q.2.1:=λp hp q hq=>(hk p hp).1.trans (hk q hq).1.symm
 have nL:L.Nodup:=Ra (f:=λp:AA×(AE×List AA)=>B4 p.1 p.2) (by refine rwr eL ?_;exact hp.nodup_iff.mpr hn)
 have n2:(L.map λp=>Cg p.1 p.2).Nodup:=PY (λp hp q hq e=>by
  have:=RQ e
  exact I8 this.1 (I8 (hop p hp q hq) this.2)) nL
 have s2:Srt (L.map λp=>Cg p.1 p.2):=PT (g:=λp=>B4 p.1 p.2) (λp hp q hq=>(ft (hop p hp q hq)).symm) (by refine rwr eL ?_;exact hs)
 have hrw:∀x∈R.map Ag,∃r,r≠[]∧x=Ag r:=λx hx=>by
  (refine DC ((r3 x).mp hx) ?_;intro k _ _ _ z7;subst z7)
  exact⟨_,by simp,rfl⟩
 refine Q0 (VQ hrw) _ (λy hy=>?_) (PU n2 r1 λx=>?_) s2 r2
 ·(refine AJ (Ay.mp hy) ?_;intro p hp' z8;subst z8)
  (refine Al ((hm p).mp hp') ?_;intro k a1 a2 z9;subst z9)
  exact(r3 _).mpr ⟨k,a1,trivial,a2,rfl⟩
 ·(rewrite [r3];refine rwi Ay ?_)
  constructor
  ·(intro zr25;(refine AJ zr25 ?_;clear zr25;intro p hp' z0;subst z0))
   (refine Al ((hm p).mp hp') ?_;intro k a1 a2 z1;subst z1)
   exact⟨k,a1,trivial,a2,rfl⟩
  ·(intro zr26;(refine DC zr26 ?_;clear zr26;intro k a1 _ a2 z2;subst z2))
   exact⟨_,(hm _).mpr ⟨k,a1,a2,rfl⟩,rfl⟩
end Mine
namespace Mine
noncomputable def C5(p:AA×(AE×List AA)):List Int:=(p.1::p.2.2).map GS
theorem Ke{s:St}{a b:List V}(h:(a++b).length≤100000):F8 .add (.tup a) (.tup b) s=some (.tup (a++b),s):=AM (Bt h)
theorem T8{α β:Type}{f:α→β}(hf:∀a b,f a=f b→a=b):∀{l m:List α},l.map f=m.map f→l=m
 | [],[],_=>rfl
 | [],_::_,h=>by cases h
 | _::_,[],h=>by cases h
 | a::l,b::m,h=>by
  replace h:=BF▸BF▸h
  injection h with h1 h2
  (refine rwl (hf a b h1) (rwl (T8 hf h2) ?_);rfl)
theorem Ph{s:St}{a b:Int}:Ct .eq (.int a) (.int b) s=some (decide (a=b)):=rfl
theorem RR{s:St}{a b:AE}:Ct .eq (.str a) (.str b) s=some (decide (a=b)):=rfl
theorem fE{s:St}{a b:V}{l:List V}(hl:l.length≤1000):EV (.tup (a::b::l)) none (some (.int 1)) s=some (.tup [a],s):=by
 show(if(decide (0≤1)&&decide (1≤(a::b::l).length))=true then EC (cut (a::b::l) 0 1) s else none)=_
 refine rwl (AM (by simp)) ?_;rfl
theorem bf{s:St}{a b:V}{l:List V}(hl:l.length≤1000):EV (.tup (a::b::l)) (some (.int 2)) none s=some (.tup l,s):=by
 show(if(decide (2≤(a::b::l).length)&&decide ((a::b::l).length≤(a::b::l).length))=true then EC (cut (a::b::l) 2 (a::b::l).length) s else none)=_
 refine rwl (AM (by simp)) ?_
 unfold EC cut
 refine rwl Cr ?_
 exact AM (Bt (by simp;omega))
theorem XX{w:W}{k m:AA}{op:AE}:CG (BK w k)= .tup [.str op,nV m]↔(w.nd k).1=op∧(w.nd k).2.length+1=m:=by
 unfold CG BK
 refine rwl (AY ..) ?_
 constructor
 ·intro h
  injection h with h
  injection h with h1 h2
  injection h1 with h1
  injection h2 with h2 _
  exact⟨h1,FJ h2⟩
 ·(intro zr27;(have h1:=zr27.1;have h2:=zr27.2;clear zr27));(refine rwl h1 (rwl h2 ?_);rfl)
section
variable{n:AA}{s:St}{b:AA}{w:W}{Q:QV}
structure RV(NS:List V)(row:List Int)(env:Env)(dv:AA)(u:St)(j:AA)(env':Env)(v:St):Prop where
 v0:∀y,y≠"name"→y≠"value"→y≠"is_one"→env' y=env y
 K:Keep (dv= ·) u v
 len:v.length=u.length
 v1:env' "is_one"=some (.bool (HV NS row j))
 d:∃es ep,v[dv]? =some (.dict es ep)∧es.length≤j∧(HV NS row j=true→JL NS row j es)
theorem upd3{env:Env}{x y z w:AE}{a b c:V}(h1:w≠x)(h2:w≠y)(h3:w≠z):upd (upd (upd env x a) y b) z c w=env w:=(AO h3).trans ((AO h2).trans (AO h1))
theorem gB{cl:Calls}{NS:List V}{row:List Int}{dv pr:AA}{u:St}{env:Env}{Qe:QS}{R:QV}(hNS:∀x∈NS,B9 x=true)(hl:row.length=NS.length)(hm:NS.length≤10)
  (hd:u[dv]? =some (.dict [] 0)) (hpu:u[pr]? =some .priv) (e1:env "values"=some (.ref dv)) (e2:env "is_one"=some (.bool true))
  (q:∀env' v es ep,(∀y,y≠"name"→y≠"value"→y≠"is_one"→env' y=env y)→Keep (dv= ·) u v→v.length=u.length→env' "is_one"=some (.bool (Cd NS row))→v[dv]? =some (.dict es ep)→(Cd NS row=true→JL NS row NS.length es)→Qe env' v):
  IK ["name","value"] (wSs cl [.assign (.name "is_one") (.andB (.name "is_one") (.cmp (.callm (.name "values") "setdefault" [(.name "name"),(.name "value")]) .eq (.name "value")))]) (Bd (some pr) u) (FV NS (row.map V.int)) env u Qe R:=by
 refine rwl (mi hl) ?_
 have hne:dv≠pr:=λz=>by replace hd:=hpu▸z▸hd;cases hd
 refine Kp (RV NS row env dv u) ⟨λ_ _ _ _=>rfl,Keep.refl,rfl,e2,[],0,hd,Aj _,λ_ x=>rfl⟩ (λj env' v z=>fI hpu (z.K.get hpu hne)) (λi j env' v ex z T hT=>?_) λenv' v z=>?_
 ·(refine Bs (IX ex) ?_;intro z3;subst z3;intro hjl)
  refine BO z.d λes ep ed hes hV=>?_
  have ey:NS[j]? =some (NS.getD j .none):=by refine rwl (EO) (rwl (Ba hjl) ?_);rfl
  have hyo:=hNS _ (Bx ey)
  have hf:∀{w:AE} {a b c:V},w≠"name"→w≠"value"→w≠"is_one"→upd (upd (upd env' "name" a) "value" b) "is_one" c w=env w:=λh1 h2 h3=>(upd3 h1 h2 h3).trans (z.v0 _ h1 h2 h3)
  refine nm z.v1 ?_
  have hc1:=lV (NS:=NS) (row:=row) (j:=j)
  cases hc:HV NS row j with
  | false=>exact hT _ _ ⟨λw h1 h2 h3=>hf h1 h2 h3,z.K,z.len,by refine rwl hc1 (rwl hc ?_);rfl,es,ep,ed,I7 hes,λh=>by replace h:=hc▸hc1▸h;cases h⟩
  | true=>
   have V0:=hV hc
   (replace hc1:=hc▸hc1;rewrite [AL.true_and] at hc1)
   refine nm ((z.v0 "values" (by decide) (by decide) (by decide)).trans e1) (Is.it (Js ed) ⟨Jc ed,?_⟩)
   refine rwl (MK ed (Mc hyo) (by omega)) (rwl (V0 ..) ?_)
   cases hm:BG (NS.getD j .none) (NS.take j) with
   | true=>exact⟨_,rfl,Is.it Ph (hT _ _ ⟨λw h1 h2 h3=>hf h1 h2 h3,z.K,z.len,hc1.symm▸rfl,es,ep,ed,I7 hes,λ_=>mz V0 ey hm⟩)⟩
   | false=>
    refine⟨_,rfl,Is.it Ph (hT _ _ ⟨λw h1 h2 h3=>hf h1 h2 h3,z.K.trans (Keep.set rfl),Gz.trans z.len,?_,_,ep+1,EM ed,by refine rwl Au ?_;exact CJ hes,λ_=>ky V0 ey hm⟩)⟩
    refine rwl hc1 (rwl (Wr ey hm) ?_)
    show some (V.bool (decide (row.getD j 0=row.getD j 0)))=_
    (refine rwl (An rfl) ?_;rfl)
 ·refine BO z.d λes ep ed hes hV=>?_
  have e1:=z.v1
  rw [DK] at hV e1
  exact q env' v es ep z.v0 z.K z.len e1 ed hV
structure KI(b:AA)(w:W)(s:St)(op:AE)(NS:List V)(ro m:AA)(i:AA)(env:Env)(t:St):Prop where
 v1:env "heap"=some (.ref b)
 v2:env "op"=some (.str op)
 v3:env "names"=some (.tup NS)
 v4:env "order"=some (.ref ro)
 v5:env "found"=some (.ref s.length)
 K:Keep nk s t
 F:∃F:List V,t[s.length]? =some (.list F)∧F.Nodup∧F.length≤i∧∀x,x∈F↔∃k,k<i∧CG (BK w k)= .tup [.str op,nV m]∧x=B4 (w.rep k) (BK w k)
structure KJ(s:St)(NS:List V)(ro l:AA)(fs rs:List V)(env:Env)(u:St):Prop where
 w1:env "names"=some (.tup NS)
 w2:env "order"=some (.ref ro)
 w3:env "rows"=some (.ref l)
 K:Keep nk s u
 us:u[l+1]? =some (.list fs)
 ur:u[l]? =some (.list rs)
theorem YM{i:AA}{p:AA→Prop}:(∃k,k<i+1∧p k)↔(∃k,k<i∧p k)∨p i:=
 ⟨λzq1=>zq1.elim λk zz=>zz.elim λh q=>(KY.mp h).elim (λh=>.inl ⟨k,h,q⟩) λh=>.inr (h▸q),λh=>h.elim (λzq1=>zq1.elim λk zz=>zz.elim λh q=>⟨k,Cv h,q⟩) λq=>⟨i,DZ i,q⟩⟩
theorem kL{op:AE}{NS Od:List V}{m ro:AA}{R:Rows}(H:Rd s b w)(hO:s[ro]? =some (.list Od))(hNS:∀x∈NS,B9 x=true)(hOn:∀x∈Od,B9 x=true)(hm:NS.length=m)(hm10:m≤10)(hOl:Od.length≤100)
  (hR:ROk w (λ_=>FG) (.tup [.str op,nV m]) (R.map Ag)) (q:∀r t,Keep nk s t→t[r]? =some (.list (((R.filter (Cd NS)).map (pick NS Od)).map Ag))→Q (.ref r) t):
  wC (n+3) "_law_kept" [.ref b,.str op,.tup NS,.ref ro] s Q:=by
 have hn:=H.hn
 have H1:=H.keep (Keep.push (X:=nk) (.list [])) λ_ _=>id
 refine BH (b:=WA) rfl rfl rfl ⟨rfl,Is.it (BN (H1.fix.get 0 _ rfl) (H1.fix.get 1 _ rfl) rfl rfl) (NB H1 ⟨DB (by omega),?_⟩)⟩
 refine Eg (l:=Ab ((w.n:Int)).toNat) (f:=nV) (KI b w s op NS ro m) ⟨rfl,rfl,rfl,rfl,rfl,Keep.push _,[],Af,El,Aj _,λx=>⟨(λh=>xM h),(λzq1=>zq1.elim λ_ zz=>zz.elim λh _=>nomatch h)⟩⟩ (λ_ _ _ _=>rfl) (λi k env t ek j T hT=>?_) λenv t j=>?_
 ·rw [DM] at ek
  (refine Bs (IX ek) ?_;intro z4;subst z4;intro hkl)
  refine DC j.F λF eF nF lF mF=>?_
  have Ht:=H.keep j.K λ_ _=>id
  have hkid:=Ht.kid k hkl
  have hl3:∀{x:V},(x::(BK w k).2.map nV).length≤3:=λ{x}=>by
   have:(BK w k).2.length=(w.nd k).2.length:=AY ..
   refine rwl Co (rwl (AY ..) ?_);omega
  have hfi:B4 (w.rep k) (BK w k)= .tup (nV (w.rep k):: .str (w.nd k).1::(BK w k).2.map nV):=rfl
  refine nm j.v1 (Is.it (BN (Ht.fix.get 0 _ rfl) (Ht.fix.get 1 _ rfl) rfl rfl) (Mt Ht hkl (nm j.v1 (Is.it (CT (Ht.fix.get 0 _ rfl) (Ht.fix.get 1 _ rfl) rfl rfl) (Is.it (BN (Ht.fix.get 2 _ rfl) (Ht.fix.get 3 _ rfl) rfl rfl) (bop Ht hkl ⟨rfl,?_⟩))))))
  refine nm j.v1 (Is.it (CT (Ht.fix.get 0 _ rfl) (Ht.fix.get 1 _ rfl) rfl rfl) (Is.it (BN (Ht.fix.get 2 _ rfl) (Ht.fix.get 3 _ rfl) rfl rfl) (WU Ht hkl (Is.it (a:=((w.nd k).2.map nV,none)) rfl (Po Ht (by omega) hkid.2 (λ_=>j.v1) (λ_=>rfl) ?_)))))
  have hl2:(((w.nd k).2.map w.rep).map nV).length≤2:=by refine rwl (AY ..) (rwl (AY ..) ?_);exact hkid.1
  refine Is.it (Hh Af (AR hl2 (by decide))) (Is.it (a:=(B4 (w.rep k) (BK w k),t++[.list (((w.nd k).2.map w.rep).map nV)])) (Ke (AR (CJ (CJ hl2)) (by decide))) ?_)
  have K2:=j.K.trans (Keep.push (X:=nk) (.list (((w.nd k).2.map w.rep).map nV)))
  have eF2:=(Keep.push (X:=nk) (.list (((w.nd k).2.map w.rep).map nV))).at eF
  revert K2 eF2
  refine gen (α:=List O) (t++[O.list (((w.nd k).2.map w.rep).map nV)]) λt2 K2 eF2=>?_
  have hkey:CG (BK w k)= .tup [.str op,nV m]↔_:=XX
  have same:(CG (BK w k)= .tup [.str op,nV m]→B4 (w.rep k) (BK w k)∈F)→T (upd (upd env "n" (nV k)) "node" (B4 (w.rep k) (BK w k))) t2:=λh=>hT _ _ ⟨j.v1,j.v2,j.v3,j.v4,j.v5,K2,F,eF2,nF,I7 lF,λx=>by
   (refine rwi YM ?_;rewrite [mF])
   exact⟨.inl,λz=>z.elim id λ⟨z1,z2⟩=>(mF x).mp (z2▸h z1)⟩⟩
  refine Is.it (Kg (i:=1) (v:=.str (w.nd k).1) rfl rfl) (nm j.v2 (Is.it RR ?_))
  by_cases h1:(w.nd k).1=op
  ·refine rwl (An h1) ?_
   refine Is.it (LN (AR (CJ hl3) (by decide))) (nm j.v3 (Is.it (LN (by omega)) (Is.it (Gm (by omega) (by omega)) (Is.it Ph ?_))))
   have hlen:((V.int ↑(w.rep k)::V.str (BK w k).1::(BK w k).2.map nV).length:Int)=((w.nd k).2.length:Int)+2:=by
    refine rwl Co (rwl Co (rwl (AY ..) (rwl (show(BK w k).2.length=(w.nd k).2.length from AY ..) ?_)));omega
   refine rwl hlen ?_
   by_cases h2:(w.nd k).2.length+1=m
   ·refine rwl (An (by omega)) ?_
    refine nm j.v5 (Is.it (bC eF2 (WN _ _) λy hy=>by(refine Al ((mF y).mp hy) ?_;intro k _ _ z5;subst z5);exact WN _ _) ?_)
    cases h3:BG (B4 (w.rep k) (BK w k)) F with
    | true=>exact same (λ_=>HZ.mp h3)
    | false=>
     have hmem:B4 (w.rep k) (BK w k)∉F:=λh=>by replace h3:=HZ.mpr h▸h3;cases h3
     refine nm j.v5 (Is.it (DQ eF2) ⟨DO eF2,Is.it (EG eF2 (by omega)) (hT _ _ ⟨j.v1,j.v2,j.v3,j.v4,j.v5,K2.set_new (Aj _),_,EM eF2,?_,by refine rwl Au ?_;exact CJ lF,λx=>?_⟩)⟩)
     ·refine rwi GD ?_
      exact⟨nF,DS.mpr ⟨(λh=>xM h),El⟩,λa ha c hc=>by refine rwl (Aw.mp hc) ?_;exact λz=>hmem (z▸ha)⟩
     ·(refine rwi BD (rwi Aw (rwi YM ?_));rewrite [mF])
      exact or_congr O6 ⟨λz=>⟨hkey.mpr ⟨h1,h2⟩,z⟩,λz=>z.2⟩
   ·refine rwl (B5 (by omega)) ?_
    exact same (λh=>absurd (hkey.mp h).2 h2)
  ·refine rwl (B5 h1) ?_
   exact same (λh=>absurd (hkey.mp h).1 h1)
 ·refine DC j.F λF eF nF lF mF=>?_
  rw [DM,DK] at lF mF
  refine Al (eW nF mF hR) λL eL eR hL=>?_
  have hcF:Cmb F:=Un λx hx=>by refine Al ((mF x).mp hx) λk _ _ e=>?_;exact⟨_,_,e⟩
  have hLl:L.length≤12:=by
   have:=(FN F).length_eq
   (replace this:=eL▸this;rewrite [AY] at this);omega
  refine⟨rfl,nm (j.v5:upd env "rows" _ "found"=_) (M7 ((Keep.push (X:=nk) _).at eF) (IS (by omega) hcF) (by refine rwl eL (rwl (AY ..) ?_);omega) ?_)⟩
  refine rwl eL ?_
  have hsl:(t++[O.list []]).length=t.length+1:=Au
  have es:(t++[O.list []]++[O.list (L.map λp=>B4 p.1 p.2)])[t.length+1]? =some (.list (L.map λp=>B4 p.1 p.2)):=hsl▸Af
  have er:(t++[O.list []]++[O.list (L.map λp=>B4 p.1 p.2)])[t.length]? =some (.list []):=(Keep.push (X:=nk) _).at Af
  have K0:Keep nk s (t++[O.list []]++[O.list (L.map λp=>B4 p.1 p.2)]):=j.K.trans ((Keep.push _).trans (Keep.push _))
  have hst:=j.K.len
  refine rwl hsl ?_
  revert es er K0
  refine gen (α:=List O) (t++[O.list []]++[O.list (L.map λp=>B4 p.1 p.2)]) λu0 es er K0=>?_
  have hrow:(L.map C5)=R:=T8 (λa b=>MX) (show(L.map C5).map Ag=R.map Ag by refine rwr eR (rwl CQ ?_);rfl)
  refine Is.it (C4 es) (Eg (λi env u=>KJ s NS ro t.length (L.map λp=>B4 p.1 p.2) (((((L.take i).map C5).filter (Cd NS)).map (pick NS Od)).map Ag) env u) ⟨j.v3,j.v4,rfl,K0,es,er⟩ (λi env u z=>Cy es z.us) (λi p env u ep z T hT=>?_) λenv u z=>?_)
  ·have hp:=hL _ (Bx ep)
   obtain⟨c,d⟩:=p
   have hp:d.1=op∧d.2.length+1=m:=hp
   have hlr:=BI z.ur
   have hls:=BI z.us
   have hrl:(C5 (c,d)).length=NS.length:=by unfold C5;refine rwl (AY ..) (rwl Co ?_);omega
   have hdl:(d.2.map nV).length≤10:=by refine rwl (AY ..) ?_;omega
   refine⟨[],rfl,rfl,rfl,Is.it rfl ?_⟩
   refine nm z.w1 (Is.it (fE (AR hdl (by decide))) (Is.it (bf (AR hdl (by decide))) (Is.it (Ke (AR (CJ hdl) (by decide))) ⟨hrl.symm.trans (by unfold C5;refine rwl (AY ..) (rwl Au (rwl (AY ..) ?_));exact GF _ 1),?_⟩)))
   have ezip:FV NS ([nV c]++d.2.map nV)=FV NS ((C5 (c,d)).map V.int):=by unfold C5;refine rwl CQ ?_;rfl
   refine rwl ezip ?_
   have n1:∀{i:AA} {o:O},u[i]? =some o→(u++[O.dict [] ([]:List (V×V)).length]++[O.priv])[i]? =some o:=λh=>((Keep.push (X:=nk) _).trans (Keep.push _)).at h
   have h1:(u++[O.dict [] ([]:List (V×V)).length]++[O.priv])[u.length]? =some (.dict [] 0):=(Keep.push (X:=nk) _).at Af
   have h2:(u++[O.dict [] ([]:List (V×V)).length]++[O.priv])[(u++[O.dict [] ([]:List (V×V)).length]).length]? =some .priv:=Af
   refine gB hNS hrl (by omega) h1 h2 rfl rfl λenv' v es' ep' f0 Kv lv e1 ed hV=>?_
   have hul:(u++[O.dict [] ([]:List (V×V)).length]++[O.priv]).length=u.length+2:=by refine rwl Au (rwl Au ?_);rfl
   have m1:∀{i:AA} {o:O},u[i]? =some o→v[i]? =some o:=λ{i o} h=>Kv.get (n1 h) λz=>CY _ (z▸BI h)
   have Kuv:Keep nk u v:=⟨by refine rwl lv (rwl hul ?_);exact Bh _ _,λi hi _=>(m1 (Ba hi)).trans (Ba hi).symm⟩
   have KKv:=z.K.trans Kuv
   have g1:=(f0 "names" (by decide) (by decide) (by decide)).trans z.w1
   have g2:=(f0 "order" (by decide) (by decide) (by decide)).trans z.w2
   have g3:=(f0 "rows" (by decide) (by decide) (by decide)).trans z.w3
   have g4:env' "values"=some (.ref u.length):=f0 "values" (by decide) (by decide) (by decide)
   have hfl:(((((L.take i).map C5).filter (Cd NS)).map (pick NS Od)).map Ag).length≤12:=by
    refine rwl (AY ..) (rwl (AY ..) ?_)
    refine AR (Fs _ _) ?_
    refine rwl (AY ..) (rwl FC ?_);omega
   have tk:((((L.take (i+1)).map C5).filter (Cd NS)).map (pick NS Od)).map Ag=((((L.take i).map C5).filter (Cd NS)).map (pick NS Od)).map Ag++(([C5 (c,d)].filter (Cd NS)).map (pick NS Od)).map Ag:=by
    refine rwl (CW ep) (rwl BS (rwl (IG ..) (rwl BS (rwl BS ?_))));rfl
   refine nm e1 ?_
   cases hc:Cd NS (C5 (c,d)) with
   | false=>exact hT _ _ ⟨g1,g2,g3,KKv,m1 z.us,by refine rwl (m1 z.ur) (rwl tk (rwl (KX (KU.mp hc)) ?_));exact AW (λl=>some (O.list l)) (Bo _).symm⟩
   | true=>
    have V0:=hV hc
    have hnv:∀x,Aa x es'=if BG x NS=true then some (.int ((C5 (c,d)).getD (idx NS x) 0)) else none:=λx=>by(refine rwl (V0 x) (rwl Cr ?_);rfl)
    refine nm g3 (Is.it (DQ (m1 z.ur)) (nm g2 (Is.it (C4 (KKv.at hO)) (Q4 (λx=>.int ((C5 (c,d)).getD (idx NS x) 0)) (λx=>BG x NS) _ (λ_=>rfl) (AR hOl (by decide)) (Cy (KKv.at hO) (KKv.at hO)) (λx hx Y N hY hN=>?_) ?_))))
    ·refine nm g4 (Is.it (YX (hOn x hx) ed) ?_)
     refine rwl (hnv x) ?_
     cases hq:BG x NS with
     | true=>exact nm g4 (Is.it (Gj ed (Mc (hOn x hx)) (by refine rwl (hnv x) (rwl hq ?_);rfl)) (hY hq))
     | false=>exact hN hq
    ·have ep2:(Od.filter λx=>BG x NS).map (λx=>V.int ((C5 (c,d)).getD (idx NS x) 0))=(pick NS Od (C5 (c,d))).map V.int:=by unfold pick;refine rwl CQ ?_;rfl
     refine rwl ep2 ?_
     have hpl:((pick NS Od (C5 (c,d))).map V.int).length≤100:=by unfold pick;refine rwl (AY ..) (rwl (AY ..) ?_);exact AR (Fs _ _) hOl
     have ur2:=(Keep.push (X:=nk) (.list (GG V.int (pick NS Od (C5 (c,d)))))).at (m1 z.ur)
     have us2:=(Keep.push (X:=nk) (.list (GG V.int (pick NS Od (C5 (c,d)))))).at (m1 z.us)
     refine Is.it (Hh Af (AR hpl (by decide))) ⟨DO ur2,Is.it (EG ur2 (AR hfl (by decide))) (hT _ _ ⟨g1,g2,g3,(KKv.trans (Keep.push _)).set_new hst,(Bl (BP (DZ _))).trans us2,(EM ur2).trans ?_⟩)⟩
     refine rwl tk (rwl (II hc) ?_);rfl
  ·have ur:=z.ur
   replace ur:=hrow▸Cr▸ur
   exact nm z.w3 (q _ _ z.K ur)
end
end Mine
namespace Mine
theorem f7{s:St}{r ep:AA}{es:List (V×V)}{k d:V}(h:s[r]? =some (.dict es ep))(hk:k.simple=true):Ec (.ref r) "get" [k,d] s=some ((Aa k es).getD d,s):=(EX h).trans ((AO (by decide)).trans ((AM rfl).trans (AM hk)))
theorem UR{s:St}{l:List V}{x:V}{i:AA}(h:JM (eqR Bv s) x l=some i):Ec (.tup l) "index" [x] s=some (nV i,s):=by
 show(JM (eqR Bv s) x l).map _=_
 refine rwl h ?_;rfl
theorem Wa{NS:List V}{x:V}(h:BG x NS=true):idx NS x<NS.length:=by
 unfold idx
 refine rwi List.findIdx_lt_length ?_
 unfold BG at h
 rwa [L5] at h
theorem Rc{s:St}{row:List Int}{k:AA}(h:k<row.length)(hk:row.length≤1000):CP (Ag row) (nV k) s=some (.int (row.getD k 0)):=
 Kg (by refine rwl (DU) (rwl (Ba h) (rwl (EO) (rwl (Ba h) ?_)));rfl) (DB (by omega))
theorem TX{s:St}{a b:AA}{l:List V}(ha:s[a]? =some (.list l))(hb:s[b]? =some (.list []))(h:a≠b):Ct .eq (.ref a) (.ref b) s=some (decide (l=[])):=by
 show eqR (11+1) s (.ref a) (.ref b)=_
 refine(AO h).trans ((Bu ha).trans ((Bu hb).trans ?_))
 cases l with
 | nil=>rfl
 | cons x l=>rfl
section
variable{n:AA}{s:St}{a:AA}{P:List (V×V)}{Q:QV}
theorem TabAt.keep{t:St}(T:TabAt s a P)(K:Keep nk s t):TabAt t a P:=⟨K.at T.i0,K.at T.i1,(T.mm).elim λlo zz=>zz.elim λex M=>⟨lo,ex,M.keep K (.inl rfl)⟩⟩
theorem g6{op:AE}{m:AA}(T:TabAt s a P)(q:∀r,(s++[O.list []])[r]? =some (.list (B3 P (.tup [.str op,nV m])))→Q (.ref r) (s++[.list []])):wC (n+1) "Tables.table" [.ref a,.str op,nV m] s Q:=by
 refine CU T.mm λlo ex M=>?_
 refine Ld M.dict λes ep ed _ h1 h2 _=>?_
 have ed':=(Keep.push (X:=nk) (.list [])).at ed
 refine BH (b:=WI) rfl rfl rfl (Is.it (CT T.i0 T.i1 rfl rfl) (Is.it (Js ed) ⟨rfl,rfl,Jc ed',Is.it (f7 ed' rfl) ?_⟩))
 cases hg:Aa (.tup [.str op,nV m]) es with
 | none=>exact q _ (by refine rwl (h1 _ hg) ?_;exact Af)
 | some v=>
  (refine DC (h2 _ _ hg) ?_;intro r z6;subst z6;intro _ _ er)
  exact q r ((Keep.push (X:=nk) _).at er)
noncomputable def QN(NS:List V)(row:List Int)(m:AA):List AA:=(Ab m).filter λk=>!decide (row.getD k 0=row.getD (idx NS (NS.getD k .none)) 0)
theorem mw{NS:List V}{row:List Int}:decide ((QN NS row NS.length).map nV=[])=Cd NS row:=by
 refine Rv.mpr ((Li).trans (Rw.trans (Rx.trans ?_)))
 unfold Cd HV
 refine rwi BE ?_
 refine forall_congr' λk=>forall_congr' λ_=>?_
 by_cases q:row.getD k 0=row.getD (idx NS (NS.getD k .none)) 0
 ·refine rwl (An q) (rwl (An q.symm) ?_);decide
 ·refine rwl (B5 q) (rwl (B5 (Bq q)) ?_);decide
theorem dP{op:AE}{NS Od:List V}{m ro:AA}{R:Rows}(T:TabAt s a P)(hO:s[ro]? =some (.list Od))(hNS:∀x∈NS,B9 x=true)(hOn:∀x∈Od,B9 x=true)(hm:NS.length=m)(hm10:m≤10)(hOl:Od.length≤100)
  (hR:B3 P (.tup [.str op,nV m])=R.map Ag) (hRm:∀r∈R,r.length=m) (hRl:R.length≤100) (q:∀x t,Keep nk s t→Trie t s.length t.length (Od.filter λx=>BG x NS).length ((R.filter (Cd NS)).map (pick NS Od)) x→Q (.ref x) t):
  wC (n+2) "Tables.trie" [.ref a,.str op,.tup NS,.ref ro] s Q:=by
 subst hm
 refine BH (b:=YJ) rfl rfl rfl (Is.it (BN T.i0 T.i1 rfl rfl) (Is.it (LN (by omega)) (g6 T λr er=>?_)))
 replace er:=hR▸er
 refine Is.it (C4 er) (IU (λi acc t=>Keep nk (s++[.list []]) t∧acc=((R.take i).filter (Cd NS)).map Ag) _ (λ_=>rfl) (by omega) ⟨Keep.refl,rfl⟩ (λi acc t j=>Cy er (j.1.at er)) (λi row acc t ei j Y N hY hN=>?_) λys t j=>?_)
 ·(refine Bs j ?_;clear j;intro K z7;subst z7)
  have hl:=hRm row (Bx ei)
  refine Is.it (LN (by omega)) ⟨DB (by omega),JN (l:=Ab ((NS.length:Int)).toNat) (f:=nV) nV (λk=>!decide (row.getD k 0=row.getD (idx NS (NS.getD k .none)) 0)) _ (λ_=>rfl) (by refine rwl (DM ..) (rwl DK ?_);omega) rfl (λk hk Y N hY hN=>?_) ?_⟩
  ·rw [DM,Ca] at hk
   have ey:NS[k]? =some (NS.getD k .none):=by refine rwl (EO) (rwl (Ba hk) ?_);rfl
   have hyo:=hNS _ (Bx ey)
   have hym:BG (NS.getD k .none) NS=true:=HZ.mpr (Bx ey)
   refine Is.it (Rc (by omega) (by omega)) (Is.it rfl (Is.it (Kg ey (DB (by omega))) ⟨rfl,Is.it (UR (Tp hyo hNS hym)) (Is.it (Rc (k:=idx NS (NS.getD k .none)) (by have:=Wa hym;omega) (by omega)) (Is.it (a:=!decide (row.getD k 0=row.getD (idx NS (NS.getD k .none)) 0)) rfl ?_))⟩))
   by_cases h:row.getD k 0=row.getD (idx NS (NS.getD k .none)) 0
   ·refine rwl (An h) ?_
    exact hN (by refine rwl (An h) ?_;rfl)
   ·refine rwl (B5 h) ?_
    exact hY (by refine rwl (B5 h) ?_;rfl)
  ·refine rwl (DM ..) ?_
   have e1:=(Keep.push (X:=nk) (.list [])).at (Af (s:=t) (o:=.list ((QN NS row NS.length).map nV)))
   refine⟨rfl,Is.it (TX e1 Af (BP (BI Af))) ?_⟩
   refine rwl mw ?_
   have KK:Keep nk (s++[.list []]) (t++[.list ((QN NS row NS.length).map nV)]++[.list []]):=K.trans ((Keep.push _).trans (Keep.push _))
   have tk:((R.take (i+1)).filter (Cd NS)).map Ag=((R.take i).filter (Cd NS)).map Ag++([row].filter (Cd NS)).map Ag:=by(refine rwl (CW ei) (rwl (IG ..) (rwl BS ?_));rfl)
   cases hc:Cd NS row with
   | true=>exact hY _ _ ⟨KK,by refine rwl tk (rwl (II hc) ?_);rfl⟩
   | false=>exact hN _ ⟨KK,by refine rwl tk (rwl (KX (KU.mp hc)) ?_);exact(Bo _).symm⟩
 ·(have K:=j.1;have hy:=j.2;clear j)
  replace hy:=Cr▸hy
  have hkl:(R.filter (Cd NS)).length≤100:=AR (Fs _ _) hRl
  have hkm:∀r∈R.filter (Cd NS),r.length=NS.length:=λr hr=>hRm r (Ew.mp hr).1
  refine rwl hy ?_
  revert q hkl hkm
  refine gen (R.filter (Cd NS)) λRk=>?_
  set_option tactic.hygienic false in intros
  have K1:Keep nk s (t++[.list (Rk.map Ag)]):=(Keep.push _).trans (K.trans (Keep.push _))
  have ek:(t++[.list (Rk.map Ag)])[t.length]? =some (.list (Rk.map Ag)):=Af
  have eO:=K1.at hO
  show Ia _ _ _ _ (t++[O.list (Rk.map Ag)])
  revert ek eO K1
  refine gen (α:=List O) (t++[O.list (Rk.map Ag)]) λt1=>?_
  set_option tactic.hygienic false in intros
  refine Is.it (C4 eO) (Q4 (λx=>nV (idx NS x)) (λx=>BG x NS) _ (λ_=>rfl) (AR hOl (by decide)) (Cy eO eO) (λx hx Y N hY hN=>?_) ?_)
  ·refine Is.it (jL (hOn x hx) hNS) ?_
   cases hq:BG x NS with
   | true=>exact Is.it rfl ⟨rfl,Is.it (UR (Tp (hOn x hx) hNS hq)) (hY hq)⟩
   | false=>exact hN hq
  ·have hps:(Od.filter λx=>BG x NS).map (λx=>nV (idx NS x))=((Od.filter λx=>BG x NS).map (idx NS)).map nV:=by refine rwl CQ ?_;rfl
   refine rwl hps ?_
   have hpl:((Od.filter λx=>BG x NS).map (idx NS)).length≤100:=by refine rwl (AY ..) ?_;exact AR (Fs _ _) hOl
   have hpm:∀k∈(Od.filter λx=>BG x NS).map (idx NS),k<NS.length:=λk hk=>by
    (refine AJ (Ay.mp hk) ?_;intro x hx z8;subst z8)
    exact Wa (Ew.mp hx).2
   have hpick:∀row:List Int,(((Od.filter λx=>BG x NS).map (idx NS)).map λk=>V.int (row.getD k 0))=(pick NS Od row).map V.int:=λrow=>by unfold pick;refine rwl CQ (rwl CQ ?_);rfl
   revert hpl hpm hpick
   refine gen ((Od.filter λx=>BG x NS).map (idx NS)) λps=>?_
   set_option tactic.hygienic false in intros
   have ek2:=(Keep.push (X:=nk) (.list (GG nV ps))).at ek
   have ep:(t1++[O.list (GG nV ps)])[t1.length]? =some (.list (ps.map nV)):=Af
   have K2:Keep nk s (t1++[.list (GG nV ps)]):=K1.trans (Keep.push _)
   show Ia _ _ _ _ (t1++[O.list (GG nV ps)])
   revert ek2 ep K2
   refine gen (α:=List O) (t1++[O.list (GG nV ps)]) λu2=>?_
   set_option tactic.hygienic false in intros
   refine Is.it (C4 ek2) (IU (λi acc v=>Keep nk u2 v∧acc=((Rk.take i).map (pick NS Od)).map Ag) _ (λ_=>rfl) (by omega) ⟨Keep.refl,rfl⟩ (λi acc v j=>Cy ek2 (j.1.at ek2)) (λi row acc v ei j Y N hY _=>?_) λys v j=>?_)
   ·(refine Bs j ?_;clear j;intro Kv z9;subst z9)
    have hl:=hkm row (Bx ei)
    have ep':=Kv.at ep
    refine Is.it (C4 ep') (M9 (λk=>.int (row.getD k 0)) (by omega) (Cy ep' ep') (λk hk Y hY=>Is.it (Rc (by have:=hpm k hk;omega) (by omega)) hY) ?_)
    refine rwl (hpick ..) ?_
    have hl3:((pick NS Od row).map V.int).length≤100000:=by refine rwr (hpick ..) (rwl (AY ..) ?_);omega
    exact Is.it (Hh Af hl3) (hY _ _ ⟨Kv.trans (Keep.push _),by refine rwl (CW ei) (rwl BS (rwl BS ?_));rfl⟩)
   ·(have Kv:=j.1;have hy:=j.2;clear j)
    replace hy:=Cr▸hy
    refine rwl hy ?_
    have K3:Keep nk s (v++[.list (GG Ag (Rk.map (pick NS Od)))]):=K2.trans (Kv.trans (Keep.push _))
    refine UW Af (λx hx=>?_) (by refine rwl (AY ..) ?_;omega) λx z Kz Tz=>q x z (K3.trans Kz) (Tz.wide K3.len (Aj _))
    (refine AJ (Ay.mp hx) ?_;intro row _ z0;subst z0)
    unfold pick;(refine rwl (AY ..) ?_;rfl)
end
end Mine
namespace Mine
inductive Pt where
 | x | y | a
 | f (p:Pt)
 | g (p q:Pt)
noncomputable def Pt.op:Pt→AE
 | .x=>"?x" | .y=>"?y" | .a=>"a" | .f _=>"f" | .g _ _=>"g"
noncomputable def Pt.kids:Pt→List Pt
 | .f p=>[p] | .g p q=>[p,q] | _=>[]
noncomputable def Pt.isVar:Pt→AL
 | .x=>true | .y=>true | _=>false
noncomputable def Pt.toV:Pt→V
 | .x=>.tup [.str "?x"] | .y=>.tup [.str "?y"] | .a=>.tup [.str "a"] | .f p=>.tup [.str "f",p.toV] | .g p q=>.tup [.str "g",p.toV,q.toV]
theorem NI(p:Pt):p.toV= .tup (.str p.op::p.kids.map Pt.toV):=by cases p<;>rfl
noncomputable def Pt.dp:Pt→AA
 | .f p=>p.dp+1 | .g p q=>p.dp+q.dp+1 | _=>0
theorem YD{p q:Pt}(h:q∈p.kids):q.dp<p.dp:=by
 cases p<;>simp [Pt.kids] at h
 ·subst h;simp [Pt.dp]
 ·rcases h with rfl | rfl<;>simp [Pt.dp]<;>omega
noncomputable def Ea(f:Pt→List (List Int×Pt))(l:List Pt):List (List Int×Pt):=l.zipIdx.flatMap λz=>(f z.1).map λp=>((z.2:Int)::p.1,p.2)
noncomputable def Pt.parts:Pt→List (List Int×Pt)
 | .f p=>([],.f p)::(p.parts.map λz=>(0::z.1,z.2))
 | .g p q=>([],.g p q)::((p.parts.map λz=>(0::z.1,z.2))++q.parts.map λz=>(1::z.1,z.2))
 | p=>[([],p)]
theorem NJ(p:Pt):p.parts=([],p)::Ea Pt.parts p.kids:=by cases p<;>simp [Pt.parts,Pt.kids,Ea]
noncomputable def Ky(z:List Int×Pt):V:=.tup [Ag z.1,z.2.toV]
noncomputable def Ga(path:List Int)(k:AA)(q:Pt):V:=if q.isVar then .str q.op else Ag (path++[(k:Int)])
noncomputable def CV(path:List Int)(p:Pt):List V:=Ag path::p.kids.zipIdx.map λz=>Ga path z.2 z.1
noncomputable def CN(z:List Int×Pt):V:=.tup [.str z.2.op,.tup (CV z.1 z.2)]
noncomputable def Pt.atoms(p:Pt):List V:=(p.parts.filter λz=>!z.2.isVar).map CN
noncomputable def Pt.lawAtoms:Pt→List Int→List V
 | .x,_=>[]
 | .y,_=>[]
 | .a,path=>[CN (path,.a)]
 | .f p,path=>CN (path,.f p)::p.lawAtoms (path++[0])
 | .g p q,path=>CN (path,.g p q)::(p.lawAtoms (path++[0])++q.lawAtoms (path++[1]))
theorem LH:∀(p:Pt) (path:List Int),p.lawAtoms path=(p.parts.filter λz=>!z.2.isVar).map λz=>CN (path++z.1,z.2)
 | .x,path=>rfl
 | .y,path=>rfl
 | .a,path=>by simp [Pt.lawAtoms,Pt.parts,Pt.isVar]
 | .f p,path=>by
  (rewrite [Pt.lawAtoms];rewrite [LH p];rewrite [Pt.parts];refine rwl (II rfl) (rwl BF (rwl PA (rwl CQ (rwl (Bo ..) ?_)))))
  congr 1
  refine DE λz _=>?_
  show CN (path++[0]++z.1,z.2)=CN (path++0::z.1,z.2)
  refine rwl (Dt ..) ?_;rfl
 | .g p q,path=>by
  (rewrite [Pt.lawAtoms];rewrite [LH p];rewrite [LH q];rewrite [Pt.parts];refine rwl (II rfl) (rwl BF (rwl (IG ..) (rwl BS (rwl PA (rwl CQ (rwl PA (rwl CQ (rwl (Bo ..) ?_)))))))))
  congr 1
  congr 1
  ·refine DE λz _=>?_
   show CN (path++[0]++z.1,z.2)=CN (path++0::z.1,z.2)
   refine rwl (Dt ..) ?_;rfl
  ·refine DE λz _=>?_
   show CN (path++[1]++z.1,z.2)=CN (path++1::z.1,z.2)
   refine rwl (Dt ..) ?_;rfl
theorem kQ(path:List Int)(k:AA)(q:Pt):B9 (Ga path k q)=true:=by
 unfold Ga
 split
 ·rfl
 ·show((path++[(k:Int)]).map V.int).all V.atom=true
  refine rwl G1 (rwi BE ?_);exact λ_ _=>rfl
theorem bB(r:List Int):B9 (Ag r)=true:=by
 show(r.map V.int).all V.atom=true
 refine rwl G1 (rwi BE ?_);exact λ_ _=>rfl
theorem Nl{path:List Int}{p:Pt}:∀x∈CV path p,B9 x=true:=λx hx=>by
 rcases Ak.mp hx with rfl | hx
 ·exact bB _
 ·(refine AJ (Ay.mp hx) ?_;intro z _ z1;subst z1);exact kQ _ _ _
theorem IW(p:Pt):p.kids.length≤2:=by cases p<;>simp [Pt.kids]
theorem W5{path:List Int}{p:Pt}:(CV path p).length=p.kids.length+1:=by unfold CV;simp
section
theorem V7{n:AA}{s:St}{p:Pt}{Q:QV}(q:Q (.bool p.isVar) s):wC (n+1) "is_variable" [p.toV] s Q:=by
 refine BH (b:=VV) rfl rfl rfl ?_
 cases p with
 | x=>exact Is.it (a:=(.int 1,s)) rfl (Is.it (a:=true) rfl (Is.it (a:=.str "?x") rfl (Is.it (a:=(.str "?",s)) rfl (Is.it (a:=true) rfl q))))
 | y=>exact Is.it (a:=(.int 1,s)) rfl (Is.it (a:=true) rfl (Is.it (a:=.str "?y") rfl (Is.it (a:=(.str "?",s)) rfl (Is.it (a:=true) rfl q))))
 | a=>exact Is.it (a:=(.int 1,s)) rfl (Is.it (a:=true) rfl (Is.it (a:=.str "a") rfl (Is.it (a:=(.str "a",s)) rfl (Is.it (a:=false) rfl q))))
 | f p=>exact Is.it (a:=(.int 2,s)) rfl (Is.it (a:=false) rfl q)
 | g p r=>exact Is.it (a:=(.int 3,s)) rfl (Is.it (a:=false) rfl q)
theorem LX:∀{p:Pt} {z:List Int×Pt},z∈p.parts→z.1.length≤p.dp
 | .x,z,h=>by simp [Pt.parts] at h;subst h;exact BL _
 | .y,z,h=>by simp [Pt.parts] at h;subst h;exact BL _
 | .a,z,h=>by simp [Pt.parts] at h;subst h;exact BL _
 | .f p,z,h=>by
  rcases Ak.mp h with rfl | h
  ·exact BL _
  ·(refine AJ (Ay.mp h) ?_;intro u hu z2;subst z2)
   exact CJ (LX hu)
 | .g p q,z,h=>by
  rcases Ak.mp h with rfl | h
  ·exact BL _
  ·rcases BD.mp h with h | h
   ·(refine AJ (Ay.mp h) ?_;intro u hu z3;subst z3)
    have:=LX hu
    simp [Pt.dp];omega
   ·(refine AJ (Ay.mp h) ?_;intro u hu z4;subst z4)
    have:=LX hu
    simp [Pt.dp];omega
theorem MT{s:St}{x:V}{l:List V}(h:l.length≤90000):EV (.tup (x::l)) (some (.int 1)) none s=some (.tup l,s):=
 (Md (s:=s) (x:=x) (Q:=λv t=>v= .tup l∧t=s) h ⟨rfl,rfl⟩).two λv t e p=>by(refine rwl e (rwl p.1 (rwl p.2 ?_));rfl)
theorem QG{s:St}{r q:AA}{xs ys:List V}(h:s[r]? =some (.list xs))(h':s[q]? =some (.list ys))(hne:q≠r)(hf:xs.length+ys.length≤100000):Ec (.ref r) "extend" [.ref q] s=some (.none,s.set r (.list (xs++ys))):=
 (Bu h).trans ((AO (by decide)).trans ((AM rfl).trans ((AO hne).trans ((Bu h').trans (AM (Bt hf))))))
theorem Qw{α:Type}{f:α→V}{l:List α}:∀k,EZ k (l.map f)=(l.zipIdx k).map λz=>V.tup [nV z.2,f z.1]:=by
 induction l with
 | nil=>exact λ_=>rfl
 | cons a l ih=>exact λk=>AW (V.tup [nV k,f a]:: ·) (ih (k+1))
theorem V3{α:Type}{l:List α}{i:AA}{z:α×AA}(e:l.zipIdx[i]? =some z):z.2=i∧l[i]? =some z.1:=by
 (replace e:=List.getElem?_zipIdx▸e;rewrite [Dn] at e)
 (refine AJ e ?_;clear e;intro a ea z5;subst z5)
 exact⟨CI i,ea⟩
theorem Qk{f:Pt→List (List Int×Pt)}{l:List Pt}{q:Pt}:Ea f (l++[q])=Ea f l++(f q).map λp=>((l.length:Int)::p.1,p.2):=by
 unfold Ea;refine rwl PB (rwl IH ?_);simp
theorem VO{f:Pt→List (List Int×Pt)}{l:List Pt}{i:AA}:(Ea f (l.take i)).length≤(Ea f l).length:=by
 have h1:=JA i l
 have h2:Ea f l=Ea f (l.take i)++((l.drop i).zipIdx (l.take i).length).flatMap λz=>(f z.1).map λp=>((z.2:Int)::p.1,p.2):=by
  conv=>lhs;rw [←h1]
  unfold Ea;(refine rwl PB (rwl IH (rwl (CI ..) ?_));rfl)
 refine rwl h2 (rwl Au ?_);exact Bh _ _
structure PI(p:Pt)(s:St)(i:AA)(env:Env)(t:St):Prop where
 v1:env "found"=some (.ref s.length)
 K:Keep nk s t
 ef:t[s.length]? =some (.list ((([],p)::Ea Pt.parts (p.kids.take i)).map Ky))
theorem fy(N:AA):∀{p:Pt} {s:St} {Q:QV},p.dp<N→p.dp≤100→p.parts.length≤1000→(∀r t,Keep nk s t→t[r]? =some (.list (p.parts.map Ky))→s.length≤r→Q (.ref r) t)→wC N "parts" [p.toV] s Q:=by
 induction N with
 | zero=>exact λh=>absurd h (CR _)
 | succ N ih=>
  intro p s Q h hd hl q
  have hk2:=IW p
  refine rwl (NI ..) ?_
  refine BH (b:=UA) rfl rfl rfl ⟨rfl,rfl,rfl,?_⟩
  refine Is.it (MT (by refine rwl (AY ..) ?_;omega)) ?_
  show PM _ _ _ _ _ (EZ 0 (p.kids.map Pt.toV)) none _
  refine rwl (Qw ..) ?_
  refine Kp (PI p s) ⟨rfl,Keep.push _,Af.trans (by refine rwr (NI ..) ?_;rfl)⟩ (λ_ _ _ _=>rfl) (λi z env t ez j T hT=>?_) λenv t j=>?_
  ·obtain⟨q',i'⟩:=z
   (refine Bs (V3 ez) ?_;intro z6;subst z6;intro eq)
   have eq:p.kids[i']? =some q':=eq
   have j:PI p s i' env t:=j
   have hdp:=YD (Bx eq)
   have hil:(p.kids.take i').length=i':=by refine rwl FC ?_;exact J6 (B7 (BA.mp eq).1)
   have hpl:(Ea Pt.parts (p.kids.take (i'+1))).length≤999:=by
    (rewrite [NJ] at hl;replace hl:=Co▸hl)
    exact AR VO (OU hl)
   (replace hpl:=Au▸Qk▸CW eq▸hpl;rewrite [AY] at hpl)
   refine nm j.v1 (Is.it (DQ j.ef) (ih (p:=q') (by omega) (by omega) (by omega) λr u Ku er hr=>Is.it (C4 er) ?_))
   refine JN (λz=>Ky ((i':Int)::z.1,z.2)) (λ_=>true) _ (λ_=>rfl) (by omega) (Cy er er) (λz hz Y N hY _=>?_) ?_
   ·have hz:=LX hz
    exact⟨rfl,Is.it (Mi (a:=[(i':Int)]) (b:=z.1) (by refine rwl Au (rwl GR ?_);omega)) ⟨rfl,hY rfl⟩⟩
   ·refine rwl (MF.mpr λ_ _=>rfl) ?_
    have ef':=(Keep.push (X:=nk) (.list (q'.parts.map λz=>Ky ((i':Int)::z.1,z.2)))).at (Ku.at j.ef)
    refine⟨DO ef',Is.it (QG ef' Af (Fm (BI (Ku.at j.ef))) (by refine rwl (AY ..) (rwl (AY ..) (rwl Co ?_));omega)) (hT _ _ ⟨j.v1,((j.K.trans Ku).trans (Keep.push _)).set_new (Aj _),(EM ef').trans ?_⟩)⟩
    refine rwl (CW eq) (rwl Qk (rwl hil (rwr Lk (rwl BS (rwl CQ ?_)))));rfl
  ·have ef:=j.ef
   (replace ef:=Cr▸PC▸ef;rewrite [←NJ] at ef)
   exact nm j.v1 (q _ _ j.K ef (Aj _))
end
end Mine
namespace Mine
theorem LD{p:Pt}{s:St}:CP p.toV (.int 0) s=some (.str p.op):=by refine rwl (NI ..) ?_;exact Kg (i:=0) rfl rfl
theorem PN{p:Pt}{s:St}:EV p.toV (some (.int 1)) none s=some (.tup (p.kids.map Pt.toV),s):=by refine rwl (NI ..) ?_;exact MT (by refine rwl (AY ..) ?_;have:=IW p;omega)
theorem Uh{cl:Calls}{s:St}{hid:Env}{p:Pt}{path:List Int}{c1:CE}{x:AE}{Q:QL}(hp:path.length≤1000)
  (hc:∀(q:Pt) (v:V) (Q':QV),Q' (.bool q.isVar) s→wE cl c1 (BY [] (upd (upd hid "k" v) "kid" q.toV)) s Q')
  (hx:∀v w,BY [] (upd (upd hid "k" v) "kid" w) x=some (Ag path)) (q:Q (p.kids.zipIdx.map λz=>Ga path z.2 z.1) s):
  kG (Eb ["k","kid"] hid (wT cl []) λe1=>wG cl [] (wE cl (.ite c1 (.sub (.name "kid") (.cint 0)) (.bin .add (.name x) (.tuple [.name "k"])))) e1 (BY (Bp []) e1)) [] Q (EZ 0 (p.kids.map Pt.toV)) none s:=by
 refine rwl (Qw ..) ?_
 refine JN (λz=>Ga path z.2 z.1) (λ_=>true) _ (λ_=>rfl) (by refine rwl PC ?_;have:=IW p;omega) rfl (λz _ Y N hY _=>hc z.1 _ _ ?_) ((MF.mpr λ_ _=>rfl:p.kids.zipIdx.filter (λ_=>true)=_).symm▸q)
 have hY:=hY rfl
 unfold Ga at hY
 cases hv:z.1.isVar with
 | true=>
  replace hY:=hv▸hY
  exact Is.it LD hY
 | false=>
  replace hY:=hv▸hY
  exact nm (hx _ _) ⟨rfl,Is.it (Mi (a:=path) (b:=[(z.2:Int)]) (by refine rwl Au (rwl GR ?_);omega)) hY⟩
theorem Yc(p:Pt):(p.kids.zipIdx).length≤2:=by refine rwl PC ?_;exact IW p
theorem gn{α:Type}(f:Pt×AA→List α)(l:List Pt)(i:AA):((l.take i).zipIdx.flatMap f).length≤(l.zipIdx.flatMap f).length:=by
 have h:l.zipIdx=(l.take i).zipIdx++(l.drop i).zipIdx (l.take i).length:=by
  conv=>lhs;rw [←JA i l]
  refine rwl PB ?_;simp
 refine rwl h (rwl IH (rwl Au ?_));omega
section
structure AI(p:Pt)(s:St)(r i:AA)(env:Env)(u:St):Prop where
 v1:env "found"=some (.ref s.length)
 K:Keep nk s u
 eu:u[r]? =some (.list (p.parts.map Ky))
 ef:u[s.length]? =some (.list (((p.parts.take i).filter λz=>!z.2.isVar).map CN))
theorem jQ{N:AA}{p:Pt}{s:St}{Q:QV}(h:p.dp≤N)(hd:p.dp≤100)(hl:p.parts.length≤1000)(q:∀r t,Keep nk s t→t[r]? =some (.list p.atoms)→s.length≤r→Q (.ref r) t):wC (N+2) "atoms_of" [p.toV] s Q:=by
 refine BH (b:=UQ) rfl rfl rfl ⟨rfl,fy (N+1) (by omega) hd hl λr t K er hr=>?_⟩
 have e0:=K.at (Af (s:=s) (o:=.list []))
 replace hr:=GR▸Au▸hr
 refine Is.it (C4 er) (Kp (AI p s r) ⟨rfl,(Keep.push _).trans K,er,e0⟩ (λi env u j=>Cy er j.eu) (λi z env u ez j T hT=>?_) λenv u j=>?_)
 ·have hz:=LX (Bx ez)
  have tk:((p.parts.take (i+1)).filter λz=>!z.2.isVar).map CN=((p.parts.take i).filter λz=>!z.2.isVar).map CN++([z].filter λz=>!z.2.isVar).map CN:=by(refine rwl (CW ez) (rwl (IG ..) (rwl BS ?_));rfl)
  refine V7 (p:=z.2) ?_
  cases hv:z.2.isVar with
  | true=>exact hT _ _ ⟨j.v1,j.K,j.eu,by refine rwl tk (rwl (KX (by refine rwl hv ?_;decide)) ?_);exact j.ef.trans (AW (λl=>some (O.list l)) (Bo _).symm)⟩
  | false=>
   refine Is.it PN (Uh (p:=z.2) (path:=z.1) (by omega) (λq' k Q' h=>V7 h) (λ_ _=>rfl) ?_)
   have ef2:=(Keep.push (X:=nk) (.list (z.2.kids.zipIdx.map λy=>Ga z.1 y.2 y.1))).at j.ef
   have hfl:(((p.parts.take i).filter λz=>!z.2.isVar).map CN).length≤100000:=by
    refine rwl (AY ..) ?_
    refine AR (Fs _ _) ?_
    refine rwl FC ?_;omega
   have hz2:(z.2.kids.zipIdx.map λy=>Ga z.1 y.2 y.1).length≤2:=by refine rwl (AY ..) ?_;exact Yc z.2
   refine nm j.v1 (Is.it (DQ ef2) (Is.it (LD (p:=z.2)) ⟨rfl,Is.it (Hh Af (AR hz2 (by decide))) (Is.it (Ke (AR (CJ hz2) (by decide))) ⟨rfl,DO ef2,Is.it (EG ef2 hfl) (hT _ _ ⟨j.v1,(j.K.trans (Keep.push _)).set_new (Aj _),(Bl (by omega)).trans ((Keep.push (X:=nk) _).at j.eu),(EM ef2).trans ?_⟩)⟩)⟩))
   refine rwl tk (rwl (II (by refine rwl hv ?_;rfl)) ?_);rfl
 ·have ef:=j.ef
  replace ef:=Cr▸ef
  exact nm j.v1 (q _ _ j.K ef (Aj _))
theorem U2{p:Pt}{s:St}:∃c,CP (.str p.op) (.int 0) s=some (.str c)∧decide (c="?")=p.isVar:=by
 cases p
 ·exact⟨"?",rfl,rfl⟩
 ·exact⟨"?",rfl,rfl⟩
 ·exact⟨"a",rfl,rfl⟩
 ·exact⟨"f",(show CP (.str "f") (.int 0) s=some (.str "f") from rfl),rfl⟩
 ·exact⟨"g",(show CP (.str "g") (.int 0) s=some (.str "g") from rfl),rfl⟩
noncomputable def FR(path:List Int)(l:List Pt):List V:=l.zipIdx.flatMap λz=>z.1.lawAtoms (path++[(z.2:Int)])
theorem VG{p:Pt}{path:List Int}(h:p.isVar=false):p.lawAtoms path=CN (path,p)::FR path p.kids:=by
 cases p<;>first | cases h;done | simp [Pt.lawAtoms,FR,Pt.kids]
theorem jX{p:Pt}{path:List Int}:(p.lawAtoms path).length≤p.parts.length:=by
 refine rwl (LH ..) (rwl (AY ..) ?_);exact Fs _ _
theorem jG{path:List Int}{l:List Pt}{q:Pt}:FR path (l++[q])=FR path l++q.lawAtoms (path++[(l.length:Int)]):=by unfold FR;refine rwl PB (rwl IH ?_);simp
structure LI(p:Pt)(path:List Int)(s:St)(i:AA)(env:Env)(u:St):Prop where
 v2:env "path"=some (Ag path)
 K:Keep nk s u
 r:∃r,env "found"=some (.ref r)∧u[r]? =some (.list (CN (path,p)::FR path (p.kids.take i)))∧s.length≤r
theorem j4(N:AA):∀{p:Pt} {path:List Int} {s:St} {Q:QV},p.dp<N→p.dp+path.length≤100→p.parts.length≤1000→(∀r t,Keep nk s t→t[r]? =some (.list (p.lawAtoms path))→s.length≤r→Q (.ref r) t)→
  wC N "_law_atoms" [p.toV,Ag path] s Q:=by
 induction N with
 | zero=>exact λh=>absurd h (CR _)
 | succ N ih=>
  intro p path s Q h hd hl q
  have hk2:=IW p
  refine AJ (U2 (p:=p) (s:=s)) λc hc hv=>?_
  refine BH (b:=Xo) rfl rfl rfl (Is.it LD (Is.it hc (Is.it RR ?_)))
  refine rwl hv ?_
  cases hv2:p.isVar with
  | true=>exact⟨rfl,q _ _ (Keep.push _) (by refine rwl (show p.lawAtoms path=[] by cases p<;>first | rfl | cases hv2) ?_;exact Af) (Aj _)⟩
  | false=>
   refine⟨rfl,Is.it PN (Uh (p:=p) (path:=path) (by omega) (λq' k Q' h=>?_) (λ_ _=>rfl) ?_)⟩
   ·refine AJ (U2 (p:=q') (s:=s)) λc' hc' hv'=>?_
    refine Is.it LD (Is.it hc' (Is.it RR ?_))
    refine rwl hv' ?_;exact h
   ·have hz2:(p.kids.zipIdx.map λy=>Ga path y.2 y.1).length≤2:=by refine rwl (AY ..) ?_;exact Yc p
    refine Is.it (Hh Af (AR hz2 (by decide))) (Is.it (Ke (AR (CJ hz2) (by decide))) (Is.it LD ⟨rfl,rfl,Is.it PN ?_⟩))
    show PM _ _ _ _ _ (EZ 0 (p.kids.map Pt.toV)) none _
    refine rwl (Qw ..) ?_
    have hla:=jX (p:=p) (path:=path)
    replace hla:=Co▸VG hv2▸hla
    refine Kp (LI p path s) ⟨rfl,(Keep.push _).trans (Keep.push _),_,rfl,Af,by refine rwl Au ?_;exact Bh _ _⟩ (λ_ _ _ _=>rfl) (λi z env u ez j T hT=>?_) λenv u j=>?_
    ·obtain⟨q',i'⟩:=z
     (refine Bs (V3 ez) ?_;intro z7;subst z7;intro eq)
     have eq:p.kids[i']? =some q':=eq
     have j:LI p path s i' env u:=j
     refine Al j.r λr v1 er hr=>?_
     have hdp:=YD (Bx eq)
     have hil:(p.kids.take i').length=i':=by refine rwl FC ?_;exact J6 (B7 (BA.mp eq).1)
     have hsn:FR path (p.kids.take (i'+1))=FR path (p.kids.take i')++q'.lawAtoms (path++[(i':Int)]):=by(refine rwl (CW eq) (rwl jG (rwl hil ?_));rfl)
     have hfl:(FR path (p.kids.take (i'+1))).length≤(FR path p.kids).length:=gn (λz=>z.1.lawAtoms (path++[(z.2:Int)])) p.kids (i'+1)
     replace hfl:=Au▸hsn▸hfl
     have hpl:(Ea Pt.parts (p.kids.take (i'+1))).length≤999:=by
      (rewrite [NJ] at hl;replace hl:=Co▸hl)
      exact AR VO (OU hl)
     (replace hpl:=Au▸Qk▸CW eq▸hpl;rewrite [AY] at hpl)
     refine nm v1 (nm j.v2 ⟨rfl,Is.it (Mi (a:=path) (b:=[(i':Int)]) (by refine rwl Au (rwl GR ?_);omega)) (ih (p:=q') (path:=path++[(i':Int)]) (by omega) (by refine rwl Au (rwl GR ?_);omega) (by omega) λr' w Kw ew hw=>?_)⟩)
     refine Is.it (a:=((.ref w.length,w++[O.list (CN (path,p)::FR path (p.kids.take i')++q'.lawAtoms (path++[(i':Int)]))]):V×St)) ((Bu (Kw.at er)).trans ((Bu ew).trans (AM (Bt ?_)))) (hT _ _ ⟨j.v2,(j.K.trans Kw).trans (Keep.push _),_,rfl,hsn▸Af,AR j.K.len Kw.len⟩)
     show(_++_:List V).length≤_
     refine rwl Au (rwl Co ?_);omega
    ·refine Al j.r λr v1 er hr=>?_
     replace er:=Cq (VG hv2)▸Cr▸PC▸er
     exact nm v1 (q _ _ j.K er hr)
end
end Mine
namespace Mine
structure Dy(s:St)(b:AA)(w:W):Prop where
 lots:∀i,i<w.n→s[w.lr i]? =some (.list ((w.lot i).map nV))∧b+18≤w.lr i
 abs:∀c,c∈w.ks→s[w.ar c]? =some (.list ((w.ab c).map nV))∧b+18≤w.ar c
 lri:∀i j,i<w.n→j<w.n→w.lr i=w.lr j→i=j
 ari:∀c d,c∈w.ks→d∈w.ks→w.ar c=w.ar d→c=d
 sep:∀i c,i<w.n→c∈w.ks→w.lr i≠w.ar c
noncomputable def EI(w:W):AA:=(w.ks.map λc=>(w.ab c).length).sum
structure Pu(w:W)(C A:AA):Prop where
 hn:w.n≤12
 kid:∀i,i<w.n→(w.nd i).2.length≤2∧∀k∈(w.nd i).2,k<w.n
 pa:∀a,a<w.n→w.par a≤a
 re:∀a,a<w.n→w.rep a<w.n∧w.rep (w.par a)=w.rep a∧(w.par a=a↔w.rep a=a)
 lotm:∀r,r<w.n→w.rep r=r→(w.lot r).Nodup∧∀a,a∈w.lot r↔a<w.n∧w.rep a=r
 ksn:w.ks.Nodup
 kss:∀c,c∈w.ks↔c<w.n∧w.rep c=c
 abm:∀c,c∈w.ks→∀x∈w.ab c,x<w.n
 abl:EI w≤A
 wtl:w.wts.length=w.n∧∀x∈w.wts,0≤x∧x≤4 ^ w.n
 dpl:w.dps.length=w.n∧∀x∈w.dps,0≤x∧x≤w.n
 knm:∀e∈w.kn,∃i,i<w.n∧e.2=nV i
 wtm:∀x∈w.wt,x<w.n
 bud:w.edg.length+w.kn.length+2*w.wt.length+63*w.ks.length≤C
 ml:w.mgd.length≤w.edg.length
 fl:w.fst.length≤w.edg.length
structure HI(s:St)(b:AA)(w:W)(C A:AA):Prop where
 fix:Fix s b (w.F b)
 dy:Dy s b w
 pu:Pu w C A
section
variable{s t:St}{b:AA}{w:W}{C A:AA}
theorem HI.rd(H:HI s b w C A):Rd s b w:=⟨H.fix,H.pu.hn,λi hi=>(H.dy.lots i hi).1,λi hi=>(H.dy.lots i hi).2,H.pu.kid,H.pu.pa,H.pu.re,H.pu.lotm⟩
theorem Dy.keep{X:AA→Prop}(D:Dy s b w)(K:Keep X s t)(h:∀i,b+18≤i→¬X i):Dy t b w:=
 ⟨λi hi=>⟨K.get (D.lots i hi).1 (h _ (D.lots i hi).2),(D.lots i hi).2⟩,λc hc=>⟨K.get (D.abs c hc).1 (h _ (D.abs c hc).2),(D.abs c hc).2⟩,D.lri,D.ari,D.sep⟩
theorem Dy.push(D:Dy s b w)(o:O):Dy (s++[o]) b w:=D.keep (Keep.push (X:=nk) o) λ_ _=>id
theorem Dy.set(D:Dy s b w){i:AA}{o:O}(hi:i<18):Dy (s.set (b+i) o) b w:=D.keep (X:=(· =b+i)) (Keep.set rfl) λj hj e=>by omega
theorem Fix.push{F:List O}(H:Fix s b F)(o:O):Fix (s++[o]) b F:=H.keep (Keep.push (X:=nk) o) λ_ _=>id
theorem Fix.hi{F:List O}(H:Fix s b F){i:AA}{o:O}(hF:F.length≤18)(h:b+18≤i):Fix (s.set i o) b F:=H.keep (X:=(· =i)) (Keep.set rfl) λj hj e=>by omega
theorem HI.keep(H:HI s b w C A)(K:Keep nk s t):HI t b w C A:=⟨H.fix.keep K λ_ _=>id,H.dy.keep K λ_ _=>id,H.pu⟩
theorem Dy.of{w':W}(D:Dy s b w)(h1:w'.n=w.n)(h2:w'.lr=w.lr)(h3:w'.lot=w.lot)(h4:w'.ks=w.ks)(h5:w'.ar=w.ar)(h6:w'.ab=w.ab):Dy s b w':=
 ⟨by refine rwl h1 (rwl h2 (rwl h3 ?_));exact D.lots,by refine rwl h4 (rwl h5 (rwl h6 ?_));exact D.abs,by refine rwl h1 (rwl h2 ?_);exact D.lri,by refine rwl h4 (rwl h5 ?_);exact D.ari,by refine rwl h1 (rwl h4 (rwl h2 (rwl h5 ?_)));exact D.sep⟩
theorem ju{α:Type}{n g:AA}{f:AA→α}{v:α}:((Ab n).map f).set g v=(Ab n).map λx=>if x=g then v else f x:=by
 apply Oo
 intro i
 refine rwl (Ro) (rwl (DU) (rwl (AY ..) (rwl DK (rwl (DU) ?_))))
 by_cases h:g=i
 ·subst h
  by_cases hl:g<n
  ·simp [hl]
  ·simp [hl]
 ·refine rwl (AO h) ?_
  by_cases hl:i<n
  ·simp [hl,Bq h]
  ·simp [hl]
theorem cY{x y:AA}:Ei [nV x,nV y]=some [nV (min x y),nV (max x y)]:=by
 refine rwl (IS (by show 2<64;decide) (Qb λv hv=>by simp at hv;rcases hv with rfl | rfl<;>exact⟨_,rfl⟩)) ?_
 congr 1
 show Gd (nV x) [nV y]=_
 unfold Gd
 by_cases h:y<x
 ·refine rwl (AM (show ltV (nV y) (nV x)=true from An (by omega))) (rwl (N8 (by omega)) (rwl (OK (by omega)) ?_));rfl
 ·(refine rwl (AO (by refine rwl (show ltV (nV y) (nV x)=false from B5 (by omega)) ?_;decide)) (rwl (J6 (by omega)) (rwl (TQ (by omega)) ?_));rfl)
theorem gH{s:St}{r:AA}{j:Int}{xs:List V}{v:V}(h:s[r]? =some (.list xs)):JU (.ref r) (.int j) v s=if(decide ((0:Int)≤j)&&BJ j&&decide (j.toNat<xs.length))=true then some (s.set r (.list (xs.set j.toNat v))) else none:=by
 unfold JU EE
 dsimp only
 refine rwl (Bu h) ?_
 rfl
theorem j5{s:St}{r k:AA}{xs:List V}{v:V}(h:s[r]? =some (.list xs))(hk:k<xs.length)(hs:k≤100000):JU (.ref r) (nV k) v s=some (s.set r (.list (xs.set k v))):=by
 refine rwl (gH h) (rwl (DB (by omega)) (rwl (DM ..) (rwl (An hk) (rwl (An (Hq k)) ?_))));rfl
noncomputable def Gb(w:W)(kept gone:AA):W:={w with
 par:=λx=>if x=gone then kept else w.par x
 rep:=λx=>if w.rep x=gone then kept else w.rep x
 lot:=λx=>if x=kept then w.lot kept++w.lot gone else w.lot x
 mgd:=w.mgd++[.tup [nV kept,nV gone]]}
section
variable{n:AA}{Q:QV}
theorem bU(H:HI s b w C A)(hC:C≤50000){x y:AA}(hx:x<w.n)(hy:y<w.n)
  (q1:∀t,w.rep x=w.rep y→Keep nk s t→Q .none t)
  (q2:∀t kept gone,kept<gone→(w.rep x=kept∧w.rep y=gone∨w.rep x=gone∧w.rep y=kept)→Keep (b≤ ·) s t→Fix t b ((Gb w kept gone).F b)→Dy t b (Gb w kept gone)→Q (.tup [nV kept,nV gone]) t):
  wC (n+2) "Unions.merge" [.ref (b+8),nV x,nV y] s Q:=by
 have R:=H.rd
 have hn:=H.pu.hn
 have hrx:=(H.pu.re x hx).1
 have hry:=(H.pu.re y hy).1
 have hrrx:=Ie R x hx
 have hrry:=Ie R y hy
 have hbud:=H.pu.bud
 have hml:=H.pu.ml
 have kI:Il (.ref (b+8)) "find" s=some (.inl "Unions.find"):=BN (H.fix.get 8 _ rfl) (H.fix.get 9 _ rfl) rfl rfl
 refine BH (b:=YT) rfl rfl rfl (Is.it kI (Mm R hx (Is.it kI (Mm R hy ⟨rfl,M7 Af cY (by show 2≤1000;decide) ?_⟩))))
 have K2:Keep nk s (s++[O.list [nV (w.rep x),nV (w.rep y)]]++[O.list [nV (min (w.rep x) (w.rep y)),nV (max (w.rep x) (w.rep y))]]):=(Keep.push _).trans (Keep.push _)
 refine Is.it (Bu Af) (Is.it QX ?_)
 revert K2
 refine gen (α:=List O) (s++[O.list [nV (w.rep x),nV (w.rep y)]]++[O.list [nV (min (w.rep x) (w.rep y)),nV (max (w.rep x) (w.rep y))]]) λs2 K2=>?_
 by_cases hr:w.rep x=w.rep y
 ·refine rwl (An (by omega)) ?_
  exact q1 _ hr K2
 ·refine rwl (B5 (by omega)) ?_
  generalize hk:min (w.rep x) (w.rep y)=kept at*
  generalize hg:max (w.rep x) (w.rep y)=gone at*
  have hkg:kept<gone:=hk▸hg▸(AA.lt_or_gt_of_ne hr).elim (λh=>by refine rwl (J6 (B7 h)) (rwl (TQ (B7 h)) ?_);exact h) λh=>by refine rwl (N8 (B7 h)) (rwl (OK (B7 h)) ?_);exact h
  have hor:w.rep x=kept∧w.rep y=gone∨w.rep x=gone∧w.rep y=kept:=hk▸hg▸(AA.le_total (w.rep x) (w.rep y)).imp (λh=>⟨(J6 h).symm,(TQ h).symm⟩) λh=>⟨(OK h).symm,(N8 h).symm⟩
  have hgn:gone<w.n:=hg▸AA.max_lt.mpr ⟨hrx,hry⟩
  have F2:=H.fix.keep K2 λ_ _=>id
  have D2:=H.dy.keep K2 λ_ _=>id
  have hat:∀(u:St) (Fu:List O),Fix u b Fu→Fu[8]? =some (.inst "Unions")→Fu[9]? =some (.ns [("above",.ref (b+10)),("lots",.ref (b+11)),("merged",.ref (b+12))])→Ed (.ref (b+8)) "above" u=some (.ref (b+10))∧Ed (.ref (b+8)) "lots" u=some (.ref (b+11))∧Ed (.ref (b+8)) "merged" u=some (.ref (b+12)):=
   λu Fu h h8 h9=>⟨CT (h.get 8 _ h8) (h.get 9 _ h9) rfl rfl,CT (h.get 8 _ h8) (h.get 9 _ h9) rfl rfl,CT (h.get 8 _ h8) (h.get 9 _ h9) rfl rfl⟩
  have er:((Ab w.n).map λi=>nV (w.par i)).set gone (nV kept)=(Ab w.n).map λi=>nV ((Gb w kept gone).par i):=by
   refine rwl ju ?_
   exact DE λi _=>by show _=nV (if i=gone then kept else w.par i);split<;>rfl
  have sl:=j5 (v:=nV kept) (F2.get 10 _ rfl) (by refine rwl Cc ?_;exact hgn) (by omega)
  replace sl:=er▸sl
  refine Is.it (hat s2 _ F2 rfl rfl).1 (Is.it sl ?_)
  have F3:=F2.set (i:=10) (o:=.list ((Ab w.n).map λi=>nV ((Gb w kept gone).par i))) rfl
  have D3:=D2.set (i:=10) (o:=.list ((Ab w.n).map λi=>nV ((Gb w kept gone).par i))) (by decide)
  have K3:Keep (b≤ ·) s (s2.set (b+10) (.list ((Ab w.n).map λi=>nV ((Gb w kept gone).par i)))):=(K2.weak λ_ _ h=>h.elim).trans (Keep.set (Bh _ _))
  revert F3 D3 K3
  refine gen (s2.set (b+10) (.list ((Ab w.n).map λi=>nV ((Gb w kept gone).par i)))) λs3 F3 D3 K3=>?_
  have hkn:kept<w.n:=by omega
  have ekk:w.rep kept=kept:=by rcases hor with ⟨h,_⟩ | ⟨_,h⟩<;>refine rwr h ?_<;>assumption
  have egg:w.rep gone=gone:=by rcases hor with ⟨_,h⟩ | ⟨h,_⟩<;>refine rwr h ?_<;>assumption
  have hs:∀k,k<w.n→CP (.ref (b+11)) (nV k) s3=some (.ref (w.lr k)):=λk hk=>HT (F3.get 11 _ rfl) (JX hk) (DB (by omega))
  have lk:=D3.lots kept hkn
  have lg:=D3.lots gone hgn
  have hlr:w.lr gone≠w.lr kept:=λh=>by have:=D3.lri _ _ hgn hkn h;omega
  have lenk:=QC (H.pu.lotm kept hkn ekk).1 λa ha=>(((H.pu.lotm kept hkn ekk).2 a).mp ha).1
  have leng:=QC (H.pu.lotm gone hgn egg).1 λa ha=>(((H.pu.lotm gone hgn egg).2 a).mp ha).1
  refine Is.it (hat s3 _ F3 rfl rfl).2.1 (Is.it (hs kept hkn) (Is.it (DQ lk.1) (Is.it (hat s3 _ F3 rfl rfl).2.1 (Is.it (hs gone hgn) ⟨DO lk.1,Is.it (QG lk.1 lg.1 hlr (by refine rwl (AY ..) (rwl (AY ..) ?_);omega)) ?_⟩))))
  refine rwr BS ?_
  have F4:=F3.hi (i:=w.lr kept) (o:=.list ((w.lot kept++w.lot gone).map nV)) (Aj 18) lk.2
  have D4:Dy (s3.set (w.lr kept) (.list ((w.lot kept++w.lot gone).map nV))) b (Gb w kept gone):=⟨λi hi=>⟨by
    show _=some (O.list ((if i=kept then w.lot kept++w.lot gone else w.lot i).map nV))
    by_cases h:i=kept
    ·subst h;refine rwl (AM rfl) ?_;exact EM lk.1
    ·refine rwl (AO h) ?_;exact(Bl λz=>h (D3.lri _ _ hi hkn z.symm)).trans (D3.lots i hi).1,(D3.lots i hi).2⟩,λc hc=>⟨(Bl (D3.sep kept c hkn hc)).trans (D3.abs c hc).1,(D3.abs c hc).2⟩,D3.lri,D3.ari,D3.sep⟩
  have K4:Keep (b≤ ·) s (s3.set (w.lr kept) (.list ((w.lot kept++w.lot gone).map nV))):=K3.trans (Keep.set (by have:=lk.2;omega))
  show Is (Ed _ _ (s3.set (w.lr kept) (.list ((w.lot kept++w.lot gone).map nV)))) _
  revert F4 D4 K4
  refine gen (s3.set (w.lr kept) (.list ((w.lot kept++w.lot gone).map nV))) λs4 F4 D4 K4=>?_
  refine Is.it (hat s4 _ F4 rfl rfl).2.2 (Is.it (DQ (F4.get 12 _ rfl)) ⟨rfl,DO (F4.get 12 _ rfl),Is.it (EG (F4.get 12 _ rfl) (by omega)) ⟨rfl,?_⟩⟩)
  exact q2 _ kept gone hkg hor (K4.trans (Keep.set (Bh _ _))) (F4.set (i:=12) rfl) (D4.set (by decide))
end
end
end Mine
namespace Mine
theorem Q6{f:AA→AA}{g:AA}:∀{l:List AA},l.Nodup→g∈l→(l.map f).sum=f g+((l.filter λx=>x≠g).map f).sum
 | [],_,h=>by cases h
 | a::l,hn,h=>by
  rw [DS] at hn
  by_cases e:a=g
  ·subst e
   have:(a::l).filter (λx=>x≠a)=l:=by
    refine rwl (KX (by simp)) ?_
    exact MF.mpr λx hx=>An (by rintro rfl;exact hn.1 hx)
   (refine rwl this (rwl BF (rwl JK ?_));rfl)
  ·have hg:g∈l:=(Ak.mp h).resolve_left (Bq e)
   refine rwl (II (p:=λx=>decide (x≠g)) (An e)) (rwl BF (rwl BF (rwl JK (rwl JK (rwl (Q6 hn.2 hg) ?_)))))
   omega
theorem RE{f:AA→AA}{k v:AA}:∀{l:List AA},l.Nodup→k∈l→(l.map λc=>if c=k then v else f c).sum+f k=(l.map f).sum+v
 | [],_,h=>by cases h
 | a::l,hn,h=>by
  rw [DS] at hn
  refine rwl BF (rwl BF (rwl JK (rwl JK ?_)))
  by_cases e:a=k
  ·subst e
   have:(l.map λc=>if c=a then v else f c)=l.map f:=DE λx hx=>AO (by rintro rfl;exact hn.1 hx)
   refine rwl this (rwl (AM rfl) ?_);omega
  ·have:=RE (f:=f) (v:=v) hn.2 ((Ak.mp h).resolve_left (Bq e))
   refine rwl (AO e) ?_;omega
theorem Vf{g:AA}{l:List AA}(hn:l.Nodup)(h:g∈l):l.length=1+(l.filter λx=>x≠g).length:=by
 have h1:∀l:List AA,(l.map λ_=>1).sum=l.length:=λl=>by
  induction l with
  | nil=>rfl
  | cons a l ih=>refine rwl BF (rwl JK (rwl ih (rwl Co ?_)));omega
 have:=Q6 (f:=λ_=>1) hn h
 rwa [h1,h1] at this
noncomputable def FO(w:W)(kept gone new:AA)(f:List V):W:={Gb w kept gone with
 ks:=w.ks.filter λx=>x≠gone
 ar:=λx=>if x=kept then new else w.ar x
 ab:=λx=>if x=kept then w.ab kept++w.ab gone else w.ab x
 fst:=f
 wt:=w.wt++w.ab gone
 e3:=w.e3+1}
theorem Kd{f:AA→AA}{g:AA}:∀{l:List AA},g∈l→f g≤(l.map f).sum
 | [],h=>by cases h
 | a::l,h=>by
  refine rwl BF (rwl JK ?_)
  rcases Ak.mp h with rfl | h
  ·omega
  ·have:=Kd (f:=f) h;omega
theorem Pu.join{w:W}{C A kept gone new:AA}{f:List V}(P:Pu w C A)(hA:A≤30)(hkg:kept<gone)(hk:kept∈w.ks)(hg:gone∈w.ks)(hf:f.length≤w.edg.length)(hm:w.mgd.length+1≤w.edg.length):Pu (FO w kept gone new f) C A:=by
 (have zz:=(P.kss kept).mp hk;have hkn:=zz.1;have ekk:=zz.2;clear zz)
 (have zz:=(P.kss gone).mp hg;have hgn:=zz.1;have egg:=zz.2;clear zz)
 have hkf:kept∈w.ks.filter λx=>x≠gone:=Ew.mpr ⟨hk,An (BP hkg)⟩
 have hbg:=Kd (f:=λc=>(w.ab c).length) hg
 have hrr:∀a,a<w.n→(if w.rep a=gone then kept else w.rep a)<w.n:=λa ha=>by split;exact hkn;exact(P.re a ha).1
 have htot:EI (FO w kept gone new f)=EI w:=by
  have h1:=Q6 (f:=λc=>(w.ab c).length) P.ksn hg
  have h2:=RE (f:=λc=>(w.ab c).length) (v:=(w.ab kept).length+(w.ab gone).length) (P.ksn.filter _) hkf
  have h3:EI (FO w kept gone new f)=((w.ks.filter λx=>x≠gone).map λc=>if c=kept then(w.ab kept).length+(w.ab gone).length else(w.ab c).length).sum:=by
   unfold EI FO
   dsimp only
   congr 1
   exact DE λc _=>by split<;>simp
  unfold EI at*
  omega
 refine⟨P.hn,P.kid,λa ha=>?_,λa ha=>⟨hrr a ha,?_,?_⟩,λr hr h=>?_,P.ksn.filter _,λc=>?_,λc hc x hx=>?_,htot▸P.abl,P.wtl,P.dpl,P.knm,λx hx=>?_,?_,?_,hf⟩
 ·show(if a=gone then kept else w.par a)≤a
  split
  ·omega
  ·exact P.pa a ha
 ·show(if w.rep (if a=gone then kept else w.par a)=gone then kept else w.rep (if a=gone then kept else w.par a))=if w.rep a=gone then kept else w.rep a
  by_cases h:a=gone
  ·subst h;(refine rwl (AM rfl) (rwl ekk (rwl egg (rwl (AO (BP hkg)) (rwl (AM rfl) ?_))));rfl)
  ·(refine rwl (AO h) (rwl ((P.re a ha).2.1) ?_);rfl)
 ·show(if a=gone then kept else w.par a)=a↔(if w.rep a=gone then kept else w.rep a)=a
  by_cases h:a=gone
  ·subst h;(refine rwl (AM rfl) (rwl egg (rwl (AM rfl) ?_));rfl)
  ·refine rwl (AO h) (rwi ((P.re a ha).2.2) ?_)
   by_cases h2:w.rep a=gone
   ·refine rwl (AM h2) ?_
    constructor
    ·intro h3;exact absurd (h3.symm.trans h2) h
    ·rintro rfl;exact absurd (ekk.symm.trans h2) (BP hkg)
   ·(refine rwl (AO h2) ?_;rfl)
 ·have h:(if w.rep r=gone then kept else w.rep r)=r:=h
  have h2:w.rep r≠gone:=λh2=>by replace h:=AM h2▸h;subst h;exact absurd (ekk.symm.trans h2) (BP hkg)
  replace h:=AO h2▸h
  (have zz:=P.lotm r hr h;have l1:=zz.1;have l2:=zz.2;clear zz)
  (have zz:=P.lotm kept hkn ekk;have k1:=zz.1;have k2:=zz.2;clear zz)
  (have zz:=P.lotm gone hgn egg;have g1:=zz.1;have g2:=zz.2;clear zz)
  show(if r=kept then w.lot kept++w.lot gone else w.lot r).Nodup∧∀a,a∈(if r=kept then w.lot kept++w.lot gone else w.lot r)↔a<w.n∧(if w.rep a=gone then kept else w.rep a)=r
  by_cases hrk:r=kept
  ·subst hrk
   refine rwl (AM rfl) ?_
   refine⟨GD.mpr ⟨k1,g1,λx hx y hy e=>?_⟩,λa=>?_⟩
   ·subst e
    exact absurd (((k2 x).mp hx).2.symm.trans ((g2 x).mp hy).2) (BP hkg)
   ·(refine rwi BD ?_;rewrite [k2];rewrite [g2])
    constructor
    ·rintro(⟨h1,h3⟩ | ⟨h1,h3⟩)
     ·exact⟨h1,by refine rwl (AO (by refine rwl h3 ?_;exact BP hkg)) ?_;exact h3⟩
     ·exact⟨h1,AM h3⟩
    ·(intro zr28;(have h1:=zr28.1;have h3:=zr28.2;clear zr28))
     by_cases h4:w.rep a=gone
     ·exact .inr ⟨h1,h4⟩
     ·replace h3:=AO h4▸h3;exact .inl ⟨h1,h3⟩
  ·refine rwl (AO hrk) ?_
   refine⟨l1,λa=>(l2 a).trans (and_congr O6 ?_)⟩
   by_cases h4:w.rep a=gone
   ·refine rwl (AM h4) ?_
    constructor
    ·intro h5;exact absurd (h.trans (h5.symm.trans h4)) (λh6=>h2 (h.trans (h5.symm.trans h4)))
    ·intro h5;exact absurd h5.symm hrk
   ·(refine rwl (AO h4) ?_;rfl)
 ·show c∈w.ks.filter (λx=>x≠gone)↔c<w.n∧(if w.rep c=gone then kept else w.rep c)=c
  (refine rwi Ew ?_;rewrite [P.kss];refine rwi Li ?_)
  constructor
  ·rintro⟨⟨h1,h2⟩,h3⟩
   exact⟨h1,by refine rwl (AO (by refine rwl h2 ?_;exact h3)) ?_;exact h2⟩
  ·(intro zr29;(have h1:=zr29.1;have h2:=zr29.2;clear zr29))
   by_cases h4:w.rep c=gone
   ·replace h2:=AM h4▸h2;subst h2;exact absurd (ekk.symm.trans h4) (BP hkg)
   ·replace h2:=AO h4▸h2
    exact⟨⟨h1,h2⟩,λh=>by subst h;exact h4 h2⟩
 ·have hx:x∈(if c=kept then w.ab kept++w.ab gone else w.ab c):=hx
  have hcm:=(Ew.mp hc).1
  show x<w.n
  split at hx
  ·rcases BD.mp hx with hx | hx
   ·exact P.abm _ hk x hx
   ·exact P.abm _ hg x hx
  ·exact P.abm c hcm x hx
 ·rcases BD.mp hx with hx | hx
  ·exact P.wtm x hx
  ·exact P.abm _ hg x hx
 ·have h1:=Vf P.ksn hg
  have h2:=P.bud
  have h3:=P.abl
  show w.edg.length+w.kn.length+2*(w.wt++w.ab gone).length+63*(w.ks.filter λx=>x≠gone).length≤C
  unfold EI at h3
  refine rwl Au ?_
  have h4:(w.ab gone).length≤30:=AR hbg (AR h3 hA)
  omega
 ·show(w.mgd++[_]).length≤_
  refine rwl Au ?_;exact hm
theorem Jh{K:List AA}{f:AA→V}{v:AA}:Aa (nV v) (K.map λk=>(nV k,f k))=if v∈K then some (f v) else none:=by
 induction K with
 | nil=>rfl
 | cons a K ih=>
  refine rwl BF ?_
  unfold Aa
  refine rwl ih ?_
  by_cases h:a=v
  ·subst h;(refine rwl (AM (Fz _)) (rwl (AM Ah) ?_);rfl)
  ·refine rwl (AO (Jq λz=>h (FJ z))) ?_
   simp [Bq h]
theorem Wq{f:AA→V}{v:AA}:∀{K:List AA},K.Nodup→EY (nV v) (K.map λk=>(nV k,f k))=(K.filter λx=>x≠v).map λk=>(nV k,f k)
 | [],_=>rfl
 | a::K,h=>by
  rw [DS] at h
  (refine rwl BF ?_;rewrite [EY])
  by_cases e:a=v
  ·subst e
   refine rwl (AM (Fz _)) (rwl (KX (by simp)) ?_)
   (refine rwl (MF.mpr λx hx=>An (by rintro rfl;exact h.1 hx)) ?_;rfl)
  ·refine rwl (AO (Jq λz=>e (FJ z))) (rwl (Wq h.2) (rwl (II (p:=λx=>decide (x≠v)) (An e)) ?_));rfl
theorem YR{f:AA→V}{v:AA}{u:V}:∀{K:List AA},v∈K→K.Nodup→CD (nV v) u (K.map λk=>(nV k,f k))=K.map λk=>(nV k,if k=v then u else f k)
 | [],h,_=>by cases h
 | a::K,h,hn=>by
  rw [DS] at hn
  (refine rwl BF ?_;rewrite [CD];refine rwl BF ?_)
  by_cases e:a=v
  ·subst e
   refine rwl (AM (Fz _)) (rwl (AM rfl) ?_)
   congr 1
   exact DE λx hx=>by(refine rwl (AO (by rintro rfl;exact hn.1 hx)) ?_;rfl)
  ·(refine rwl (AO (Jq λz=>e (FJ z))) (rwl (AO e) (rwl (YR ((Ak.mp h).resolve_left (Bq e)) hn.2) ?_));rfl)
theorem fQ{s:St}{r ep:AA}{es:List (V×V)}{k:AA}{v:V}(h:s[r]? =some (.dict es ep))(e:Aa (nV k) es=some v)(hf:es.length≤100000):Ec (.ref r) "pop" [nV k] s=some (v,s.set r (.dict (EY (nV k) es) (ep+1))):=
 (EX h).trans ((AO (by decide)).trans ((AO (by decide)).trans ((AM rfl).trans ((AM (by refine rwl (Bt hf) ?_;rfl)).trans (by refine rwl e ?_;rfl)))))
end Mine
namespace Mine
section
variable{n:AA}{Q:QV}{s t:St}{b:AA}{w:W}{C A:AA}
theorem hat{F:List O}{a:AE}{v:V}(h:Fix s b F)(h0:F[0]? =some (.inst "Heap"))(h1:F[1]? =some (.ns [("bank",.ref (b+2)),("unions",.ref (b+8)),("edges",.ref (b+13)),("forest",.ref (b+14)),("known",.ref (b+15)),("above",.ref (b+16)),("waiting",.ref (b+17)),("backs",.int 0)]))
  (ha:(Bz "Heap").contains a=true) (e:Ce a [("bank",.ref (b+2)),("unions",.ref (b+8)),("edges",.ref (b+13)),("forest",.ref (b+14)),("known",.ref (b+15)),("above",.ref (b+16)),("waiting",.ref (b+17)),("backs",.int 0)]=some v):Ed (.ref b) a s=some v:=
 CT (h.get 0 _ h0) (h.get 1 _ h1) ha e
theorem QZ{r r':AA}{xs ys:List V}(h:s[r]? =some (.list xs))(h':s[r']? =some (.list ys))(hl:(xs++ys).length≤100000):F8 .add (.ref r) (.ref r') s=some (.ref s.length,s++[.list (xs++ys)]):=
 (Bu h).trans ((Bu h').trans (AM (Bt hl)))
theorem Qf{a b c d C:AA}(h:a+b+2*c+63*d≤C):a≤C∧c≤C∧d≤C:=by omega
theorem jm{w g k l K:AA}(e:K=1+k)(h:g≤30):2*(w+g)+63*k≤2*w+63*K:=by omega
theorem Vq(H:HI s b w C A)(hA:A≤30)(hC:C≤40000){x y:AA}{reason:V}(hx:x<w.n)(hy:y<w.n)
  (q:∀v t w',Keep (b≤ ·) s t→HI t b w' (C+1) A→w'.n=w.n→w'.nd=w.nd→2*w'.wt.length+63*w'.ks.length≤2*w.wt.length+63*w.ks.length→Q v t):wC (n+3) "Heap.join" [.ref b,nV x,nV y,reason] s Q:=by
 have P:=H.pu
 have hbud:=P.bud
 have hn:=P.hn
 have hel:w.edg.length≤40000:=AR (Qf hbud).1 hC
 have hkl:w.ks.length≤40000:=AR (Qf hbud).2.2 hC
 have hwl:w.wt.length≤40000:=AR (Qf hbud).2.1 hC
 have D1:=H.dy.set (i:=13) (o:=.list (w.edg++[.tup [nV x,nV y,reason]])) (by decide)
 have F1:=H.fix.set (i:=13) (o:=.list (w.edg++[.tup [nV x,nV y,reason]])) rfl
 have K1:Keep (b≤ ·) s (s.set (b+13) (.list (w.edg++[.tup [nV x,nV y,reason]]))):=Keep.set (Bh _ _)
 refine BH (b:=Ua) rfl rfl rfl (Is.it (hat H.fix rfl rfl rfl rfl) (Is.it (DQ (H.fix.get 13 _ rfl)) ⟨rfl,DO (H.fix.get 13 _ rfl),Is.it (EG (H.fix.get 13 _ rfl) (AR hel (by decide))) ?_⟩))
 obtain⟨w1,hw1⟩:∃w1,({w with edg:=w.edg++[V.tup [nV x,nV y,reason]]}:W)=w1:=⟨_,rfl⟩
 have he1:w1.edg.length=w.edg.length+1:=by refine rwr hw1 ?_;simp
 have P1:Pu w1 (C+1) A:=by
  subst hw1
  exact⟨P.hn,P.kid,P.pa,P.re,P.lotm,P.ksn,P.kss,P.abm,P.abl,P.wtl,P.dpl,P.knm,P.wtm,by refine rwl he1 ?_;show w.edg.length+1+w.kn.length+2*w.wt.length+63*w.ks.length≤C+1;omega,by refine rwl he1 ?_;have:=P.ml;show w.mgd.length≤_;omega,by refine rwl he1 ?_;have:=P.fl;show w.fst.length≤_;omega⟩
 have H1:HI (s.set (b+13) (.list (w.edg++[.tup [nV x,nV y,reason]]))) b w1 (C+1) A:=⟨by refine rwr hw1 ?_;exact F1,by subst hw1;exact⟨D1.lots,D1.abs,D1.lri,D1.ari,D1.sep⟩,P1⟩
 have en:w1.n=w.n:=by(refine rwr hw1 ?_;rfl)
 have end':w1.nd=w.nd:=by(refine rwr hw1 ?_;rfl)
 have ewt:w1.wt=w.wt:=by(refine rwr hw1 ?_;rfl)
 have eks:w1.ks=w.ks:=by(refine rwr hw1 ?_;rfl)
 have em1:w1.mgd.length+1≤w1.edg.length:=by refine rwl he1 (rwr hw1 ?_);have:=P.ml;show w.mgd.length+1≤_;omega
 have ef1:w1.fst.length+1≤w1.edg.length:=by refine rwl he1 (rwr hw1 ?_);have:=P.fl;show w.fst.length+1≤_;omega
 have he2:w1.edg.length≤40001:=he1▸CJ hel
 clear hw1 F1 D1
 revert K1 H1
 refine gen (s.set (b+13) (.list (w.edg++[.tup [nV x,nV y,reason]]))) λs1 K1 H1=>?_
 refine Is.it (hat H1.fix rfl rfl rfl rfl) (Is.it (BN (H1.fix.get 8 _ rfl) (H1.fix.get 9 _ rfl) rfl rfl) (bU H1 (by omega) (by omega) (by omega) (λt hr K=>Is.it (a:=true) rfl (q _ t w1 (K1.trans (K.weak λ_ _ h=>h.elim)) (H1.keep K) en end' (by refine rwl ewt (rwl eks ?_);exact Aj _))) λt kept gone hkg hor K F D=>Is.it (a:=false) rfl (Is.it rfl ?_)))
 have R1:=H1.rd
 have hxk:=Ie R1 x (by omega)
 have hyk:=Ie R1 y (by omega)
 have hxn:=(P1.re x (by omega)).1
 have hyn:=(P1.re y (by omega)).1
 have hk:kept∈w1.ks:=(P1.kss kept).mpr (by rcases hor with ⟨h,_⟩ | ⟨_,h⟩<;>refine rwr h ?_<;>exact⟨by assumption,by assumption⟩)
 have hg:gone∈w1.ks:=(P1.kss gone).mpr (by rcases hor with ⟨_,h⟩ | ⟨h,_⟩<;>refine rwr h ?_<;>exact⟨by assumption,by assumption⟩)
 have hab:=Kd (f:=λc=>(w1.ab c).length) hk
 have hag:=Kd (f:=λc=>(w1.ab c).length) hg
 have htot:=P1.abl
 unfold EI at htot
 have hb1:=P1.bud
 refine Is.it (hat F rfl rfl rfl rfl) (Is.it (DQ (F.get 14 _ rfl)) (Is.it (hat F rfl rfl rfl rfl) (Is.it (EB (l:=w1.edg) (F.get 13 _ rfl) (AR he2 (by decide))) (Is.it (NP (sm (Hq _) (Lo.mpr he2)) (by decide)) ⟨DO (F.get 14 _ rfl),Is.it (EG (xs:=w1.fst) (F.get 14 _ rfl) (AR (DT ef1) (AR he2 (by decide)))) ?_⟩))))
 have hfl:(w1.fst++[V.int ((w1.edg.length:Int)-1)]).length≤w1.edg.length:=by refine rwl Au ?_;exact ef1
 revert hfl
 refine gen (w1.fst++[V.int ((w1.edg.length:Int)-1)]) λfo hfl=>?_
 have F2:=F.set (i:=14) (o:=.list fo) rfl
 have D2:=D.set (i:=14) (o:=.list fo) (by decide)
 have K2:Keep (b≤ ·) s (t.set (b+14) (.list fo)):=K1.trans (K.trans (Keep.set (Bh _ _)))
 revert F2 D2 K2
 refine gen (t.set (b+14) (.list fo)) λt2 F2 D2 K2=>?_
 have ag:t2[w1.ar gone]? =some (.list ((w1.ab gone).map nV))∧b+18≤w1.ar gone:=D2.abs gone hg
 have g16:t2[b+16]? =some (.dict (w1.ks.map λc=>(nV c,V.ref (w1.ar c))) w1.e3):=F2.get 16 _ rfl
 have hsg:CP (.ref (b+16)) (nV gone) t2=some (.ref (w1.ar gone)):=Gj g16 rfl (by(refine rwl (Jh (f:=λc=>V.ref (w1.ar c))) (rwl (AM hg) ?_);rfl))
 refine Is.it (hat F2 rfl rfl rfl rfl) (Is.it (DQ (F2.get 17 _ rfl)) (Is.it (hat F2 rfl rfl rfl rfl) (Is.it hsg ⟨DO (F2.get 17 _ rfl),Is.it (QG (xs:=w1.wt.map nV) (F2.get 17 _ rfl) ag.1 (Fm (Bg (Sf (by decide) b) ag.2)) (by refine rwl (AY ..) (rwl (AY ..) ?_);exact AR (ET (ewt▸hwl) (AR hag (AR htot hA))) (by decide))) ?_⟩)))
 refine rwr BS ?_
 have F3:=F2.set (i:=17) (o:=.list ((w1.wt++w1.ab gone).map nV)) rfl
 have D3:=D2.set (i:=17) (o:=.list ((w1.wt++w1.ab gone).map nV)) (by decide)
 have K3:Keep (b≤ ·) s (t2.set (b+17) (.list ((w1.wt++w1.ab gone).map nV))):=K2.trans (Keep.set (Bh _ _))
 revert F3 D3 K3
 refine gen (t2.set (b+17) (.list ((w1.wt++w1.ab gone).map nV))) λt3 F3 D3 K3=>?_
 have hks:w1.ks.length≤40001:=eks▸I7 hkl
 have h16:t3[b+16]? =some (.dict (w1.ks.map λc=>(nV c,V.ref (w1.ar c))) w1.e3):=F3.get 16 _ rfl
 have hsk:CP (.ref (b+16)) (nV kept) t3=some (.ref (w1.ar kept)):=Gj h16 rfl (by(refine rwl (Jh (f:=λc=>V.ref (w1.ar c))) (rwl (AM hk) ?_);rfl))
 have hpop:=fQ (v:=.ref (w1.ar gone)) h16 (by(rewrite [Jh (f:=λc=>V.ref (w1.ar c))];refine rwl (AM hg) ?_;rfl)) (by refine rwl (AY ..) ?_;omega)
 replace hpop:=Wq (f:=λc=>V.ref (w1.ar c)) P1.ksn▸hpop
 have F4:=F3.set (i:=16) (o:=.dict ((w1.ks.filter λx=>x≠gone).map λk=>(nV k,V.ref (w1.ar k))) (w1.e3+1)) rfl
 have D4:=D3.set (i:=16) (o:=.dict ((w1.ks.filter λx=>x≠gone).map λk=>(nV k,V.ref (w1.ar k))) (w1.e3+1)) (by decide)
 have K4:Keep (b≤ ·) s (t3.set (b+16) (.dict ((w1.ks.filter λx=>x≠gone).map λk=>(nV k,V.ref (w1.ar k))) (w1.e3+1))):=K3.trans (Keep.set (Bh _ _))
 refine Is.it (hat F3 rfl rfl rfl rfl) (Is.it hsk (Is.it (hat F3 rfl rfl rfl rfl) (Is.it (Js (F3.get 16 _ rfl)) ⟨Jc (F3.get 16 _ rfl),Is.it hpop ?_⟩)))
 revert F4 D4 K4
 refine gen (t3.set (b+16) (.dict ((w1.ks.filter λx=>x≠gone).map λk=>(nV k,V.ref (w1.ar k))) (w1.e3+1))) λt4 F4 D4 K4=>?_
 have ak4:t4[w1.ar kept]? =some (.list ((w1.ab kept).map nV))∧b+18≤w1.ar kept:=D4.abs kept hk
 have ag4:t4[w1.ar gone]? =some (.list ((w1.ab gone).map nV))∧b+18≤w1.ar gone:=D4.abs gone hg
 refine Is.it (QZ ak4.1 ag4.1 (by refine rwl Au (rwl (AY ..) (rwl (AY ..) ?_));exact AR (ET (AR hab (AR htot hA)) (AR hag (AR htot hA))) (by decide))) ?_
 refine rwr BS ?_
 have hlt:=BI ak4.1
 have F5:=F4.push (.list ((w1.ab kept++w1.ab gone).map nV))
 have D5:=D4.push (.list ((w1.ab kept++w1.ab gone).map nV))
 have e5:=Af (s:=t4) (o:=.list ((w1.ab kept++w1.ab gone).map nV))
 have K5:Keep (b≤ ·) s (t4++[.list ((w1.ab kept++w1.ab gone).map nV)]):=K4.trans (Keep.push _)
 revert hlt e5
 refine MN t4.length λnew hnew hlt e5=>?_
 revert F5 D5 K5 e5
 refine gen (α:=List O) ((t4:List O)++[O.list ((w1.ab kept++w1.ab gone).map nV)]) λt5 F5 D5 K5 e5=>?_
 have hkf:kept∈w1.ks.filter λx=>x≠gone:=Ew.mpr ⟨hk,An (BP hkg)⟩
 have hset:=LG (k:=nV kept) (v:=.ref new) (F5.get 16 _ rfl) rfl (by refine rwl (AY ..) ?_;exact AR (Fs _ _) (by omega))
 replace hset:=AM hkf▸Jh (f:=λc=>V.ref (w1.ar c))▸YR (f:=λc=>V.ref (w1.ar c)) hkf (P1.ksn.filter _)▸hset
 have ear:((w1.ks.filter λx=>x≠gone).map λk=>(nV k,if k=kept then V.ref new else V.ref (w1.ar k)))=(w1.ks.filter λx=>x≠gone).map λk=>(nV k,V.ref ((FO w1 kept gone new fo).ar k)):=
  DE λk _=>by show _=(nV k,V.ref (if k=kept then new else w1.ar k));split<;>rfl
 replace hset:=ear▸hset
 refine Is.it (hat F5 rfl rfl rfl rfl) (Is.it hset ?_)
 have F6:=F5.set (i:=16) (o:=.dict ((w1.ks.filter λx=>x≠gone).map λk=>(nV k,V.ref ((FO w1 kept gone new fo).ar k))) (w1.e3+1)) rfl
 have D6:=D5.set (i:=16) (o:=.dict ((w1.ks.filter λx=>x≠gone).map λk=>(nV k,V.ref ((FO w1 kept gone new fo).ar k))) (w1.e3+1)) (by decide)
 have e6:(t5.set (b+16) (.dict ((w1.ks.filter λx=>x≠gone).map λk=>(nV k,V.ref ((FO w1 kept gone new fo).ar k))) (w1.e3+1)))[new]? =some (.list ((w1.ab kept++w1.ab gone).map nV)):=by
  refine rwl (Bl (by have:=ak4.2;omega)) ?_;exact e5
 have K6:Keep (b≤ ·) s (t5.set (b+16) (.dict ((w1.ks.filter λx=>x≠gone).map λk=>(nV k,V.ref ((FO w1 kept gone new fo).ar k))) (w1.e3+1))):=K5.trans (Keep.set (Bh _ _))
 have old:∀c,c∈w1.ks→w1.ar c<new:=λc hc=>by refine rwr hnew ?_;exact BI (D4.abs c hc).1
 have oldl:∀i,i<w1.n→w1.lr i<new:=λi hi=>by refine rwr hnew ?_;exact BI (D4.lots i hi).1
 have hin:∀c,c∈(FO w1 kept gone new fo).ks→c∈w1.ks:=λc hc=>(Ew.mp hc).1
 refine q _ _ (FO w1 kept gone new fo) K6 ⟨F6,⟨D6.lots,λc hc=>?_,D6.lri,λc d hc hd h=>?_,λi c hi hc h=>?_⟩,P1.join hA hkg hk hg hfl em1⟩ en end' ?_
 ·show _=some (O.list ((if c=kept then w1.ab kept++w1.ab gone else w1.ab c).map nV))∧b+18≤(if c=kept then new else w1.ar c)
  by_cases h:c=kept
  ·show(List.set _ _ _)[if c=kept then new else w1.ar c]? =_∧_
   refine rwl (AM h) (rwl (AM h) ?_)
   exact⟨e6,by have:=ak4.2;omega⟩
  ·show(List.set _ _ _)[if c=kept then new else w1.ar c]? =_∧_
   refine rwl (AO h) (rwl (AO h) ?_)
   exact D6.abs c (hin c hc)
 ·have h:(if c=kept then new else w1.ar c)=(if d=kept then new else w1.ar d):=h
  by_cases h1:c=kept
  ·by_cases h2:d=kept
   ·(refine rwl h1 (rwl h2 ?_);rfl)
   ·replace h:=AO h2▸AM h1▸h
    have:=old d (hin d hd);omega
  ·by_cases h2:d=kept
   ·replace h:=AM h2▸AO h1▸h
    have:=old c (hin c hc);omega
   ·replace h:=AO h2▸AO h1▸h
    exact D6.ari c d (hin c hc) (hin d hd) h
 ·have h:w1.lr i=(if c=kept then new else w1.ar c):=h
  by_cases h1:c=kept
  ·replace h:=AM h1▸h
   have:=oldl i hi;omega
  ·replace h:=AO h1▸h
   exact D6.sep i c hi (hin c hc) h
 ·have h1:=Vf P1.ksn hg
  show 2*(w1.wt++w1.ab gone).length+63*(w1.ks.filter λx=>x≠gone).length≤_
  refine rwl Au (rwr ewt (rwr eks ?_))
  exact jm (l:=0) h1 (AR hag (AR htot hA))
end
end Mine
namespace Mine
section
variable{n:AA}{Q:QV}{s t:St}{b:AA}{w:W}{C A:AA}
theorem c8(H:HI s b w C A)(hA:A≤30)(hC:C≤40000){x y:AA}{reason:V}(hx:x<w.n)(hy:y<w.n)
  (q:∀v t w',Keep (b≤ ·) s t→HI t b w' (C+1) A→w'.n=w.n→w'.nd=w.nd→Q v t):wC (n+4) "Heap.merge" [.ref b,nV x,nV y,reason] s Q:=
 BH (b:=T3) rfl rfl rfl (Is.it (BN (H.fix.get 0 _ rfl) (H.fix.get 1 _ rfl) rfl rfl) (Vq H hA hC hx hy λv t w' K H' e1 e2 _=>q v t w' K H' e1 e2))
theorem NV(d:AE×List AA):(Ai d).simple=true:=by
 show(V.atom (.str d.1)&&(d.2.map nV).all V.atom)=true
 refine rwl G1 (rwl (De ..) (rwi BE ?_));exact⟨rfl,λ_ _=>rfl⟩
theorem Pu.up{D:AA}(P:Pu w C A)(h:C≤D):Pu w D A:={P with bud:=AR P.bud h}
theorem Tu(H:HI s b w C A)(hA:A≤30)(hC:C≤30000){x:AA}(hx:x<w.n)
  (q:∀v t w',Keep (b≤ ·) s t→HI t b w' (C+2) A→w'.n=w.n→w'.nd=w.nd→2*w'.wt.length+63*w'.ks.length≤2*w.wt.length+63*w.ks.length→Q v t):wC (n+4) "Heap.look_at" [.ref b,nV x] s Q:=by
 have P:=H.pu
 have hbud:=P.bud
 refine BH (b:=Xb) rfl rfl rfl (Is.it (hat H.fix rfl rfl rfl rfl) (Is.it (Js (H.fix.get 15 _ rfl)) (Is.it (BN (H.fix.get 0 _ rfl) (H.fix.get 1 _ rfl) rfl rfl) (Xp H.rd hx ?_))))
 have H1:=H.keep (Keep.push (X:=nk) (.list (((w.nd x).2.map w.rep).map nV)))
 have K1:Keep (b≤ ·) s (s++[.list (((w.nd x).2.map w.rep).map nV)]):=Keep.push _
 revert H1 K1
 refine gen (α:=List O) (s++[O.list (((w.nd x).2.map w.rep).map nV)]) λs1 H1 K1=>?_
 refine⟨Jc (H1.fix.get 15 _ rfl),?_⟩
 refine rwl (MK (H1.fix.get 15 _ rfl) (NV _) (by omega)) ?_
 have next:∀(u:St) (w2:W) (i:AA),Keep (b≤ ·) s u→HI u b w2 (C+1) A→w2.n=w.n→w2.nd=w.nd→w2.wt=w.wt→w2.ks=w.ks→i<w2.n→
   wSs (wC (n+3)) [.ifs (.cmp (.callm (.name "self") "find" [(.name "other")]) .ne (.callm (.name "self") "find" [(.name "n")])) [.expr (.callm (.name "self") "join" [(.name "other"),(.name "n"),(.tuple [(.cstr "like")])])] []]
    (upd (Gv (λ_=>none) ["self","n"] [.ref b,nV x]) "other" (nV i)) u (λ_ s=>Q .none s) (λv s=>Q v s):=λu w2 i K H2 e1 e2 e3 e4 hi=>by
  have kF:Il (.ref b) "find" u=some (.inl "Heap.find"):=BN (H2.fix.get 0 _ rfl) (H2.fix.get 1 _ rfl) rfl rfl
  refine Is.it kF (Mt H2.rd hi (Is.it kF (Mt H2.rd (by omega) (Is.it Xy ?_))))
  by_cases h:w2.rep i=w2.rep x
  ·refine rwl (An h) ?_
   exact q _ u w2 K ⟨H2.fix,H2.dy,H2.pu.up (Et _)⟩ e1 e2 (by refine rwl e3 (rwl e4 ?_);exact Aj _)
  ·refine rwl (B5 h) ?_
   exact Is.it (BN (H2.fix.get 0 _ rfl) (H2.fix.get 1 _ rfl) rfl rfl) ⟨rfl,Vq H2 hA (by omega) hi (by omega) λv t w' K' H' f1 f2 f3=>q _ t w' (K.trans (K'.weak λ_ _ h=>h)) H' (f1.trans e1) (f2.trans e2) (by replace f3:=e4▸e3▸f3;exact f3)⟩
 cases hg:Aa (Ai (BK w x)) w.kn with
 | some v=>
  obtain⟨i,hi,ev⟩:∃i,i<w.n∧v=nV i:=by
   have:∃e∈w.kn,e.2=v:=by
    have gen:∀(es:List (V×V)) (k v:V),Aa k es=some v→∃e∈es,e.2=v:=λes=>by
     induction es with
     | nil=>intro k v h;cases h
     | cons e es ih=>
      intro k v h
      obtain⟨a,u⟩:=e
      rw [Aa] at h
      split at h
      ·exact⟨_,Ah,AV h⟩
      ·refine AJ (ih k v h) λe he h2=>?_
       exact⟨e,Am _ he,h2⟩
    exact gen _ _ _ hg
   (refine AJ this ?_;clear this;intro e he z8;subst z8)
   exact P.knm e he
  subst ev
  exact⟨_,rfl,next _ w i K1 ⟨H1.fix,H1.dy,P.up (Et _)⟩ rfl rfl rfl rfl hi⟩
 | none=>
  have F2:=H1.fix.set (i:=15) (o:=.dict (w.kn++[(Ai (BK w x),nV x)]) (w.e2+1)) rfl
  have D2:=H1.dy.set (i:=15) (o:=.dict (w.kn++[(Ai (BK w x),nV x)]) (w.e2+1)) (by decide)
  refine⟨_,rfl,next _ {w with kn:=w.kn++[(Ai (BK w x),nV x)],e2:=w.e2+1} x (K1.trans (Keep.set (Bh _ _))) ⟨F2,⟨D2.lots,D2.abs,D2.lri,D2.ari,D2.sep⟩,⟨P.hn,P.kid,P.pa,P.re,P.lotm,P.ksn,P.kss,P.abm,P.abl,P.wtl,P.dpl,λe he=>?_,P.wtm,?_,P.ml,P.fl⟩⟩ rfl rfl rfl rfl hx⟩
  ·rcases BD.mp he with he | he
   ·exact P.knm e he
   ·refine rwl (Aw.mp he) ?_;exact⟨x,hx,rfl⟩
  ·show w.edg.length+(w.kn++[_]).length+2*w.wt.length+63*w.ks.length≤C+1
   refine rwl Au (rwl GR ?_);omega
theorem eS{r:AA}{xs:List V}{v:V}(h:s[r]? =some (.list (xs++[v])))(hf:xs.length≤90000):Ec (.ref r) "pop" [] s=some (v,s.set r (.list xs)):=by
 refine(Bu h).trans ((AO (by decide)).trans ((AO (by decide)).trans ((AM rfl).trans ?_)))
 refine rwl (List.getLast?_concat) (rwl List.dropLast_concat ?_)
 exact AM (Bt (by refine rwl Au (rwl GR ?_);omega))
theorem YN{a l x k C:AA}(h:a+2*x+63*k≤C)(e:l+1=x):a+2*l+63*k≤C-2∧2≤C:=by subst e;omega
theorem ip{l x k y f:AA}(h:2*x+63*k<f+1)(e:l+1=x)(g:y≤2*l+63*k):y<f:=by subst e;omega
theorem au(hA:A≤30)(hC:C≤20000){R:QV}{Q:QS}(fuel:AA):∀(s:St) (w:W) (env:Env),HI s b w C A→2*w.wt.length+63*w.ks.length<fuel→env "self"=some (.ref b)→
  (∀env' t w',Keep (b≤ ·) s t→HI t b w' C A→w'.n=w.n→w'.nd=w.nd→Q env' t)→
  wWh (wE (wC (n+4)) (.cmp (.callf "len" [.attr (.name "self") "waiting"]) .gt (.cint 0))) (wSs (wC (n+4)) [.expr (.callm (.name "self") "look_at" [.callm (.attr (.name "self") "waiting") "pop" []])]) fuel env s Q R:=by
 induction fuel with
 | zero=>exact λs w env H h=>absurd h (CR _)
 | succ fuel ih=>
  intro s w env H hm he q
  have P:=H.pu
  have hbud:=P.bud
  show wE _ _ env s _
  refine nm he (Is.it (hat H.fix rfl rfl rfl rfl) (Is.it (EB (l:=w.wt.map nV) (H.fix.get 17 _ rfl) (by refine rwl (AY ..) ?_;omega)) (Is.it (a:=decide ((0:Int)<(w.wt.map nV).length)) rfl ?_)))
  refine rwl (AY ..) ?_
  by_cases hp:0<w.wt.length
  ·refine rwl (An (by omega)) ?_
   obtain⟨xs,x,ex⟩:∃xs x,w.wt=xs++[x]:=by
    rcases TL w.wt with h | ⟨xs,x,h⟩
    ·replace hp:=h▸hp;cases hp
    ·exact⟨xs,x,by(refine rwl h (rwl TM ?_);rfl)⟩
   have hxl:xs.length+1=w.wt.length:=by refine rwl ex (rwl Au ?_);rfl
   have e17:s[b+17]? =some (.list (xs.map nV++[nV x])):=by have:=H.fix.get 17 _ rfl;replace this:=BS▸ex▸this;exact this
   have D2:=H.dy.set (i:=17) (o:=.list (xs.map nV)) (by decide)
   have hxn:x<w.n:=P.wtm x (ex▸D8 _ Ah)
   have H2:HI (s.set (b+17) (.list (xs.map nV))) b {w with wt:=xs} (C-2) A:=⟨H.fix.set (i:=17) (o:=.list (xs.map nV)) rfl,⟨D2.lots,D2.abs,D2.lri,D2.ari,D2.sep⟩,{P with wtm:=λy hy=>P.wtm y (ex▸D7 _ hy),bud:=(YN P.bud hxl).1}⟩
   refine nm he (Is.it (BN (H.fix.get 0 _ rfl) (H.fix.get 1 _ rfl) rfl rfl) (nm he (Is.it (hat H.fix rfl rfl rfl rfl) (Is.it (DQ e17) ⟨DO e17,Is.it (eS e17 (by refine rwl (AY ..) ?_;omega)) (Tu H2 hA (AR (OH _ _) (AR hC (by decide))) hxn λv t w' K H' e1 e2 e3=>ih t w' env ?_ ?_ he λenv' t' w2 K2 H3 f1 f2=>q env' t' w2 (((Keep.set (Bh _ _)).trans K).trans K2) H3 (f1.trans e1) (f2.trans e2))⟩))))
   ·exact G8 (YN P.bud hxl).2▸H'
   ·exact ip hm hxl e3
  ·refine rwl (B5 (by omega)) ?_
   exact q env s w Keep.refl H rfl rfl
theorem cK(H:HI s b w C A)(hA:A≤30)(hC:C≤20000)(q:∀v t w',Keep (b≤ ·) s t→HI t b w' C A→w'.n=w.n→w'.nd=w.nd→Q v t):wC (n+5) "Heap.settle" [.ref b] s Q:=by
 have hbud:=H.pu.bud
 exact BH (b:=WE) rfl rfl rfl (au hA hC Jg s w _ H (by unfold Jg;omega) rfl λenv' t w' K H' e1 e2=>q _ t w' K H' e1 e2)
end
end Mine
namespace Mine
open PySem
noncomputable def Hi(x:AE):AL:=x=="a"||x=="b"||x=="f"||x=="g"
theorem Wy{x:AE}(h:Hi x=true):x="a"∨x="b"∨x="f"∨x="g":=by
 unfold Hi at h
 simpa [or_assoc] using h
theorem VK{k v:V}{f:AA→V}:∀(l:List AA),Aa k (l.map λi=>(f i,nV i))=some v→∃i,i∈l∧v=nV i
 | [],h=>by cases h
 | a::l,h=>by
  (replace h:=BF▸h;rewrite [Aa] at h)
  split at h
  ·exact⟨a,Ah,(AV h).symm⟩
  ·refine AJ (VK l h) λi hi e=>?_
   exact⟨i,Am _ hi,e⟩
theorem WD{l:List Int}(h:∀x∈l,BJ x=true):intsOf (l.map V.int)=some l:=by
 induction l with
 | nil=>rfl
 | cons a l ih=>exact(AM (h a Ah)).trans (by refine rwl (ih λx hx=>h x (Am _ hx)) ?_;rfl)
theorem jY{s:St}{r:AA}{l:List Int}(h:s[r]? =some (.list (l.map V.int)))(hs:∀x∈l,BJ x=true)(hl:l.length<1000):Ck "sum" [.ref r] s=some (.int l.sum,s):=
 (Bu h:Ck "sum" [.ref r] s=_).trans (by refine rwl (WD hs) ?_;exact AM hl)
theorem kS{s:St}{r:AA}{a:Int}{l:List Int}(h:s[r]? =some (.list ((a::l).map V.int)))(hs:∀x∈a::l,BJ x=true):Ck "max" [.ref r] s=some (.int (DY a l),s):=
 (Bu h:Ck "max" [.ref r] s=_).trans (by refine rwl (WD hs) ?_;rfl)
theorem XB:∀{l:List Int} {a:Int},DY a l∈a::l
 | [],a=>by simp [DY]
 | x::l,a=>by
  rw [DY]
  have:=XB (l:=l) (a:=if a<x then x else a)
  rcases Ak.mp this with h | h
  ·refine rwl h ?_;split<;>simp
  ·exact Am _ (Am _ h)
section
variable{n:AA}{Q:QV}{s t:St}{b:AA}{w:W}{C A:AA}
theorem MP{c:AE}(h:(Rj (AK "()[]{},:") (AK c) 0 (AK "()[]{},:").length 1).isEmpty=true):Ct .inn (.str c) (.str "()[]{},:") s=some false:=by
 show some (!(Rj (AK "()[]{},:") (AK c) 0 (AK "()[]{},:").length 1).isEmpty)=_
 refine rwl h ?_;rfl
theorem My{c:AE}(h:(decide ((AK c).length>0)&&(AK c).cps.all Rl)=false):Ec (.str c) "isspace" [] s=some (.bool false,s):=by
 show some (V.bool (decide ((AK c).length>0)&&(AK c).cps.all Rl),s)=_
 (refine rwl h ?_;rfl)
theorem jD{x:AE}(h:Hi x=true)(q:∀t,Keep nk s t→Q (.bool true) t):wC (n+1) "is_op" [.str x] s Q:=by
 have main:∀(c:AE),LS (.str x) s=some ([.str c],none)→Ct .ne (.str x) (.str "") s=some true→Ec (.str c) "isspace" [] s=some (.bool false,s)→Ct .inn (.str c) (.str "()[]{},:") s=some false→wC (n+1) "is_op" [.str x] s Q:=λc h1 h2 h3 h4=>by
  refine BH (b:=U7) rfl rfl rfl (Is.it h2 (Is.it h1 (Q4 (λv=>v) (λ_=>false) _ (λ_=>rfl) (ao rfl) rfl (λa ha Y N _ hN=>?_) ⟨rfl,Is.it (a:=true) ?_ (q _ ((Keep.push _).trans (Keep.push _)))⟩)))
  ·refine rwl (Aw.mp ha) ?_
   exact Is.it rfl ⟨rfl,Is.it h3 (Is.it h4 (hN rfl))⟩
  ·exact(TX (l:=[]) ((Keep.push (X:=nk) _).at Af) Af (BP (BI Af))).trans rfl
 rcases Wy h with rfl | rfl | rfl | rfl
 ·exact main "a" rfl rfl (My (by decide+kernel)) (MP (by decide+kernel))
 ·exact main "b" rfl rfl (My (by decide+kernel)) (MP (by decide+kernel))
 ·exact main "f" rfl rfl (My (by decide+kernel)) (MP (by decide+kernel))
 ·exact main "g" rfl rfl (My (by decide+kernel)) (MP (by decide+kernel))
theorem fB{r:AA}{x:AE}(h:Hi x=true)(q:∀t,Keep nk s t→Q .none t):wC (n+2) "Bank.require" [.ref r,.str x] s Q:=by
 refine BH (b:=XE) rfl rfl rfl (jD h λt K=>?_)
 rcases Wy h with rfl | rfl | rfl | rfl
 ·exact Is.it (a:=.str "a") rfl (Is.it (a:=false) rfl (q t K))
 ·exact Is.it (a:=.str "b") rfl (Is.it (a:=false) rfl (q t K))
 ·exact Is.it (a:=.str "f") rfl (Is.it (a:=false) rfl (q t K))
 ·exact Is.it (a:=.str "g") rfl (Is.it (a:=false) rfl (q t K))
noncomputable def PK(w:W)(b:AA)(op:AE)(l:List AA)(wt dp:Int):List O:=
 ((((w.F b).set 5 (.dict (((Ab w.n).map λi=>(Ai (w.nd i),nV i))++[(Ai (op,l),nV w.n)]) (w.e1+1))).set 4 (.list (((Ab w.n).map λi=>Ai (w.nd i))++[Ai (op,l)]))).set 6 (.list ((w.wts++[wt]).map V.int))).set 7 (.list ((w.dps++[dp]).map V.int))
theorem bE{s:St}{r:AA}{l:List Int}(h:s[r]? =some (.list (l.map V.int)))(hne:l≠[])(hs:∀x∈l,BJ x=true):∃m,m∈l∧Ck "max" [.ref r] s=some (.int m,s):=by
 cases l with
 | nil=>exact absurd rfl hne
 | cons a l=>exact⟨_,XB,kS h hs⟩
theorem Pq{l:List Int}{x:Int}:l.map V.int++[V.int x]=(l++[x]).map V.int:=by refine rwl BS ?_;rfl
theorem ia{s:St}{l:List V}:Ck "tuple" [.tup l] s=some (.tup l,s):=rfl
theorem le_n{s:St}{a b:Int}:Ct .le (.int a) (.int b) s=some (decide (a≤b)):=rfl
theorem kJ(d:AE×List AA):B9 (Ai d)=true:=NV d
theorem Wj{cl:Calls}{hid:Env}{u:St}{Q:QL}{a:AE}{r:AA}{l:List AA}{xs:List Int}(hll:l.length≤2)(hl:∀k∈l,k<xs.length)(hx:xs.length≤1000)(hs:∀v,BY [] (upd hid "kid" v) "self"=some (.ref (b+2)))
  (ha:Ed (.ref (b+2)) a u=some (.ref r)) (hr:u[r]? =some (.list (xs.map V.int))) (q:Q ((l.map λk=>xs.getD k 0).map V.int) u):
  kG (Eb ["kid"] hid (wT cl []) λe1=>wG cl [] (wE cl (.sub (.attr (.name "self") a) (.name "kid"))) e1 (BY (Bp []) e1)) [] Q (l.map nV) none u:=
 M9 (λk=>.int (xs.getD k 0)) (by omega) rfl (λk hk Y hY=>nm (hs _) (Is.it ha (Is.it (HT hr (by have:=hl k hk;refine rwl (DU) (rwl (Ba this) (rwl (EO) (rwl (Ba this) ?_)));rfl) (DB (by have:=hl k hk;omega))) hY))) (CQ (f:=λk=>xs.getD k 0) (g:=V.int)▸q)
theorem eP{l:List AA}{xs:List Int}{B:Int}(hl:l.length≤2)(hk:∀k∈l,k<xs.length)(hx:∀x∈xs,0≤x∧x≤B)(hB:0≤B):0≤(l.map λk=>xs.getD k 0).sum∧(l.map λk=>xs.getD k 0).sum≤2*B:=by
 have h:∀k∈l,0≤xs.getD k 0∧xs.getD k 0≤B:=λk hk'=>by
  refine rwl (EO) (rwl (Ba (hk k hk')) ?_)
  exact hx _ (Ff _)
 refine rwl (Int.two_mul ..) ?_
 cases l with
 | nil=>exact⟨I4 _,KW hB hB⟩
 | cons a l=>
  have ha:=h a (.head _)
  cases l with
  | nil=>
   show 0≤xs.getD a 0+0∧xs.getD a 0+0≤B+B
   exact⟨KW ha.1 (I4 _),MH ha.2 hB⟩
  | cons c l=>
   have hc:=h c (.tail _ (.head _))
   cases l with
   | nil=>
    show 0≤xs.getD a 0+(xs.getD c 0+0)∧xs.getD a 0+(xs.getD c 0+0)≤B+B
    refine rwl (Int.add_zero ..) ?_
    exact⟨KW ha.1 hc.1,MH ha.2 hc.2⟩
   | cons d l=>exact absurd hl (by simp)
theorem bat{F:List O}{a:AE}{v:V}(h:Fix s b F)(h2:F[2]? =some (.inst "Bank"))(h3:F[3]? =some (.ns [("nodes",.ref (b+4)),("numbers",.ref (b+5)),("weights",.ref (b+6)),("depths",.ref (b+7))]))(ha:(Bz "Bank").contains a=true)
  (e:Ce a [("nodes",.ref (b+4)),("numbers",.ref (b+5)),("weights",.ref (b+6)),("depths",.ref (b+7))]=some v):Ed (.ref (b+2)) a s=some v:=CT (h.get 2 _ h2) (h.get 3 _ h3) ha e
theorem XS{l:List AA}{xs:List Int}{B:Int}(hk:∀k∈l,k<xs.length)(hx:∀x∈xs,0≤x∧x≤B):∀x∈l.map λk=>xs.getD k 0,0≤x∧x≤B:=λx h=>by
 (refine AJ (Ay.mp h) ?_;intro k hk' z9;subst z9)
 refine rwl (EO) (rwl (Ba (hk k hk')) ?_)
 exact hx _ (Ff _)
theorem fP(P:Pu w C A)(hn:w.n≤11){op:AE}{l:List AA}{env:Env}{u1:St}{R:QS}(hl:l.length≤2)(hk:∀k∈l,k<w.n)(v1:env "self"=some (.ref (b+2)))(v2:env "node"=some (Ai (op,l)))
  (F1:Fix u1 b ((w.F b).set 5 (.dict (((Ab w.n).map λi=>(Ai (w.nd i),nV i))++[(Ai (op,l),nV w.n)]) (w.e1+1)))) (D1:Dy u1 b w) (K1:Keep (b≤ ·) s u1)
  (q:∀t wt dp,Keep (b≤ ·) s t→Fix t b (PK w b op l wt dp)→Dy t b w→0≤wt∧wt≤4 ^ (w.n+1)→0≤dp∧dp≤w.n+1→Q (nV w.n) t):
  wSs (wC (n+2)) [.expr (.callm (.attr (.name "self") "nodes") "append" [.name "node"]),.expr (.callm (.attr (.name "self") "weights") "append" [.bin .add (.cint 1) (.callf "sum" [.comp (.sub (.attr (.name "self") "weights") (.name "kid")) [.mk ["kid"] (.plain (.slice (.name "node") (some (.cint 1)) none)) []]])]),.expr (.callm (.attr (.name "self") "depths") "append" [.bin .add (.cint 1) (.callf "max" [.bin .add (.comp (.sub (.attr (.name "self") "depths") (.name "kid")) [.mk ["kid"] (.plain (.slice (.name "node") (some (.cint 1)) none)) []]) (.list [.cint 0])])]),.ret (.bin .sub (.callf "len" [.attr (.name "self") "nodes"]) (.cint 1))] env u1 R Q:=by
 refine nm v1 (Is.it (bat F1 rfl rfl rfl rfl) (Is.it (DQ (F1.get 4 _ rfl)) (nm v2 ⟨DO (F1.get 4 _ rfl),Is.it (EG (F1.get 4 _ rfl) (by refine rwl Cc ?_;omega)) ?_⟩)))
 have F2:=F1.set (i:=4) (o:=.list (((Ab w.n).map λi=>Ai (w.nd i))++[Ai (op,l)])) rfl
 have D2:=D1.set (i:=4) (o:=.list (((Ab w.n).map λi=>Ai (w.nd i))++[Ai (op,l)])) (by decide)
 have K2:Keep (b≤ ·) s (u1.set (b+4) (.list (((Ab w.n).map λi=>Ai (w.nd i))++[Ai (op,l)]))):=K1.trans (Keep.set (Bh _ _))
 generalize u1.set (b+4) (.list (((Ab w.n).map λi=>Ai (w.nd i))++[Ai (op,l)]))=u2 at F2 D2 K2 ⊢
 have h4:(4:Int) ^ w.n≤4 ^ 11:=by
  have:4 ^ w.n≤4 ^ 11:=aq (by decide) hn
  exact_mod_cast this
 have h4':(4:Int) ^ 11=4194304:=by decide
 have h40:(0:Int)<4 ^ w.n:=by
  have:0<4 ^ w.n:=AA.pow_pos (by decide)
  exact_mod_cast this
 have hwk:∀k∈l,k<w.wts.length:=λk hk'=>by refine rwl P.wtl.1 ?_;exact hk k hk'
 have hdk:∀k∈l,k<w.dps.length:=λk hk'=>by refine rwl P.dpl.1 ?_;exact hk k hk'
 have hsum:=eP hl hwk P.wtl.2 (SD h40)
 have hwe:=XS hwk P.wtl.2
 have hde:=XS hdk P.dpl.2
 have hsl:∀{u:St},EV (Ai (op,l)) (some (.int 1)) none u=some (.tup (l.map nV),u):=MT (l:=l.map nV) (by refine rwl (AY ..) ?_;omega)
 refine nm v1 (Is.it (bat F2 rfl rfl rfl rfl) (Is.it (DQ (F2.get 6 _ rfl)) (nm v2 (Is.it hsl (Is.it (a:=(l.map nV,none)) rfl (Wj hl hwk (by refine rwl P.wtl.1 ?_;omega) (λ_=>v1) (bat F2 rfl rfl rfl rfl) (F2.get 6 _ rfl) ?_))))))
 refine Is.it (jY (l:=l.map λk=>w.wts.getD k 0) Af (λx hx=>by have:=hwe x hx;exact FW (by omega) (by omega)) (by refine rwl (AY ..) ?_;omega)) (Is.it (Gm (by omega) (by omega)) ?_)
 have hwt:0≤1+(l.map λk=>w.wts.getD k 0).sum∧1+(l.map λk=>w.wts.getD k 0).sum≤4 ^ (w.n+1):=by refine rwl (Int.pow_succ ..) ?_;omega
 generalize 1+(l.map λk=>w.wts.getD k 0).sum=wt at hwt ⊢
 have F3:=F2.push (.list ((l.map λk=>w.wts.getD k 0).map V.int))
 have D3:=D2.push (.list ((l.map λk=>w.wts.getD k 0).map V.int))
 have K3:Keep (b≤ ·) s (u2++[.list ((l.map λk=>w.wts.getD k 0).map V.int)]):=K2.trans (Keep.push _)
 generalize u2++[O.list ((l.map λk=>w.wts.getD k 0).map V.int)]=u3 at F3 D3 K3 ⊢
 refine⟨DO (F3.get 6 _ rfl),Is.it (EG (F3.get 6 _ rfl) (by refine rwl (AY ..) (rwl P.wtl.1 ?_);omega)) ?_⟩
 have F4:=F3.set (i:=6) (o:=.list ((w.wts++[wt]).map V.int)) rfl
 have D4:=D3.set (i:=6) (o:=.list ((w.wts++[wt]).map V.int)) (by decide)
 have K4:Keep (b≤ ·) s (u3.set (b+6) (.list ((w.wts++[wt]).map V.int))):=K3.trans (Keep.set (Bh _ _))
 refine rwl Pq ?_
 generalize u3.set (b+6) (.list ((w.wts++[wt]).map V.int))=u4 at F4 D4 K4 ⊢
 refine nm v1 (Is.it (bat F4 rfl rfl rfl rfl) (Is.it (DQ (F4.get 7 _ rfl)) (nm v2 (Is.it hsl (Is.it (a:=(l.map nV,none)) rfl (Wj hl hdk (by refine rwl P.dpl.1 ?_;omega) (λ_=>v1) (bat F4 rfl rfl rfl rfl) (F4.get 7 _ rfl) ⟨rfl,?_⟩))))))
 have hdl:(l.map λk=>w.dps.getD k 0).length≤2:=by refine rwl (AY ..) ?_;exact hl
 generalize (l.map λk=>w.dps.getD k 0)=ds at hde hdl ⊢
 have g1:=(Keep.push (X:=nk) (.list [V.int 0])).at (Af (s:=u4) (o:=.list (ds.map V.int)))
 refine Is.it (QZ g1 Af (by refine rwl Au (rwl (AY ..) ?_);show ds.length+1≤_;omega)) ?_
 refine rwl Pq ?_
 refine AJ (bE (s:=u4++[O.list (ds.map V.int)]++[O.list [V.int 0]]++[O.list ((ds++[0]).map V.int)]) (l:=ds++[0]) Af (by simp) (λx hx=>by
  rcases BD.mp hx with hx | hx
  ·have:=hde x hx;exact FW (by omega) (by omega)
  ·refine rwl (Aw.mp hx) ?_;rfl)) λmx hmx emx=>?_
 have hm0:0≤mx∧mx≤w.n:=by
  rcases BD.mp hmx with hx | hx
  ·exact hde mx hx
  ·refine rwl (Aw.mp hx) ?_;omega
 refine Is.it emx (Is.it (Gm (by omega) (by omega)) ?_)
 have F5:=((F4.push (.list (ds.map V.int))).push (.list [V.int 0])).push (.list ((ds++[0]).map V.int))
 have D5:=((D4.push (.list (ds.map V.int))).push (.list [V.int 0])).push (.list ((ds++[0]).map V.int))
 have K5:Keep (b≤ ·) s (u4++[.list (ds.map V.int)]++[.list [V.int 0]]++[.list ((ds++[0]).map V.int)]):=K4.trans ((Keep.push _).trans ((Keep.push _).trans (Keep.push _)))
 generalize u4++[O.list (ds.map V.int)]++[O.list [V.int 0]]++[O.list ((ds++[0]).map V.int)]=u5 at F5 D5 K5 ⊢
 refine⟨DO (F5.get 7 _ rfl),Is.it (EG (F5.get 7 _ rfl) (by refine rwl (AY ..) (rwl P.dpl.1 ?_);omega)) ?_⟩
 refine rwl Pq ?_
 have F6:=F5.set (i:=7) (o:=.list ((w.dps++[1+mx]).map V.int)) rfl
 have D6:=D5.set (i:=7) (o:=.list ((w.dps++[1+mx]).map V.int)) (by decide)
 have K6:Keep (b≤ ·) s (u5.set (b+7) (.list ((w.dps++[1+mx]).map V.int))):=K5.trans (Keep.set (Bh _ _))
 generalize u5.set (b+7) (.list ((w.dps++[1+mx]).map V.int))=u6 at F6 D6 K6 ⊢
 have hlen:(((Ab w.n).map λi=>Ai (w.nd i))++[Ai (op,l)]).length=w.n+1:=by refine rwl Au (rwl Cc ?_);rfl
 refine nm v1 (Is.it (bat F6 rfl rfl rfl rfl) (Is.it (EB (F6.get 4 _ rfl) (by refine rwl hlen ?_;omega)) ?_))
 refine rwl hlen ?_
 refine Is.it (NP (by omega) (by omega)) ?_
 refine rwl (show(((w.n+1:AA):Int)-1)=(w.n:Int) by omega) ?_
 exact q u6 wt (1+mx) K6 F6 D6 hwt (by omega)
theorem i5(H:HI s b w C A)(hn:w.n≤11)(hC:C≤40000){op:AE}{l:List AA}(hop:Hi op=true)(hl:l.length≤2)(hk:∀k∈l,k<w.n)
  (q1:∀i,i<w.n→Q (nV i) s) (q2:∀t wt dp,Keep (b≤ ·) s t→Fix t b (PK w b op l wt dp)→Dy t b w→0≤wt∧wt≤4 ^ (w.n+1)→0≤dp∧dp≤w.n+1→Q (nV w.n) t):
  wC (n+3) "Bank.take" [.ref (b+2),.str op,.tup (l.map nV)] s Q:=by
 have P:=H.pu
 refine BH (b:=Xv) rfl rfl rfl ⟨rfl,Is.it (ia (l:=l.map nV)) (Is.it (a:=(Ai (op,l),s)) (Ke (by simp;omega)) (Is.it (bat H.fix rfl rfl rfl rfl) (Is.it (YX (kJ _) (H.fix.get 5 _ rfl)) ?_)))⟩
 cases hg:Aa (Ai (op,l)) ((Ab w.n).map λi=>(Ai (w.nd i),nV i)) with
 | some v=>
  (refine AJ (VK _ hg) ?_;intro i hi z0;subst z0)
  exact Is.it (bat H.fix rfl rfl rfl rfl) (Is.it (Gj (H.fix.get 5 _ rfl) (NV _) hg) (q1 i (Ca.mp hi)))
 | none=>
  refine Is.it (BN (H.fix.get 2 _ rfl) (H.fix.get 3 _ rfl) rfl rfl) (fB hop λt K0=>?_)
  have H0:=H.keep K0
  refine Is.it (MT (l:=l.map nV) (by refine rwl (AY ..) ?_;omega)) (Is.it (a:=(l.map nV,none)) rfl (Eg (λi env u=>env "self"=some (.ref (b+2))∧env "node"=some (Ai (op,l))∧t=u) ⟨rfl,rfl,rfl⟩ (λ_ _ _ _=>rfl) (λi k env u ek j T hT=>?_) λenv u j=>?_))
  ·(refine A7 j ?_;clear j;intro v1 v2 z1;subst z1)
   have hkn:=hk k (Bx ek)
   exact Is.it (a:=true) (by(refine rwl le_n (rwl (An (by omega)) ?_);rfl)) (nm v1 (Is.it (bat H0.fix rfl rfl rfl rfl) (Is.it (EB (H0.fix.get 4 _ rfl) (by refine rwl Cc ?_;omega)) (Is.it (a:=true) (by(refine rwl Cc (rwl Mz (rwl (An (by omega)) ?_));rfl)) (hT _ _ ⟨v1,v2,rfl⟩)))))
  ·(refine A7 j ?_;clear j;intro v1 v2 z2;subst z2)
   refine nm v1 (Is.it (bat H0.fix rfl rfl rfl rfl) (Is.it (EB (H0.fix.get 4 _ rfl) (by refine rwl Cc ?_;omega)) (nm v1 (Is.it (bat H0.fix rfl rfl rfl rfl) (nm v2 ?_)))))
   refine rwl Cc ?_
   have hsd:=LG (k:=Ai (op,l)) (v:=nV w.n) (H0.fix.get 5 _ rfl) (NV _) (by refine rwl Cc ?_;omega)
   replace hsd:=NU hg▸hg▸hsd
   refine Is.it (a:=t.set (b+5) (.dict (((Ab w.n).map λi=>(Ai (w.nd i),nV i))++[(Ai (op,l),nV w.n)]) (w.e1+1))) hsd ?_
   have F1:=H0.fix.set (i:=5) (o:=.dict (((Ab w.n).map λi=>(Ai (w.nd i),nV i))++[(Ai (op,l),nV w.n)]) (w.e1+1)) rfl
   have D1:=H0.dy.set (i:=5) (o:=.dict (((Ab w.n).map λi=>(Ai (w.nd i),nV i))++[(Ai (op,l),nV w.n)]) (w.e1+1)) (by decide)
   have K1:Keep (b≤ ·) s (t.set (b+5) (.dict (((Ab w.n).map λi=>(Ai (w.nd i),nV i))++[(Ai (op,l),nV w.n)]) (w.e1+1))):=(K0.weak λ_ _ h=>h.elim).trans (Keep.set (Bh _ _))
   generalize t.set (b+5) (.dict (((Ab w.n).map λi=>(Ai (w.nd i),nV i))++[(Ai (op,l),nV w.n)]) (w.e1+1))=u1 at F1 D1 K1 ⊢
   exact fP P hn hl hk v1 v2 F1 D1 K1 (q2 · · ·)
end
end Mine
namespace Mine
theorem lI{α:Type}{n:AA}{f f':AA→α}{v:α}(h:∀i,i<n→f' i=f i)(e:f' n=v):((Ab n).map f)++[v]=(Ab (n+1)).map f':=by
 refine rwl Sg (rwl BS (rwl O7 (rwl e ?_)))
 congr 1
 exact DE λi hi=>(h i (Ca.mp hi)).symm
noncomputable def MY(w:W)(op:AE)(l:List AA)(wt dp:Int)(ln an:AA):W:={w with
 n:=w.n+1
 nd:=λi=>if i=w.n then(op,l) else w.nd i
 par:=λi=>if i=w.n then w.n else w.par i
 rep:=λi=>if i=w.n then w.n else w.rep i
 lr:=λi=>if i=w.n then ln else w.lr i
 lot:=λi=>if i=w.n then [w.n] else w.lot i
 ks:=w.ks++[w.n]
 ar:=λi=>if i=w.n then an else w.ar i
 ab:=λi=>if i=w.n then [] else w.ab i
 wts:=w.wts++[wt]
 dps:=w.dps++[dp]
 e1:=w.e1+1
 e3:=w.e3+1}
theorem Pu.add{w:W}{C A ln an:AA}{op:AE}{l:List AA}{wt dp:Int}(P:Pu w C A)(hn:w.n≤11)(hl:l.length≤2)(hk:∀k∈l,k<w.n)(hw:0≤wt∧wt≤4 ^ (w.n+1))(hd:0≤dp∧dp≤w.n+1):Pu (MY w op l wt dp ln an) (C+63) A:=by
 have hne:∀i,i<w.n→i≠w.n:=λi h=>BP h
 have hnk:w.n∉w.ks:=λh=>CY _ ((P.kss _).mp h).1
 have h4:(4:Int) ^ w.n≤4 ^ (w.n+1):=by
  have:4 ^ w.n≤4 ^ (w.n+1):=aq (by decide) (Et _)
  exact_mod_cast this
 have split2:∀{i:AA},i<w.n+1→i<w.n∨i=w.n:=λh=>KY.mp h
 refine⟨by show w.n+1≤12;omega,λi hi=>?_,λa ha=>?_,λa ha=>?_,λr hr h=>?_,?_,λc=>?_,λc hc x hx=>?_,?_,⟨by show(w.wts++[wt]).length=w.n+1;refine rwl Au (rwl P.wtl.1 ?_);rfl,λx hx=>?_⟩,⟨by show(w.dps++[dp]).length=w.n+1;refine rwl Au (rwl P.dpl.1 ?_);rfl,λx hx=>?_⟩,λe he=>?_,λx hx=>Cv (P.wtm x hx),?_,P.ml,P.fl⟩
 ·show((if i=w.n then(op,l) else w.nd i).2).length≤2∧∀k∈(if i=w.n then(op,l) else w.nd i).2,k<w.n+1
  rcases split2 hi with h | h
  ·refine rwl (AO (hne i h)) ?_;exact⟨(P.kid i h).1,λk hk=>Cv ((P.kid i h).2 k hk)⟩
  ·refine rwl (AM h) ?_;exact⟨hl,λk hk'=>Cv (hk k hk')⟩
 ·show(if a=w.n then w.n else w.par a)≤a
  split
  ·omega
  ·rename_i h;exact P.pa a ((split2 ha).resolve_right h)
 ·show(if a=w.n then w.n else w.rep a)<w.n+1∧(if(if a=w.n then w.n else w.par a)=w.n then w.n else w.rep (if a=w.n then w.n else w.par a))=(if a=w.n then w.n else w.rep a)∧((if a=w.n then w.n else w.par a)=a↔(if a=w.n then w.n else w.rep a)=a)
  rcases split2 ha with h | h
  ·have h1:=P.pa a h
   refine A7 (P.re a h) λr1 r2 r3=>?_
   refine rwl (AO (hne a h)) (rwl (AO (hne a h)) (rwl (AO (by omega)) ?_))
   exact⟨Cv r1,r2,r3⟩
  ·subst h;simp
 ·have h:(if r=w.n then w.n else w.rep r)=r:=h
  show(if r=w.n then [w.n] else w.lot r).Nodup∧∀a,a∈(if r=w.n then [w.n] else w.lot r)↔a<w.n+1∧(if a=w.n then w.n else w.rep a)=r
  rcases split2 hr with h' | h'
  ·rw [AO (hne r h')] at h ⊢
   (have zz:=P.lotm r h' h;have l1:=zz.1;have l2:=zz.2;clear zz)
   refine⟨l1,λa=>(l2 a).trans ⟨λzq1=>zq1.elim λh1 h2=>⟨Cv h1,by refine rwl (AO (hne a h1)) ?_;exact h2⟩,λzq1=>zq1.elim λh1 h2=>?_⟩⟩
   rcases split2 h1 with h3 | h3
   ·replace h2:=AO (hne a h3)▸h2;exact⟨h3,h2⟩
   ·replace h2:=AM h3▸h2;omega
  ·refine rwl (AM h') ?_
   refine⟨by simp,λa=>?_⟩
   refine rwi Aw ?_
   constructor
   ·rintro rfl;exact⟨by omega,by refine rwl (AM rfl) ?_;exact h'.symm⟩
   ·(intro zr30;(have h1:=zr30.1;have h2:=zr30.2;clear zr30))
    rcases split2 h1 with h3 | h3
    ·replace h2:=AO (hne a h3)▸h2
     have:=(P.re a h3).1;omega
    ·exact h3
 ·show(w.ks++[w.n]).Nodup
  refine rwi GD ?_
  exact⟨P.ksn,by simp,λa ha c hc=>by refine rwl (Aw.mp hc) ?_;rintro rfl;exact hnk ha⟩
 ·show c∈w.ks++[w.n]↔c<w.n+1∧(if c=w.n then w.n else w.rep c)=c
  (refine rwi BD (rwi Aw ?_);rewrite [P.kss])
  constructor
  ·rintro(⟨h1,h2⟩ | rfl)
   ·exact⟨Cv h1,by refine rwl (AO (hne c h1)) ?_;exact h2⟩
   ·exact⟨DZ _,AM rfl⟩
  ·(intro zr31;(have h1:=zr31.1;have h2:=zr31.2;clear zr31))
   rcases split2 h1 with h3 | h3
   ·replace h2:=AO (hne c h3)▸h2;exact .inl ⟨h3,h2⟩
   ·exact .inr h3
 ·have hx:x∈(if c=w.n then [] else w.ab c):=hx
  have hc:c∈w.ks++[w.n]:=hc
  show x<w.n+1
  rw [BD,Aw] at hc
  rcases hc with hc | hc
  ·replace hx:=(AO (show c≠w.n from λh=>hnk (h▸hc)))▸hx;exact Cv (P.abm c hc x hx)
  ·replace hx:=AM hc▸hx;cases hx
 ·have:EI (MY w op l wt dp ln an)=EI w:=by
   show(((w.ks++[w.n]).map λc=>(if c=w.n then [] else w.ab c).length)).sum=(w.ks.map λc=>(w.ab c).length).sum
   refine rwl BS (rwl ZN (rwl (DE (g:=λc=>(w.ab c).length) λc hc=>by(refine rwl (AO (show c≠w.n from λh=>hnk (h▸hc))) ?_;rfl)) ?_))
   simp
  refine rwl this ?_;exact P.abl
 ·rcases BD.mp hx with hx | hx
  ·have:=P.wtl.2 x hx;exact⟨this.1,OG this.2 h4⟩
  ·refine rwl (Aw.mp hx) ?_;exact hw
 ·rcases BD.mp hx with hx | hx
  ·have:=P.dpl.2 x hx;exact⟨this.1,by show x≤((w.n+1:AA):Int);omega⟩
  ·refine rwl (Aw.mp hx) ?_;exact⟨hd.1,by show dp≤((w.n+1:AA):Int);omega⟩
 ·refine AJ (P.knm e he) λi hi e=>?_
  exact⟨i,Cv hi,e⟩
 ·have:=P.bud
  show w.edg.length+w.kn.length+2*w.wt.length+63*(w.ks++[w.n]).length≤C+63
  refine rwl Au (rwl GR ?_);omega
noncomputable def Mu(w:W)(c:AA)(ab':List AA):W:={w with ab:=λx=>if x=c then ab' else w.ab x}
theorem Pu.push{w:W}{C A c x:AA}(P:Pu w C A)(hc:c∈w.ks)(hx:x<w.n):Pu (Mu w c (w.ab c++[x])) C (A+1):=by
 refine⟨P.hn,P.kid,P.pa,P.re,P.lotm,P.ksn,P.kss,λd hd y hy=>?_,?_,P.wtl,P.dpl,P.knm,P.wtm,P.bud,P.ml,P.fl⟩
 ·have hy:y∈(if d=c then w.ab c++[x] else w.ab d):=hy
  show y<w.n
  split at hy
  ·rcases BD.mp hy with hy | hy
   ·exact P.abm c hc y hy
   ·refine rwl (Aw.mp hy) ?_;exact hx
  ·exact P.abm d hd y hy
 ·have h1:=RE (f:=λc=>(w.ab c).length) (v:=(w.ab c).length+1) P.ksn hc
  have h2:EI (Mu w c (w.ab c++[x]))=(w.ks.map λd=>if d=c then(w.ab c).length+1 else(w.ab d).length).sum:=by
   unfold EI Mu
   dsimp only
   congr 1
   exact DE λd _=>by split<;>simp
  have h3:=P.abl
  unfold EI at h3 h2 ⊢
  omega
end Mine
namespace Mine
section
variable{n:AA}{Q:QV}{s t:St}{b:AA}{w:W}{C A:AA}
theorem Pu.more{C' A':AA}(P:Pu w C A)(hC:C≤C')(hA:A≤A'):Pu w C' A':=
 {P with abl:=AR P.abl hA,bud:=AR P.bud hC}
theorem HI.more{C' A':AA}(H:HI s b w C A)(hC:C≤C')(hA:A≤A'):HI s b w C' A':=⟨H.fix,H.dy,H.pu.more hC hA⟩
structure FI(b x r:AA)(S:List V)(w0:W)(C A:AA)(s:St)(i:AA)(env:Env)(u:St):Prop where
 v1:env "self"=some (.ref b)
 v2:env "n"=some (nV x)
 eu:u[r]? =some (.list S)
 K:Keep (b≤ ·) s u
 w:∃w2,HI u b w2 C (A+i)∧w2.ks=w0.ks∧w2.ar=w0.ar∧w2.n=w0.n∧w2.nd=w0.nd
theorem cO{cl:Calls}{S:List V}{r x:AA}{s1:St}{env:Env}{u0:St}{w0:W}{Qe:Env→St→Prop}{R:V→St→Prop}(hS:∀v∈S,∃c,v=nV c∧c∈w0.ks)(hl:S.length≤2)(H0:HI u0 b w0 C A)(hA:A≤28)(hx:x<w0.n)
  (e1:env "self"=some (.ref b)) (e2:env "n"=some (nV x)) (er:u0[r]? =some (.list S)) (hr:∀c,c∈w0.ks→w0.ar c<r) (K0:Keep (b≤ ·) s u0)
  (q:∀env' u w',env' "self"=some (.ref b)→env' "n"=some (nV x)→Keep (b≤ ·) s u→HI u b w' C (A+2)→w'.n=w0.n→w'.nd=w0.nd→Qe env' u):
  IK ["c"] (wSs cl [.expr (.callm (.sub (.attr (.name "self") "above") (.name "c")) "append" [.name "n"])]) (Bd (some r) u0) S env u0 Qe R:=by
 refine rwr (TK S) ?_
 refine Eg (FI b x r S w0 C A s) ⟨e1,e2,er,K0,w0,H0,rfl,rfl,rfl,rfl⟩ (λi env u j=>Cy er j.eu) (λi v env u ev j T hT=>?_) λenv u j=>?_
 ·refine RG j.w λw2 H h1 h2 h3 h4=>?_
  have hil:i<2:=by have:=(BA.mp ev).1;omega
  (refine AJ (hS v (Bx ev)) ?_;intro c z3;subst z3;intro hc)
  have hc2:c∈w2.ks:=by refine rwl h1 ?_;exact hc
  have ac:=H.dy.abs c hc2
  have hsub:CP (.ref (b+16)) (nV c) u=some (.ref (w2.ar c)):=Gj (H.fix.get 16 _ rfl) rfl (by(refine rwl (Jh (f:=λc=>V.ref (w2.ar c))) (rwl (AM hc2) ?_);rfl))
  have hle:=Kd (f:=λc=>(w2.ab c).length) hc2
  have htot:=H.pu.abl
  unfold EI at htot
  have hne:w2.ar c≠r:=by refine rwl h2 ?_;exact BP (hr c hc)
  refine nm j.v1 (Is.it (hat H.fix rfl rfl rfl rfl) (Is.it hsub (Is.it (DQ ac.1) (nm j.v2 ⟨DO ac.1,Is.it (EG ac.1 (by refine rwl (AY ..) ?_;omega)) (hT _ _ ⟨j.v1,j.v2,(Bl hne).trans j.eu,j.K.trans (Keep.set (by have:=ac.2;omega)),Mu w2 c (w2.ab c++[x]),⟨H.fix.hi (Aj 18) ac.2,?_,H.pu.push hc2 (by omega)⟩,h1,h2,h3,h4⟩)⟩))))
  ·have D:=H.dy
   refine⟨λi hi=>⟨(Bl λz=>D.sep i c hi hc2 z.symm).trans (D.lots i hi).1,(D.lots i hi).2⟩,λd hd=>⟨?_,(D.abs d hd).2⟩,D.lri,D.ari,D.sep⟩
   show _=some (O.list ((if d=c then w2.ab c++[x] else w2.ab d).map nV))
   by_cases h:d=c
   ·subst h
    refine rwl (AM rfl) (rwl BS ?_)
    exact EM ac.1
   ·refine rwl (AO h) ?_
    exact(Bl λz=>h (D.ari c d hc2 hd z).symm).trans (D.abs d hd).1
 ·refine RG j.w λw2 H h1 h2 h3 h4=>?_
  exact q env u w2 j.v1 j.v2 j.K (H.more (Aj _) (by omega)) h3 h4
theorem XF(H:HI s b w C A)(hn:w.n≤11)(hC:C≤20000)(hA:A≤28){op:AE}{l:List AA}(hop:Hi op=true)(hl:l.length≤2)(hk:∀k∈l,k<w.n)
  (q:∀i t w',i<w'.n→Keep (b≤ ·) s t→HI t b w' (C+65) (A+2)→w.n≤w'.n→w'.n≤w.n+1→Q (nV i) t):wC (n+5) "Heap.add" [.ref b,.str op,.tup (l.map nV)] s Q:=by
 have usz:∀{u:St} {F:List O} {m:AA} {xs:List V} {Q:QV},Fix u b F→F[8]? =some (.inst "Unions")→F[9]? =some (.ns [("above",.ref (b+10)),("lots",.ref (b+11)),("merged",.ref (b+12))])→F[10]? =some (.list xs)→xs.length≤1000→Q (.int xs.length) u→wC (n+4) "Unions.size" [.ref (b+8)] u Q:=
  λh h8 h9 h10 hl q=>BH (b:=UT) rfl rfl rfl (Is.it (CT (h.get 8 _ h8) (h.get 9 _ h9) rfl rfl) (Is.it (EB (h.get 10 _ h10) (by omega)) q))
 refine BH (b:=Vn) rfl rfl rfl (Is.it (hat H.fix rfl rfl rfl rfl) (Is.it (BN (H.fix.get 2 _ rfl) (H.fix.get 3 _ rfl) rfl rfl) (i5 H hn (by omega) hop hl hk (λi hi=>?_) λt wt dp K0 F0 D0 hwt hdp=>?_)))
 ·refine Is.it (hat H.fix rfl rfl rfl rfl) (Is.it (BN (H.fix.get 8 _ rfl) (H.fix.get 9 _ rfl) rfl rfl) (usz (m:=w.n) H.fix rfl rfl rfl (by refine rwl Cc ?_;omega) ?_))
  refine rwl Cc ?_
  refine Is.it Mz ?_
  refine rwl (An (by omega)) ?_
  exact q i s w hi Keep.refl (H.more (by omega) (by omega)) (Aj _) (Et _)
 ·unfold PK at F0
  refine Is.it (hat F0 rfl rfl rfl rfl) (Is.it (BN (F0.get 8 _ rfl) (F0.get 9 _ rfl) rfl rfl) (usz (m:=w.n) F0 rfl rfl rfl (by refine rwl Cc ?_;omega) ?_))
  refine rwl Cc ?_
  refine Is.it Mz ?_
  refine rwl (B5 (by omega)) ?_
  have uat:∀{u:St} {F:List O} {a:AE} {v:V},Fix u b F→F[8]? =some (.inst "Unions")→F[9]? =some (.ns [("above",.ref (b+10)),("lots",.ref (b+11)),("merged",.ref (b+12))])→(Bz "Unions").contains a=true→
   Ce a [("above",.ref (b+10)),("lots",.ref (b+11)),("merged",.ref (b+12))]=some v→Ed (.ref (b+8)) a u=some v:=λh h2 h3 ha e=>CT (h.get 8 _ h2) (h.get 9 _ h3) ha e
  refine Is.it (hat F0 rfl rfl rfl rfl) (Is.it (BN (F0.get 8 _ rfl) (F0.get 9 _ rfl) rfl rfl) (BH (b:=Vt) rfl rfl rfl (Is.it (uat F0 rfl rfl rfl rfl) (Is.it (DQ (F0.get 10 _ rfl)) (Is.it (uat F0 rfl rfl rfl rfl) (Is.it (EB (F0.get 10 _ rfl) (by refine rwl Cc ?_;omega)) ⟨DO (F0.get 10 _ rfl),Is.it (EG (F0.get 10 _ rfl) (by refine rwl Cc ?_;omega)) ?_⟩))))))
  refine rwl Cc ?_
  have F1:=F0.set (i:=10) (o:=.list (((Ab w.n).map λi=>nV (w.par i))++[nV w.n])) rfl
  have D1:=D0.set (i:=10) (o:=.list (((Ab w.n).map λi=>nV (w.par i))++[nV w.n])) (by decide)
  have K1:Keep (b≤ ·) s (t.set (b+10) (.list (((Ab w.n).map λi=>nV (w.par i))++[nV w.n]))):=K0.trans (Keep.set (Bh _ _))
  revert F1 D1 K1
  refine gen (t.set (b+10) (.list (((Ab w.n).map λi=>nV (w.par i))++[nV w.n]))) λu1 F1 D1 K1=>?_
  refine Is.it (uat F1 rfl rfl rfl rfl) (Is.it (DQ (F1.get 11 _ rfl)) (Is.it (uat F1 rfl rfl rfl rfl) (Is.it (EB (F1.get 11 _ rfl) (by refine rwl Cc ?_;omega)) ⟨rfl,?_⟩)))
  refine rwl Cc ?_
  have F2:=F1.push (.list [nV w.n])
  have D2:=D1.push (.list [nV w.n])
  have K2:Keep (b≤ ·) s (u1++[.list [nV w.n]]):=K1.trans (Keep.push _)
  have eln:(u1++[O.list [nV w.n]])[u1.length]? =some (.list [nV w.n]):=Af
  have hlnb:b+18≤u1.length:=by have:=BI (F1.get 17 _ rfl);omega
  revert eln hlnb
  refine MN (u1.length) λln hln=>?_
  set_option tactic.hygienic false in intros
  revert F2 D2 K2 eln
  refine gen (α:=List O) (u1++[O.list [nV w.n]]) λu2 F2 D2 K2 eln=>?_
  refine⟨DO (F2.get 11 _ rfl),Is.it (EG (F2.get 11 _ rfl) (by refine rwl Cc ?_;omega)) ?_⟩
  have F3:=F2.set (i:=11) (o:=.list (((Ab w.n).map λi=>V.ref (w.lr i))++[V.ref ln])) rfl
  have D3:=D2.set (i:=11) (o:=.list (((Ab w.n).map λi=>V.ref (w.lr i))++[V.ref ln])) (by decide)
  have K3:Keep (b≤ ·) s (u2.set (b+11) (.list (((Ab w.n).map λi=>V.ref (w.lr i))++[V.ref ln]))):=K2.trans (Keep.set (Bh _ _))
  have eln3:(u2.set (b+11) (.list (((Ab w.n).map λi=>V.ref (w.lr i))++[V.ref ln])))[ln]? =some (.list [nV w.n]):=(Bl (by omega)).trans eln
  revert F3 D3 K3 eln3
  refine gen (u2.set (b+11) (.list (((Ab w.n).map λi=>V.ref (w.lr i))++[V.ref ln]))) λu3=>?_
  set_option tactic.hygienic false in intros
  have hlen:(((Ab w.n).map λi=>nV (w.par i))++[nV w.n]).length=w.n+1:=by simp
  refine Is.it (uat F3 rfl rfl rfl rfl) (Is.it (EB (F3.get 10 _ rfl) (by refine rwl hlen ?_;omega)) ?_)
  refine rwl hlen ?_
  refine Is.it (NP (by omega) (by omega)) ⟨rfl,?_⟩
  have F4:=F3.push (.list [])
  have D4:=D3.push (.list [])
  have K4:Keep (b≤ ·) s (u3++[.list []]):=K3.trans (Keep.push _)
  have ean:(u3++[O.list []])[u3.length]? =some (.list []):=Af
  have eln4:=(Keep.push (X:=nk) (.list [])).at eln3
  have hanl:ln<u3.length:=BI eln3
  have harl:∀c,c∈w.ks→w.ar c<u3.length:=λc hc=>BI (D3.abs c hc).1
  have hlrl:∀i,i<w.n→w.lr i<ln:=λi hi=>by refine rwr hln ?_;exact BI (D1.lots i hi).1
  have harn:∀c,c∈w.ks→w.ar c<ln:=λc hc=>by refine rwr hln ?_;exact BI (D1.abs c hc).1
  revert ean hanl harl
  refine MN (u3.length) λan han=>?_
  set_option tactic.hygienic false in intros
  revert F4 D4 K4 ean eln4
  refine gen (α:=List O) (u3++[O.list []]) λu4=>?_
  set_option tactic.hygienic false in intros
  have P:=H.pu
  have hnk:w.n∉w.ks:=λh=>CY _ ((P.kss _).mp h).1
  have hbud:=P.bud
  have hgn:Aa (nV w.n) (w.ks.map λc=>(nV c,V.ref (w.ar c)))=none:=by(refine rwl (Jh (f:=λc=>V.ref (w.ar c))) (rwl (AO hnk) ?_);rfl)
  have hsd:=LG (k:=nV w.n) (v:=.ref an) (F4.get 16 _ rfl) rfl (by refine rwl (AY ..) ?_;omega)
  replace hsd:=NU hgn▸hgn▸hsd
  refine Is.it (hat F4 rfl rfl rfl rfl) (Is.it (a:=u4.set (b+16) (.dict ((w.ks.map λc=>(nV c,V.ref (w.ar c)))++[(nV w.n,V.ref an)]) (w.e3+1))) hsd ?_)
  have F5:=F4.set (i:=16) (o:=.dict ((w.ks.map λc=>(nV c,V.ref (w.ar c)))++[(nV w.n,V.ref an)]) (w.e3+1)) rfl
  have D5:=D4.set (i:=16) (o:=.dict ((w.ks.map λc=>(nV c,V.ref (w.ar c)))++[(nV w.n,V.ref an)]) (w.e3+1)) (by decide)
  have K5:Keep (b≤ ·) s (u4.set (b+16) (.dict ((w.ks.map λc=>(nV c,V.ref (w.ar c)))++[(nV w.n,V.ref an)]) (w.e3+1))):=K4.trans (Keep.set (Bh _ _))
  have eln5:(u4.set (b+16) (.dict ((w.ks.map λc=>(nV c,V.ref (w.ar c)))++[(nV w.n,V.ref an)]) (w.e3+1)))[ln]? =some (.list [nV w.n]):=(Bl (by omega)).trans eln4
  have ean5:(u4.set (b+16) (.dict ((w.ks.map λc=>(nV c,V.ref (w.ar c)))++[(nV w.n,V.ref an)]) (w.e3+1)))[an]? =some (.list []):=(Bl (by omega)).trans ean
  revert F5 D5 K5 eln5 ean5
  refine gen (u4.set (b+16) (.dict ((w.ks.map λc=>(nV c,V.ref (w.ar c)))++[(nV w.n,V.ref an)]) (w.e3+1))) λu5=>?_
  set_option tactic.hygienic false in intros
  have hne:∀i,i<w.n→i≠w.n:=λi h=>BP h
  have ge:∀{α:Type} {f:AA→α} {v:α},((Ab w.n).map f)++[v]=(Ab (w.n+1)).map λi=>if i=w.n then v else f i:=λ{α f v}=>lI (λi hi=>AO (hne i hi)) (AM rfl)
  have gk:(w.ks.map λc=>(nV c,V.ref (w.ar c)))++[(nV w.n,V.ref an)]=(w.ks++[w.n]).map λc=>(nV c,V.ref (if c=w.n then an else w.ar c)):=by
   refine rwl BS (rwl O7 (rwl (AM rfl) ?_))
   congr 1
   exact DE λc hc=>by(refine rwl (AO (show c≠w.n from λh=>hnk (h▸hc))) ?_;rfl)
  have gf:∀{α β:Type} (g:α→β) (i:AA) (v u:α),(if i=w.n then g v else g u)=g (if i=w.n then v else u):=λg i v u=>by split<;>rfl
  have gf2:∀(i:AA),(if i=w.n then(Ai (op,l),nV w.n) else(Ai (w.nd i),nV i))=(Ai (if i=w.n then(op,l) else w.nd i),nV i):=λi=>by split<;>simp_all
  have HA:HI u5 b (MY w op l wt dp ln an) (C+63) A:=by
   refine⟨?_,⟨λi hi=>?_,λc hc=>?_,λi j hi hj h=>?_,λc d hc hd h=>?_,λi c hi hc h=>?_⟩,P.add hn hl hk hwt hdp⟩
   ·replace F5:=gk▸ge▸ge▸ge▸ge▸F5
    simp only [gf,gf2] at F5
    exact F5
   ·show u5[if i=w.n then ln else w.lr i]? =some (O.list ((if i=w.n then [w.n] else w.lot i).map nV))∧b+18≤if i=w.n then ln else w.lr i
    rcases KY.mp hi with h | h
    ·refine rwl (AO (hne i h)) (rwl (AO (hne i h)) ?_);exact D5.lots i h
    ·refine rwl (AM h) (rwl (AM h) ?_);exact⟨eln5,hlnb⟩
   ·show u5[if c=w.n then an else w.ar c]? =some (O.list ((if c=w.n then [] else w.ab c).map nV))∧b+18≤if c=w.n then an else w.ar c
    rcases BD.mp hc with h | h
    ·refine rwl (AO (show c≠w.n from λz=>hnk (z▸h))) (rwl (AO (show c≠w.n from λz=>hnk (z▸h))) ?_);exact D5.abs c h
    ·refine rwl (AM (Aw.mp h)) (rwl (AM (Aw.mp h)) ?_);exact⟨ean5,by omega⟩
   ·have h:(if i=w.n then ln else w.lr i)=if j=w.n then ln else w.lr j:=h
    rcases KY.mp hi with h1 | h1<;>rcases KY.mp hj with h2 | h2
    ·replace h:=AO (hne j h2)▸AO (hne i h1)▸h;exact D5.lri i j h1 h2 h
    ·replace h:=AM h2▸AO (hne i h1)▸h;have:=hlrl i h1;omega
    ·replace h:=AO (hne j h2)▸AM h1▸h;have:=hlrl j h2;omega
    ·omega
   ·have h:(if c=w.n then an else w.ar c)=if d=w.n then an else w.ar d:=h
    have hm:∀{c},c∈w.ks→c≠w.n:=λh z=>hnk (z▸h)
    rcases BD.mp hc with h1 | h1<;>rcases BD.mp hd with h2 | h2
    ·replace h:=AO (hm h2)▸AO (hm h1)▸h;exact D5.ari c d h1 h2 h
    ·replace h:=AM (Aw.mp h2)▸AO (hm h1)▸h;have:=harl c h1;omega
    ·replace h:=AO (hm h2)▸AM (Aw.mp h1)▸h;have:=harl d h2;omega
    ·(refine rwl (Aw.mp h1) (rwl (Aw.mp h2) ?_);rfl)
   ·have h:(if i=w.n then ln else w.lr i)=if c=w.n then an else w.ar c:=h
    have hm:∀{c},c∈w.ks→c≠w.n:=λh z=>hnk (z▸h)
    rcases KY.mp hi with h1 | h1<;>rcases BD.mp hc with h2 | h2
    ·replace h:=AO (hm h2)▸AO (hne i h1)▸h;exact D5.sep i c h1 h2 h
    ·replace h:=AM (Aw.mp h2)▸AO (hne i h1)▸h;have:=hlrl i h1;omega
    ·replace h:=AO (hm h2)▸AM h1▸h;have:=harn c h2;omega
    ·replace h:=AM (Aw.mp h2)▸AM h1▸h;omega
  revert HA
  refine MN (MY w op l wt dp ln an) λw' hw' HA=>?_
  have hn':w'.n=w.n+1:=by refine rwr hw' ?_;rfl
  have hkk:∀k∈l,k<w'.n:=λk hk'=>by refine rwl hn' ?_;exact Cv (hk k hk')
  refine Is.it (a:=(l.map nV,none)) rfl (Po (o:="self") (x:="kid") HA.rd (by omega) hkk (λ_=>rfl) (λ_=>rfl) ?_)
  generalize hL:(l.map w'.rep).map nV=L
  have hLl:L.length≤2:=by refine rwr hL (rwl (AY ..) (rwl (AY ..) ?_));exact hl
  have hLm:∀v∈L,∃c,v=nV c∧c∈w'.ks:=λv hv=>by
   replace hv:=Cq hL▸hv
   (refine AJ (Ay.mp hv) ?_;intro c hc z4;subst z4)
   (refine AJ (Ay.mp hc) ?_;intro k hk' z5;subst z5)
   exact⟨_,rfl,(HA.pu.kss _).mpr ⟨(HA.pu.re k (hkk k hk')).1,Ie HA.rd k (hkk k hk')⟩⟩
  have hd:=HQ L []
  simp at hd
  have hdm:∀v∈A8 [] L,∃c,v=nV c∧c∈w'.ks:=λv hv=>hLm v (by simpa using Hn.mp hv)
  have hp:=FN (A8 [] L)
  have hpl:=hp.length_eq
  refine Pj Af ?_ (by show L.length<15;omega) (Qq Af (IS (by show(A8 [] L).length<64;omega) (Qb λv hv=>(hdm v hv).elim λc zz=>zz.elim λe _=>⟨c,e⟩)) (by show(Dj (A8 [] L)).length≤1000;omega) (Is.it (C4 Af) ?_))
  ·refine rwl (JD ..) ?_
   refine .inl (BE.mpr λv hv=>?_)
   (refine AJ (hLm v hv) ?_;intro c z6;subst z6;intro _);rfl
  ·have HB:=HA.keep ((Keep.push (X:=nk) (.list L)).trans ((Keep.push (.set (A8 [] L))).trans (Keep.push (.list (Dj (A8 [] L))))))
   have KB:Keep (b≤ ·) s (u5++[.list L]++[.set (A8 [] L)]++[.list (Dj (A8 [] L))]):=K5.trans ((Keep.push _).trans ((Keep.push _).trans (Keep.push _)))
   refine cO (x:=w.n) (s1:=s) (λv hv=>hdm v (hp.mem_iff.mp hv)) (by show(Dj (A8 [] L)).length≤2;omega) HB (by omega) (by omega) rfl rfl Af (λc hc=>?_) KB λenv u w2 v1 v2 K H2 e1 e2=>?_
   ·have:=BI (HA.dy.abs c hc).1
    simp;omega
   ·refine nm v1 (Is.it (BN (H2.fix.get 0 _ rfl) (H2.fix.get 1 _ rfl) rfl rfl) (nm v2 (Tu H2 (by omega) (by omega) (by omega) λv t w3 K3 H3 f1 f2 _=>nm v2 (q w.n t w3 (by omega) (K.trans (K3.weak λ_ _ h=>h)) H3 (by omega) (by omega)))))
end
end Mine
namespace Mine
structure Ap(s t:St)(F:List O):Prop where
 fix:Fix t s.length F
 len:t.length=s.length+F.length
 keep:Keep nk s t
theorem Ap.push{s t:St}{F:List O}(A:Ap s t F)(o:O):Ap s (t++[o]) (F++[o]):=⟨⟨λi p h=>by
 by_cases hi:i<F.length
 ·replace h:=C6 hi▸h
  exact(Keep.push (X:=nk) o).at (A.fix.get i p h)
 ·replace h:=Hx (Ds hi)▸h
  have hi2:i=F.length:=by
   have:=(BA.mp h).1
   simp at this;omega
  subst hi2
  rw [KD] at h
  (replace h:=AV h;subst h)
  refine rwr A.len ?_;exact Af⟩,by simp [A.len];omega,A.keep.trans (Keep.push o)⟩
theorem Ap.start{s:St}{c:AE}:Ap s (s++[.inst c,.ns []]) [.inst c,.ns []]:=⟨⟨λi p h=>by
 refine rwl (Hx (Bh _ _)) (rwl (OT ..) ?_);exact h⟩,by simp,Keep.app _⟩
theorem Ap.attr{s t:St}{F:List O}(A:Ap s t F){fs fs':List (AE×V)}(h1:F[1]? =some (.ns fs)):Ap s (t.set (s.length+1) (.ns fs')) (F.set 1 (.ns fs')):=
 ⟨A.fix.set h1,by simp [A.len],A.keep.set_new (Et _)⟩
theorem Ap.trans{s t u:St}{F G:List O}(A:Ap s t F)(B:Ap t u G):Ap s u (F++G):=⟨⟨λi p h=>by
 by_cases hi:i<F.length
 ·replace h:=C6 hi▸h
  exact B.keep.at (A.fix.get i p h)
 ·replace h:=Hx (Ds hi)▸h
  have:=B.fix.get _ p h
  rwa [A.len,show s.length+F.length+(i-F.length)=s.length+i from(G4 ..).trans (AW (s.length+ ·) (Fb (Ds hi)))] at this⟩,by refine rwl B.len (rwl A.len (rwl Au ?_));omega,A.keep.trans B.keep⟩
theorem HK{s t:St}{F:List O}{c a:AE}{o:O}{fs:List (AE×V)}{Q:St→Prop}(A:Ap s t F)(h0:F[0]? =some (.inst c))(h1:F[1]? =some (.ns fs))(ha:(Bz c).contains a=true)(hf:AA.ble fs.length 99=true)
  (q:∀u,Ap s u ((F++[o]).set 1 (.ns (By a (.ref (s.length+F.length)) fs)))→Q u):Is (LP (.ref s.length) a (.ref t.length) (t++[o])) Q:=by
 have h0':(F++[o])[0]? =some (.inst c):=by refine rwl (C6 (BA.mp h0).1) ?_;exact h0
 have h1':(F++[o])[1]? =some (.ns fs):=by refine rwl (C6 (BA.mp h1).1) ?_;exact h1
 have A1:=A.push o
 refine Is.it (LA (A1.fix.get 0 _ h0') (A1.fix.get 1 _ h1') ha (FE (ao hf))) ?_
 refine rwl A.len ?_
 exact q _ (A1.attr h1')
section
variable{n:AA}{Q:QV}{s:St}
theorem fY(q:∀t,Ap s t [.inst "Bank",.ns [("nodes",.ref (s.length+2)),("numbers",.ref (s.length+3)),("weights",.ref (s.length+4)),("depths",.ref (s.length+5))],.list [],.dict [] 0,.list [],.list []]→Q (.ref s.length) t):wC (n+1) "Bank" [] s Q:=
 Mn (b:=UU) rfl rfl rfl ⟨rfl,HK Ap.start rfl rfl rfl rfl λu1 A1=>Is.it rfl ⟨rfl,HK A1 rfl rfl rfl rfl λu2 A2=>⟨rfl,HK A2 rfl rfl rfl rfl λu3 A3=>⟨rfl,HK A3 rfl rfl rfl rfl λu4 A4=>⟨rfl,q u4 A4⟩⟩⟩⟩⟩
theorem lu(q:∀t,Ap s t [.inst "Unions",.ns [("above",.ref (s.length+2)),("lots",.ref (s.length+3)),("merged",.ref (s.length+4))],.list [],.list [],.list []]→Q (.ref s.length) t):wC (n+1) "Unions" [] s Q:=
 Mn (b:=Wv) rfl rfl rfl ⟨rfl,HK Ap.start rfl rfl rfl rfl λu1 A1=>⟨rfl,HK A1 rfl rfl rfl rfl λu2 A2=>⟨rfl,HK A2 rfl rfl rfl rfl λu3 A3=>⟨rfl,q u3 A3⟩⟩⟩⟩
noncomputable def RD:W:={n:=0,nd:=λ_=>("",[]),par:=id,rep:=id,lr:=id,lot:=λ_=>[],ks:=[],ar:=id,ab:=λ_=>[],wts:=[],dps:=[],mgd:=[],edg:=[],fst:=[],kn:=[],wt:=[],e1:=0,e2:=0,e3:=0}
noncomputable def HL(b:AA)(fs:List (AE×V))(tail:List O):List O:=.inst "Heap":: .ns fs::([.inst "Bank",.ns [("nodes",.ref (b+4)),("numbers",.ref (b+5)),("weights",.ref (b+6)),("depths",.ref (b+7))],.list [],.dict [] 0,.list [],.list [],.inst "Unions",.ns [("above",.ref (b+10)),("lots",.ref (b+11)),("merged",.ref (b+12))],.list [],.list [],.list []]++tail)
theorem LU{t:St}{a:AE}{o:O}{fs:List (AE×V)}{tail:List O}{k:AA}{Q:St→Prop}(A:Ap s t (HL s.length fs tail))(hk:tail.length+13=k)(ha:(Bz "Heap").contains a=true)(hf:fs.length<100)
  (q:∀u,Ap s u (HL s.length (By a (.ref (s.length+k)) fs) (tail++[o]))→Q u):Is (LP (.ref s.length) a (.ref t.length) (t++[o])) Q:=
 HK A rfl rfl ha (AA.ble_eq_true_of_le (Bf hf)) λu B=>q u (by
  have hl:(HL s.length fs tail).length=k:=by refine rwr hk ?_;simp [HL]
  replace B:=hl▸B
  have e:(HL s.length fs tail++[o]).set 1 (.ns (By a (.ref (s.length+k)) fs))=HL s.length (By a (.ref (s.length+k)) fs) (tail++[o]):=by simp [HL]
  replace B:=e▸B;exact B)
theorem cW(q:∀t,Keep nk s t→HI t s.length RD 0 0→Q (.ref s.length) t):wC (n+2) "Heap" [] s Q:=by
 refine Mn (b:=Uy) rfl rfl rfl (fY λt1 B1=>?_)
 have A1:=(Ap.start (s:=s) (c:="Heap")).trans B1
 have hl1:(s++[O.inst "Heap",.ns []]).length=s.length+2:=by simp
 rw [hl1] at A1 ⊢
 refine Is.it (LA (A1.fix.get 0 _ rfl) (A1.fix.get 1 _ rfl) rfl (by decide)) (lu λt2 B2=>?_)
 have hl2:(t1.set (s.length+1) (.ns (By "bank" (.ref (s.length+2)) []))).length=s.length+8:=by refine rwl Gz (rwl A1.len ?_);rfl
 have A2:=(A1.attr (fs':=By "bank" (.ref (s.length+2)) []) rfl).trans B2
 rw [hl2] at A2 ⊢
 have A2':Ap s t2 (HL s.length [("bank",.ref (s.length+2))] []):=A2
 refine Is.it (LA (A2'.fix.get 0 _ rfl) (A2'.fix.get 1 _ rfl) rfl (by show 1<100;decide)) ?_
 have A3:Ap s (t2.set (s.length+1) (.ns (By "unions" (.ref (s.length+8)) [("bank",.ref (s.length+2))]))) (HL s.length [("bank",.ref (s.length+2)),("unions",.ref (s.length+8))] []):=A2'.attr rfl
 refine⟨rfl,LU A3 rfl rfl (by show 2<100;decide) λu1 E1=>⟨rfl,LU E1 rfl rfl (by show 3<100;decide) λu2 E2=>Is.it rfl ⟨rfl,LU E2 rfl rfl (by show 4<100;decide) λu3 E3=>Is.it rfl ⟨rfl,LU E3 rfl rfl (by show 5<100;decide) λu4 E4=>⟨rfl,LU E4 rfl rfl (by show 6<100;decide) λu5 E5=>?_⟩⟩⟩⟩⟩
 refine Is.it (LA (E5.fix.get 0 _ rfl) (E5.fix.get 1 _ rfl) rfl (by show 7<100;decide)) ?_
 have E6:Ap s (u5.set (s.length+1) (.ns (By "backs" (.int 0) [("bank",.ref (s.length+2)),("unions",.ref (s.length+8)),("edges",.ref (s.length+13)),("forest",.ref (s.length+14)),("known",.ref (s.length+15)),("above",.ref (s.length+16)),("waiting",.ref (s.length+17))]))) (RD.F s.length):=E5.attr rfl
 refine⟨rfl,q _ E6.keep ⟨E6.fix,⟨λi hi=>absurd hi (CR i),(λc hc=>xM hc),(λi j hi=>absurd hi (CR i)),(λc d hc=>xM hc),λi c hi=>absurd hi (CR i)⟩,?_⟩⟩
 refine⟨by decide,λi hi=>absurd hi (CR i),λi hi=>absurd hi (CR i),λi hi=>absurd hi (CR i),λi hi=>absurd hi (CR i),El,λc=>⟨(λh=>xM h),λh=>absurd h.1 (CR c)⟩,(λc hc=>xM hc),Aj 0,⟨rfl,(λx hx=>xM hx)⟩,⟨rfl,(λx hx=>xM hx)⟩,(λe he=>xM he),(λx hx=>xM hx),Aj 0,Aj 0,Aj 0⟩
end
end Mine
namespace Mine
section
variable{n:AA}{Q:QV}{s t:St}{b:AA}{w:W}{C A k:AA}
theorem PadAt.keep{X:AA→Prop}(P:PadAt s k)(K:Keep X s t)(h:∀i,i<4→¬X i):PadAt t k:=by
 obtain⟨⟨ep,e⟩,cs,ec,hc⟩:=P
 exact⟨⟨ep,K.get e (h 3 (by decide))⟩,cs,K.get ec (h 2 (by decide)),hc⟩
theorem HI.side{X:AA→Prop}(H:HI s b w C A)(K:Keep X s t)(h:∀i,b≤i→¬X i):HI t b w C A:=
 ⟨H.fix.keep K λi _=>h _ (Bh _ _),H.dy.keep K λi hi=>h i (by omega),H.pu⟩
structure Mk(s0:St)(b k n0 C A:AA)(env:Env)(t:St):Prop where
 v1:env "heap"=some (.ref b)
 v2:env "pad"=some (.ref 3)
 pad:∃k',PadAt t k'∧k'≤k
 heap:∃w C' A',HI t b w C' A'∧C'≤C∧A'≤A∧1≤w.n∧w.n≤n0
 keep:Keep (λi=>i=3∨b≤i) s0 t
structure Mf(s0:St)(b k i:AA)(env:Env)(t:St):Prop where
 v1:env "heap"=some (.ref b)
 v2:env "pad"=some (.ref 3)
 pad:PadAt t k
 keep:Keep (λi=>i=3∨b≤i) s0 t
 heap:∃w,HI t b w (65*i) (2*i)∧(i=0∨1≤w.n)∧w.n≤i
structure Mj(b k1:AA)(w1:W)(C1 A1:AA)(u:St)(j:AA)(acc:List V)(z:St):Prop where
 pad:∃k',PadAt z k'∧k'≤k1+1+j
 heap:HI z b w1 C1 A1
 keep:Keep (· =3) u z
 list:∃L:List AA,acc=L.map nV∧L.length=j∧∀a∈L,a<w1.n
theorem iN{v:AA}{u:St}(h:v<3):∃op wide,CP (.tup [.tup [.str "f",.int 1],.tup [.str "g",.int 2],.tup [.str "g",.int 1]]) (nV v) u=some (.tup [.str op,nV wide])∧Hi op=true∧wide≤2:=by
 match v,h with
 | 0,_=>exact⟨"f",1,rfl,rfl,by decide⟩
 | 1,_=>exact⟨"g",2,rfl,rfl,by decide⟩
 | 2,_=>exact⟨"g",1,rfl,rfl,by decide⟩
theorem dB{i:AA}{y:AE}(h:["a","b"][i]? =some y):Hi y=true∧i<2:=by
 match i,h with
 | 0,e=>(replace e:=AV e;subst e);exact⟨rfl,by decide⟩
 | 1,e=>(replace e:=AV e;subst e);exact⟨rfl,by decide⟩
theorem nf{k k1 k2 i w:AA}(h1:k1≤k+1+3*i)(h2:k2≤k1+1+w)(hw:w≤2):k2≤k+1+3*(i+1):=AR h2 (AR (ET (FD h1 1) hw) (Aj (k+1+3*i+3)))
theorem cv(P:PadAt s k)(hk:k≤100)(hs:4≤s.length)(q:∀t w,Keep (· =3) s t→Rd t s.length w→s.length<t.length→(∃k',PadAt t k'∧k'≤k+40)→Q (.ref s.length) t):wC (n+6) "_law_heap" [.ref 3] s Q:=by
 refine BH (b:=WS) rfl rfl rfl (cW λt0 K0 H0=>?_)
 generalize hb:s.length=b at*
 have b3:∀i,b≤i→¬i=3:=λi h e=>by omega
 have lo:∀{t u:St},Keep (· =3) t u→Keep (λi=>i=3∨b≤i) t u:=λK=>K.weak λi _ h=>.inl h
 have hi:∀{t u:St},Keep (b≤ ·) t u→Keep (λi=>i=3∨b≤i) t u:=λK=>K.weak λi _ h=>.inr h
 have pk:∀{t u:St} {k:AA},PadAt t k→Keep (b≤ ·) t u→PadAt u k:=λP K=>P.keep K λi hi=>by omega
 refine Is.it (a:=(["a","b"].map V.str,none)) rfl (Eg (l:=["a","b"]) (f:=V.str) (Mf s b k) ⟨rfl,rfl,P.keep K0 λ_ _=>id,K0.weak λ_ _ h=>h.elim,RD,H0,.inl rfl,Aj _⟩ (λ_ _ _ _=>rfl) (λi y env t e j T hT=>?_) λenv t j=>?_)
 ·refine Al j.heap λw H hw1 hw2=>?_
  (have zz:=dB e;have hy:=zz.1;have hi2:=zz.2;clear zz)
  refine nm j.v1 (Is.it (BN (H.fix.get 0 _ rfl) (H.fix.get 1 _ rfl) rfl rfl) ⟨rfl,XF (l:=[]) H (by omega) (by omega) (by omega) hy (BL _) (λk hk=>xM hk) λa u w' ha Ku H' h1 h2=>hT _ _ ⟨j.v1,j.v2,pk j.pad Ku,j.keep.trans (hi Ku),w',?_,.inr (by omega),by omega⟩⟩)
  refine rwl (show 65*(i+1)=65*i+65 by omega) (rwl (show 2*(i+1)=2*i+2 by omega) ?_);exact H'
 ·refine Al j.heap λw H hw1 hw2=>?_
  have H:HI t b w 130 4:=H
  have hw2:w.n≤2:=hw2
  have hw1:1≤w.n:=hw1.resolve_left (by decide)
  refine nm j.v2 (E0 j.pad (by omega) (by decide) (by decide) λm u (hm:m<4) Ku hl Pu'=>Is.it (Gm (by omega) (by omega)) ?_)
  refine rwl (show((2:Int)+(m:AA))=((2+m:AA):Int) by omega) ?_
  refine⟨DB (by omega),Eg (l:=Ab (((2+m:AA):Int)).toNat) (f:=nV) (λi=>Mk s b (k+1+3*i) (2+i) (130+65*i) (4+2*i)) ⟨j.v1,j.v2,⟨_,Pu',Aj _⟩,⟨w,_,_,H.side Ku b3,Aj _,Aj _,hw1,hw2⟩,j.keep.trans (lo Ku)⟩ (λ_ _ _ _=>rfl) (λi x env t e j T hT=>?_) λenv t j=>?_⟩
  ·refine AJ j.pad λk1 P1 hk1=>?_
   refine Ik j.heap λw1 C1 A1 H1 hC1 hA1 hn1 hn2=>?_
   have hil:i<2+m:=(IX e).2
   have hi6:i≤5:=B7 (Bg hil (ES (Bf hm) 2))
   have hk1':k1≤116:=AR hk1 (ET (FD hk 1) (Ft 3 hi6))
   have hC1':C1≤455:=AR hC1 (ES (Ft 65 hi6) 130)
   have hA1':A1≤14:=AR hA1 (ES (Ft 2 hi6) 4)
   have hn2':w1.n≤7:=AR hn2 (ES hi6 2)
   refine⟨rfl,rfl,rfl,rfl,nm j.v2 (E0 P1 (AR hk1' (by decide)) (by decide) (by decide) λv u (hv:v<3) Ku hl Pu'=>?_)⟩
   have H2:=H1.side Ku b3
   refine BO (iN (u:=u) hv) λop wide e1 hop hwd=>?_
   refine Is.it e1 (Is.it rfl (nm j.v1 (Is.it (BN (H2.fix.get 0 _ rfl) (H2.fix.get 1 _ rfl) rfl rfl) ⟨DB (by omega),IU (l:=Ab ((wide:Int)).toNat) (f:=nV) (Mj b k1 w1 C1 A1 u) _ (λ_=>rfl) (by refine rwl (DM ..) (rwl DK ?_);omega)
    ⟨⟨_,Pu',Aj _⟩,H2,Keep.refl,[],rfl,rfl,λa h=>xM h⟩ (λ_ _ _ _=>rfl) (λi' x acc z ex y Y N hY _=>?_) λys z y=>?_⟩)))
   ·refine AJ y.pad λk2 Pz hk2=>?_
    have Hz:=y.heap
    (refine Al y.list ?_;intro L z7;subst z7;intro hL hLm)
    have hjl:i'<wide:=(IX ex).2
    have hk2':k2≤119:=AR hk2 (ET (FD hk1' 1) (AR (B7 hjl) hwd))
    refine nm j.v2 (nm j.v1 (Is.it (BN (Hz.fix.get 0 _ rfl) (Hz.fix.get 1 _ rfl) rfl rfl) (NB Hz.rd (E0 Pz (AR hk2' (by decide)) hn1 (AR hn2' (by decide)) λa z' ha Kz' hl' Pz'=>hY _ _ ⟨⟨_,Pz',CJ hk2⟩,Hz.side Kz' b3,y.keep.trans Kz',L++[a],by refine rwl BS ?_;rfl,by refine rwl Au (rwl hL ?_);rfl,λx hx=>?_⟩))))
    exact(BD.mp hx).elim (hLm x) λhx=>Aw.mp hx▸ha
   ·refine AJ y.pad λk2 Pz hk2=>?_
    have Hz:=y.heap
    (refine Al y.list ?_;intro L z8;subst z8;intro hL hLm)
    rw [DM,DK] at hL hk2
    refine Is.it (Hh Af (by refine rwl (AY ..) ?_;omega)) (XF (Hz.keep (Keep.push (X:=nk) (.list (L.map nV)))) (by omega) (by omega) (by omega) hop (by omega) hLm λa z' w' ha Kz' H' h1 h2=>hT _ _ ⟨j.v1,j.v2,⟨k2,pk (Pz.keep (Keep.push (X:=nk) _) λ_ _=>id) Kz',by omega⟩,⟨w',_,_,H',by omega,by omega,by omega,by omega⟩,?_⟩)
    exact(j.keep.trans (lo Ku)).trans ((lo y.keep).trans ((Keep.push _).trans (hi Kz')))
  ·(rewrite [DM] at j;replace j:=DK▸j)
   refine AJ j.pad λk1 P1 hk1=>?_
   refine Ik j.heap λw1 C1 A1 H1 hC1 hA1 hn1 hn2=>?_
   have hm5:2+m≤5:=ES (Bf hm) 2
   have hk1':k1≤116:=AR hk1 (ET (FD hk 1) (Ft 3 hm5))
   have hk1'':k1≤k+16:=AR hk1 (ES (Ft 3 hm5) (k+1))
   have hC1':C1≤455:=AR hC1 (ES (Ft 65 hm5) 130)
   have hA1':A1≤14:=AR hA1 (ES (Ft 2 hm5) 4)
   refine nm j.v2 (E0 P1 (AR hk1' (by decide)) (by decide) (by decide) λm2 u (hm2:m2<3) Ku hl Pu'=>⟨DB (by omega),?_⟩)
   have Hu:=H1.side Ku b3
   refine Eg (l:=Ab ((m2:Int)).toNat) (f:=nV) (λi=>Mk s b (k1+1+2*i) 12 (C1+i) A1) ⟨j.v1,j.v2,⟨_,Pu',Aj _⟩,⟨w1,_,_,Hu,Aj _,Aj _,hn1,Hu.pu.hn⟩,j.keep.trans (lo Ku)⟩ (λ_ _ _ _=>rfl) (λi x env t e j T hT=>?_) λenv t j=>?_
   ·refine AJ j.pad λk3 P3 hk3=>?_
    refine Ik j.heap λw3 C3 A3 H3 hC3 hA3 hn3 _=>?_
    have hil:i<m2:=(IX e).2
    have hi3:i≤3:=B7 (Eo hil hm2)
    have hk3':k3≤123:=AR hk3 (ET (FD hk1' 1) (Ft 2 hi3))
    have hC3':C3≤458:=AR hC3 (ET hC1' hi3)
    have hn12:=H3.pu.hn
    refine nm j.v2 (nm j.v1 (Is.it (BN (H3.fix.get 0 _ rfl) (H3.fix.get 1 _ rfl) rfl rfl) (NB H3.rd (E0 P3 (AR hk3' (by decide)) hn3 (AR hn12 (by decide)) λa u1 ha Ka la Pa=>?_))))
    have Ha:=H3.side Ka b3
    refine nm j.v1 (Is.it (BN (Ha.fix.get 0 _ rfl) (Ha.fix.get 1 _ rfl) rfl rfl) (nm j.v2 (nm j.v1 (Is.it (BN (Ha.fix.get 0 _ rfl) (Ha.fix.get 1 _ rfl) rfl rfl) (NB Ha.rd (E0 Pa (AR (CJ hk3') (by decide)) hn3 (AR hn12 (by decide)) λc u2 hc Kc lc Pc=>?_))))))
    exact⟨rfl,c8 (Ha.side Kc b3) (AR hA3 (AR hA1' (by decide))) (AR hC3' (by decide)) ha hc λv z w' Kz Hz e1 e2=>hT _ _ ⟨j.v1,j.v2,⟨_,pk Pc Kz,FD hk3 2⟩,⟨w',_,_,Hz,CJ hC3,hA3,e1.symm▸hn3,Hz.pu.hn⟩,j.keep.trans ((lo Ka).trans ((lo Kc).trans (hi Kz)))⟩⟩
   ·(rewrite [DM] at j;replace j:=DK▸j)
    refine AJ j.pad λk3 P3 hk3=>?_
    refine Ik j.heap λw3 C3 A3 H3 hC3 hA3 hn3 _=>?_
    refine nm j.v1 (Is.it (BN (H3.fix.get 0 _ rfl) (H3.fix.get 1 _ rfl) rfl rfl) (cK H3 (AR hA3 (AR hA1' (by decide))) (AR hC3 (AR (ET hC1' (B7 hm2)) (by decide))) λv z w' Kz Hz e1 e2=>nm j.v1 (q z w' ?_ Hz.rd (BI (Hz.fix.get 0 _ rfl)) ⟨k3,pk P3 Kz,AR hk3 (AR (ET (FD hk1'' 1) (Ft 2 (Bf hm2))) (by exact ES (show 16+1+2*2≤40 by decide) k))⟩)))
    exact⟨AR j.keep.len Kz.len,λi hi hn=>(Kz.at' i (Bg hi j.keep.len) (by omega)).trans (j.keep.at' i hi (by omega))⟩
end
end Mine
namespace Mine
noncomputable def six:List Pt:=[.x,.y,.a,.f .x,.g .y .y,.f .a]
theorem nh:Io= .tup (six.map Pt.toV):=rfl
theorem Tw{s:St}{v:AA}(h:v<6):∃p:Pt,CP Io (nV v) s=some p.toV∧p.parts.length≤3∧p.dp≤1:=by
 match v,h with
 | 0,_=>exact⟨.x,rfl,by decide,by decide⟩
 | 1,_=>exact⟨.y,rfl,by decide,by decide⟩
 | 2,_=>exact⟨.a,rfl,by decide,by decide⟩
 | 3,_=>exact⟨.f .x,rfl,by decide,by decide⟩
 | 4,_=>exact⟨.g .y .y,rfl,by decide,by decide⟩
 | 5,_=>exact⟨.f .a,rfl,by decide,by decide⟩
theorem YF{k v:V}:∀{es:List (V×V)},(CD k v es).map (·.1)=if BG k (es.map (·.1))=true then es.map (·.1) else es.map (·.1)++[k]
 | []=>rfl
 | (a,u)::es=>by
  (rewrite [CD];refine rwl BF ?_)
  unfold BG
  refine rwl TA ?_
  cases h:V.beq a k with
  | true=>rfl
  | false=>
   have:=YF (k:=k) (v:=v) (es:=es)
   unfold BG at this
   refine rwl (AL.false_or ..) (rwl (AO (by decide)) (rwl BF (rwl this ?_)))
   split<;>rfl
theorem XO:∀(L:List V) (acc:List (V×V)),(∀x∈L,B9 x=true)→∃es,Fy (L.map λx=>.tup [x,.bool true]) acc=some es∧es.map (·.1)=A8 (acc.map (·.1)) L
 | [],acc,_=>⟨acc,rfl,by simp [A8]⟩
 | x::L,acc,h=>by
  refine AJ (XO L (CD x (.bool true) acc) λy hy=>h y (Am _ hy)) λes e1 e2=>?_
  refine⟨es,?_,?_⟩
  ·exact(AM (Mc (h x Ah))).trans e1
  ·(refine rwl e2 (rwl YF ?_);rewrite [A8])
   split<;>rfl
theorem cX{s:St}{r:AA}{L:List V}{es:List (V×V)}(h:s[r]? =some (.list L))(e:Fy L []=some es)(hl:es.length≤1000):Ck "dict" [.ref r] s=some (.ref s.length,s++[.dict es es.length]):=
 (Bu h:Ck "dict" [.ref r] s=_).trans (by refine rwl e ?_;exact AM (Bt (AR hl (by decide))))
theorem cE{s:St}{r ep:AA}{es:List (V×V)}(h:s[r]? =some (.dict es ep))(hl:es.length≤1000):Ck "list" [.ref r] s=some (.ref s.length,s++[O.list (es.map λe=>e.1)]):=
 (EX h:Ck "list" [.ref r] s=_).trans (AM (Bt (AR (Bk (AY ..)) (AR hl (by decide)))))
section
variable{N n:AA}{s t:St}{Q:QV}
theorem Qg{N d:AA}(h:d+1≤N):∃m,N=m+d+1:=⟨N-(d+1),(G8 h).symm⟩
theorem QP{d r:AA}{R:Rows}(hN:d+1≤N)(h:s[r]? =some (.list (R.map Ag)))(hd:∀x∈R,x.length=d)(hl:R.length≤500)(h50:d≤50)
  (q:∀a t,Keep nk s t→Trie t s.length t.length d R a→Q (.ref a) t):wC N "_law_laid" [.ref r] s Q:=by
 (refine exE (Qg hN) ?_;intro m z9;subst z9)
 exact bw h hd hl h50 q
theorem MO{d lo hi a:AA}{R:Rows}(hN:d+1≤N)(T:Trie s lo hi d R a)(hl:R.length≤500)(q:∀b t,Keep nk s t→Seq t s.length t.length d R b→Q (.ref b) t):wC N "_law_sequence" [.ref a] s Q:=by
 (refine exE (Qg hN) ?_;intro m z0;subst z0)
 exact jR T hl q
theorem ma{d lo hi a:AA}{R:Rows}(hN:d+1≤N)(T:Trie s lo hi d R a)(hd:∀x∈R,x.length=d)(hn:R≠[]∨0<d)(hl:R.length≤500)(h50:d≤50)
  (q:∀b t,Keep nk s t→t[b]? =some (.list ((EL d R).map Ag))→s.length≤b→Q (.ref b) t):wC N "_law_ways" [.ref a,nV d] s Q:=by
 (refine exE (Qg hN) ?_;intro m z1;subst z1)
 exact iv T hd hn hl h50 q
theorem WH{d lo hi lo' hi' a b:AA}{R:Rows}(hd:d≤5)(T:Trie s lo hi d R a)(T':Trie s lo' hi' d R b)(h:hi≤lo'∨hi'≤lo):Ct .ne (.ref a) (.ref b) s=some false:=by
 show(eqR Bv s (.ref a) (.ref b)).map _=_
 have:=mC (m:=11-d) T T' h
 replace this:=(show 11-d+d+1=Bv from AW Jx (G8 (AR hd (by decide))))▸this
 refine rwl this ?_;rfl
theorem Vr{d lo hi lo' hi' a b:AA}{R:Rows}(hd:d≤5)(T:Seq s lo hi d R a)(T':Seq s lo' hi' d R b)(h:hi≤lo'∨hi'≤lo):Ct .ne (.ref a) (.ref b) s=some false:=by
 show(eqR Bv s (.ref a) (.ref b)).map _=_
 have:=mX (m:=11-2*d) T T' h
 replace this:=(show 11-2*d+2*d+1=Bv from AW Jx (G8 (AR (Ft 2 hd) (by decide))))▸this
 refine rwl this ?_;rfl
theorem gM{w:W}{P:List (V×V)}{op:AE}{m:AA}(hn:w.n≤12)(h:ROk w (λ_=>FG) (.tup [.str op,nV m]) (B3 P (.tup [.str op,nV m]))):
  ∃R:Rows,B3 P (.tup [.str op,nV m])=R.map Ag∧(∀r∈R,r.length=m)∧R.length≤12:=by
 (refine A7 h ?_;clear h;intro h1 h2 h3)
 refine exE (Vj (M:=B3 P (.tup [.str op,nV m])) λx hx=>by(refine DC ((h3 x).mp hx) ?_;intro k _ _ _ z2;subst z2);exact⟨_,rfl⟩) λR eR=>?_
 refine⟨R,eR,λr hr=>?_,?_⟩
 ·refine DC ((h3 (Ag r)).mp (by refine rwl eR ?_;exact Ay.mpr ⟨r,hr,rfl⟩)) λk _ _ hk e=>?_
  refine rwl (MX e) (rwl (AY ..) (rwl Co ?_))
  have:=(XX.mp hk).2
  simpa [BK] using this
 ·have:=NW h1 (m:=(Ab w.n).map λk=>Cg (w.rep k) (BK w k)) λx hx=>by
   refine DC ((h3 x).mp hx) λk hk _ _ e=>?_
   exact Ay.mpr ⟨k,Ca.mpr hk,e.symm⟩
  (replace this:=eR▸this;rewrite [AY] at this;rewrite [AY] at this;replace this:=DK▸this)
  omega
end
end Mine
namespace Mine
theorem fU{d:AA}{j:Int}(h:0≤j)(hs:BJ j=true):Eh d (some (.int j))=some j.toNat:=AM (YG h hs)
theorem Xu{d k:AA}(h:k≤1000):Eh d (some (nV k))=some k:=(fU (Hq k) (DB (by omega))).trans (AW some (DM k))
theorem VS{s:St}{r:AA}{lo hi:AH V}{xs:List V}(h:Ih s[r]? =some xs):EV (.ref r) lo hi s=(Eh 0 lo).bind λa=>(Eh xs.length hi).bind λb=>if fits xs.length then Ci (.list (cut xs a b)) s else none:=by
 show(Ih s[r]?).bind _=_
 refine rwl h ?_;rfl
theorem VH{s:St}{r k:AA}{xs:List V}(h:Ih s[r]? =some xs)(hl:xs.length≤1000)(hk:k≤1000):EV (.ref r) none (some (nV k)) s=some (.ref s.length,s++[.list (xs.take k)]):=by
 rewrite [VS h,Xu hk]
 exact(AM (Bt (AR hl (by decide)))).trans (AM (Bt (by show(xs.take k).length≤_;refine rwl FC ?_;omega)))
theorem fq{s:St}{r k:AA}{xs:List V}(h:s[r]? =some (.list xs))(hl:xs.length≤1000)(hk:k≤1000):EV (.ref r) (some (nV k)) none s=some (.ref s.length,s++[.list (xs.drop k)]):=by
 rewrite [VS (AW Ih h),Xu hk]
 refine(AM (Bt (AR hl (by decide)))).trans ?_
 refine rwl (show cut xs k xs.length=xs.drop k by unfold cut;(refine rwl Cr ?_;rfl)) ?_
 exact AM (Bt (by show(xs.drop k).length≤_;refine rwl Se ?_;omega))
section
variable{n:AA}{s t:St}{a b k:AA}{P:List (V×V)}{w:W}{Q:QV}
theorem TabAt.side{X:AA→Prop}(T:TabAt s a P)(K:Keep X s t)(h:∀i,a≤i→¬X i):TabAt t a P:=by
 obtain⟨i0,i1,lo,ex,M⟩:=T
 obtain⟨hl,hx,hle,es,ep,e,h0,h1,h2,h3⟩:=M
 have:=K.len
 exact⟨K.get i0 (h _ (Aj _)),K.get i1 (h _ (by omega)),lo,ex,hl,by omega,by omega,es,ep,K.get e (h _ (by omega)),h0,h1,λk v hv=>by
  refine DC (h2 k v hv) λr e1 e2 e4 e3=>?_
  exact⟨r,e1,e2,e4,K.get e3 (h _ (by omega))⟩,h3⟩
theorem UJ{x y:AA}{l:List V}(ha:s[x]? =some (.list l))(hb:s[y]? =some (.list l))(h:x≠y)(hl:∀v∈l,eqR 11 s v v=some true):Ct .ne (.ref x) (.ref y) s=some false:=by
 show(eqR Bv s (.ref x) (.ref y)).map _=_
 refine rwl (show Bv=11+1 from rfl) (rwl (mL ha hb h hl) ?_);rfl
theorem g9{z:List Int×Pt}:eqR 11 s (CN z) (CN z)=some true:=by
 show eqL (eqR 10 s) [.str z.2.op,.tup (CV z.1 z.2)] [.str z.2.op,.tup (CV z.1 z.2)]=_
 refine Qc λx hx=>?_
 rcases Ak.mp hx with rfl | hx
 ·show some (decide (z.2.op=z.2.op))=_
  (refine rwl (An rfl) ?_;rfl)
 ·refine rwl (Aw.mp hx) ?_
  show eqL (eqR 9 s) (CV z.1 z.2) (CV z.1 z.2)=_
  refine Qc λy hy=>?_
  have hy:=Nl y hy
  (refine rwl (Pl (n:=7) hy hy) (rwl (Fz ..) ?_);rfl)
theorem lG{r:List Int}:eqR 11 s (Ag r) (Ag r)=some true:=by(refine rwl (U3 (n:=9)) (rwl (An rfl) ?_);rfl)
theorem ly{NS Od:List V}(h:Od.Nodup):(Od.filter λx=>BG x NS).length≤NS.length:=NW (h.filter _) λx hx=>HZ.mp (Ew.mp hx).2
theorem fe{tb ro:AA}{Od:List V}{z:List Int×Pt}{env:Env}{R:V→St→Prop}{Qe:Env→St→Prop}(H:Rd t b w)(T:TabAt t tb P)(hR:∀key,ROk w (λ_=>FG) key (B3 P key))(hO:t[ro]? =some (.list Od))(hOn:∀x∈Od,B9 x=true)(hOd:Od.Nodup)(hOl:Od.length≤100)
  (e1:env "heap"=some (.ref b)) (e2:env "tables"=some (.ref tb)) (e3:env "order"=some (.ref ro))
  (q:∀u env',Keep nk t u→(∀x,x≠"op"→x≠"names"→x≠"due"→x≠"late"→env' x=env x)→Qe env' u):
  wSs (wC (n+5)) [.assign (.tup ["due","late"]) (.tuple [(.callf "_law_laid" [(.callf "_law_kept" [(.name "heap"),(.name "op"),(.name "names"),(.name "order")])]),(.callm (.name "tables") "trie" [(.name "op"),(.name "names"),(.name "order")])]),.ifs (.orB (.cmp (.name "late") .ne (.name "due")) (.cmp (.callf "_law_sequence" [(.name "late")]) .ne (.callf "_law_sequence" [(.name "due")]))) [.ret (.cbool false)] []]
   (upd (upd env "op" (.str z.2.op)) "names" (.tup (CV z.1 z.2))) t Qe R:=by
 have hk2:=IW z.2
 have hNl:(CV z.1 z.2).length=z.2.kids.length+1:=W5
 refine Al (gM (op:=z.2.op) (m:=(CV z.1 z.2).length) H.hn (hR _)) λR' eR hRm hRl=>?_
 have hRk:=hR (.tup [.str z.2.op,nV (CV z.1 z.2).length])
 replace hRk:=eR▸hRk
 have hcc:=ly (NS:=CV z.1 z.2) hOd
 have hpl:∀x∈(R'.filter (Cd (CV z.1 z.2))).map (pick (CV z.1 z.2) Od),x.length=(Od.filter λx=>BG x (CV z.1 z.2)).length:=λx hx=>by
  (refine AJ (Ay.mp hx) ?_;intro r _ z3;subst z3)
  unfold pick;(refine rwl (AY ..) ?_;rfl)
 have hrl:((R'.filter (Cd (CV z.1 z.2))).map (pick (CV z.1 z.2) Od)).length≤12:=by
  refine rwl (AY ..) ?_;exact AR (Fs _ _) hRl
 refine nm (v:=.ref b) e1 ?_
 refine nm (v:=.ref ro) e3 ?_
 refine kL H hO Nl hOn rfl (by omega) hOl hRk λr u K er=>?_
 refine QP (by omega) er hpl (by omega) (by omega) λa2 u2 K2 Ta=>?_
 have T2:=(T.keep K).keep K2
 have O2:=K2.at (K.at hO)
 refine nm (v:=.ref tb) e2 (Is.it (BN T2.i0 T2.i1 rfl rfl) ?_)
 refine nm (v:=.ref ro) e3 ?_
 refine dP T2 O2 Nl hOn rfl (by omega) hOl eR hRm (by omega) λa3 u3 K3 Tb=>⟨rfl,Is.it rfl ?_⟩
 have Ta3:=Ta.keep K3 λ_ _ _=>id
 refine(Is.it (WH (by omega) Tb Ta3 (.inr (Aj _))) ?_)
 refine(MO (by omega) Tb (by omega) λc3 u4 K4 S3=>(MO (by omega) (Ta3.keep K4 λ_ _ _=>id) (by omega) λc2 u5 K5 S2=>?_))
 refine Is.it (Vr (by omega) (S3.keep K5 λ_ _ _=>id) S2 (.inl (Aj _))) ?_
 exact q u5 _ (K.trans (K2.trans (K3.trans (K4.trans K5)))) λx h1 h2 h3 h4=>by
  show upd _ _ _ x=_
  unfold upd;(refine rwl (AO h4) (rwl (AO h3) (rwl (AO h2) (rwl (AO h1) ?_)));rfl)
end
end Mine
namespace Mine
theorem Wb{l:List V}:(A8 [] l).Nodup:=NG El
section
variable{n:AA}{s t:St}{a b k:AA}{P:List (V×V)}{w:W}
theorem jM{x0:PySem.Obj}{cl:Calls}{sc:List Int}{env:Env}{cs:List CS}{Q:Env→St→Prop}{R:V→St→Prop}(hl:sc.length≤63)(hs:env "script"=some (.ref 0))
  (q:∀s,PadAt s 0→s.length=4→s[0]? =some (.fro x0 (sc.map V.int))→wSs cl cs (upd env "pad" (.ref 3)) s Q R):
  wSs cl (.assign (.name "pad") (.dict ["cells","spot"] [(.comp (.bin .mod (.callf "int" [(.name "cell")]) (.cint 1000003)) [.mk ["cell"] (.plain (.slice (.name "script") none (some (.cint 60)))) []]),(.cint 0)])::cs) env [.fro x0 (sc.map V.int)] Q R:=by
 have h60:(sc.take 60).length≤60:=by refine rwl FC ?_;omega
 have hsl:EV (.ref 0) none (some (.int 60)) [O.fro x0 (sc.map V.int)]=some (.ref 1,[O.fro x0 (sc.map V.int)]++[O.list ((sc.take 60).map V.int)]):=
  Lp (f:=V.int) (i:=60) (l:=sc)▸VH (s:=[O.fro x0 (sc.map V.int)]) (r:=0) (k:=60) rfl (by refine rwl (AY ..) ?_;omega) (by decide)
 refine nm hs (Is.it hsl (Is.it (C4 (r:=1) (xs:=(sc.take 60).map V.int) rfl) (M9 (λc=>.int (c%1000003)) (by omega) (Cy rfl rfl) (λc _ Y hY=>Is.it rfl (Is.it (NO (by decide)) hY)) (Is.it (a:=[(V.str "cells",V.ref 2),(V.str "spot",V.int 0)]) rfl ⟨rfl,q _ ⟨⟨2,rfl⟩,(sc.take 60).map (· %1000003),?_,?_⟩ rfl rfl⟩))))
 ·refine rwl CQ ?_;rfl
 ·refine rwl (AY ..) ?_;exact h60
structure RI2(o0:O)(wide i:AA)(acc:List V)(t:St):Prop where
 pad:∃k,PadAt t k∧k≤2+3*i
 e0:t[0]? =some o0
 rows:∃rs:Rows,acc=rs.map Ag∧rs.length=i∧∀x∈rs,x.length=wide
structure RJ2(o0:O)(k j:AA)(acc:List V)(t:St):Prop where
 pad:∃k',PadAt t k'∧k'≤k+j
 e0:t[0]? =some o0
 row:∃L:List Int,acc=L.map V.int∧L.length=j
theorem d4{o0:O}{cs:List CS}{env:Env}{many wide:AA}{Q:Env→St→Prop}{R:V→St→Prop}(e0:s[0]? =some o0)(P:PadAt s 2)(hm:many<9)(hw:wide≤3)(e1:env "pad"=some (.ref 3))(e2:env "many"=some (nV many))(e3:env "wide"=some (nV wide))
  (q:∀t r k (rs:Rows),t[0]? =some o0→PadAt t k→k≤26→t[r]? =some (.list (rs.map Ag))→rs.length=many→(∀x∈rs,x.length=wide)→wSs (wC (n+1)) cs (upd env "rows" (.ref r)) t Q R):
  wSs (wC (n+1)) (.assign (.name "rows") (.comp (.callf "tuple" [(.comp (.callf "_law_pin" [(.name "pad"),(.cint 4)]) [.mk ["k"] (.range (.name "wide")) []])]) [.mk ["lap"] (.range (.name "many")) []])::cs) env s Q R:=by
 refine nm (v:=nV many) e2 ⟨DB (by omega),IU (l:=Ab ((many:Int)).toNat) (f:=nV) (RI2 o0 wide) _ (λ_=>rfl) (by refine rwl (DM ..) (rwl DK ?_);omega) ⟨⟨2,P,Aj _⟩,e0,[],rfl,rfl,λx h=>xM h⟩ (λ_ _ _ _=>rfl) (λi x acc t e j Y N hY _=>?_) λys t j=>?_⟩
 ·refine AJ j.pad λk Pt hk=>?_
  (refine Al j.rows ?_;intro rs z4;subst z4;intro hrl hrw)
  have hil:i<many:=(IX e).2
  refine nm (v:=nV wide) e3 ⟨DB (by omega),IU (l:=Ab ((wide:Int)).toNat) (f:=nV) (RJ2 o0 k) _ (λ_=>rfl) (by refine rwl (DM ..) (rwl DK ?_);omega) ⟨⟨k,Pt,Aj _⟩,j.e0,[],rfl,rfl⟩ (λ_ _ _ _=>rfl) (λi' x acc t e z Y N hY' _=>?_) λys t z=>?_⟩
  ·refine AJ z.pad λk' Pt' hk'=>?_
   (refine AJ z.row ?_;intro L z5;subst z5;intro hL)
   have hjl:i'<wide:=(IX e).2
   exact nm (v:=.ref 3) e1 (E0 Pt' (by omega) (by decide) (by decide) λv u hv Ku hu Pu=>hY' _ _ ⟨⟨k'+1,Pu,by omega⟩,Ku.get z.e0 (by decide),L++[(v:Int)],by refine rwl BS ?_;rfl,by refine rwl Au (rwl hL ?_);rfl⟩)
  ·(rewrite [DM] at z;replace z:=DK▸z)
   refine AJ z.pad λk' Pt' hk'=>?_
   (refine AJ z.row ?_;intro L z6;subst z6;intro hL)
   refine Is.it (Hh Af (by refine rwl (AY ..) ?_;omega)) (hY _ _ ⟨⟨k',Pt'.keep (Keep.push (X:=nk) _) λ_ _=>id,by omega⟩,(Keep.push (X:=nk) _).at z.e0,rs++[L],by refine rwl BS ?_;rfl,by refine rwl Au (rwl hrl ?_);rfl,λx hx=>?_⟩)
   exact(BD.mp hx).elim (hrw x) λhx=>(Aw.mp hx)▸hL
 ·(rewrite [DM] at j;replace j:=DK▸j)
  refine AJ j.pad λk Pt hk=>?_
  (refine Al j.rows ?_;intro rs z7;subst z7;intro hrl hrw)
  exact q _ _ k rs ((Keep.push (X:=nk) _).at j.e0) (Pt.keep (Keep.push (X:=nk) _) λ_ _=>id) (by omega) Af hrl hrw
theorem jF{cs:List CS}{env:Env}{wide r:AA}{rs:Rows}{Q:Env→St→Prop}{R:V→St→Prop}(h:s[r]? =some (.list (rs.map Ag)))(hm:rs.length<9)(hw:wide≤3)(h0:0<wide)(hx:∀x∈rs,x.length=wide)(e1:env "rows"=some (.ref r))(e3:env "wide"=some (nV wide))
  (q:∀t a,Keep nk s t→wSs (wC (n+4)) cs (upd env "told" (.ref a)) t Q R):
  wSs (wC (n+4)) (.assign (.name "told") (.callf "trie_of" [(.name "rows")])::
   .ifs (.orB (.cmp (.name "told") .ne (.callf "_law_laid" [(.name "rows")])) (.cmp (.callf "_law_sequence" [(.name "told")]) .ne (.callf "_law_sequence" [(.callf "_law_laid" [(.name "rows")])]))) [.ret (.cbool false)] []::
   .ifs (.cmp (.callf "sorted" [(.callf "_law_ways" [(.name "told"),(.name "wide")])]) .ne (.callf "sorted" [(.callf "set" [(.name "rows")])])) [.ret (.cbool false)] []::cs) env s Q R:=by
 refine nm (v:=.ref r) e1 (UW h hx (by omega) λa t1 K1 T1=>?_)
 have h1:=K1.at h
 refine nm (v:=.ref r) e1 (QP (by omega) h1 hx (by omega) (by omega) λa2 t2 K2 T2=>?_)
 have T12:=T1.keep K2 λ_ _ _=>id
 have h2:=K2.at h1
 refine Is.it (WH (by omega) T12 T2 (.inl (Aj _))) ?_
 refine MO (by omega) T12 (by omega) λc3 t3 K3 S3=>?_
 have h3:=K3.at h2
 refine nm (v:=.ref r) e1 (QP (by omega) h3 hx (by omega) (by omega) λa4 t4 K4 T4=>MO (by omega) T4 (by omega) λc5 t5 K5 S5=>?_)
 refine Is.it (Vr (by omega) ((S3.keep (K4.trans K5) λ_ _ _=>id)) S5 (.inl K4.len)) ?_
 have K25:=K3.trans (K4.trans K5)
 have T15:=T12.keep K25 λ_ _ _=>id
 have h5:=(K4.trans K5).at h3
 refine nm (v:=nV wide) e3 (ma (by omega) T15 hx (.inr h0) (by omega) (by omega) λb6 t6 K6 e6 l6=>?_)
 have hp:((EL wide rs).map Ag).Perm (A8 [] (rs.map Ag)):=PU (Qa (λ_ _=>MX) PW) Wb λv=>by
  refine rwi Hn ?_
  simp only [Dm,false_or,Ay]
  exact⟨λzq1=>zq1.elim λx zz=>zz.elim λh e=>⟨x,(Ij hx (.inr h0)).mp h,e⟩,λzq1=>zq1.elim λx zz=>zz.elim λh e=>⟨x,(Ij hx (.inr h0)).mpr h,e⟩⟩
 have hwl:((EL wide rs).map Ag).length<9:=by refine rwl (AY ..) ?_;exact Bi (Xj hx (.inr h0)) hm
 refine Al (dw hp (by omega) (VQ λv hv=>by
  (refine AJ (Ay.mp hv) ?_;intro x hx' z8;subst z8)
  refine⟨x,λz=>?_,rfl⟩
  have:=hx x ((Ij hx (.inr h0)).mp hx')
  replace this:=z▸this;simp at this;omega)) λys y1 y2 y3=>?_
 have hyl:ys.length≤1000:=by refine rwl y3.length_eq ?_;omega
 refine M7 e6 y1 hyl (nm (v:=.ref r) e1 (Pj ((Keep.push (X:=nk) _).at (K6.at h5)) lU (by refine rwl (AY ..) ?_;omega) (Qq Af y2 hyl ?_)))
 refine Is.it (UJ (l:=ys) ?_ Af (by simp) λv hv=>?_) ?_
 ·exact((Keep.push (X:=nk) _).trans (Keep.push _)).at Af
 ·(refine AJ (Ay.mp (y3.mem_iff.mp hv)) ?_;intro x _ z9;subst z9)
  exact lG
 ·exact q _ a (K1.trans (K2.trans (K25.trans (K6.trans ((Keep.push _).trans ((Keep.push _).trans (Keep.push _)))))))
end
end Mine
namespace Mine
noncomputable def IY(p:Pt):List (List Int×Pt):=p.parts.filter λz=>!z.2.isVar
noncomputable def EA(A:List (List Int×Pt)):List V:=A.flatMap λz=>CV z.1 z.2
theorem YA{A:List (List Int×Pt)}:∀x∈EA A,B9 x=true:=λx hx=>by
 refine AJ (O8.mp hx) λz _ hz=>?_
 exact Nl x hz
theorem M5:∀A:List (List Int×Pt),(EA A).length≤3*A.length
 | []=>Aj _
 | z::A=>by
  have:=M5 A
  have h2:=IW z.2
  show(CV z.1 z.2++EA A).length≤3*(A.length+1)
  refine rwl Au (rwl W5 ?_);omega
theorem jy{A:List (List Int×Pt)}{i:AA}{z:List Int×Pt}(e:A[i]? =some z):EA (A.take (i+1))=EA (A.take i)++CV z.1 z.2:=by
 unfold EA;refine rwl (CW e) (rwl IH ?_);simp
section
variable{n:AA}{s t:St}{a b k:AA}{P:List (V×V)}{w:W}
theorem a9{cl:Calls}{cs:List CS}{env:Env}{A:List (List Int×Pt)}{r:AA}{Q:Env→St→Prop}{R:V→St→Prop}(h:s[r]? =some (.list (A.map CN)))(hl:A.length≤20)(e1:env "atoms"=some (.ref r))
  (q:∀t x,Keep nk s t→t[x]? =some (.list (A8 [] (EA A)))→wSs cl cs (upd env "order" (.ref x)) t Q R):
  wSs cl (.assign (.name "order") (.callf "list" [(.callf "dict" [(.comp (.tuple [(.name "name"),(.cbool true)]) [.mk ["op","names"] (.plain (.name "atoms")) [],.mk ["name"] (.plain (.name "names")) []])])])::cs) env s Q R:=by
 have hcl:=M5 A
 refine nm (v:=.ref r) e1 (Is.it (C4 h) (Q9 (λi acc t=>s=t∧acc=(EA (A.take i)).map λx=>V.tup [x,.bool true]) _ (λ_=>rfl) ⟨rfl,rfl⟩ (λi acc t j=>j.1▸Cy h h) (λi z acc t ez j T hT=>?_) λys t j=>?_))
 ·(refine Bs j ?_;clear j;intro z0;subst z0;intro z1;subst z1)
  have hct:=jy ez
  refine Is.it (a:=((CV z.1 z.2).map id,none)) (by refine rwl (TK ..) ?_;rfl) (QB (λx=>V.tup [x,.bool true]) ?_ rfl (λx _ Y hY=>⟨rfl,hY⟩) (hT _ _ ⟨rfl,by(refine rwl hct (rwl BS ?_);rfl)⟩))
  refine rwl (AY ..) (rwr Au (rwr hct ?_))
  exact AR (M5 _) (by refine rwl FC ?_;omega)
 ·(refine Bs j ?_;clear j;intro z2;subst z2;intro z3;subst z3)
  refine rwl Cr ?_
  refine AJ (XO (EA A) [] YA) λes p1 p2=>?_
  have hes:es.length≤60:=by
   have h1:=AW Jw p2
   rw [AY] at h1
   have h2:=HQ (EA A) []
   replace h2:=ME▸h2
   refine rwl h1 ?_;show(A8 [] (EA A)).length≤60;omega
  refine Is.it (cX Af p1 (by omega)) (Is.it (cE Af (by omega)) (q _ _ ((Keep.push _).trans ((Keep.push _).trans (Keep.push _))) ?_))
  refine rwl (show A8 [] (EA A)=es.map λe=>e.1 from p2.symm) ?_
  exact Af
structure LZ(b tb x:AA)(tf:St)(i:AA)(env:Env)(t:St):Prop where
 v1:env "heap"=some (.ref b)
 v2:env "tables"=some (.ref tb)
 v3:env "order"=some (.ref x)
 K:Keep nk tf t
theorem iM{O:List V}{v:AA}(h:O.Nodup):(O.drop v++O.take v).Nodup:=(List.perm_append_comm.trans (OO (JA v O))).nodup_iff.mpr h
theorem mP{cl:Calls}{env:Env}{s:St}{Q:QS}{R:QV}:wSs cl [] env s Q R=Q env s:=rfl
theorem cQ{x0:PySem.Obj}{sc:List Int}(hl:sc.length≤63):wC (n+8) "law" [.ref 0] [.fro x0 (sc.map V.int)] λv t=>v= .bool true∧t[0]? =some (.fro x0 (sc.map V.int)):=by
 have hg:glob "_law_parts"=some Io:=rfl
 refine BH (b:=Wd) rfl rfl rfl (jM hl rfl λs P hs4 z0=>?_)
 refine E0 P (by omega) (by decide) (by decide) λmany t1 (hm:many<9) K1 l1 P1=>E0 P1 (by omega) (by decide) (by decide) λwd t2 (hw:wd<3) K2 l2 P2=>?_
 refine Is.it (Gm (by omega) (by omega)) ⟨rfl,Is.it rfl ?_⟩
 have ew:V.int (1+(wd:AA))=nV (wd+1):=AW V.int (by omega)
 refine rwl ew ?_
 have z2:t2[0]? =_:=K2.get (K1.get z0 (by decide)) (by decide)
 dsimp only [UD,Ia]
 refine d4 (wide:=wd+1) z2 P2 hm (by omega) ?_ ?_ ?_ λt3 r k rs z3 P3 hk er hrl hrw=>?_
 ·rfl
 ·rfl
 ·rfl
 refine jF (wide:=wd+1) er (by omega) (by omega) (by omega) hrw ?_ ?_ λt4 a K4=>?_
 ·rfl
 ·rfl
 have P4:=P3.keep K4 λ_ _=>id
 have h4:4≤t4.length:=by obtain⟨⟨ep,e⟩,_⟩:=P4;exact BI e
 refine cv P4 (by omega) h4 λt5 w K5 H5 l5 zq1=>zq1.elim λk5 zz=>zz.elim λP5 hk5=>?_
 have b3:∀i,t4.length≤i→¬i=3:=λi h e=>by omega
 refine Is.it hg (E0 P5 (by omega) (by decide) (by decide) λv1 t6 hv1 K6 l6 P6=>?_)
 refine Al (Tw (s:=t6) hv1) λp1 ep1 pl1 pd1=>?_
 refine Is.it ep1 (Is.it hg (E0 P6 (by omega) (by decide) (by decide) λv2 t7 hv2 K7 l7 P7=>?_))
 refine Al (Tw (s:=t7) hv2) λp2 ep2 pl2 pd2=>?_
 refine Is.it ep2 ⟨rfl,?_⟩
 have H7:=(H5.keep K6 b3).keep K7 b3
 have z7:t7[0]? =_:=K7.get (K6.get (K5.get (K4.at z3) (by decide)) (by decide)) (by decide)
 have hpt:V.tup [.str "g",p1.toV,p2.toV]=(Pt.g p1 p2).toV:=rfl
 refine rwl hpt ?_
 generalize hp:Pt.g p1 p2=p
 have hpl:p.parts.length≤7:=by refine rwr hp ?_;simp [Pt.parts];omega
 have hpd:p.dp≤3:=by refine rwr hp ?_;simp [Pt.dp];omega
 have hpv:p.isVar=false:=by refine rwr hp ?_;rfl
 have hmem:([],p)∈IY p:=Ew.mpr ⟨by refine rwl (NJ ..) ?_;exact Ah,by refine rwl hpv ?_;rfl⟩
 refine⟨rfl,j4 (n+7) (p:=p) (path:=[]) (by omega) (by simp;omega) (by omega) λr8 t8 K8 e8 l8=>?_⟩
 have eA:p.lawAtoms []=(IY p).map CN:=by refine rwl (LH ..) ?_;exact DE λz _=>rfl
 have eB:p.atoms=(IY p).map CN:=rfl
 replace e8:=eA▸e8
 have hAl:(IY p).length≤7:=AR (Fs _ _) hpl
 have H8:=H7.keep K8 λ_ _=>id
 have P8:=P7.keep K8 λ_ _=>id
 have l6':t6.length=t5.length:=l6
 have l7':t7.length=t6.length:=l7
 have hb8:t4.length<t8.length:=by
  have:t7.length≤t8.length:=K8.len
  omega
 refine kO H8 hb8 λt9 PP K9 T9 hROk=>⟨rfl,Is.it rfl ?_⟩
 have H9:=H8.keep K9 λ_ _=>id
 have P9:=P8.keep K9 λ_ _=>id
 have e9:=K9.at e8
 refine jQ (N:=n+5) (p:=p) (by omega) (by omega) (by omega) λr10 t10 K10 e10 l10=>?_
 replace e10:=eB▸e10
 have e10':=K10.at e9
 refine Is.it (UJ e10 e10' (by have:=BI e9;have l10:t9.length≤r10:=l10;omega) λv hv=>by(refine AJ (Ay.mp hv) ?_;intro z _ z4;subst z4);exact g9) ?_
 dsimp only [kC,kIf,Gi,pB]
 refine rwl mP ?_
 dsimp only [Ia]
 refine a9 e10' (by omega) ?_ λt11 x K11 e11=>?_
 ·rfl
 generalize hO:A8 [] (EA (IY p))=Oc at e11
 have hOn:∀y∈Oc,B9 y=true:=λy hy=>by
  (replace hy:=Cq hO▸hy;rewrite [Hn] at hy)
  exact YA y (by simpa using hy)
 have hOd:Oc.Nodup:=by refine rwr hO ?_;exact Wb
 have hOl:Oc.length≤60:=by
  refine rwr hO ?_
  have h1:=HQ (EA (IY p)) []
  have h2:=M5 (IY p)
  simp at h1;omega
 have hO0:0<Oc.length:=by
  refine Zh (a:=Ag []) ?_
  refine rwr hO (rwi Hn ?_)
  exact .inr (O8.mpr ⟨_,hmem,Ah⟩)
 have K911:=K10.trans K11
 have P11:=P9.keep K911 λ_ _=>id
 refine Is.it (EB e11 (by omega)) (E0 P11 (by omega) hO0 (by omega) λv t12 hv K12 l12 P12=>?_)
 have e12:t12[x]? =some (.list Oc):=K12.get e11 λz=>by
  subst z
  obtain⟨⟨ep,e⟩,_⟩:=P11
  replace e11:=e▸e11;cases e11
 have h1000:Oc.length≤1000:=AR hOl (by decide)
 have hv1000:v≤1000:=AR (B7 hv) h1000
 have hcut:(Oc.drop v++Oc.take v).length=Oc.length:=by refine rwl Au (rwl (Sd (B7 hv)) (rwl Se ?_));exact G8 (B7 hv)
 refine Is.it (fq e12 h1000 hv1000) (Is.it (VH (xs:=Oc) (AW Ih ((Keep.push (X:=nk) (.list (Oc.drop v))).at e12)) h1000 hv1000) ?_)
 have f1:=(Keep.push (X:=nk) (.list (Oc.take v))).at (Af (s:=t12) (o:=.list (Oc.drop v)))
 refine Is.it (QZ f1 Af (AR (Bk hcut) (AR hOl (by decide)))) ?_
 have Kf:Keep (· =3) t9 (t12++[.list (Oc.drop v)]++[.list (Oc.take v)]++[.list (Oc.drop v++Oc.take v)]):=
  (K911.weak λ_ _ h=>h.elim).trans (K12.trans ((Keep.push _).trans ((Keep.push _).trans (Keep.push _))))
 have ef:(t12++[O.list (Oc.drop v)]++[O.list (Oc.take v)]++[O.list (Oc.drop v++Oc.take v)])[(t12++[O.list (Oc.drop v)]++[O.list (Oc.take v)]).length]? =some (.list (Oc.drop v++Oc.take v)):=Af
 generalize t12++[O.list (Oc.drop v)]++[O.list (Oc.take v)]=t13 at Kf ef ⊢
 generalize t13++[O.list (Oc.drop v++Oc.take v)]=tf at Kf ef ⊢
 have Hf:=H9.keep Kf b3
 have T9':TabAt t9 t8.length PP:=T9
 have Tf:=T9'.side Kf λi h e=>by omega
 have l8':t7.length≤r8:=l8
 have zf:=Kf.get (K9.at (K8.at z7)) (by decide)
 have eAf:=Kf.get e9 (by omega)
 have hOm:∀y,y∈Oc.drop v++Oc.take v→y∈Oc:=λy hy=>by
  rcases BD.mp hy with h | h
  ·exact List.mem_of_mem_drop h
  ·exact SS h
 refine Is.it (C4 eAf) (Kp (g:=λz:List Int×Pt=>.str z.2.op) (h:=λz=>.tup (CV z.1 z.2)) (LZ t4.length t8.length t13.length tf) ⟨rfl,rfl,rfl,Keep.refl⟩ (λi env t j=>Cy eAf (j.K.at eAf)) (λi z env t ez j T hT=>?_) λenv t j=>⟨rfl,j.K.at zf⟩)
 exact fe (n:=n+2) (z:=z) (Hf.keep j.K λ_ _=>id) (Tf.side j.K λ_ _=>id) hROk (j.K.at ef) (λy hy=>hOn y (hOm y hy)) (iM hOd) (AR (Bk hcut) (AR hOl (by decide))) j.v1 j.v2 j.v3 λu env' Ku he=>hT _ _ ⟨(he _ (by decide) (by decide) (by decide) (by decide)).trans j.v1,(he _ (by decide) (by decide) (by decide) (by decide)).trans j.v2,(he _ (by decide) (by decide) (by decide) (by decide)).trans j.v3,j.K.trans Ku⟩
end
end Mine
namespace Mine
open PySem PySem.Calls PyProof.Rows
theorem f9{α β:Type}{f g:α→AH β}{l:List α}:(∀a∈l,f a=g a)→l.filterMap f=l.filterMap g:=by
 induction l with
 | nil=>exact λ_=>rfl
 | cons a l ih=>exact λh=>by(refine rwl Ov (rwl Ov (rwl (h a (.head _)) (rwl (ih λb hb=>h b (.tail _ hb)) ?_)));rfl)
theorem nK{us:List AB}{ps:List Str}(hn:ps.Nodup):us.length=ps.length→(ps.filterMap λn=>((ps.zip us).lookup n).map (n,·))=ps.zip us∧∀n∈ps,((ps.zip us).lookup n).isSome=true:=by
 induction ps generalizing us with
 | nil=>exact λ_=>⟨rfl,nofun⟩
 | cons p ps ih=>
  intro hl
  cases us with
  | nil=>exact nomatch hl
  | cons u us=>
   have hc:=DS.mp hn
   have I:=ih hc.2 (CC hl)
   have h0:((p,u)::ps.zip us).lookup p=some u:=rwl IF (rwl (G3 p) rfl)
   have he:∀n∈ps,((p,u)::ps.zip us).lookup n=(ps.zip us).lookup n:=λn h=>rwl IF (rwl (J0.mpr λe:n=p=>hc.1 (e▸h)) rfl)
   refine⟨?_,λn h=>(Ak.mp h).elim (λe=>by subst e;exact AW AH.isSome h0) λh=>(AW AH.isSome (he n h)).trans (I.2 n h)⟩
   refine(H6 (f:=λn=>(((p::ps).zip (u::us)).lookup n).map (n,·)) (AW (IA (p,·)) h0)).trans (AW ((p,u):: ·) (Eq.trans ?_ I.1))
   exact f9 λn h=>AW (IA (n,·)) (he n h)
theorem lq{fd:JH}{ps:List Str}(h1:fd.params.posonlyargs=[])(h2:fd.params.args.map (·.arg)=ps)(h3:fd.params.vararg=none)(h4:fd.params.kwonlyargs=[])(h5:fd.params.kwarg=none)(h6:fd.defaults= .none)(hn:ps.Nodup)
  (us:List AB) (hl:us.length=ps.length):bindArgs fd ⟨us,[]⟩=pure (ps.zip us):=by
 cases fd with | mk name qual params body scope gl cl dfl kwd doc pm ann code ct bl=>?_
 cases params with | mk po args va kwo kd kwa df=>?_
 subst h1;subst h2;subst h3;subst h4;subst h5;subst h6
 change us.length=(args.map (·.arg)).length at hl
 have K:=nK hn hl
 refine(AO λh=>CY _ (hl▸BC (Ac.mp h).1)).trans ((AO λh=>?_).trans ?_)
 ·have e:∀k,((args.map (·.arg)).take k).filter (λn=>(((args.map (·.arg)).zip us).lookup n).isNone)=[]:=λk=>Rx.mpr λn h z=>AH.isSome_iff_ne_none.mp (K.2 n (SS h)) (Dz.mp z)
  exact absurd ((AW (λl=>!List.isEmpty l) (e _)).symm.trans h) DD
 ·have e:∀(l:List Str) (k:AA),l.zip (List.drop k ([]:List AB))=[]:=λl k=>by(refine rwl Rm (rwl ZZ ?_);rfl)
  refine(AW (λz=>forIn z _ _>>= _) (e _ _)).trans ?_
  exact AW (pure (f:=CH)) ((AW (List.filterMap _) (Bo _)).trans K.1)
end Mine
namespace Mine
open PySem PySem.Calls PyProof.Rows
noncomputable def JS:List Ir→List Ir→AH (List Ir)
 | [],x=>some x
 | _::_,[]=>none
 | a::p,b::x=>if a=b then JS p x else none
theorem UC:∀{p x:List Ir},JS p (p++x)=some x
 | [],x=>rfl
 | a::p,x=>by(refine rwl Lk ?_;rewrite [JS];refine rwl (AM rfl) ?_);exact UC
noncomputable def Qy(v:AH AB):AD:=match v with
 | some (.ref a)=>a
 | _=>0
noncomputable def GA(h:AQ)(c:AE):AD:=Qy (h.nsMap CX (AK c))
noncomputable def HR(h:AQ)(c:AE):AD:=match h.get? (GA h c) with
 | some o=>match o.data with
  | .cls cd=>cd.ns
  | _=>0
 | none=>0
noncomputable def HJ(h:AQ)(f:AE):AD:=match Cm.findSome? λc=>(JS (c.toList++['.']) f.toList).map λt=>(c,Gx t) with
 | some (c,m)=>Qy (h.nsMap (HR h c) (AK m))
 | none=>Qy (h.nsMap CX (AK f))
noncomputable def bc(p:Arguments)(ps:List AE):AL:=
 p.posonlyargs.isEmpty&&((p.args.map (·.arg)==ps.map AK)&&(p.vararg.isNone&&(p.kwonlyargs.isEmpty&&p.kwarg.isNone)))
noncomputable def Pp(v:AH AB)(q:Str):AL:=match v with
 | some (.str x _)=>x==q
 | _=>false
theorem Uk{v:AH AB}{q:Str}(h:Pp v q=true):∃t,v=some (.str q t):=by
 cases v with
 | none=>exact xF h
 | some v=>cases v with
  | str x t=>exact⟨t,AW (λx=>some (Ru x t)) (eq_of_beq h)⟩
  | _=>exact xF h
noncomputable def RO:AB→AH AD
 | .ref c=>some c
 | _=>none
theorem Uc{v:AB}{c:AD}(h:RO v=some c):v= .ref c:=by
 cases v with
 | ref a=>exact AW Hs (AV h)
 | _=>exact xN h
noncomputable def UL:EN→AH (AS AB)
 | .fields vs=>some vs
 | _=>none
theorem dG{d:EN}{c:AS AB}(h:UL d=some c):d= .fields c:=by
 cases d with
 | fields a=>exact AW EN.fields (AV h)
 | _=>exact xN h
noncomputable def Vg:EN→AH JH
 | .func vs=>some vs
 | _=>none
theorem lN{d:EN}{c:JH}(h:Vg d=some c):d= .func c:=by
 cases d with
 | func a=>exact AW EN.func (AV h)
 | _=>exact xN h
noncomputable def V1:EN→AH PD
 | .cls vs=>some vs
 | _=>none
theorem jn{d:EN}{c:PD}(h:V1 d=some c):d= .cls c:=by
 cases d with
 | cls a=>exact AW EN.cls (AV h)
 | _=>exact xN h
noncomputable def W3:FuncBody→AH (List CL)
 | .stmts vs=>some vs
 | _=>none
theorem gF{d:FuncBody}{c:List CL}(h:W3 d=some c):d= .stmts c:=by
 cases d with
 | stmts a=>exact AW FuncBody.stmts (AV h)
 | _=>exact xN h
theorem Ez{α:Type}{x:AH α}{p:α→AL}{g:Prop}(h:x.any p=true)(k:∀a,x=some a→p a=true→g):g:=by
 cases x with
 | none=>exact xF h
 | some a=>exact k a rfl h
theorem Jo{a b:AL}{g:Prop}(h:(a&&b)=true)(k:a=true→b=true→g):g:=k (Ac.mp h).1 (Ac.mp h).2
theorem NM{a b c:AL}{g:Prop}(h:(a&&(b&&c))=true)(k:a=true→b=true→c=true→g):g:=Jo h λa h=>Jo h (k a)
theorem Ji{a b c d e:AL}{g:Prop}(h:(a&&(b&&(c&&(d&&e))))=true)(k:a=true→b=true→c=true→d=true→e=true→g):g:=NM h λa b h=>NM h (k a b)
theorem and9{a b c d e a' b' c' d':AL}{g:Prop}(h:(a&&(b&&(c&&(d&&(e&&(a'&&(b'&&(c'&&d'))))))))=true)(k:a=true→b=true→c=true→d=true→e=true→a'=true→b'=true→c'=true→d'=true→g):g:=Ji h λa b c d h=>Ji h (k a b c d)
noncomputable def XI(h:AQ)(cd:AB)(q:Str):AL:=(RO cd).any λc=>(h.get? c).any λo=>(UL o.data).any λvs=>Pp vs[1]? q
noncomputable def kg(s:DL):AL:=decide (s.kind= .function)&&(!s.isCoroutine&&(!s.isGenerator&&(F7 s.names&&s.names.all λx=>decide (x.2≠ .free))))
noncomputable def fdOk(h:AQ)(fd:JH)(b:FnC):AL:=
 ((W3 fd.body).any λbody=>chkSs b.body fd.scope.names body)&&(Gw fd.globals CX&&(Gw fd.builtins Iw&&(fd.closure.isEmpty&&(kg fd.scope&&(XI h fd.code fd.qualname&&((b.ps.all λp=>E8 (fd.scope.names.lookup (AK p)))&&(decide b.ps.Nodup&&(bc fd.params b.ps&&decide (fd.defaults= .none)))))))))
noncomputable def Uq(h:AQ)(a:AD)(b:FnC):AL:=(h.get? a).any λo=>decide (o.cls= .type "function")&&(Vg o.data).any λfd=>fdOk h fd b
theorem lO{h:AQ}{c:AB}{q:Str}(e:XI h c q=true):h.CodeRec c q:=
 Ez e λc h1 e=>Ez e λo h2 e=>Ez e λvs h3 e=>(Uk e).elim λt ht=>⟨c,o,vs,t,Uc h1,h2,dG h3,ht⟩
theorem ib{l:List AE}(h:l.Nodup):(l.map AK).Nodup:=ZS.map AK (λ_ _ n e=>n (ED e)) h
theorem fu{h:AQ}{a:AD}{b:FnC}(e:Uq h a b=true):∃o fd body,IQ h a o fd body b:=by
 refine Ez e λo ho e=>Jo e λe1 e=>Ez e λfd hd e=>and9 e λb1 b2 b3 b4 b5 b6 b7 b8 e=>Jo e λb9 bd=>Ez b1 λbody hb hm=>⟨o,fd,body,?_⟩
 refine Ji b5 λc1 c2 c3 c4 c5=>Ji b9 λa1 a2 a3 a4 a5=>?_
 have hnd:=BC b8
 exact⟨ho,BC e1,lN hd,gF hb,hm,J1 b2,J1 b3,Em.mp b4,BC c1,(LB c2),(LB c3),c4,λn k hk=>BC (BE.mp c5 _ hk),lO b6,BE.mp b7,hnd,λus hl=>lq (Em.mp a1) (eq_of_beq a2) (Dz.mp a3) (Em.mp a4) (Dz.mp a5) (BC bd) (ib hnd) us (hl.trans (AY _).symm)⟩
noncomputable def YB(l:AS (AH AB)):AL:=decide (l.toList.length=6)&&decide (l.toList[4]? =some (some (.builtin "object.__new__")))
theorem bj{l:AS (AH AB)}(h:YB l=true):∃k0 k1 k2 k3 k5,l= #[k0,k1,k2,k3,some (.builtin "object.__new__"),k5]:=by
 refine Jo h λh e=>?_
 have h:=BC h
 have e:=BC e
 cases l with
 | mk l=>
  (refine CU (KZ h) ?_;intro k0 l z5;subst z5)
  (refine CU (KZ (CC h)) ?_;intro k1 l z6;subst z6)
  (refine CU (KZ (CC (CC h))) ?_;intro k2 l z7;subst z7)
  (refine CU (KZ (CC (CC (CC h)))) ?_;intro k3 l z8;subst z8)
  (refine CU (KZ (CC (CC (CC (CC h))))) ?_;intro k4 l z9;subst z9)
  (refine CU (KZ (CC (CC (CC (CC (CC h)))))) ?_;intro k5 l z0;subst z0)
  (have zz:=Ss (CC (CC (CC (CC (CC (CC h))))));subst zz)
  exact⟨k0,k1,k2,k3,k5,AW (λx=>#[k0,k1,k2,k3,x,k5]) (AV e)⟩
noncomputable def cdOk(C N:AD)(c:PD):AL:=decide (c.mro=[.ref C,.type "object"])&&(Gw c.ns N&&(c.hasDict&&(!c.abstract&& !c.hasDel)))
noncomputable def Te(C N:AD)(o:Obj):AL:=decide (o.cls= .type "type")&&(YB o.slots&&(V1 o.data).any (cdOk C N))
theorem lS{cd:PD}{M:List AB}{N:AD}(h1:cd.mro=M)(h2:cd.ns=N)(h3:cd.hasDict=true)(h4:cd.abstract=false)(h5:cd.hasDel=false):cd= {cd with mro:=M,ns:=N,hasDict:=true,abstract:=false,hasDel:=false}:=by
 cases cd;subst h1;subst h2;subst h3;subst h4;subst h5;rfl
theorem cR{C N:AD}{o:Obj}(h:Te C N o=true):∃nm q bs sn sub col dd k0 k1 k2 k3 k5,o=excClassObj nm q C N bs [.type "object"] true sn sub false col dd k0 k1 k2 k3 k5 "object.__new__":=by
 refine NM h λh1 h2 h=>Ez h λcd hc h=>Ji h λm1 m2 m3 m4 m5=>?_
 refine e5_1 (bj h2) λk0 k1 k2 k3 k5 hk=>?_
 refine⟨cd.name,cd.qualname,cd.bases,cd.slotNames,cd.subclasses,cd.collection,o.dict,k0,k1,k2,k3,k5,?_⟩
 have e:=lS (BC m1) (J1 m2) m3 (LB m4) (LB m5)
 exact(congr (congr (AW (λc d s=>(⟨c,o.dict,d,s⟩:Obj)) (BC h1)) ((jn hc).trans (AW EN.cls e))) hk:_)
noncomputable def M4(v:AH AB)(a:AD):AL:=decide (v=some (.ref a))
theorem Ri{v:AH AB}{a:AD}(h:M4 v a=true):v=some (.ref a):=BC h
noncomputable def Xn(h:AQ)(c:AE):AL:=M4 (h.nsMap CX (AK c)) (GA h c)&&(((h.get? (GA h c)).any (Te (GA h c) (HR h c)))&&(h.isNs (HR h c)&&
 ((["__setattr__","__getattribute__","__getattr__"]++Bz c).all (λa=>(h.nsMap (HR h c) (AK a)).isNone)&&
 fns.all λx=>(match JS (c.toList++['.']) x.1.toList with
  | none=>true
  | some t=>M4 (h.nsMap (HR h c) (AK (Gx t))) (HJ h x.1)))))
theorem Vp{l:List (AE×FnC)}{f:AE}{b:FnC}:DP l f=some b→(f,b)∈l:=by
 induction l with
 | nil=>exact nofun
 | cons x l ih=>
  intro h
  by_cases e:x.1=f
  ·have h:some x.2=some b:=(AM e).symm.trans h
   (have zz:=AV h;subst zz)
   exact e▸Ah
  ·exact Am _ (ih ((AO e).symm.trans h))
theorem ik{h:AQ}{c:AE}(e:Xn h c=true):h.nsMap CX (AK c)=some (.ref (GA h c))∧GY h (GA h c) (HR h c) (h.nsMap (HR h c)) c∧
  ∀m,(DP fns (c++"."++m)).isSome→h.nsMap (HR h c) (AK m)=some (.ref (HJ h (c++"."++m))):=by
 refine Ji e λe1 e2 e3 e4 e5=>?_
 have e4:=λa ha=>Dz.mp (BE.mp e4 a ha)
 refine⟨Ri e1,⟨⟨Ez e2 λo ho e2=>?_,AQ.Ns.of_isNs e3⟩,e4 _ (.head _),e4 _ (.tail _ (.head _)),e4 _ (.tail _ (.tail _ (.head _))),λa ha=>e4 a (D8 _ ha)⟩,λm hm=>?_⟩
 ·refine rwl ho ?_
  obtain⟨nm,q,bs,sn,sub,col,dd,k0,k1,k2,k3,k5,e⟩:=cR e2
  exact⟨nm,q,bs,sn,sub,col,dd,k0,k1,k2,k3,k5,AW some e⟩
 ·refine exE (MB.mp hm) λb hb=>?_
  have:=BE.mp e5 _ (Vp hb)
  have hst:JS (c.toList++['.']) (c++"."++m).toList=some m.toList:=by
   refine rwl O0 (rwl O0 ?_);exact UC
  dsimp only at this
  replace this:=hst▸this
  have:=Ri this
  rwa [AE.ofList_toList] at this
end Mine
namespace Mine
open PySem PySem.Calls PyProof.Rows
theorem ij{r:List AB}{v:AB}(h:r.head? =some v):v::r.tail=r:=by
 cases r with
 | nil=>exact xN h
 | cons a l=>exact AW (· ::l) (AV h).symm
noncomputable def XJ:EN→AH (AS AB)
 | .seq vs _=>some vs
 | _=>none
theorem fk{d:EN}{c:AS AB}(h:XJ d=some c):∃n,d= .seq c n:=by
 cases d with
 | seq a n=>exact⟨n,AW (EN.seq · n) (AV h)⟩
 | _=>exact xN h
mutual
noncomputable def vOk(h:AQ):V→AB→AL
 | .str x,v=>Pp (some v) (AK x)
 | .tup l,v=>(RO v).any λa=>(h.get? a).any λo=>decide (o.cls= .type "tuple")&&(o.dict.isNone&&(XJ o.data).any λvs=>vsOk h l vs.toList)
 | _,_=>false
noncomputable def vsOk(h:AQ):List V→List AB→AL
 | [],l=>l.isEmpty
 | a::l,r=>r.head?.any (vOk h a)&&vsOk h l r.tail
end
mutual
theorem YC{h:AQ}:∀{a:V} {v:AB},vOk h a v=true→VR h [] a v
 | .str x,v,e=>(Uk (v:=some v) e).elim λt ht=>⟨t,AV ht⟩
 | .tup l,v,e=>Ez e λa h1 e=>Ez e λo ho e=>NM e λc1 c2 e=>Ez e λvs hv e=>let⟨n,hn⟩:=fk hv
  ⟨a,vs.toList,Uc h1,⟨o,ho,BC c1,Dz.mp c2,n,hn⟩,nofun,vsOk_spec e⟩
 | .none,_,e=>xF e
 | .bool _,_,e=>xF e
 | .int _,_,e=>xF e
 | .ref _,_,e=>xF e
theorem vsOk_spec{h:AQ}:∀{l:List V} {r:List AB},vsOk h l r=true→VRs h [] l r
 | [],r,e=>(Em.mp e:r=[])▸VRs.nil
 | a::l,r,e=>Jo e λh1 h2=>Ez h1 λv hv h1=>(ij hv)▸VRs.cons (YC h1) (vsOk_spec h2)
end
noncomputable def Jd:List AE:=["range","enumerate","zip"]
structure GlX(ca fa:AE→AD)(mg:Str→AH AB)(h:AQ):Prop where
 sm:∃o,h.get? B6=some o
 usr:∀f,Hk.contains f=true→mg (AK f)=some (.ref (place ca fa f))
 nn:∀f∈HU++Jd,mg (AK f)=none
 gl:∃u,mg (AK "_law_parts")=some u∧VR h [] Io u
 fn:∀f b,DP fns f=some b→∃o fd body,IQ h (fa f) o fd body b
 cls:∀c,Cm.contains c=true→∃N mN,GY h (ca c) N mN c∧∀m,(DP fns (c++"."++m)).isSome→mN (AK m)=some (.ref (fa (c++"."++m)))
noncomputable def cA(h:AQ)(f:AE):AL:=M4 (h.nsMap CX (AK f)) (place (GA h) (HJ h) f)
noncomputable def Ul(h:AQ)(f:AE):AL:=(h.nsMap CX (AK f)).isNone
noncomputable def W6(h:AQ):AL:=match h.nsMap CX (AK "_law_parts") with | some u=>vOk h Io u | none=>false
noncomputable def kY(h:AQ)(x:AE×FnC):AL:=Uq h (HJ h x.1) x.2
noncomputable def PJ(h:AQ):AL:=(h.get? B6).isSome&&(Hk.all (cA h)&&((HU++Jd).all (Ul h)&&(W6 h&&(fns.all (kY h)&&Cm.all (Xn h)))))
theorem av{h:AQ}(e:PJ h=true):GlX (GA h) (HJ h) (h.nsMap CX) h:=by
 unfold PJ at e
 rw [Ac,Ac,Ac,Ac,Ac,BE,BE,BE,BE] at e
 (refine e0_6 e ?_;clear e;intro e1 e2 e3 e4 e5 e6)
 have a2:∀f,Hk.contains f=true→h.nsMap CX (AK f)=some (.ref (place (GA h) (HJ h) f)):=λf hf=>Ri (e2 f (GK.mp hf))
 have a3:∀f∈HU++Jd,h.nsMap CX (AK f)=none:=λf hf=>by
  have:=e3 f hf
  unfold Ul at this
  exact Dz.mp this
 have a4:∃u,h.nsMap CX (AK "_law_parts")=some u∧VR h [] Io u:=by
  unfold W6 at e4
  revert e4
  cases h.nsMap CX (AK "_law_parts") with
  | none=>intro h;cases h
  | some u=>exact λh=>⟨u,rfl,YC h⟩
 have a5:∀f b,DP fns f=some b→∃o fd body,IQ h (HJ h f) o fd body b:=λf b hb=>fu (e5 (f,b) (Vp hb))
 have a6:∀c,Cm.contains c=true→∃N mN,GY h (GA h c) N mN c∧∀m,(DP fns (c++"."++m)).isSome→mN (AK m)=some (.ref (HJ h (c++"."++m))):=λc hc=>by
  refine A7 (ik (e6 c (GK.mp hc))) λh1 h2 h3=>?_
  exact⟨_,_,h2,h3⟩
 exact {sm:=MB.mp e1,usr:=a2,nn:=a3,gl:=a4,fn:=a5,cls:=a6}
structure Stays(x:Obj)(h h':AQ):Prop where
 cls:x.cls= .type "list"
 data:∃vs n,x.data= .seq vs n
 keep:∀b o,h.get? b=some o→o≠x→h'.get? b=some o
section
variable{x:Obj}{h h':AQ}(k:Stays x h h')
include k
theorem Stays.of_cls{b:AD}{o:Obj}(e:h.get? b=some o)(hc:o.cls≠ .type "list"):h'.get? b=some o:=k.keep b o e λz=>hc (by refine rwl z ?_;exact k.cls)
theorem Stays.of_data{b:AD}{o:Obj}(e:h.get? b=some o)(hc:∀vs n,o.data≠ .seq vs n):h'.get? b=some o:=k.keep b o e λz=>(k.data).elim λvs zz=>zz.elim λn d=>hc vs n (by refine rwl z ?_;exact d)
theorem Stays.vr{a:V}{v:AB}(r:VR h [] a v):VR h' [] a v:=r.pass ⟨⟨[],rfl,by simp⟩,λa vs _ zq1=>zq1.elim λo zz=>zz.elim λe zz=>zz.elim λc d=>⟨o,k.of_cls e (by refine rwl c ?_;decide),c,d⟩⟩
theorem Stays.ns{a:AD}{m:Str→AH AB}(r:h.Ns a m):h'.Ns a m:=r.elim λo zz=>zz.elim λes zz=>zz.elim λep zz=>zz.elim λe zz=>zz.elim λd r=>⟨o,es,ep,k.of_data e (λvs n z=>by replace z:=d▸z;cases z),d,r⟩
theorem Stays.nolim(r:h.NoLimit):h'.NoLimit:=r.elim λmc zz=>zz.elim λa b=>⟨mc,k.ns a,b⟩
theorem Stays.code{c:AB}{q:Str}(r:h.CodeRec c q):h'.CodeRec c q:=r.elim λc zz=>zz.elim λo zz=>zz.elim λvs zz=>zz.elim λt zz=>zz.elim λe1 zz=>zz.elim λe zz=>zz.elim λd e2=>⟨c,o,vs,t,e1,k.of_data e (λvs n z=>by replace z:=d▸z;cases z),d,e2⟩
theorem Stays.fn{a:AD}{o:Obj}{fd:JH}{body:List CL}{b:FnC}(F:IQ h a o fd body b):IQ h' a o fd body b:=
 {F with here:=k.of_data F.here (λvs n z=>by replace z:=F.data▸z;cases z),code:=k.code F.code}
theorem Stays.clsB{C N:AD}{mN:Str→AH AB}{c:AE}(B:GY h C N mN c):GY h' C N mN c:=
 have e:h'.get? C=h.get? C:=B.cls.obj.elim λ_ e=>e.elim λ_ e=>e.elim λ_ e=>e.elim λ_ e=>e.elim λ_ e=>e.elim λ_ e=>e.elim λ_ e=>e.elim λ_ e=>e.elim λ_ e=>e.elim λ_ e=>e.elim λ_ e=>e.elim λ_ e=>(k.of_cls e (show Gy "type"≠_ by decide)).trans e.symm
 {B with cls:=⟨e.symm▸B.cls.obj,k.ns B.cls.ns⟩}
end
theorem GlX.keeps{ca fa:AE→AD}{mg:Str→AH AB}{h h':AQ}(G:GlX ca fa mg h)(k:∀b o,h.get? b=some o→h'.get? b=some o):GlX ca fa mg h':=
 ⟨(G.sm).elim λo e=>⟨o,k _ _ e⟩,G.usr,G.nn,(G.gl).elim λu zz=>zz.elim λe r=>⟨u,e,r.pass ⟨⟨[],rfl,by simp⟩,λa vs _ t=>IsTp.to t (k a)⟩⟩,λf b hb=>(G.fn f b hb).elim λo zz=>zz.elim λfd zz=>zz.elim λbody F=>⟨o,fd,body,{F with here:=k _ _ F.here,code:=F.code.keeps k}⟩,λc hc=>(G.cls c hc).elim λN zz=>zz.elim λmN zz=>zz.elim λB hm=>⟨N,mN,{B with cls:=B.cls.keeps k},hm⟩⟩
theorem jd:∀f∈HU,MI (AK f)=some (HO f):=λf hf=>by
 have h:(HU.all λf=>decide (MI (AK f)=some (HO f)))=true:=by kernel_rfl
 exact BC (BE.mp h f hf)
theorem cS:∀f∈Jd,MI (AK f)=some (.type f):=λf hf=>by
 have h:(Jd.all λf=>decide (MI (AK f)=some (.type f)))=true:=by kernel_rfl
 exact BC (BE.mp h f hf)
theorem U1:∀f∈HU++Jd,AK f≠("__name__":Str):=λf hf e=>by
 have:=ED (y:="__name__") e
 subst this
 revert hf
 decide
theorem ie{x:Obj}{ca fa:AE→AD}{mg mb:Str→AH AB}{h h':AQ}{a:AD}(G:GlX ca fa mg h)(hg:h.Ns CX mg)(hb:h.Ns Iw mb)(hl:h.NoLimit)(hm:∀x:Str,x≠"__name__"→mb x=MI x)
  (k:Stays x h h') (hs:∀o,h.get? B6=some o→h'.get? B6=some o):Gl ca fa h' mg mb:=by
 refine⟨k.ns hg,k.ns hb,(G.sm).elim λo e=>⟨o,hs o e⟩,k.nolim hl,G.usr,λf hf=>⟨G.nn f (D7 _ hf),(hm _ (U1 f (D7 _ hf))).trans (jd f hf)⟩,λf hf=>⟨G.nn f (D8 _ hf),(hm _ (U1 f (D8 _ hf))).trans (cS f hf)⟩,λy v hy=>?_,λf b hb=>(G.fn f b hb).elim λo zz=>zz.elim λfd zz=>zz.elim λbody F=>⟨o,fd,body,k.fn F⟩,λc hc=>(G.cls c hc).elim λN zz=>zz.elim λmN zz=>zz.elim λB hm=>⟨N,mN,k.clsB B,hm⟩,λc hc=>?_⟩
 ·unfold glob at hy
  split at hy
  ·rename_i e
   (replace hy:=AV hy;subst hy)
   refine rwl e ?_
   refine AJ G.gl λu e1 r=>?_
   exact⟨u,e1,k.vr r⟩
  ·cases hy
 ·unfold Bz at hc
  repeat' split at hc
  all_goals first | (rename_i e;rw [e];decide) | exact absurd rfl hc
end Mine
namespace Mine
open PySem PySem.W PySem.W.X PyProof.Rows PySem.Challenge
noncomputable def LK(p:Ar)(w:Ae)(n₀:AA)(ann:AH AB):AA→SharedT→Thread→AH SharedT
 | 0,_,_=>none
 | n+1,s,t=>match through t with
  | true=>some s
  | false=>match Fast.tw6613529449190102663 n₀ ann t with
   | false=>none
   | true=>match Fast.tw10156331382660048174 (Fast.tw11892475500146522536 Fast.tw14364793385576792824) p w s t with
    | some (s',t')=>LK p w n₀ ann n s' t'
    | none=>none
theorem U9{p:Ar}{w:Ae}{n₀:AA}{ann:AH AB}:∀{n:AA} {s s':SharedT} {t:Thread},LK p w n₀ ann n s t=some s'→topRun MJ p w n₀ ann n s.abs t=some s'.abs
 | 0,_,_,_,h=>by cases h
 | n+1,s,s',t,h=>by
  unfold LK at h
  unfold topRun
  cases he:through t with
  | true=>replace h:=he▸h;(replace h:=AV h;subst h);rfl
  | false=>
   replace h:=he▸h
   replace h:=Cq Fast.te14364793385576792824▸Cq Fast.te11892475500146522536▸Cq Fast.te10156331382660048174▸Cq Fast.te6613529449190102663▸h
   cases hk:stepOk n₀ ann t with
   | false=>replace h:=hk▸h;cases h
   | true=>
    replace h:=hk▸h
    cases hs:stepT (denote MJ) p w s t with
    | none=>replace h:=hs▸h;cases h
    | some r=>obtain⟨s₂,t₂⟩:=r;replace h:=hs▸h;refine rwl (stepT_spec hs) ?_;exact U9 h
noncomputable def WM(P:Params):BT:=((boot_heap P).objs.toList.foldl (λ(x:BT×AA) o=>(x.1.ins x.2 o,x.2+1)) (.nil,0)).1
theorem cG(P:Params):absHeap (WM P) (boot_heap P).objs.size (boot_heap P).life=boot_heap P:=by kernel_rfl
noncomputable def Vu(w:Ae)(os:OsState):SharedT:=⟨WM w.params,(boot_heap w.params).objs.size,(boot_heap w.params).life,AS.mk [],boot_drawn,boot_toks,os⟩
noncomputable def vw:Ar:=view pw_rg0119_01 [26]
noncomputable def lo:List Str:=["_wall","HeapError","TermFault","is_op","is_variable","parts","Bank","atoms_of","trie_of","Tables","Unions","Heap","_law_parts","_law_pin","_law_laid","_law_sequence","_law_ways","_law_heap","_law_atoms","_law_kept"]
noncomputable abbrev Xt0:AF→AL:=λs=>PJ s.heap
set_option maxHeartbeats 0 in
theorem eJ:∀w os,(LK pw_rg0119_01 w (boot_heap w.params).objs.size (Fast.tw8920871248978507458 (boot_heap w.params) CX "__annotations__") 6426 (Vu w os) (topStub pw_rg0119_01)).map (λs=>((staticsOk (Fast.tw5923862056798008813 pw_rg0119_01.main.body) (boot_heap w.params) s.abs.heap&&namesBound pw_rg0119_01 s.abs.heap&&gensDone s.abs&&laidKept (boot_heap w.params) s.abs.heap),Fast.tw4187177175401517315 vw lo (Fast.tw5923862056798008813 pw_rg0119_01.main.body) Xt0 true s.abs))=some (true,openGood vw lo):=by
 intro w os;kernel_rfl
end Mine
namespace Mine
open PySem PySem.W PySem.W.X PyProof.Rows PySem.Challenge
theorem fw(P:Params):((boot_heap P).isNs CX&&AS.size (AS.mk ([]:List GenState))==0)=true:=by kernel_rfl
theorem dA:opening pw_rg0119_01=plainProg pw_rg0119_01.main.scope.names:=by kernel_rfl
theorem jC(s:AF):fenceModules? pw_rg0119_01 s=some s:=by kernel_rfl
theorem dW{p q:Ar}{loose:List Str}{Xt:AF→AL}{N:AA}{H₀:Params→AQ}{d₀:Drawn}{k₀:AA}{gs:AS GenState}{T0:Ae→OsState→SharedT}
  (open_:∀w:Ae,(fencedOpening MJ p w N).map (λs=>(s.heap,s.gens,s.drawn,s.toks))=some (H₀ w.params,gs,d₀,k₀)) (hns:∀w:Ae,((H₀ w.params).isNs CX&&gs.size==0)=true)
  (habs:∀w os,(T0 w os).abs=⟨H₀ w.params,gs,d₀,k₀,os⟩)
  (run:∀w os,(LK p w (H₀ w.params).objs.size ((H₀ w.params).nsMap CX "__annotations__") N (T0 w os) (topStub p)).map (λs=>((staticsOk (TR p.main.body) (H₀ w.params) s.abs.heap&&namesBound p s.abs.heap&&gensDone s.abs&&laidKept (H₀ w.params) s.abs.heap),openSeen q loose (TR p.main.body) Xt true s.abs))=some (true,openGood q loose)):
  LeftO p q loose Xt (λ_=>()) (λ_=>()) N:=λw=>by
 (refine AJ (Dn.mp (open_ w)) ?_;intro z1;rcases z1 with ⟨h,g,d,k,os⟩;intro e0 e1)
 simp only [Prod.mk.injEq] at e1
 (refine Jk e1 ?_;clear e1;intro z2;subst z2;intro z3;subst z3;intro z4;subst z4;intro z5;subst z5)
 refine AJ (Dn.mp (run w os)) λs' r1 r2=>?_
 have R:=U9 r1
 rw [habs] at R
 (have zz:=Prod.mk.inj r2;have f1:=zz.1;have f2:=zz.2;clear zz)
 have t:topFrom MJ p w N ⟨H₀ w.params,g,d,k,os⟩=some s'.abs:=by
  unfold topFrom
  dsimp only
  refine rwl (hns ..) (rwl R ?_)
  show(match staticsOk (TR p.main.body) (H₀ w.params) s'.abs.heap&&namesBound p s'.abs.heap&&gensDone s'.abs&&laidKept (H₀ w.params) s'.abs.heap with | true=>_ | false=>_)=_
  (refine rwl f1 ?_;rfl)
 unfold openEnds
 refine rwl e0 ?_
 show(topFrom MJ p w N _).map _=_
 refine rwl t ?_
 exact AW some (I8 f2 rfl)
theorem fM:LeftO pw_rg0119_01 vw lo Xt0 (λ_=>()) (λ_=>()) 6426:=by
 refine dW (T0:=Vu) (boot_open dA rfl jC) (λw=>fw _) (λw os=>AW (λH=>(⟨H,AS.mk [],boot_drawn,boot_toks,os⟩:AF)) (cG w.params)) λw os=>?_
 have h:=eJ w os
 replace h:=Cq Fast.te4187177175401517315▸Cq Fast.te5923862056798008813▸Cq Fast.te8920871248978507458▸h
 exact h
noncomputable abbrev XP0:(Str→AH AB)→AQ→Prop:=λmg h=>∃ca fa,GlX ca fa mg h
theorem fA:rw_rg0119_01.wellSaid=true:=by
 unfold OpenLaw.wellSaid
 repeat (with_reducible refine look_both ?_ ?_)
 all_goals kernel_rfl
theorem U0{h:AQ}{a:AD}:(h.update a λo=>{o with data:=.freed}).get? a=none:=by
 cases h with
 | mk objs l=>
  simp only [AQ.update,AQ.get?,aO,G0]
  cases objs[a]? with
  | none=>rfl
  | some o=>rfl
theorem Vo{h:AQ}{μ:List AD}:∀{vs:List AB} {xs:List Int},IntsAre vs xs→VRs h μ (xs.map V.int) vs
 | _,_,.nil=>VRs.nil
 | _,_,.cons n t r=>VRs.cons (by simp only [VR];exact⟨t,rfl⟩) (Vo r)
theorem bL{w:Ae}{s0 s1:AF}{mg mb:Str→AH AB}{fa a:AD}{vs:List AB}{xs:List Int}{args:List WData}{c:ClaimW}{cl:Str→AH AD}{mean:ExcName→AH AB}
  (G:Ground vw lo rw_rg0119_01.row.records XP0 w s0 mg mb s1.heap) (hmg:mg (AK "law")=some (.ref fa)) (hg:s1.gens= #[]) (hL:s1.heap.IsList a vs.toArray) (hI:IntsAre vs xs) (hl:xs.length≤63) (hs:a≠B6)
  (hr:∀cls,c.raises args cls=false) (hp:c.post args (.bool true) args=true) (Q:AB→AF→Prop) (E:AB→AF→Prop) (hq:∀s',GoodWG c cl mean args s1 (.ok (.ret (.bool true))) s'→Q (.bool true) s'):AP (AU pw_rg0119_01 w) callerA (PySem.call (.ref fa) [.ref a]) Q E s1:=by
 obtain⟨x,ex,cx,n,dx⟩:=hL
 refine CU G.X λca fb GX=>?_
 have T:=G.T
 have hne:∀b,b≠a→(s1.heap.update a λo=>{o with data:=.freed}).get? b=s1.heap.get? b:=λb h=>AQ.get?_update_other _ _ (Bq h)
 have hbx:∀b o,s1.heap.get? b=some o→o≠x→b≠a:=λb o e h z=>by subst z;replace e:=ex▸e;exact h (AV e).symm
 have k:Stays x s1.heap (s1.heap.update a λo=>{o with data:=.freed}):=⟨cx,⟨_,n,dx⟩,λb o e h=>(hne b (hbx b o e h)).trans e⟩
 have GL:=ie (a:=a) GX T.g T.b T.nolimit T.builtins k λo e=>(hne _ (Bq hs)).trans e
 have S:SR w ca (s1.heap.update a λo=>{o with data:=.freed}) s1.heap [.fro x (xs.map V.int)] [a]:=by
  refine⟨rfl,by simp,λb o e=>?_,λb hb=>?_,λi o e=>?_⟩
  ·by_cases h:b=a
   ·subst h;replace e:=U0▸e;cases e
   ·exact(hne b h).symm.trans e
  ·refine rwl (Aw.mp hb) ?_;exact U0
  ·cases i with
   | zero=>(replace e:=AV e;subst e);exact⟨a,rfl,vs,n,⟨cx,dx⟩,ex,Vo hI⟩
   | succ i=>cases e
 have e:=cQ (n:=0) (x0:=x) (sc:=xs) hl
 have hu:=GX.usr "law" rfl
 replace hu:=hmg▸hu
 cases hu
 refine(jE (prog:=pw_rg0119_01) GL 8 callerA ⟨rfl,by decide,by decide⟩).get e S (VRs.cons (by simp only [VR];exact⟨a,rfl,rfl⟩) VRs.nil) λv st' p s' μ' u N r=>?_
 (refine Bs p ?_;clear p;intro z6;subst z6;intro e0)
 simp only [VR] at r
 subst r
 refine hq s' ⟨.inl ⟨_,_,[],rfl,hr,.bool true,hp,λ_=>⟨El,λb hb=>xM hb⟩⟩,.of_keep λb o eb=>?_,?_,?_⟩
 ·by_cases h:b=a
  ·subst h
   obtain⟨b',hb,vs',n',_,e2,_⟩:=N.sr.obj 0 _ e0
   refine AJ N.ext λν hν _=>?_
   replace hb:=hν▸hb
   (replace hb:=AV hb;subst hb)
   replace eb:=ex▸eb;(replace eb:=AV eb;subst eb);exact e2
  ·exact N.keep b o ⟨o,eb⟩ (by simpa using h) eb
 ·(refine GW N.rest ?_;intro h' d' t' z7;subst z7);rfl
 ·(refine GW N.rest ?_;intro h' d' t' z8;subst z8);exact .of_eq hg
theorem nA{d:DefRec}{kwd:List (Str×Expr)}(hn:d.name=AK "law"):WalkO vw lo XP0 (λ_ _=>FG) rw_rg0119_01.row.toRowW d kwd λf vs=>PySem.call f vs:=by
 intro w s0 s1 mg mb G Y fa o pm cm doc dV kV ho hdat hcd hD hmg hg args vals as hpre hlay hrd hwl hlo
 clear hdat hD hcd ho
 have hlo2:=hlo
 wrow_args hpre hlay hrd hwl hlo
 rename_i xs _ _ _ _ _ as1 as2 a vs as3 hL ra w1 r0 hI hr0 hc1 hc2
 have ha:a≠B6:=λe=>by
  have:=hlo2 a (by cases r0;simp)
  replace this:=e▸this
  simp at this
 exact bL G (by refine rwr hn ?_;exact hmg) hg hL hI (by omega) ha (λ_=>rfl) (by kernel_rfl) _ _ λs' q=>q
theorem t3:rw_rg0119_01.Holds:=by
 refine holds_law fA λsaid=>?_
 refine holds_open (q:=vw) (loose:=lo) (Xt:=Xt0) (XP:=XP0) (Yf:=λ_=>()) (Ya:=λ_=>()) (YP:=λ_ _=>FG) (N:=6426) fM (λ_ _ _=>trivial) (λ_ _ _ _ _=>trivial) (λs e=>⟨_,_,av e⟩) (λmg h h' zq1 k=>zq1.elim λca zz=>zz.elim λfa G=>⟨ca,fa,G.keeps k⟩) (by rfl) (by rfl) (by rfl) (λ_ _=>recFacts_nil rfl) (by rfl) said (by kernel_rfl) ⟨rfl,rfl,rfl,rfl,rfl,by decide+kernel⟩ ?hw (nA rfl)
 case hw=>exact⟨[.list []],by decide+kernel,by decide+kernel⟩
end Mine

theorem PySem.Challenge.cw_rg0119_01_holds : PySem.Challenge.rw_rg0119_01.Holds := by
 exact Mine.t3
